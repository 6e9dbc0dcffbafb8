import PyProof.Rows.All
import Wide.All
import OpenK.AllK
import Wide.FinOn
import KE.KStateDown
import Lean
import HandS.ForMost
import HandS.ForExc
import HandS.Wide
import HandS.Walk
import HandS.Lambda
import HandS.CallSlots
import HandS.Flow
import HandS.TupAny
import HandS.Defaults
import HandS.Gcd
import HandS.IsInst
import HandS.RaiseMore
import HandS.Comp
import HandS.Iter
import HandS.Style
import HandS.WideBits
import HandS.Exc
import KE.KExcIs
import HandS.EndBits
import HandS.EndTab
import HandS.NestedK
import HandS.HeadHook1
import HandS.HeadHook2
import HandS.HeadHook3
import HandS.HeadHook4
import HandS.ExcInit
import HandS.ExcField
import KE.KExcSuper
import KE.KSuper
import HandS.TryOnly
import HandS.Dict
import PyProof.Rows.StrOr
import PyProof.ReprRoads
import HandS.Text
import HandS.Replace
import KE.KIntText
import Flt.Mod
import PyProof.StrBlock2
import PyProof.Rows.StrJoinRep
import HandS.Codes
import HandS.Base
import HandS.Call
import HandS.Ends
import HandS.More
import HandS.Words
import HandS.WordsExc
import HandS.Head0
import HandS.Head1
import HandS.Head2
import HandS.Head3
import HandS.HeadEnd
import PySem.Challenge.RW_askednear_k05_texts_of_numbers
set_option Elab.async false
set_option linter.all false
set_option maxRecDepth 100000
set_option maxHeartbeats 2000000
namespace DL
open PySem PySem.Spec PyProof.Rows L2

/-- data: values as trees; an object of the store by its number; what stands in the module by its name -/
inductive D where
  | non | bl (b : Bool) | int (i : Int) | str (s : Str) | ty (n : String)
  | lst (ds : List D) | tup (ds : List D)
  | dct (ks : List Key) (ds : List D)
  | ins (c : Str) (ks : List Str) (ds : List D)
  | exn (c : Str) (ks : List Str) (ds : List D)
  | gl (x : Str)
  | obj (j : Nat)
  | scr (ds : List D)

/-- what a store's object holds -/
inductive MO where
  | lst (ds : List D)
  | dct (ks : List Key) (ds : List D)
  | ins (c : Str) (ks : List Str) (ds : List D)

abbrev MS := List MO
/-- a slot: data, or a list (a dict) that this call alone holds -/
inductive SV where
  | t (d : D)
  | own (ds : List D)
  | owd (ks : List Key) (ds : List D)
  | bor (ds : List D)
  | bod (ks : List Key) (ds : List D)
  | owi (p : Addr) (c : Str) (ks : List Str) (ds : List D)
  | fnv (f : Addr)
abbrev DS := List (Option SV)
/-- an exception of an own class -/
structure XV where
  c : Str
  ks : List Str
  ds : List D

abbrev AP := Addr → Prop
def SqLS (K : PySem.W.Frag) (S : AP) (H : Hp) (a : Addr) (xs : List V) : Prop := S a ∧ H a = some (.lst xs)
def SqTS (K : PySem.W.Frag) (S : AP) (H : Hp) (a : Addr) (xs : List V) : Prop := (S a ∧ Rd H a (.tup xs)) ∨ SqT K (fun _ => none) a xs
theorem SqLS.sq {K : PySem.W.Frag} {S : AP} {H : Hp} {a : Addr} {xs : List V} (h : SqLS K S H a xs) : SqL K H a xs := .inl (.inl h.2)
/-- the script: a list that is read alone -/
def SqLF (K : PySem.W.Frag) (S : AP) (H : Hp) (a : Addr) (xs : List V) : Prop := (S a ∧ Rd H a (.lst xs)) ∨ SqL K (fun _ => none) a xs
theorem SqLF.sq {K : PySem.W.Frag} {S : AP} {H : Hp} {a : Addr} {xs : List V} (h : SqLF K S H a xs) : SqL K H a xs := by
  rcases h with h | h
  · exact .inl h.2
  · rcases h with h | h
    · rcases h with h | ⟨o, h⟩ <;> exact nomatch h
    · exact .inr h
theorem SqTS.sq {K : PySem.W.Frag} {S : AP} {H : Hp} {a : Addr} {xs : List V} (h : SqTS K S H a xs) : SqT K H a xs := by
  rcases h with h | h
  · exact .inl h.2
  · rcases h with h | h
    · rcases h with h | ⟨o, h⟩ <;> exact nomatch h
    · exact .inr h

/-- the exception object of an own class, held as a value: class, own dict -/
def ExVal (H : Hp) (a : Addr) (C : Addr) (d : Option Addr) : Prop := ∃ φ, H a = some (.ext φ) ∧ ∀ h, φ h → ∃ (oe : Obj) (vs : Array Value), h.get? a = some oe ∧ Zc (.ref C) d oe ∧ oe.data = .fields vs

mutual
inductive Dn (K : PySem.W.Frag) (mg : Str → Option Value) (S : AP) (ι : List Addr) (H : Hp) : V → D → Prop
  | non : Dn K mg S ι H .non .non
  | bl (b : Bool) : Dn K mg S ι H (.bl b) (.bl b)
  | int (i : Int) : Dn K mg S ι H (.int i) (.int i)
  | str (x : Str) : Dn K mg S ι H (.str x) (.str x)
  | ty (n : String) : Dn K mg S ι H (.ty n) (.ty n)
  | lst {a : Addr} {xs : List V} {ds : List D} : SqLS K S H a xs → Dns K mg S ι H xs ds → Dn K mg S ι H (.ref a) (.lst ds)
  | tup {a : Addr} {xs : List V} {ds : List D} : SqTS K S H a xs → Dns K mg S ι H xs ds → Dn K mg S ι H (.ref a) (.tup ds)
  | dct {a : Addr} {ks : List Key} {xs : List V} {ds : List D} : S a → H a = some (.dK (ks.zip xs)) → xs.length = ks.length → Dns K mg S ι H xs ds → Dn K mg S ι H (.ref a) (.dct ks ds)
  | ins {a C dx : Addr} {c : Str} {ks : List Str} {xs : List V} {ds : List D} : S a → H a = some (.ins C dx (ks.zip xs)) → xs.length = ks.length → mg c = some (.ref C) → Dns K mg S ι H xs ds → Dn K mg S ι H (.ref a) (.ins c ks ds)
  | exn {a C dx : Addr} {c : Str} {ks : List Str} {xs : List V} {ds : List D} : S a → ExVal H a C (some dx) → S dx → H dx = some (.xd (ks.zip xs)) → xs.length = ks.length → mg c = some (.ref C) → Dns K mg S ι H xs ds → Dn K mg S ι H (.ref a) (.exn c ks ds)
  | exn0 {a C : Addr} {c : Str} : S a → ExVal H a C none → mg c = some (.ref C) → Dn K mg S ι H (.ref a) (.exn c [] [])
  | gl {x : Str} {v : V} {u : Value} : mg x = some u → RelV v u → Dn K mg S ι H v (.gl x)
  | obj {j : Nat} {a : Addr} : ι[j]? = some a → Dn K mg S ι H (.ref a) (.obj j)
  | scr {a : Addr} {xs : List V} {ds : List D} : SqLF K S H a xs → Dns K mg S ι H xs ds → Dn K mg S ι H (.ref a) (.scr ds)
inductive Dns (K : PySem.W.Frag) (mg : Str → Option Value) (S : AP) (ι : List Addr) (H : Hp) : List V → List D → Prop
  | nil : Dns K mg S ι H [] []
  | cons {v : V} {vs : List V} {d : D} {ds : List D} : Dn K mg S ι H v d → Dns K mg S ι H vs ds → Dns K mg S ι H (v :: vs) (d :: ds)
end

/-- what data may lean on stays -/
structure Ext (S : AP) (ι : List Addr) (H : Hp) (S' : AP) (ι' : List Addr) (H' : Hp) : Prop where
  sub : ∀ a, S a → S' a
  idx : ∀ (j : Nat) a, ι[j]? = some a → ι'[j]? = some a
  at_ : ∀ a o, S a → H a = some o → H' a = some o
theorem Ext.refl {S : AP} {ι : List Addr} {H : Hp} : Ext S ι H S ι H := ⟨fun _ h => h, fun _ _ h => h, fun _ _ _ h => h⟩
theorem Ext.trans {S S1 S2 : AP} {ι ι1 ι2 : List Addr} {H H1 H2 : Hp} (a : Ext S ι H S1 ι1 H1) (b : Ext S1 ι1 H1 S2 ι2 H2) : Ext S ι H S2 ι2 H2 :=
  ⟨fun x h => b.sub x (a.sub x h), fun j x h => b.idx j x (a.idx j x h), fun x o s h => b.at_ x o (a.sub x s) (a.at_ x o s h)⟩
section
variable {K : PySem.W.Frag} {mg : Str → Option Value} {S S' : AP} {ι ι' : List Addr} {H H' : Hp}
theorem Ext.rd {a : Addr} {u : HO} (e : Ext S ι H S' ι' H') (s : S a) (h : Rd H a u) : Rd H' a u := by
  rcases h with h | ⟨o, h⟩
  · exact .inl (e.at_ _ _ s h)
  · exact .inr ⟨o, e.at_ _ _ s h⟩
theorem Ext.sqL {a : Addr} {xs : List V} (e : Ext S ι H S' ι' H') (h : SqLS K S H a xs) : SqLS K S' H' a xs := ⟨e.sub _ h.1, e.at_ _ _ h.1 h.2⟩
theorem Ext.sqF {a : Addr} {xs : List V} (e : Ext S ι H S' ι' H') (h : SqLF K S H a xs) : SqLF K S' H' a xs := by
  rcases h with ⟨s, h⟩ | h
  · exact .inl ⟨e.sub _ s, e.rd s h⟩
  · exact .inr h
theorem Ext.sqT {a : Addr} {xs : List V} (e : Ext S ι H S' ι' H') (h : SqTS K S H a xs) : SqTS K S' H' a xs := by
  rcases h with ⟨s, h⟩ | h
  · exact .inl ⟨e.sub _ s, e.rd s h⟩
  · exact .inr h
theorem Ext.exv {a C : Addr} {d : Option Addr} (e : Ext S ι H S' ι' H') (s : S a) (h : ExVal H a C d) : ExVal H' a C d :=
  let ⟨φ, h1, h2⟩ := h
  ⟨φ, e.at_ _ _ s h1, h2⟩
mutual
theorem Dn.ext (e : Ext S ι H S' ι' H') : ∀ {v : V} {d : D}, Dn K mg S ι H v d → Dn K mg S' ι' H' v d
  | _, _, .non => .non
  | _, _, .bl b => .bl b
  | _, _, .int i => .int i
  | _, _, .str x => .str x
  | _, _, .ty n => .ty n
  | _, _, .lst h t => .lst (e.sqL h) (Dns.ext e t)
  | _, _, .tup h t => .tup (e.sqT h) (Dns.ext e t)
  | _, _, .dct s h l t => .dct (e.sub _ s) (e.at_ _ _ s h) l (Dns.ext e t)
  | _, _, .ins s h l m t => .ins (e.sub _ s) (e.at_ _ _ s h) l m (Dns.ext e t)
  | _, _, .exn s h sd hd l m t => .exn (e.sub _ s) (e.exv s h) (e.sub _ sd) (e.at_ _ _ sd hd) l m (Dns.ext e t)
  | _, _, .exn0 s h m => .exn0 (e.sub _ s) (e.exv s h) m
  | _, _, .gl m r => .gl m r
  | _, _, .obj h => .obj (e.idx _ _ h)
  | _, _, .scr h t => .scr (e.sqF h) (Dns.ext e t)
theorem Dns.ext (e : Ext S ι H S' ι' H') : ∀ {vs : List V} {ds : List D}, Dns K mg S ι H vs ds → Dns K mg S' ι' H' vs ds
  | _, _, .nil => .nil
  | _, _, .cons h t => .cons (Dn.ext e h) (Dns.ext e t)
end
theorem Dns.length : ∀ {vs : List V} {ds : List D}, Dns K mg S ι H vs ds → vs.length = ds.length
  | _, _, .nil => rfl
  | _, _, .cons _ t => congrArg (· + 1) (Dns.length t)
theorem Dns.append : ∀ {xs ys : List V} {ds es : List D}, Dns K mg S ι H xs ds → Dns K mg S ι H ys es → Dns K mg S ι H (xs ++ ys) (ds ++ es)
  | _, _, _, _, .nil, t => t
  | _, _, _, _, .cons h t, s => .cons h (Dns.append t s)
theorem Dns.get : ∀ {xs : List V} {ds : List D} {i : Nat} {d : D}, Dns K mg S ι H xs ds → ds[i]? = some d → ∃ v, xs[i]? = some v ∧ Dn K mg S ι H v d
  | _, _, 0, _, .cons h t, e => by simp at e; subst e; exact ⟨_, rfl, h⟩
  | _, _, i + 1, _, .cons h t, e => by
    obtain ⟨v, h1, h2⟩ := Dns.get (i := i) t (by simpa using e)
    exact ⟨v, by simpa using h1, h2⟩
theorem Dns.getV : ∀ {xs : List V} {ds : List D} {i : Nat} {v : V}, Dns K mg S ι H xs ds → xs[i]? = some v → ∃ d, ds[i]? = some d ∧ Dn K mg S ι H v d
  | _, _, 0, _, .cons h t, e => by simp at e; subst e; exact ⟨_, rfl, h⟩
  | _, _, i + 1, _, .cons h t, e => by
    obtain ⟨v, h1, h2⟩ := Dns.getV (i := i) t (by simpa using e)
    exact ⟨v, by simpa using h1, h2⟩
theorem Dns.set : ∀ {xs : List V} {ds : List D} (i : Nat) {v : V} {d : D}, Dns K mg S ι H xs ds → Dn K mg S ι H v d → Dns K mg S ι H (xs.set i v) (ds.set i d)
  | _, _, _, _, _, .nil, _ => .nil
  | _, _, 0, _, _, .cons h t, r => .cons r t
  | _, _, i + 1, _, _, .cons h t, r => .cons h (Dns.set i t r)
theorem Dns.take : ∀ {xs : List V} {ds : List D} (n : Nat), Dns K mg S ι H xs ds → Dns K mg S ι H (xs.take n) (ds.take n)
  | _, _, 0, _ => by simp; exact .nil
  | _, _, n + 1, .nil => by simp; exact .nil
  | _, _, n + 1, .cons h t => by simp; exact .cons h (Dns.take n t)
theorem Dns.drop : ∀ {xs : List V} {ds : List D} (n : Nat), Dns K mg S ι H xs ds → Dns K mg S ι H (xs.drop n) (ds.drop n)
  | _, _, 0, r => by simpa using r
  | _, _, n + 1, .nil => by simp; exact .nil
  | _, _, n + 1, .cons h t => by simpa using Dns.drop n t
end

/-- what stands at an object of the store -/
def MOk (K : PySem.W.Frag) (mg : Str → Option Value) (S : AP) (ι : List Addr) (H : Hp) (a : Addr) : MO → Prop
  | .lst ds => ∃ xs, H a = some (.lst xs) ∧ Dns K mg S ι H xs ds
  | .dct ks ds => ∃ xs, H a = some (.dK (ks.zip xs)) ∧ xs.length = ks.length ∧ Dns K mg S ι H xs ds
  | .ins c ks ds => ∃ C dx xs, H a = some (.ins C dx (ks.zip xs)) ∧ xs.length = ks.length ∧ mg c = some (.ref C) ∧ Dns K mg S ι H xs ds

/-- a call's entry -/
structure En where
  H : Hp
  S : AP
  ι : List Addr
  T : List (Addr × Str)
abbrev OwnM := Nat → Option Addr
def own0 : OwnM := fun _ => none
def NTbl (o : HO) : Prop := ∀ ps, o ≠ .tbl ps
/-- neither a table nor a thing told by a predicate -/
def Own1 (o : HO) : Prop := (∀ ps, o ≠ .tbl ps) ∧ ∀ φ, o ≠ .ext φ
theorem Own1.nt {o : HO} (h : Own1 o) : NTbl o := h.1
/-- the tables of code objects, all that are tracked -/
structure TbOk (T : List (Addr × Str)) (H : Hp) : Prop where
  tabs : LamX.Tabs T H
  all : ∀ a ps, H a = some (.tbl ps) → ∃ q, (a, q) ∈ T
theorem TbOk.new {T : List (Addr × Str)} {H : Hp} {p : Addr} {o : HO} (k : TbOk T H) (hp : H p = none) (ho : NTbl o) : TbOk T (upd H p o) :=
  ⟨k.tabs.ext fun b u e => by rw [upd_ne (ne_of_none e hp)]; exact e, fun a ps e => by
    by_cases h : a = p
    · rw [h, upd_same] at e
      exact absurd (Option.some.inj e) (ho ps)
    · rw [upd_ne h] at e
      exact k.all a ps e⟩
theorem TbOk.set {T : List (Addr × Str)} {H : Hp} {p : Addr} {u o : HO} (k : TbOk T H) (hp : H p = some u) (hu : Own1 u) (ho : NTbl o) : TbOk T (upd H p o) := by
  refine ⟨fun q hq => ?_, fun a ps e => ?_⟩
  · obtain ⟨ps, h1, h2, h3⟩ := k.tabs q hq
    refine ⟨ps, ?_, h2, fun pos cv hc => ?_⟩
    · rw [upd_ne (fun z => ?_)]
      · exact h1
      · rw [z, hp] at h1
        exact hu.1 ps (Option.some.inj h1)
    · obtain ⟨c, e1, e2⟩ := h3 pos cv hc
      refine ⟨c, e1, ?_⟩
      rw [upd_ne (fun z => ?_)]
      · exact e2
      · rw [z, hp] at e2
        exact hu.2 _ (Option.some.inj e2)
  · by_cases h : a = p
    · rw [h, upd_same] at e
      exact absurd (Option.some.inj e) (ho ps)
    · rw [upd_ne h] at e
      exact k.all a ps e

structure Ok (K : PySem.W.Frag) (mg : Str → Option Value) (N : En) (ι : List Addr) (M : MS) (S : AP) (H : Hp) (own : OwnM) : Prop where
  len : ι.length = M.length
  pre : ∀ (j : Nat) a, N.ι[j]? = some a → ι[j]? = some a
  fresh : ∀ a ∈ ι, a ∈ N.ι ∨ N.H a = none
  objs : ∀ (j : Nat) a m, ι[j]? = some a → M[j]? = some m → MOk K mg S ι H a m
  nd : ι.Nodup
  iout : ∀ a ∈ ι, ¬ S a ∧ H a ≠ none
  oout : ∀ i a, own i = some a → ¬ S a ∧ (∃ o, H a = some o ∧ Own1 o) ∧ N.H a = none ∧ a ∉ ι
  oinj : ∀ i j a, own i = some a → own j = some a → i = j
  ofin : ∃ n, ∀ i, n ≤ i → own i = none
  sub : ∀ a, N.S a → S a
  new : ∀ a, S a → N.S a ∨ N.H a = none
  keep : ∀ a o, N.H a = some o → a ∉ N.ι → NTbl o → H a = some o
  trk : ∀ a, N.H a ≠ none → H a ≠ none
  sat : ∀ a, S a → ∃ o, H a = some o ∧ NTbl o
  tb : TbOk N.T H

/-- slots have numbers below this one -/
def slotsB : Nat := 1000000
def SVOk (K : PySem.W.Frag) (mg : Str → Option Value) (S : AP) (ι : List Addr) (H : Hp) (v : V) (o : Option Addr) : SV → Prop
  | .t d => o = none ∧ Dn K mg S ι H v d
  | .own ds => ∃ a xs, v = .ref a ∧ o = some a ∧ H a = some (.lst xs) ∧ Dns K mg S ι H xs ds
  | .owd ks ds => ∃ a xs, v = .ref a ∧ o = some a ∧ H a = some (.dK (ks.zip xs)) ∧ xs.length = ks.length ∧ Dns K mg S ι H xs ds
  | .bor ds => ∃ a xs, v = .ref a ∧ o = some a ∧ H a = some (.lst xs) ∧ Dns K mg S ι H xs ds
  | .bod ks ds => ∃ a xs, v = .ref a ∧ o = some a ∧ H a = some (.dK (ks.zip xs)) ∧ xs.length = ks.length ∧ Dns K mg S ι H xs ds
  | .fnv f => o = none ∧ v = .ref f
  | .owi p c ks ds => ∃ a C dx xs, v = .ref a ∧ a = p ∧ o = some a ∧ H a = some (.ins C dx (ks.zip xs)) ∧ xs.length = ks.length ∧ mg c = some (.ref C) ∧ Dns K mg S ι H xs ds
structure EnvOk (K : PySem.W.Frag) (mg : Str → Option Value) (S : AP) (ι : List Addr) (H : Hp) (own : OwnM) (σ : L2.St) (ρ : DS) : Prop where
  len : σ.length = ρ.length
  big : ρ.length ≤ slotsB
  gap : ∀ i, ρ.length ≤ i → i < slotsB → own i = none
  at_ : ∀ (i : Nat) x, ρ[i]? = some (some x) → ∃ v, σ[i]? = some (some v) ∧ SVOk K mg S ι H v (own i) x
  nown : ∀ (i : Nat), ρ[i]? = some none → own i = none

/-- the state: what is known at a moment -/
structure Cur (K : PySem.W.Frag) (mg : Str → Option Value) (N : En) (ι : List Addr) (S : AP) (H : Hp) (own : OwnM) (σ : L2.St) (ρ : DS) (M : MS) : Prop where
  ok : Ok K mg N ι M S H own
  env : EnvOk K mg S ι H own σ ρ
end DL
set_option maxHeartbeats 2000000
namespace DL
open PySem PySem.Spec PyProof.Rows L2
variable {K : PySem.W.Frag} {mg : Str → Option Value} {N : En} {ι ι' : List Addr} {M M' : MS} {S S' : AP} {H H' : Hp} {own own' : OwnM} {σ σ' : L2.St} {ρ ρ' : DS}

theorem MOk.ext {a : Addr} {m : MO} (e : Ext S ι H S' ι' H') (ha : H' a = H a) (h : MOk K mg S ι H a m) : MOk K mg S' ι' H' a m := by
  cases m with
  | lst ds => obtain ⟨xs, h1, h2⟩ := h; exact ⟨xs, ha.trans h1, h2.ext e⟩
  | dct ks ds => obtain ⟨xs, h1, l, h2⟩ := h; exact ⟨xs, ha.trans h1, l, h2.ext e⟩
  | ins c ks ds => obtain ⟨C, dx, xs, h1, l, m, h2⟩ := h; exact ⟨C, dx, xs, ha.trans h1, l, m, h2.ext e⟩
theorem SVOk.ext {v : V} {o : Option Addr} {x : SV} (e : Ext S ι H S' ι' H') (ha : ∀ a, o = some a → H' a = H a) (h : SVOk K mg S ι H v o x) : SVOk K mg S' ι' H' v o x := by
  cases x with
  | t d => exact ⟨h.1, h.2.ext e⟩
  | own ds => obtain ⟨a, xs, h1, h2, h3, h4⟩ := h; exact ⟨a, xs, h1, h2, (ha a h2).trans h3, h4.ext e⟩
  | owd ks ds => obtain ⟨a, xs, h1, h2, h3, l, h4⟩ := h; exact ⟨a, xs, h1, h2, (ha a h2).trans h3, l, h4.ext e⟩
  | bor ds => obtain ⟨a, xs, h1, h2, h3, h4⟩ := h; exact ⟨a, xs, h1, h2, (ha a h2).trans h3, h4.ext e⟩
  | bod ks ds => obtain ⟨a, xs, h1, h2, h3, l, h4⟩ := h; exact ⟨a, xs, h1, h2, (ha a h2).trans h3, l, h4.ext e⟩
  | fnv f => exact h
  | owi p c ks ds => obtain ⟨a, C, dx, xs, h1, hp, h2, h3, l, m, h4⟩ := h; exact ⟨a, C, dx, xs, h1, hp, h2, (ha a h2).trans h3, l, m, h4.ext e⟩
theorem Ok.ohn (k : Ok K mg N ι M S H own) {i : Nat} {a : Addr} (e : own i = some a) : H a ≠ none := by
  obtain ⟨o, h, _⟩ := (k.oout i a e).2.1
  rw [h]; exact fun z => nomatch z
theorem EnvOk.ext (e : Ext S ι H S' ι' H') (ha : ∀ i a, own i = some a → H' a = H a) (h : EnvOk K mg S ι H own σ ρ) : EnvOk K mg S' ι' H' own σ ρ :=
  ⟨h.len, h.big, h.gap, fun i x q => let ⟨v, h1, h2⟩ := h.at_ i x q; ⟨v, h1, h2.ext e (ha i)⟩, h.nown⟩

/-- a set with one more -/
def addS (S : AP) (p : Addr) : AP := fun a => S a ∨ a = p
theorem Ok.alloc_ext (k : Ok K mg N ι M S H own) {p : Addr} {o : HO} (hp : H p = none) : Ext S ι H (addS S p) ι (upd H p o) :=
  ⟨fun _ h => .inl h, fun _ _ h => h, fun a u _ h => by rw [upd_ne (ne_of_none h hp)]; exact h⟩
theorem Ok.hown (k : Ok K mg N ι M S H own) {p : Addr} {o : HO} (hp : H p = none) : ∀ i a, own i = some a → upd H p o a = H a := fun i a e => by
  refine upd_ne (fun z => k.ohn e (by rw [z]; exact hp))
theorem Ok.free (k : Ok K mg N ι M S H own) {p : Addr} (hp : H p = none) : N.H p = none := by
  cases q : N.H p with
  | none => rfl
  | some u => exact absurd hp (k.trk p (by rw [q]; exact fun z => nomatch z))
/-- a new object, shared at once -/
theorem Ok.alloc (k : Ok K mg N ι M S H own) {p : Addr} {o : HO} (hp : H p = none) (ho : NTbl o := by exact fun _ z => nomatch z) : Ok K mg N ι M (addS S p) (upd H p o) own where
  len := k.len
  pre := k.pre
  fresh := k.fresh
  objs := fun j a m h1 h2 => (k.objs j a m h1 h2).ext (k.alloc_ext hp) (upd_ne fun z => (k.iout a (List.mem_of_getElem? h1)).2 (by rw [z]; exact hp))
  nd := k.nd
  iout := fun a ha => ⟨fun s => by
    rcases s with s | s
    · exact (k.iout a ha).1 s
    · exact (k.iout a ha).2 (by rw [s]; exact hp), by rw [upd_ne fun z => (k.iout a ha).2 (by rw [z]; exact hp)]; exact (k.iout a ha).2⟩
  oout := fun i a e => ⟨fun s => by
    rcases s with s | s
    · exact (k.oout i a e).1 s
    · exact k.ohn e (by rw [s]; exact hp), by rw [k.hown hp i a e]; exact (k.oout i a e).2.1, (k.oout i a e).2.2.1, (k.oout i a e).2.2.2⟩
  oinj := k.oinj
  ofin := k.ofin
  sub := fun a h => .inl (k.sub a h)
  new := fun a h => by
    rcases h with h | h
    · exact k.new a h
    · rw [h]; exact .inr (k.free hp)
  keep := fun a u h1 h2 h3 => by
    have q := k.keep a u h1 h2 h3
    rw [upd_ne (ne_of_none q hp)]; exact q
  trk := fun a h => by
    by_cases z : a = p
    · rw [z, upd_same]; exact fun q => nomatch q
    · rw [upd_ne z]; exact k.trk a h
  sat := fun a h => by
    by_cases z : a = p
    · rw [z, upd_same]; exact ⟨o, rfl, ho⟩
    · rw [upd_ne z]
      rcases h with h | h
      · exact k.sat a h
      · exact absurd h z
  tb := k.tb.new hp ho
theorem Cur.alloc (c : Cur K mg N ι S H own σ ρ M) {p : Addr} {o : HO} (hp : H p = none) (ho : NTbl o := by exact fun _ z => nomatch z) : Cur K mg N ι (addS S p) (upd H p o) own σ ρ M :=
  ⟨c.ok.alloc hp ho, c.env.ext (c.ok.alloc_ext hp) (c.ok.hown hp)⟩

/-- a list of its own at a slot is handed on: from now on it stands still -/
def setO (own : OwnM) (i : Nat) (o : Option Addr) : OwnM := fun j => if j = i then o else own j
theorem setO_fin {own : OwnM} {i : Nat} {o : Option Addr} (h : ∃ n, ∀ i, n ≤ i → own i = none) : ∃ n, ∀ j, n ≤ j → setO own i o j = none := by
  obtain ⟨n, h⟩ := h
  refine ⟨max n (i + 1), fun j hj => ?_⟩
  unfold setO
  rw [if_neg (by omega)]
  exact h j (by omega)
theorem Ok.unown (k : Ok K mg N ι M S H own) (i : Nat) : Ok K mg N ι M S H (setO own i none) where
  len := k.len
  pre := k.pre
  fresh := k.fresh
  objs := k.objs
  nd := k.nd
  iout := k.iout
  oout := fun j a e => by
    unfold setO at e
    split at e
    · cases e
    · exact k.oout j a e
  oinj := fun i' j' a e1 e2 => by
    unfold setO at e1 e2
    split at e1
    · cases e1
    · split at e2
      · cases e2
      · exact k.oinj i' j' a e1 e2
  ofin := setO_fin k.ofin
  sub := k.sub
  new := k.new
  keep := k.keep
  trk := k.trk
  sat := k.sat
  tb := k.tb
theorem addS_ext {a : Addr} : Ext S ι H (addS S a) ι H := ⟨fun _ h => .inl h, fun _ _ h => h, fun _ _ _ h => h⟩
theorem Ok.freeze (k : Ok K mg N ι M S H own) {i : Nat} {a : Addr} (e : own i = some a) {o : HO} (ho : H a = some o) (hn : NTbl o) : Ok K mg N ι M (addS S a) H (setO own i none) where
  len := k.len
  pre := k.pre
  fresh := k.fresh
  objs := fun j b m h1 h2 => (k.objs j b m h1 h2).ext addS_ext rfl
  nd := k.nd
  iout := fun b hb => ⟨fun s => by
    rcases s with s | s
    · exact (k.iout b hb).1 s
    · exact (k.oout i a e).2.2.2 (s ▸ hb), (k.iout b hb).2⟩
  oout := fun j b q => by
    unfold setO at q
    split at q
    · cases q
    · rename_i hj
      refine ⟨fun s => ?_, (k.oout j b q).2⟩
      rcases s with s | s
      · exact (k.oout j b q).1 s
      · exact hj (k.oinj j i a (s ▸ q) e)
  oinj := fun i' j' b e1 e2 => by
    unfold setO at e1 e2
    split at e1
    · cases e1
    · split at e2
      · cases e2
      · exact k.oinj i' j' b e1 e2
  ofin := setO_fin k.ofin
  sub := fun b h => .inl (k.sub b h)
  new := fun b h => by
    rcases h with h | h
    · exact k.new b h
    · rw [h]; exact .inr (k.oout i a e).2.2.1
  keep := k.keep
  trk := k.trk
  sat := fun b h => by
    rcases h with h | h
    · exact k.sat b h
    · rw [h]; exact ⟨o, ho, hn⟩
  tb := k.tb

theorem setO_gap {i : Nat} (e : EnvOk K mg S ι H own σ ρ) {j : Nat} (h1 : ρ.length ≤ j) (h2 : j < slotsB) : setO own i none j = none := by
  unfold setO
  split
  · rfl
  · exact e.gap j h1 h2
theorem getElem?_set_eq' {α : Type} {l : List α} {i : Nat} {x y : α} (h : l[i]? = some y) : (l.set i x)[i]? = some x := by
  rw [List.getElem?_set_self]
  exact (List.getElem?_eq_some_iff.mp h).1
/-- a slot is filled with data -/
theorem Cur.store (c : Cur K mg N ι S H own σ ρ M) {i : Nat} {v : V} {d : D} (hv : Dn K mg S ι H v d) : Cur K mg N ι S H (setO own i none) (σ.set i (some v)) (ρ.set i (some (.t d))) M := by
  refine ⟨c.ok.unown i, ⟨by simpa using c.env.len, by simpa using c.env.big, fun j h1 h2 => setO_gap c.env (by simpa using h1) h2, fun j x q => ?_, fun j q => ?_⟩⟩
  · by_cases hj : j = i
    · subst hj
      have hi : j < ρ.length := by
        have := (List.getElem?_eq_some_iff.mp q).1
        simpa using this
      rw [List.getElem?_set_self hi] at q
      cases q
      refine ⟨v, ?_, ?_, hv⟩
      · rw [List.getElem?_set_self (by rw [c.env.len]; exact hi)]
      · unfold setO; rw [if_pos rfl]
    · rw [List.getElem?_set_ne (Ne.symm hj)] at q ⊢
      obtain ⟨w, h1, h2⟩ := c.env.at_ j x q
      refine ⟨w, h1, ?_⟩
      unfold setO; rw [if_neg hj]; exact h2
  · unfold setO
    by_cases hj : j = i
    · rw [if_pos hj]
    · rw [if_neg hj]
      rw [List.getElem?_set_ne (Ne.symm hj)] at q
      exact c.env.nown j q
/-- a slot's list is handed on -/
theorem Cur.freeze (c : Cur K mg N ι S H own σ ρ M) {i : Nat} {ds : List D} (q : ρ[i]? = some (some (.own ds))) :
    ∃ v a, own i = some a ∧ σ[i]? = some (some v) ∧ Dn K mg (addS S a) ι H v (.lst ds) ∧ Cur K mg N ι (addS S a) H (setO own i none) σ (ρ.set i (some (.t (.lst ds)))) M ∧ Ext S ι H (addS S a) ι H := by
  obtain ⟨v, h1, a, xs, rfl, h3, h4, h5⟩ := c.env.at_ i _ q
  have dn : Dn K mg (addS S a) ι H (.ref a) (.lst ds) := .lst ⟨.inr rfl, h4⟩ (h5.ext addS_ext)
  refine ⟨_, a, h3, h1, dn, ⟨c.ok.freeze h3 h4 (fun _ z => nomatch z), ⟨by simpa using c.env.len, by simpa using c.env.big, fun j h1 h2 => setO_gap c.env (by simpa using h1) h2, fun j x q' => ?_, fun j q' => ?_⟩⟩, addS_ext⟩
  · by_cases hj : j = i
    · subst hj
      rw [getElem?_set_eq' q] at q'
      cases q'
      refine ⟨_, h1, ?_, dn⟩
      unfold setO; rw [if_pos rfl]
    · rw [List.getElem?_set_ne (Ne.symm hj)] at q'
      obtain ⟨w, g1, g2⟩ := c.env.at_ j x q'
      refine ⟨w, g1, ?_⟩
      unfold setO; rw [if_neg hj]
      exact g2.ext addS_ext fun _ _ => rfl
  · unfold setO
    by_cases hj : j = i
    · rw [if_pos hj]
    · rw [if_neg hj]
      rw [List.getElem?_set_ne (Ne.symm hj)] at q'
      exact c.env.nown j q'
theorem Cur.freezeD (c : Cur K mg N ι S H own σ ρ M) {i : Nat} {ks : List Key} {ds : List D} (q : ρ[i]? = some (some (.owd ks ds))) :
    ∃ v a, own i = some a ∧ σ[i]? = some (some v) ∧ Dn K mg (addS S a) ι H v (.dct ks ds) ∧ Cur K mg N ι (addS S a) H (setO own i none) σ (ρ.set i (some (.t (.dct ks ds)))) M ∧ Ext S ι H (addS S a) ι H := by
  obtain ⟨v, h1, a, xs, rfl, h3, h4, hl, h5⟩ := c.env.at_ i _ q
  have dn : Dn K mg (addS S a) ι H (.ref a) (.dct ks ds) := .dct (.inr rfl) h4 hl (h5.ext addS_ext)
  refine ⟨_, a, h3, h1, dn, ⟨c.ok.freeze h3 h4 (fun _ z => nomatch z), ⟨by simpa using c.env.len, by simpa using c.env.big, fun j h1 h2 => setO_gap c.env (by simpa using h1) h2, fun j x q' => ?_, fun j q' => ?_⟩⟩, addS_ext⟩
  · by_cases hj : j = i
    · subst hj
      rw [getElem?_set_eq' q] at q'
      cases q'
      refine ⟨_, h1, ?_, dn⟩
      unfold setO; rw [if_pos rfl]
    · rw [List.getElem?_set_ne (Ne.symm hj)] at q'
      obtain ⟨w, g1, g2⟩ := c.env.at_ j x q'
      refine ⟨w, g1, ?_⟩
      unfold setO; rw [if_neg hj]
      exact g2.ext addS_ext fun _ _ => rfl
  · unfold setO
    by_cases hj : j = i
    · rw [if_pos hj]
    · rw [if_neg hj]
      rw [List.getElem?_set_ne (Ne.symm hj)] at q'
      exact c.env.nown j q'
end DL
set_option maxHeartbeats 2000000
namespace DL
open PySem PySem.Spec PyProof.Rows L2

/-! ### what evaluating gives -/
inductive EO where
  | ok (d : D) (ρ : DS) (M : MS)
  | ex (x : XV) (ρ : DS) (M : MS)
inductive AO where
  | ok (ds : List D) (ρ : DS) (M : MS)
  | ex (x : XV) (ρ : DS) (M : MS)
inductive SO where
  | nx (ρ : DS) (M : MS) | rt (d : D) (M : MS) | bk (ρ : DS) (M : MS) | ct (ρ : DS) (M : MS)
  | ex (x : XV) (ρ : DS) (M : MS)
inductive FO where
  | ret (d : D) (M : MS) | exc (x : XV) (M : MS)
abbrev TDE := DS → MS → Option EO
abbrev TDA := DS → MS → Option AO
abbrev TDS := DS → MS → Option SO
abbrev DF := List D → MS → Option FO

/-- data to look at: its outmost object may be one that changes -/
inductive Bn (K : PySem.W.Frag) (mg : Str → Option Value) (S : AP) (ι : List Addr) (H : Hp) : V → D → Prop
  | dn {v : V} {d : D} : Dn K mg S ι H v d → Bn K mg S ι H v d
  | lst {a : Addr} {xs : List V} {ds : List D} : H a = some (.lst xs) → Dns K mg S ι H xs ds → Bn K mg S ι H (.ref a) (.lst ds)
  | dct {a : Addr} {ks : List Key} {xs : List V} {ds : List D} : H a = some (.dK (ks.zip xs)) → xs.length = ks.length → Dns K mg S ι H xs ds → Bn K mg S ι H (.ref a) (.dct ks ds)
/-- .. behind evaluating -/
structure ExtE (S : AP) (ι : List Addr) (H : Hp) (own : OwnM) (S' : AP) (ι' : List Addr) (H' : Hp) (own' : OwnM) : Prop where
  ext : Ext S ι H S' ι' H'
  ow : ∀ i a, own i = some a → H' a = H a ∧ (own' i = some a ∨ (i < slotsB ∧ S' a))
theorem ExtE.refl {S : AP} {ι : List Addr} {H : Hp} {own : OwnM} : ExtE S ι H own S ι H own := ⟨.refl, fun _ _ h => ⟨rfl, .inl h⟩⟩
section
variable {K : PySem.W.Frag} {mg : Str → Option Value} {N : En} {ι ι' ι1 ι2 : List Addr} {M M' : MS} {S S' S1 S2 : AP} {H H' H1 H2 : Hp} {own own' own1 own2 : OwnM} {σ σ' : L2.St} {ρ ρ' : DS}
theorem ExtE.trans (k : Ok K mg N ι M S H own) (a : ExtE S ι H own S1 ι1 H1 own1) (b : ExtE S1 ι1 H1 own1 S2 ι2 H2 own2) : ExtE S ι H own S2 ι2 H2 own2 := by
  refine ⟨a.ext.trans b.ext, fun i x e => ?_⟩
  obtain ⟨h1, h2⟩ := a.ow i x e
  rcases h2 with h2 | h2
  · obtain ⟨h3, h4⟩ := b.ow i x h2
    exact ⟨h3.trans h1, h4⟩
  · obtain ⟨hb, h2⟩ := h2
    refine ⟨?_, .inr ⟨hb, b.ext.sub x h2⟩⟩
    cases q : H x with
    | none => exact absurd q (k.ohn e)
    | some o =>
      rw [q] at h1
      exact b.ext.at_ x o h2 h1
/-- what a statement of Bn leans on: an own list, or data -/
inductive BnO (K : PySem.W.Frag) (mg : Str → Option Value) (S : AP) (ι : List Addr) (H : Hp) (own : OwnM) : V → D → Prop
  | dn {v : V} {d : D} : Dn K mg S ι H v d → BnO K mg S ι H own v d
  | lst {i : Nat} {a : Addr} {xs : List V} {ds : List D} : own i = some a → H a = some (.lst xs) → Dns K mg S ι H xs ds → BnO K mg S ι H own (.ref a) (.lst ds)
  | dct {i : Nat} {a : Addr} {ks : List Key} {xs : List V} {ds : List D} : own i = some a → H a = some (.dK (ks.zip xs)) → xs.length = ks.length → Dns K mg S ι H xs ds → BnO K mg S ι H own (.ref a) (.dct ks ds)
theorem BnO.bn {v : V} {d : D} (h : BnO K mg S ι H own v d) : Bn K mg S ι H v d := by
  cases h with
  | dn h => exact .dn h
  | lst _ h1 h2 => exact .lst h1 h2
  | dct _ h1 l h2 => exact .dct h1 l h2
theorem BnO.ext {v : V} {d : D} (e : ExtE S ι H own S' ι' H' own') (h : BnO K mg S ι H own v d) : Bn K mg S' ι' H' v d := by
  cases h with
  | dn h => exact .dn (h.ext e.ext)
  | lst o h1 h2 => exact .lst ((e.ow _ _ o).1.trans h1) (h2.ext e.ext)
  | dct o h1 l h2 => exact .dct ((e.ow _ _ o).1.trans h1) l (h2.ext e.ext)

/-- an exception of an own class -/
def ExOk (K : PySem.W.Frag) (mg : Str → Option Value) (S : AP) (ι : List Addr) (H : Hp) (x : XV) (cls : Value) (dd : Option Addr) : Prop :=
  ∃ C, mg x.c = some (.ref C) ∧ cls = .ref C ∧ ((dd = none ∧ x.ks = [] ∧ x.ds = []) ∨ ∃ d xs, dd = some d ∧ S d ∧ H d = some (.xd (x.ks.zip xs)) ∧ xs.length = x.ks.length ∧ Dns K mg S ι H xs x.ds)

/-- what is wished of an exception by the state where it rises -/
def XPost (K : PySem.W.Frag) (mg : Str → Option Value) (N : En) (S : AP) (ι : List Addr) (H : Hp) (W : WX) (σ : L2.St) (x : XV) (ρ' : DS) (M' : MS) : Prop :=
  ∀ cls dd ι' S' H' own', Cur K mg N ι' S' H' own' σ ρ' M' → Ext S ι H S' ι' H' → ExOk K mg S' ι' H' x cls dd → W cls dd σ H'
section
variable (K : PySem.W.Frag) (mg : Str → Option Value) (N : En) (W : WX) (ι : List Addr) (S : AP) (H : Hp) (own : OwnM) (σ : L2.St)
def postD (Q : VK) : Option EO → Prop
  | some (.ok d ρ' M') => ∀ v ι' S' H' own', Cur K mg N ι' S' H' own' σ ρ' M' → ExtE S ι H own S' ι' H' own' → Dn K mg S' ι' H' v d → Q v H'
  | some (.ex x ρ' M') => XPost K mg N S ι H W σ x ρ' M'
  | none => False
def postB (Q : VK) : Option EO → Prop
  | some (.ok d ρ' M') => ∀ v ι' S' H' own', Cur K mg N ι' S' H' own' σ ρ' M' → ExtE S ι H own S' ι' H' own' → BnO K mg S' ι' H' own' v d → Q v H'
  | some (.ex x ρ' M') => XPost K mg N S ι H W σ x ρ' M'
  | none => False
def postT (Q : Bool → Hp → Prop) : Option EO → Prop
  | some (.ok (.bl b) ρ' M') => ∀ ι' S' H' own', Cur K mg N ι' S' H' own' σ ρ' M' → ExtE S ι H own S' ι' H' own' → Q b H'
  | some (.ok _ _ _) => False
  | some (.ex x ρ' M') => XPost K mg N S ι H W σ x ρ' M'
  | none => False
def postA (Q : List V → Hp → Prop) : Option AO → Prop
  | some (.ok ds ρ' M') => ∀ vs ι' S' H' own', Cur K mg N ι' S' H' own' σ ρ' M' → ExtE S ι H own S' ι' H' own' → Dns K mg S' ι' H' vs ds → Q vs H'
  | some (.ex x ρ' M') => XPost K mg N S ι H W σ x ρ' M'
  | none => False
def postS (E : Ends) : Option SO → Prop
  | some (.nx ρ' M') => ∀ σ' ι' S' H' own', Cur K mg N ι' S' H' own' σ' ρ' M' → Ext S ι H S' ι' H' → E.nx σ' H'
  | some (.bk ρ' M') => ∀ σ' ι' S' H' own', Cur K mg N ι' S' H' own' σ' ρ' M' → Ext S ι H S' ι' H' → E.bk σ' H'
  | some (.ct ρ' M') => ∀ σ' ι' S' H' own', Cur K mg N ι' S' H' own' σ' ρ' M' → Ext S ι H S' ι' H' → E.ct σ' H'
  | some (.rt d M') => ∀ v ι' S' H', Ok K mg N ι' M' S' H' own0 → Ext S ι H S' ι' H' → Dn K mg S' ι' H' v d → E.rt v H'
  | some (.ex x ρ' M') => ∀ σ', XPost K mg N S ι H W σ' x ρ' M'
  | none => False
end
def tD (K : PySem.W.Frag) (mg : Str → Option Value) (N : En) (W : WX) (t : TDE) : TE := fun σ H Q => ∃ ι S own ρ M, Cur K mg N ι S H own σ ρ M ∧ postD K mg N W ι S H own σ Q (t ρ M)
def tB (K : PySem.W.Frag) (mg : Str → Option Value) (N : En) (W : WX) (t : TDE) : TE := fun σ H Q => ∃ ι S own ρ M, Cur K mg N ι S H own σ ρ M ∧ postB K mg N W ι S H own σ Q (t ρ M)
def tT (K : PySem.W.Frag) (mg : Str → Option Value) (N : En) (W : WX) (t : TDE) : TT := fun σ H Q => ∃ ι S own ρ M, Cur K mg N ι S H own σ ρ M ∧ postT K mg N W ι S H own σ Q (t ρ M)
def tA (K : PySem.W.Frag) (mg : Str → Option Value) (N : En) (W : WX) (t : TDA) : TA := fun σ H Q => ∃ ι S own ρ M, Cur K mg N ι S H own σ ρ M ∧ postA K mg N W ι S H own σ Q (t ρ M)
def tS (K : PySem.W.Frag) (mg : Str → Option Value) (N : En) (W : WX) (t : TDS) : TS := fun E σ H => ∃ ι S own ρ M, Cur K mg N ι S H own σ ρ M ∧ postS K mg N W ι S H E (t ρ M)
end

/-! ### judgements -/
section
variable {X : Cx} {N : En} {W : WX}
theorem pe_imp {e : Expr} {t t' : TE} (h : PE X e t) (i : ∀ σ H Q, t' σ H Q → t σ H Q) : PE X e t' := ⟨fun pins s σ H Q I q => h.run pins s σ H Q I (i σ H Q q)⟩
theorem pt_imp {e : Expr} {t t' : TT} (h : PT X e t) (i : ∀ σ H Q, t' σ H Q → t σ H Q) : PT X e t' := ⟨fun pins s σ H Q I q => h.run pins s σ H Q I (i σ H Q q)⟩
theorem pw_imp {e : Expr} {t t' : TT} (h : PW X e t) (i : ∀ σ H Q, t' σ H Q → t σ H Q) : PW X e t' := ⟨fun wh pins s σ H Q I q => h.run wh pins s σ H Q I (i σ H Q q)⟩
theorem pa_imp {es : List Expr} {t t' : TA} (h : PA X es t) (i : ∀ σ H Q, t' σ H Q → t σ H Q) : PA X es t' := ⟨fun p pins s σ H Q I q => h.run p pins s σ H Q I (i σ H Q q)⟩
theorem ps_imp {s : Stmt} {t t' : TS} (h : PS X s t) (i : ∀ E σ H, t' E σ H → t E σ H) : PS X s t' := ⟨fun pins s σ H E I q => h.run pins s σ H E I (i E σ H q)⟩
theorem pss_imp {s : List Stmt} {t t' : TS} (h : PSs X s t) (i : ∀ E σ H, t' E σ H → t E σ H) : PSs X s t' := ⟨fun pins s σ H E I q => h.run pins s σ H E I (i E σ H q)⟩
theorem pe_or2 {e : Expr} {t u : TE} (h : PE X e t) (g : PE X e u) : PE X e (fun σ H Q => t σ H Q ∨ u σ H Q) :=
  ⟨fun pins s σ H Q I q => q.elim (h.run pins s σ H Q I) (g.run pins s σ H Q I)⟩
theorem pi_or2 {tg e : Expr} {t u : TI} (h : PI X tg e t) (g : PI X tg e u) : PI X tg e (fun σ H Q => t σ H Q ∨ u σ H Q) :=
  ⟨fun pins s σ H Q I q => q.elim (h.run pins s σ H Q I) (g.run pins s σ H Q I)⟩
abbrev DE (X : Cx) (N : En) (W : WX) (e : Expr) (t : TDE) : Prop := PE X e (tD X.K X.mg N W t)
abbrev DB (X : Cx) (N : En) (W : WX) (e : Expr) (t : TDE) : Prop := PE X e (tB X.K X.mg N W t)
abbrev DT (X : Cx) (N : En) (W : WX) (e : Expr) (t : TDE) : Prop := PT X e (tT X.K X.mg N W t)
abbrev DW (X : Cx) (N : En) (W : WX) (e : Expr) (t : TDE) : Prop := PW X e (tT X.K X.mg N W t)
abbrev DA (X : Cx) (N : En) (W : WX) (es : List Expr) (t : TDA) : Prop := PA X es (tA X.K X.mg N W t)
abbrev DS1 (X : Cx) (N : En) (W : WX) (s : Stmt) (t : TDS) : Prop := PS X s (tS X.K X.mg N W t)
abbrev DSs (X : Cx) (N : En) (W : WX) (s : List Stmt) (t : TDS) : Prop := PSs X s (tS X.K X.mg N W t)

/-- data is there to be looked at -/
theorem de_b {e : Expr} {t : TDE} (h : DE X N W e t) : DB X N W e t := pe_imp h fun σ H Q q => by
  obtain ⟨ι, S, own, ρ, M, c, q⟩ := q
  refine ⟨ι, S, own, ρ, M, c, ?_⟩
  cases e : t ρ M with
  | none => rw [e] at q; exact q
  | some o =>
    rw [e] at q
    cases o with
    | ok d ρ' M' => exact fun v ι' S' H' own' c' x dn => q v ι' S' H' own' c' x (.dn dn)
    | ex x ρ' M' => exact q

/-! ### names, constants -/
def dC (d : D) : TDE := fun ρ M => some (.ok d ρ M)
def dVar (i : Nat) : TDE := fun ρ M => match ρ[i]? with
  | some (some (.t d)) => some (.ok d ρ M)
  | some (some (.own ds)) => some (.ok (.lst ds) (ρ.set i (some (.t (.lst ds)))) M)
  | some (some (.owd ks ds)) => some (.ok (.dct ks ds) (ρ.set i (some (.t (.dct ks ds)))) M)
  | _ => none
def dPeek (i : Nat) : TDE := fun ρ M => match ρ[i]? with
  | some (some (.t d)) => some (.ok d ρ M)
  | some (some (.own ds)) => some (.ok (.lst ds) ρ M)
  | some (some (.owd ks ds)) => some (.ok (.dct ks ds) ρ M)
  | some (some (.bor ds)) => some (.ok (.lst ds) ρ M)
  | some (some (.bod ks ds)) => some (.ok (.dct ks ds) ρ M)
  | _ => none
theorem de_const {e : Expr} {v : V} {d : D} (h : PE X e (tC v)) (hd : ∀ K mg S ι H, Dn K mg S ι H v d) : DE X N W e (dC d) := pe_imp h fun σ H Q q => by
  obtain ⟨ι, S, own, ρ, M, c, q⟩ := q
  exact q v ι S H own c .refl (hd _ _ _ _ _)
theorem de_int {i j pos} : DE X N W (.Constant (.int i) j pos) (dC (.int i)) := de_const pe_int fun _ _ _ _ _ => .int i
theorem de_str {x j pos} : DE X N W (.Constant (.str x) j pos) (dC (.str x)) := de_const pe_str fun _ _ _ _ _ => .str x
theorem de_bl {b j pos} : DE X N W (.Constant (.bool b) j pos) (dC (.bl b)) := de_const pe_bl fun _ _ _ _ _ => .bl b
theorem de_non {j pos} : DE X N W (.Constant .none j pos) (dC .non) := de_const pe_non fun _ _ _ _ _ => .non
theorem freeze_ow {i : Nat} {a : Addr} {own : OwnM} {S : AP} {H : Hp} (e : own i = some a) (hi : i < slotsB) : ∀ j b, own j = some b → H b = H b ∧ ((setO own i none) j = some b ∨ (j < slotsB ∧ addS S a b)) := fun j b hb => by
  refine ⟨rfl, ?_⟩
  unfold setO
  by_cases hj : j = i
  · subst hj
    rw [e] at hb
    cases hb
    exact .inr ⟨hi, .inr rfl⟩
  · rw [if_neg hj]; exact .inl hb
theorem de_var {e : Expr} {i : Nat} (h : PE X e (tVar i)) : DE X N W e (dVar i) := pe_imp h fun σ H Q q => by
  obtain ⟨ι, S, own, ρ, M, c, q⟩ := q
  unfold dVar at q
  cases e : ρ[i]? with
  | none => rw [e] at q; exact q.elim
  | some o =>
    rw [e] at q
    cases o with
    | none => exact q.elim
    | some x =>
      cases x with
      | t d =>
        obtain ⟨v, h1, h2⟩ := c.env.at_ i _ e
        exact ⟨v, h1, q v ι S H own c .refl h2.2⟩
      | own ds =>
        obtain ⟨v, a, ho, h1, h2, h3, h4⟩ := c.freeze e
        exact ⟨v, h1, q v ι _ H _ h3 ⟨h4, freeze_ow ho (Nat.lt_of_lt_of_le (List.getElem?_eq_some_iff.mp e).1 c.env.big)⟩ h2⟩
      | owd ks ds =>
        obtain ⟨v, a, ho, h1, h2, h3, h4⟩ := c.freezeD e
        exact ⟨v, h1, q v ι _ H _ h3 ⟨h4, freeze_ow ho (Nat.lt_of_lt_of_le (List.getElem?_eq_some_iff.mp e).1 c.env.big)⟩ h2⟩
      | bor ds => exact q.elim
      | bod ks ds => exact q.elim
      | owi p c ks ds => exact q.elim
      | fnv f => exact q.elim
theorem db_var {e : Expr} {i : Nat} (h : PE X e (tVar i)) : DB X N W e (dPeek i) := pe_imp h fun σ H Q q => by
  obtain ⟨ι, S, own, ρ, M, c, q⟩ := q
  unfold dPeek at q
  cases e : ρ[i]? with
  | none => rw [e] at q; exact q.elim
  | some o =>
    rw [e] at q
    cases o with
    | none => exact q.elim
    | some x =>
      cases x with
      | t d =>
        obtain ⟨v, h1, h2⟩ := c.env.at_ i _ e
        exact ⟨v, h1, q v ι S H own c .refl (.dn h2.2)⟩
      | own ds =>
        obtain ⟨v, h1, a, xs, rfl, h3, h4, h5⟩ := c.env.at_ i _ e
        exact ⟨_, h1, q _ ι S H own c .refl (.lst h3 h4 h5)⟩
      | owd ks ds =>
        obtain ⟨v, h1, a, xs, rfl, h3, h4, hl, h5⟩ := c.env.at_ i _ e
        exact ⟨_, h1, q _ ι S H own c .refl (.dct h3 h4 hl h5)⟩
      | bor ds =>
        obtain ⟨v, h1, a, xs, rfl, h3, h4, h5⟩ := c.env.at_ i _ e
        exact ⟨_, h1, q _ ι S H own c .refl (.lst h3 h4 h5)⟩
      | bod ks ds =>
        obtain ⟨v, h1, a, xs, rfl, h3, h4, hl, h5⟩ := c.env.at_ i _ e
        exact ⟨_, h1, q _ ι S H own c .refl (.dct h3 h4 hl h5)⟩
      | owi p c ks ds => exact q.elim
      | fnv f => exact q.elim

/-! ### one operand, two operands -/
/-- what an operation on values asks, in data -/
def UnD (X : Cx) (R : V → Hp → VK → Prop) (f : D → Option D) : Prop := ∀ (N : En) (ι : List Addr) (M : MS) (S : AP) (H : Hp) (own : OwnM) (x : V) (d e : D) (Q : VK), Ok X.K X.mg N ι M S H own → Bn X.K X.mg S ι H x d → f d = some e →
  (∀ v S' H', Ok X.K X.mg N ι M S' H' own → ExtE S ι H own S' ι H' own → Dn X.K X.mg S' ι H' v e → Q v H') → R x H Q
def BiD (X : Cx) (R : R2) (f : D → D → Option D) : Prop := ∀ (N : En) (ι : List Addr) (M : MS) (S : AP) (H : Hp) (own : OwnM) (x y : V) (d e g : D) (Q : VK), Ok X.K X.mg N ι M S H own → Bn X.K X.mg S ι H x d → Bn X.K X.mg S ι H y e → f d e = some g →
  (∀ v S' H', Ok X.K X.mg N ι M S' H' own → ExtE S ι H own S' ι H' own → Dn X.K X.mg S' ι H' v g → Q v H') → R x y H Q
def OpD (X : Cx) (fn : Value → Value → Sem Value) (f : D → D → Option D) : Prop := ∃ R, OpR X fn R ∧ BiD X R f
def dBind (a : TDE) (k : D → TDE) : TDE := fun ρ M => match a ρ M with
  | some (.ok d ρ1 M1) => k d ρ1 M1
  | o => o
def dOut (f : Option D) : TDE := fun ρ M => match f with
  | some d => some (.ok d ρ M)
  | none => none
def dUn (f : D → Option D) (a : TDE) : TDE := dBind a fun d => dOut (f d)
def dBin (f : D → D → Option D) (a b : TDE) : TDE := dBind a fun d => dBind b fun e => dOut (f d e)
theorem Cur.grow {K : PySem.W.Frag} {mg : Str → Option Value} {ι : List Addr} {M : MS} {S S' : AP} {H H' : Hp} {own : OwnM} {σ : L2.St} {ρ : DS} (c : Cur K mg N ι S H own σ ρ M) (k : Ok K mg N ι M S' H' own) (e : ExtE S ι H own S' ι H' own) : Cur K mg N ι S' H' own σ ρ M :=
  ⟨k, c.env.ext e.ext fun i a h => (e.ow i a h).1⟩
section
variable {K : PySem.W.Frag} {mg : Str → Option Value} {ι ι1 : List Addr} {M M1 : MS} {S S1 : AP} {H H1 : Hp} {own own1 : OwnM} {σ : L2.St} {ρ ρ' : DS}
theorem XPost.later {M' : MS} {x : XV} (e : Ext S ι H S1 ι1 H1) (h : XPost K mg N S ι H W σ x ρ' M') : XPost K mg N S1 ι1 H1 W σ x ρ' M' :=
  fun cls dd ι' S' H' own' c' x' k => h cls dd ι' S' H' own' c' (e.trans x') k
theorem postD.later {Q : VK} (c : Ok K mg N ι M S H own) (e : ExtE S ι H own S1 ι1 H1 own1) : ∀ {o : Option EO}, postD K mg N W ι S H own σ Q o → postD K mg N W ι1 S1 H1 own1 σ Q o
  | some (.ok d ρ' M'), h => fun v ι' S' H' own' c' x dn => h v ι' S' H' own' c' (e.trans c x) dn
  | some (.ex x ρ' M'), h => XPost.later e.ext h
  | none, h => h
theorem postT.later {Q : Bool → Hp → Prop} (c : Ok K mg N ι M S H own) (e : ExtE S ι H own S1 ι1 H1 own1) : ∀ {o : Option EO}, postT K mg N W ι S H own σ Q o → postT K mg N W ι1 S1 H1 own1 σ Q o
  | some (.ok (.bl b) ρ' M'), h => fun ι' S' H' own' c' x => h ι' S' H' own' c' (e.trans c x)
  | some (.ex x ρ' M'), h => XPost.later e.ext h
  | none, h => h
  | some (.ok .non _ _), h => h
  | some (.ok (.int _) _ _), h => h
  | some (.ok (.str _) _ _), h => h
  | some (.ok (.ty _) _ _), h => h
  | some (.ok (.lst _) _ _), h => h
  | some (.ok (.tup _) _ _), h => h
  | some (.ok (.dct _ _) _ _), h => h
  | some (.ok (.ins _ _ _) _ _), h => h
  | some (.ok (.exn _ _ _) _ _), h => h
  | some (.ok (.gl _) _ _), h => h
  | some (.ok (.obj _) _ _), h => h
  | some (.ok (.scr _) _ _), h => h
theorem postA.later {Q : List V → Hp → Prop} (c : Ok K mg N ι M S H own) (e : ExtE S ι H own S1 ι1 H1 own1) : ∀ {o : Option AO}, postA K mg N W ι S H own σ Q o → postA K mg N W ι1 S1 H1 own1 σ Q o
  | some (.ok ds ρ' M'), h => fun v ι' S' H' own' c' x dn => h v ι' S' H' own' c' (e.trans c x) dn
  | some (.ex x ρ' M'), h => XPost.later e.ext h
  | none, h => h
theorem postS.later {E : Ends} (e : Ext S ι H S1 ι1 H1) : ∀ {o : Option SO}, postS K mg N W ι S H E o → postS K mg N W ι1 S1 H1 E o
  | some (.nx ρ' M'), h => fun σ' ι' S' H' own' c' x => h σ' ι' S' H' own' c' (e.trans x)
  | some (.bk ρ' M'), h => fun σ' ι' S' H' own' c' x => h σ' ι' S' H' own' c' (e.trans x)
  | some (.ct ρ' M'), h => fun σ' ι' S' H' own' c' x => h σ' ι' S' H' own' c' (e.trans x)
  | some (.rt d M'), h => fun v ι' S' H' c' x dn => h v ι' S' H' c' (e.trans x) dn
  | some (.ex x ρ' M'), h => fun σ' => XPost.later e (h σ')
  | none, h => h
end
/-- e, then k of what came: the operand is looked at -/
theorem bind_b {t : TDE} {k : D → TDE} {σ : L2.St} {H : Hp} {Q Q' : VK} (h : tD X.K X.mg N W (dBind t k) σ H Q)
    (hq : ∀ x d ι S H1 own ρ M, Cur X.K X.mg N ι S H1 own σ ρ M → BnO X.K X.mg S ι H1 own x d → postD X.K X.mg N W ι S H1 own σ Q (k d ρ M) → Q' x H1) : tB X.K X.mg N W t σ H Q' := by
  obtain ⟨ι, S, own, ρ, M, c, q⟩ := h
  refine ⟨ι, S, own, ρ, M, c, ?_⟩
  unfold dBind at q
  cases e1 : t ρ M with
  | none => rw [e1] at q; exact q
  | some o1 =>
    rw [e1] at q
    cases o1 with
    | ex x ρ' M' => exact q
    | ok d ρ1 M1 => exact fun x ι1 S1 H1 own1 c1 x1 bx => hq x d ι1 S1 H1 own1 ρ1 M1 c1 bx (postD.later c.ok x1 q)
/-- .. the operand is data that is kept -/
theorem bind_d {t : TDE} {k : D → TDE} {σ : L2.St} {H : Hp} {Q Q' : VK} (h : tD X.K X.mg N W (dBind t k) σ H Q)
    (hq : ∀ x d ι S H1 own ρ M, Cur X.K X.mg N ι S H1 own σ ρ M → Dn X.K X.mg S ι H1 x d → postD X.K X.mg N W ι S H1 own σ Q (k d ρ M) → Q' x H1) : tD X.K X.mg N W t σ H Q' := by
  obtain ⟨ι, S, own, ρ, M, c, q⟩ := h
  refine ⟨ι, S, own, ρ, M, c, ?_⟩
  unfold dBind at q
  cases e1 : t ρ M with
  | none => rw [e1] at q; exact q
  | some o1 =>
    rw [e1] at q
    cases o1 with
    | ex x ρ' M' => exact q
    | ok d ρ1 M1 => exact fun x ι1 S1 H1 own1 c1 x1 bx => hq x d ι1 S1 H1 own1 ρ1 M1 c1 bx (postD.later c.ok x1 q)
theorem out_go {R : VK → Prop} {K : PySem.W.Frag} {mg : Str → Option Value} {ι : List Addr} {M : MS} {S : AP} {H : Hp} {own : OwnM} {σ : L2.St} {ρ : DS} {Q : VK} {o : Option D} (c : Cur K mg N ι S H own σ ρ M) (q : postD K mg N W ι S H own σ Q (dOut o ρ M))
    (h : ∀ g, o = some g → (∀ v S' H', Ok K mg N ι M S' H' own → ExtE S ι H own S' ι H' own → Dn K mg S' ι H' v g → Q v H') → R Q) : R Q := by
  cases e : o with
  | none => rw [e] at q; exact q.elim
  | some g =>
    rw [e] at q
    exact h g e fun v S' H' k x dn => q v ι S' H' own (c.grow k x) x dn
theorem un_core {R : V → Hp → VK → Prop} {f : D → Option D} {a : TDE} (hR : UnD X R f) : ∀ σ H Q, tD X.K X.mg N W (dUn f a) σ H Q → tUn R (tB X.K X.mg N W a) σ H Q := fun σ H Q q =>
  bind_b q fun x d ι S H1 own ρ M c b q => out_go (R := fun Q => R x H1 Q) c q fun g e k => hR N ι M S H1 own x d g Q c.ok b.bn e k
theorem bin_core {R : R2} {f : D → D → Option D} {a b : TDE} (hR : BiD X R f) : ∀ σ H Q, tD X.K X.mg N W (dBin f a b) σ H Q → tOp R (tB X.K X.mg N W a) (tB X.K X.mg N W b) σ H Q := fun σ H Q q => by
  obtain ⟨ι, S, own, ρ, M, c, q⟩ := q
  refine ⟨ι, S, own, ρ, M, c, ?_⟩
  unfold dBin dBind at q
  cases e1 : a ρ M with
  | none => rw [e1] at q; exact q
  | some o1 =>
    rw [e1] at q
    cases o1 with
    | ex x ρ' M' => exact q
    | ok d ρ1 M1 =>
      intro x ι1 S1 H1 own1 c1 x1 bx
      refine ⟨ι1, S1, own1, ρ1, M1, c1, ?_⟩
      cases e2 : b ρ1 M1 with
      | none => simp only [e2] at q; exact q
      | some o2 =>
        simp only [e2] at q
        cases o2 with
        | ex x' ρ' M' => exact XPost.later x1.ext q
        | ok d2 ρ2 M2 =>
          intro y ι2 S2 H2 own2 c2 x2 hy
          exact out_go (R := fun Q => R x y H2 Q) c2 (postD.later c1.ok x2 (postD.later c.ok x1 q)) fun g e k => hR N ι2 M2 S2 H2 own2 x y d d2 g Q c2.ok (bx.ext x2) hy.bn e k
theorem de_bin {ea eb : Expr} {op : Operator} {pos : Pos} {f : D → D → Option D} {a b : TDE} (ho : OpD X (binaryOp op) f) (ha : DB X N W ea a) (hb : DB X N W eb b) : DE X N W (.BinOp ea op eb pos) (dBin f a b) :=
  let ⟨_, h1, h2⟩ := ho
  pe_imp (pe_op h1 ha hb) (bin_core h2)
theorem de_cmp {ea eb : Expr} {op : CmpOp} {pos : Pos} {f : D → D → Option D} {a b : TDE} (ho : OpD X (compareOp op) f) (ha : DB X N W ea a) (hb : DB X N W eb b) (hm : behindInMarks op eb = false := by first | exact nobehind _ (by decide) (by decide) | rfl) :
    DE X N W (.Compare ea [op] [eb] pos) (dBin f a b) :=
  let ⟨_, h1, h2⟩ := ho
  pe_imp (pe_cmpR h1 ha hb hm) (bin_core h2)
def dTest (t : TDE) : TDE := dBind t fun d => dOut (match d with
  | .bl b => some (.bl b)
  | _ => none)
theorem test_core {t : TDE} : ∀ σ H (Q : Bool → Hp → Prop), tT X.K X.mg N W t σ H Q → tTest (tD X.K X.mg N W t) σ H Q := fun σ H Q q => by
  obtain ⟨ι, S, own, ρ, M, c, q⟩ := q
  refine ⟨ι, S, own, ρ, M, c, ?_⟩
  cases e : t ρ M with
  | none => rw [e] at q; exact q
  | some o =>
    rw [e] at q
    cases o with
    | ex x ρ' M' => exact q
    | ok d ρ' M' =>
      cases d with
      | bl b =>
        intro v ι' S' H' own' c' x dn
        cases dn with
        | bl b => exact ⟨b, rfl, q ι' S' H' own' c' x⟩
      | _ => exact q.elim
theorem dt_cmp {ea eb : Expr} {op : CmpOp} {pos : Pos} {f : D → D → Option D} {a b : TDE} (ho : OpD X (compareOp op) f) (ha : DB X N W ea a) (hb : DB X N W eb b) (hm : behindInMarks op eb = false := by first | exact nobehind _ (by decide) (by decide) | rfl) :
    DT X N W (.Compare ea [op] [eb] pos) (dBin f a b) := by
  obtain ⟨R, h1, h2⟩ := ho
  refine pt_imp (pt_cmpR h1 ha hb hm) fun σ H Q q => ?_
  have := test_core (X := X) (N := N) (W := W) (t := dBin f a b) σ H Q q
  exact bin_core h2 σ H _ this
end
end DL
set_option maxHeartbeats 2000000
namespace DL
open PySem PySem.Spec PyProof.Rows L2

/-! ### truth -/
def truD : D → Option Bool
  | .non => some false
  | .bl b => some b
  | .int i => some (i != 0)
  | .str s => if s.length ≤ sizeLine then some ((s.length : Int) != 0) else none
  | .lst ds => some (!ds.isEmpty)
  | .tup ds => some (!ds.isEmpty)
  | .dct ks _ => some (!ks.isEmpty)
  | _ => none
section
variable {K : PySem.W.Frag} {mg : Str → Option Value} {ι : List Addr} {S : AP} {H : Hp}
theorem Dns.isEmpty {xs : List V} {ds : List D} (h : Dns K mg S ι H xs ds) : xs.isEmpty = ds.isEmpty := by
  cases h <;> rfl
theorem zip_isEmpty {α β : Type} {ks : List α} {xs : List β} (h : xs.length = ks.length) : (ks.zip xs).isEmpty = ks.isEmpty := by
  cases ks with
  | nil => rfl
  | cons k r =>
    cases xs with
    | nil => cases h
    | cons x s => rfl
theorem Bn.tru {x : V} {d : D} {k : Bool} (b : Bn K mg S ι H x d) (e : truD d = some k) : TruV K x H k := by
  cases b with
  | lst h1 h2 =>
    cases e
    exact .inl ⟨_, SqL.of h1, by rw [h2.isEmpty]⟩
  | dct h1 l h2 =>
    cases e
    exact .inr (.inr ⟨_, h1, by rw [zip_isEmpty l]⟩)
  | dn h =>
    cases h with
    | non => cases e; exact rfl
    | bl b => cases e; exact rfl
    | int i => cases e; exact rfl
    | str y =>
      by_cases hz : y.length ≤ sizeLine
      · have e' : (if y.length ≤ sizeLine then some ((y.length : Int) != 0) else none) = some k := e
        rw [if_pos hz] at e'
        cases e'; exact ⟨hz, rfl⟩
      · have e' : (if y.length ≤ sizeLine then some ((y.length : Int) != 0) else none) = some k := e
        rw [if_neg hz] at e'
        cases e'
    | lst h t => cases e; exact .inl ⟨_, h.sq, by rw [t.isEmpty]⟩
    | tup h t => cases e; exact .inr (.inl ⟨_, h.sq, by rw [t.isEmpty]⟩)
    | dct s h l t => cases e; exact .inr (.inr ⟨_, h, by rw [zip_isEmpty l]⟩)
    | _ => cases e
end
section
variable {X : Cx} {N : En} {W : WX}
def dTru (a : TDE) : TDE := fun ρ M => match a ρ M with
  | some (.ok d ρ1 M1) => match truD d with
    | some b => some (.ok (.bl b) ρ1 M1)
    | none => none
  | o => o
theorem tru_core {t : TDE} : ∀ σ H (Q : Bool → Hp → Prop), tT X.K X.mg N W (dTru t) σ H Q → tB X.K X.mg N W t σ H fun x H' => ∃ k, TruV X.K x H' k ∧ Q k H' := fun σ H Q q => by
  obtain ⟨ι, S, own, ρ, M, c, q⟩ := q
  refine ⟨ι, S, own, ρ, M, c, ?_⟩
  unfold dTru at q
  cases e : t ρ M with
  | none => rw [e] at q; exact q
  | some o =>
    rw [e] at q
    cases o with
    | ex x ρ' M' => exact q
    | ok d ρ' M' =>
      simp only at q
      cases e2 : truD d with
      | none => rw [e2] at q; exact q.elim
      | some b =>
        rw [e2] at q
        exact fun v ι' S' H' own' c' x bn => ⟨b, bn.bn.tru e2, q ι' S' H' own' c' x⟩
theorem dt_truth {e : Expr} {a : TDE} (ha : DB X N W e a) (he : ∀ whole, isTrue e X.env whole = (do let v ← whole; standAt e.pos; holding [v] (truthy v)) := by intro _; rfl) : DT X N W e (dTru a) :=
  pt_imp (pt_truth ha he) tru_core
def dNot (a : TDE) : TDE := fun ρ M => match a ρ M with
  | some (.ok (.bl b) ρ1 M1) => some (.ok (.bl (!b)) ρ1 M1)
  | some (.ok _ _ _) => none
  | o => o
theorem not_core {t : TDE} : ∀ σ H (Q : Bool → Hp → Prop), tT X.K X.mg N W (dNot t) σ H Q → tT X.K X.mg N W t σ H fun b H' => Q (!b) H' := fun σ H Q q => by
  obtain ⟨ι, S, own, ρ, M, c, q⟩ := q
  refine ⟨ι, S, own, ρ, M, c, ?_⟩
  unfold dNot at q
  cases e : t ρ M with
  | none => rw [e] at q; exact q
  | some o =>
    rw [e] at q
    cases o with
    | ex x ρ' M' => exact q
    | ok d ρ' M' =>
      cases d with
      | bl b => exact q
      | _ => exact q.elim
theorem dt_not {e : Expr} {pos : Pos} {a : TDE} (ha : DT X N W e a) : DT X N W (.UnaryOp .Not e pos) (dNot a) := pt_imp (pt_not ha) not_core
/-- not e, as a value -/
theorem de_not {e : Expr} {pos : Pos} {a : TDE} (ha : DB X N W e a) : DE X N W (.UnaryOp .Not e pos) (dNot (dTru a)) := pe_imp (pe_notT ha) fun σ H Q q => by
  have q' : tT X.K X.mg N W (dNot (dTru a)) σ H fun b H' => Q (.bl b) H' := by
    obtain ⟨ι, S, own, ρ, M, c, q⟩ := q
    refine ⟨ι, S, own, ρ, M, c, ?_⟩
    unfold dNot at q ⊢
    cases e1 : dTru a ρ M with
    | none => rw [e1] at q; exact q
    | some o =>
      rw [e1] at q
      cases o with
      | ex x ρ' M' => exact q
      | ok d ρ' M' =>
        cases d with
        | bl b => exact fun ι' S' H' own' c' x => q _ ι' S' H' own' c' x (.bl _)
        | _ => exact q.elim
  exact tru_core σ H _ (not_core σ H _ q')
def dAndT (a b : TDE) : TDE := fun ρ M => match a ρ M with
  | some (.ok (.bl true) ρ1 M1) => b ρ1 M1
  | some (.ok (.bl false) ρ1 M1) => some (.ok (.bl false) ρ1 M1)
  | some (.ok _ _ _) => none
  | o => o
def dOrT (a b : TDE) : TDE := fun ρ M => match a ρ M with
  | some (.ok (.bl false) ρ1 M1) => b ρ1 M1
  | some (.ok (.bl true) ρ1 M1) => some (.ok (.bl true) ρ1 M1)
  | some (.ok _ _ _) => none
  | o => o
theorem and_core {t u : TDE} : ∀ σ H (Q : Bool → Hp → Prop), tT X.K X.mg N W (dAndT t u) σ H Q → tAnd (tT X.K X.mg N W t) (tT X.K X.mg N W u) σ H Q := fun σ H Q q => by
  obtain ⟨ι, S, own, ρ, M, c, q⟩ := q
  refine ⟨ι, S, own, ρ, M, c, ?_⟩
  unfold dAndT at q
  cases e : t ρ M with
  | none => rw [e] at q; exact q
  | some o =>
    rw [e] at q
    cases o with
    | ex x ρ' M' => exact q
    | ok d ρ' M' =>
      cases d with
      | bl b =>
        intro ι' S' H' own' c' x
        cases b with
        | true => exact iteT ⟨ι', S', own', ρ', M', c', postT.later c.ok x q⟩
        | false => exact iteF (q ι' S' H' own' c' x)
      | _ => exact q.elim
theorem or_core {t u : TDE} : ∀ σ H (Q : Bool → Hp → Prop), tT X.K X.mg N W (dOrT t u) σ H Q → tOr (tT X.K X.mg N W t) (tT X.K X.mg N W u) σ H Q := fun σ H Q q => by
  obtain ⟨ι, S, own, ρ, M, c, q⟩ := q
  refine ⟨ι, S, own, ρ, M, c, ?_⟩
  unfold dOrT at q
  cases e : t ρ M with
  | none => rw [e] at q; exact q
  | some o =>
    rw [e] at q
    cases o with
    | ex x ρ' M' => exact q
    | ok d ρ' M' =>
      cases d with
      | bl b =>
        intro ι' S' H' own' c' x
        cases b with
        | false => exact iteF ⟨ι', S', own', ρ', M', c', postT.later c.ok x q⟩
        | true => exact iteT (q ι' S' H' own' c' x)
      | _ => exact q.elim
theorem dw_and1 {e : Expr} {pos : Pos} {a : TDE} (ha : DT X N W e a) : DW X N W (.BoolOp .And [e] pos) a := pw_and1 ha
theorem dw_or1 {e : Expr} {pos : Pos} {a : TDE} (ha : DT X N W e a) : DW X N W (.BoolOp .Or [e] pos) a := pw_or1 ha
theorem dw_and {e f : Expr} {r : List Expr} {pos : Pos} {a b : TDE} (ha : DT X N W e a) (hb : DW X N W (.BoolOp .And (f :: r) pos) b) : DW X N W (.BoolOp .And (e :: f :: r) pos) (dAndT a b) := pw_imp (pw_and ha hb) and_core
theorem dw_or {e f : Expr} {r : List Expr} {pos : Pos} {a b : TDE} (ha : DT X N W e a) (hb : DW X N W (.BoolOp .Or (f :: r) pos) b) : DW X N W (.BoolOp .Or (e :: f :: r) pos) (dOrT a b) := pw_imp (pw_or ha hb) or_core
theorem dw_t {e : Expr} {a : TDE} (h : DW X N W e a) : DT X N W e a := PW.pt h
/-- a and b, a or b as values, by truth -/
def dAndV (a b : TDE) : TDE := dBind a fun d ρ M => match truD d with
  | some true => b ρ M
  | some false => some (.ok d ρ M)
  | none => none
def dOrV (a b : TDE) : TDE := dBind a fun d ρ M => match truD d with
  | some false => b ρ M
  | some true => some (.ok d ρ M)
  | none => none
theorem de_one {op : BoolOp} {e : Expr} {pos : Pos} {a : TDE} (h : DE X N W e a) : DE X N W (.BoolOp op [e] pos) a := pe_one h
theorem de_and {e f : Expr} {r : List Expr} {pos : Pos} {a b : TDE} (ha : DE X N W e a) (hb : DE X N W (.BoolOp .And (f :: r) pos) b) : DE X N W (.BoolOp .And (e :: f :: r) pos) (dAndV a b) :=
  pe_imp (pe_andT ha hb) fun σ H Q q => bind_d q fun x d ι S H1 own ρ M c dn q => by
    cases e1 : truD d with
    | none => simp only [e1] at q; exact q.elim
    | some k =>
      simp only [e1] at q
      refine ⟨k, Bn.tru (.dn dn) e1, ?_⟩
      cases k with
      | true => exact iteT ⟨ι, S, own, ρ, M, c, q⟩
      | false => exact iteF (q x ι S H1 own c .refl dn)
theorem de_or {e f : Expr} {r : List Expr} {pos : Pos} {a b : TDE} (ha : DE X N W e a) (hb : DE X N W (.BoolOp .Or (f :: r) pos) b) : DE X N W (.BoolOp .Or (e :: f :: r) pos) (dOrV a b) :=
  pe_imp (pe_orT ha hb) fun σ H Q q => bind_d q fun x d ι S H1 own ρ M c dn q => by
    cases e1 : truD d with
    | none => simp only [e1] at q; exact q.elim
    | some k =>
      simp only [e1] at q
      refine ⟨k, Bn.tru (.dn dn) e1, ?_⟩
      cases k with
      | false => exact iteF ⟨ι, S, own, ρ, M, c, q⟩
      | true => exact iteT (q x ι S H1 own c .refl dn)
/-- a if t else b -/
def dIfE (t a b : TDE) : TDE := fun ρ M => match t ρ M with
  | some (.ok (.bl true) ρ1 M1) => a ρ1 M1
  | some (.ok (.bl false) ρ1 M1) => b ρ1 M1
  | some (.ok _ _ _) => none
  | o => o
theorem de_if {c a b : Expr} {pos : Pos} {t u v : TDE} (hc : DT X N W c t) (ha : DE X N W a u) (hb : DE X N W b v) : DE X N W (.IfExp c a b pos) (dIfE t u v) := pe_imp (pe_ifExp hc ha hb) fun σ H Q q => by
  obtain ⟨ι, S, own, ρ, M, c, q⟩ := q
  refine ⟨ι, S, own, ρ, M, c, ?_⟩
  unfold dIfE at q
  cases e : t ρ M with
  | none => rw [e] at q; exact q
  | some o =>
    rw [e] at q
    cases o with
    | ex x ρ' M' => exact q
    | ok d ρ' M' =>
      cases d with
      | bl b =>
        intro ι' S' H' own' c' x
        cases b with
        | true => exact iteT ⟨ι', S', own', ρ', M', c', postD.later c.ok x q⟩
        | false => exact iteF ⟨ι', S', own', ρ', M', c', postD.later c.ok x q⟩
      | _ => exact q.elim

/-! ### arguments, displays -/
def aNil : TDA := fun ρ M => some (.ok [] ρ M)
def aCons (a : TDE) (r : TDA) : TDA := fun ρ M => match a ρ M with
  | some (.ok d ρ1 M1) => match r ρ1 M1 with
    | some (.ok ds ρ2 M2) => some (.ok (d :: ds) ρ2 M2)
    | o => o
  | some (.ex x ρ1 M1) => some (.ex x ρ1 M1)
  | none => none
theorem da_nil : DA X N W [] aNil := pa_imp pa_nil fun σ H Q q => by
  obtain ⟨ι, S, own, ρ, M, c, q⟩ := q
  exact q [] ι S H own c .refl .nil
theorem da_cons {e : Expr} {es : List Expr} {a : TDE} {r : TDA} (ha : DE X N W e a) (hr : DA X N W es r) (hs : starEach (e :: es) X.env = (false, eval e X.env) :: starEach es X.env := by rfl) : DA X N W (e :: es) (aCons a r) :=
  pa_imp (pa_cons ha hr hs) fun σ H Q q => by
    obtain ⟨ι, S, own, ρ, M, c, q⟩ := q
    refine ⟨ι, S, own, ρ, M, c, ?_⟩
    unfold aCons at q
    cases e1 : a ρ M with
    | none => rw [e1] at q; exact q
    | some o1 =>
      rw [e1] at q
      cases o1 with
      | ex x ρ' M' => exact q
      | ok d ρ1 M1 =>
        intro v ι1 S1 H1 own1 c1 x1 dn
        refine ⟨ι1, S1, own1, ρ1, M1, c1, ?_⟩
        cases e2 : r ρ1 M1 with
        | none => simp only [e2] at q; exact q
        | some o2 =>
          simp only [e2] at q
          cases o2 with
          | ex x ρ' M' => exact XPost.later x1.ext q
          | ok ds ρ2 M2 => exact fun vs ι2 S2 H2 own2 c2 x2 dns => q (v :: vs) ι2 S2 H2 own2 c2 (x1.trans c.ok x2) (.cons (dn.ext x2.ext) dns)
def aBind (a : TDA) (k : List D → TDE) : TDE := fun ρ M => match a ρ M with
  | some (.ok ds ρ1 M1) => k ds ρ1 M1
  | some (.ex x ρ1 M1) => some (.ex x ρ1 M1)
  | none => none
theorem bind_a {t : TDA} {k : List D → TDE} {σ : L2.St} {H : Hp} {Q : VK} {Q' : List V → Hp → Prop} (h : tD X.K X.mg N W (aBind t k) σ H Q)
    (hq : ∀ xs ds ι S H1 own ρ M, Cur X.K X.mg N ι S H1 own σ ρ M → Dns X.K X.mg S ι H1 xs ds → postD X.K X.mg N W ι S H1 own σ Q (k ds ρ M) → Q' xs H1) : tA X.K X.mg N W t σ H Q' := by
  obtain ⟨ι, S, own, ρ, M, c, q⟩ := h
  refine ⟨ι, S, own, ρ, M, c, ?_⟩
  unfold aBind at q
  cases e1 : t ρ M with
  | none => rw [e1] at q; exact q
  | some o1 =>
    rw [e1] at q
    cases o1 with
    | ex x ρ' M' => exact q
    | ok d ρ1 M1 => exact fun x ι1 S1 H1 own1 c1 x1 bx => hq x d ι1 S1 H1 own1 ρ1 M1 c1 bx (postD.later c.ok x1 q)
def dTup (a : TDA) : TDE := aBind a fun ds => dOut (if ds.length ≤ sizeLine then some (.tup ds) else none)
def dLst (a : TDA) : TDE := aBind a fun ds => dOut (if ds.length ≤ sizeLine then some (.lst ds) else none)
theorem de_tup {es : List Expr} {k} {pos : Pos} {a : TDA} (ha : DA X N W es a) : DE X N W (.Tuple es k pos) (dTup a) := pe_imp (pe_tup ha) fun σ H Q q =>
  bind_a q fun xs ds ι S H1 own ρ M c dn q => out_go (R := fun Q => xs.length ≤ sizeLine ∧ ∀ p, H1 p = none → Q (.ref p) (upd H1 p (.tup xs))) c q fun g e k => by
    split at e
    · cases e
      refine ⟨by rw [dn.length]; assumption, fun p hp => k _ _ _ (c.ok.alloc hp) ⟨c.ok.alloc_ext hp, fun i a h => ⟨c.ok.hown hp i a h, .inl h⟩⟩ (.tup (.inl ⟨.inr rfl, .inl upd_same⟩) (dn.ext (c.ok.alloc_ext hp)))⟩
    · cases e
theorem de_lst {es : List Expr} {pos : Pos} {a : TDA} (ha : DA X N W es a) : DE X N W (.List es pos) (dLst a) := pe_imp (pe_lst ha) fun σ H Q q =>
  bind_a q fun xs ds ι S H1 own ρ M c dn q => out_go (R := fun Q => xs.length ≤ sizeLine ∧ ∀ p, H1 p = none → Q (.ref p) (upd H1 p (.lst xs))) c q fun g e k => by
    split at e
    · cases e
      refine ⟨by rw [dn.length]; assumption, fun p hp => k _ _ _ (c.ok.alloc hp) ⟨c.ok.alloc_ext hp, fun i a h => ⟨c.ok.hown hp i a h, .inl h⟩⟩ (.lst ⟨.inr rfl, upd_same⟩ (dn.ext (c.ok.alloc_ext hp)))⟩
    · cases e

/-! ### statements -/
def sNext : TDS := fun ρ M => some (.nx ρ M)
def sSeq (t u : TDS) : TDS := fun ρ M => match t ρ M with
  | some (.nx ρ1 M1) => u ρ1 M1
  | o => o
theorem seq_core {t u : TDS} : ∀ E σ H, tS X.K X.mg N W (sSeq t u) E σ H → tSeq (tS X.K X.mg N W t) (tS X.K X.mg N W u) E σ H := fun E σ H q => by
  obtain ⟨ι, S, own, ρ, M, c, q⟩ := q
  refine ⟨ι, S, own, ρ, M, c, ?_⟩
  unfold sSeq at q
  cases e : t ρ M with
  | none => rw [e] at q; exact q
  | some o =>
    rw [e] at q
    cases o with
    | nx ρ1 M1 => exact fun σ' ι' S' H' own' c' x => ⟨ι', S', own', ρ1, M1, c', postS.later x q⟩
    | rt d M' => exact q
    | bk ρ' M' => exact q
    | ct ρ' M' => exact q
    | ex x ρ' M' => exact q
theorem dss_nil : DSs X N W [] sNext := pss_imp pss_nil fun E σ H q => by
  obtain ⟨ι, S, own, ρ, M, c, q⟩ := q
  exact q σ ι S H own c .refl
theorem dss_cons {st : Stmt} {r : List Stmt} {t u : TDS} (h : DS1 X N W st t) (g : DSs X N W r u) : DSs X N W (st :: r) (sSeq t u) := pss_imp (pss_cons h g) seq_core
theorem dss_one {st : Stmt} {t : TDS} (h : DS1 X N W st t) : DSs X N W [st] t := pss_one h
theorem ds_pass {pos : Pos} : DS1 X N W (.Pass pos) sNext := ps_imp ps_pass fun E σ H q => by
  obtain ⟨ι, S, own, ρ, M, c, q⟩ := q
  exact q σ ι S H own c .refl
def sBreak : TDS := fun ρ M => some (.bk ρ M)
def sCont : TDS := fun ρ M => some (.ct ρ M)
theorem ds_break {pos : Pos} : DS1 X N W (.Break pos) sBreak := ps_imp ps_break fun E σ H q => by
  obtain ⟨ι, S, own, ρ, M, c, q⟩ := q
  exact q σ ι S H own c .refl
theorem ds_cont {pos : Pos} : DS1 X N W (.Continue pos) sCont := ps_imp ps_continue fun E σ H q => by
  obtain ⟨ι, S, own, ρ, M, c, q⟩ := q
  exact q σ ι S H own c .refl
/-- e, then a statement's end -/
def sBind (a : TDE) (k : D → TDS) : TDS := fun ρ M => match a ρ M with
  | some (.ok d ρ1 M1) => k d ρ1 M1
  | some (.ex x ρ1 M1) => some (.ex x ρ1 M1)
  | none => none
theorem sbind_d {t : TDE} {k : D → TDS} {σ : L2.St} {H : Hp} {E : Ends} {Q' : VK} (h : tS X.K X.mg N W (sBind t k) E σ H)
    (hq : ∀ x d ι S H1 own ρ M, Cur X.K X.mg N ι S H1 own σ ρ M → Dn X.K X.mg S ι H1 x d → postS X.K X.mg N W ι S H1 E (k d ρ M) → Q' x H1) : tD X.K X.mg N W t σ H Q' := by
  obtain ⟨ι, S, own, ρ, M, c, q⟩ := h
  refine ⟨ι, S, own, ρ, M, c, ?_⟩
  unfold sBind at q
  cases e1 : t ρ M with
  | none => rw [e1] at q; exact q
  | some o1 =>
    rw [e1] at q
    cases o1 with
    | ex x ρ' M' => exact q σ
    | ok d ρ1 M1 => exact fun x ι1 S1 H1 own1 c1 x1 bx => hq x d ι1 S1 H1 own1 ρ1 M1 c1 bx (postS.later x1.ext q)
theorem sbind_b {t : TDE} {k : D → TDS} {σ : L2.St} {H : Hp} {E : Ends} {Q' : VK} (h : tS X.K X.mg N W (sBind t k) E σ H)
    (hq : ∀ x d ι S H1 own ρ M, Cur X.K X.mg N ι S H1 own σ ρ M → BnO X.K X.mg S ι H1 own x d → postS X.K X.mg N W ι S H1 E (k d ρ M) → Q' x H1) : tB X.K X.mg N W t σ H Q' := by
  obtain ⟨ι, S, own, ρ, M, c, q⟩ := h
  refine ⟨ι, S, own, ρ, M, c, ?_⟩
  unfold sBind at q
  cases e1 : t ρ M with
  | none => rw [e1] at q; exact q
  | some o1 =>
    rw [e1] at q
    cases o1 with
    | ex x ρ' M' => exact q σ
    | ok d ρ1 M1 => exact fun x ι1 S1 H1 own1 c1 x1 bx => hq x d ι1 S1 H1 own1 ρ1 M1 c1 bx (postS.later x1.ext q)
def sDrop (a : TDE) : TDS := sBind a fun _ => sNext
theorem ds_expr {e : Expr} {pos : Pos} {a : TDE} (h : DE X N W e a) (hs : swapsWith e none pos.line X.env = pure false := by rfl) : DS1 X N W (.Expr e pos) (sDrop a) := ps_imp (ps_expr h hs) fun E σ H q =>
  sbind_d q fun x d ι S H1 own ρ M c dn q => q σ ι S H1 own c .refl
def sRet (a : TDE) : TDS := sBind a fun d _ M => some (.rt d M)
theorem Ok.noOwn {K : PySem.W.Frag} {mg : Str → Option Value} {ι : List Addr} {M : MS} {S : AP} {H : Hp} {own : OwnM} (k : Ok K mg N ι M S H own) : Ok K mg N ι M S H DL.own0 :=
  ⟨k.len, k.pre, k.fresh, k.objs, k.nd, k.iout, (fun _ _ h => nomatch h), (fun _ _ _ h => nomatch h), ⟨0, fun _ _ => rfl⟩, k.sub, k.new, k.keep, k.trk, k.sat, k.tb⟩
theorem ds_ret {e : Expr} {pos : Pos} {a : TDE} (h : DE X N W e a) : DS1 X N W (.Return (some e) pos) (sRet a) := ps_imp (ps_ret h) fun E σ H q =>
  sbind_d q fun x d ι S H1 own ρ M c dn q => q x ι S H1 c.ok.noOwn .refl dn
def sRetN : TDS := fun _ M => some (.rt .non M)
theorem ds_retN {pos : Pos} : DS1 X N W (.Return none pos) sRetN := ps_imp ps_retN fun E σ H q => by
  obtain ⟨ι, S, own, ρ, M, c, q⟩ := q
  exact q .non ι S H c.ok.noOwn .refl .non
def sIf (t : TDE) (u v : TDS) : TDS := fun ρ M => match t ρ M with
  | some (.ok (.bl true) ρ1 M1) => u ρ1 M1
  | some (.ok (.bl false) ρ1 M1) => v ρ1 M1
  | some (.ok _ _ _) => none
  | some (.ex x ρ1 M1) => some (.ex x ρ1 M1)
  | none => none
theorem ds_if {c : Expr} {a b : List Stmt} {pos : Pos} {t : TDE} {u v : TDS} (hc : DT X N W c t) (ha : DSs X N W a u) (hb : DSs X N W b v) : DS1 X N W (.If c a b pos) (sIf t u v) := ps_imp (ps_if hc ha hb) fun E σ H q => by
  obtain ⟨ι, S, own, ρ, M, c, q⟩ := q
  refine ⟨ι, S, own, ρ, M, c, ?_⟩
  unfold sIf at q
  cases e : t ρ M with
  | none => rw [e] at q; exact q
  | some o =>
    rw [e] at q
    cases o with
    | ex x ρ' M' => exact q σ
    | ok d ρ' M' =>
      cases d with
      | bl b =>
        intro ι' S' H' own' c' x
        cases b with
        | true => exact iteT ⟨ι', S', own', ρ', M', c', postS.later x.ext q⟩
        | false => exact iteF ⟨ι', S', own', ρ', M', c', postS.later x.ext q⟩
      | _ => exact q.elim
/-- x = e -/
def sSet (i : Nat) (a : TDE) : TDS := sBind a fun d ρ M => some (.nx (ρ.set i (some (.t d))) M)
theorem ds_set {st : Stmt} {i : Nat} {a : TDE} (h : PS X st (tAsg (tD X.K X.mg N W a) (gName i))) : DS1 X N W st (sSet i a) := ps_imp h fun E σ H q =>
  sbind_d q fun x d ι S H1 own ρ M c dn q => q _ ι S H1 _ (c.store dn) .refl
end
end DL
set_option maxHeartbeats 2000000
namespace DL
open PySem PySem.Spec PyProof.Rows L2

/-! ### data as the library's own data -/
mutual
def toPy : D → Option PyData
  | .non => some .none
  | .bl b => some (.bool b)
  | .int i => some (.int i)
  | .str s => some (.str s)
  | .lst ds => (toPys ds).map .list
  | .tup ds => (toPys ds).map .tuple
  | _ => none
def toPys : List D → Option (List PyData)
  | [] => some []
  | d :: ds => (toPy d).bind fun p => (toPys ds).map fun ps => p :: ps
end
section
variable {K : PySem.W.Frag} {mg : Str → Option Value} {S : AP} {ι : List Addr} {H : Hp}
mutual
theorem Dn.dp : ∀ {v : V} {d : D} {p : PyData}, Dn K mg S ι H v d → toPy d = some p → Dp K H v p
  | _, _, _, .non, e => by cases e; exact .non
  | _, _, _, .bl b, e => by cases e; exact .bl b
  | _, _, _, .int i, e => by cases e; exact .int i
  | _, _, _, .str x, e => by cases e; exact .str x
  | _, _, _, .ty n, e => by cases e
  | _, _, _, .lst (ds := ds) h t, e => by
    have e' : (toPys ds).map PyData.list = some _ := e
    cases e2 : toPys ds with
    | none => rw [e2] at e'; cases e'
    | some ps => rw [e2] at e'; cases e'; exact .lst h.sq (Dns.dp t e2)
  | _, _, _, .tup (ds := ds) h t, e => by
    have e' : (toPys ds).map PyData.tuple = some _ := e
    cases e2 : toPys ds with
    | none => rw [e2] at e'; cases e'
    | some ps => rw [e2] at e'; cases e'; exact .tup h.sq (Dns.dp t e2)
  | _, _, _, .dct s h l t, e => by cases e
  | _, _, _, .ins s h l m t, e => by cases e
  | _, _, _, .exn s h sd hd l m t, e => by cases e
  | _, _, _, .exn0 s h m, e => by cases e
  | _, _, _, .gl m r, e => by cases e
  | _, _, _, .obj h, e => by cases e
  | _, _, _, .scr h t, e => by cases e
theorem Dns.dp : ∀ {vs : List V} {ds : List D} {ps : List PyData}, Dns K mg S ι H vs ds → toPys ds = some ps → DpAll K H vs ps
  | _, _, _, .nil, e => by cases e; exact .nil
  | _, _, _, .cons (d := d) (ds := ds) h t, e => by
    have e' : ((toPy d).bind fun p => (toPys ds).map fun ps => p :: ps) = some _ := e
    cases e1 : toPy d with
    | none => rw [e1] at e'; cases e'
    | some p =>
      rw [e1] at e'
      cases e2 : toPys ds with
      | none => rw [e2] at e'; cases e'
      | some ps => rw [e2] at e'; cases e'; exact .cons (Dn.dp h e1) (Dns.dp t e2)
end
theorem Bn.dp {v : V} {d : D} {p : PyData} (b : Bn K mg S ι H v d) (e : toPy d = some p) : Dp K H v p := by
  cases b with
  | dn h => exact h.dp e
  | lst h t =>
    rename_i ds
    have e' : (toPys ds).map PyData.list = some _ := e
    cases e2 : toPys ds with
    | none => rw [e2] at e'; cases e'
    | some ps => rw [e2] at e'; cases e'; exact .lst (SqL.of h) (Dns.dp t e2)
  | dct h l t => cases e
/-- two lists' worth: the data's own list at its address -/
theorem Bn.lstAt {v : V} {ds : List D} (b : Bn K mg S ι H v (.lst ds)) : ∃ a xs, v = .ref a ∧ H a = some (.lst xs) ∧ Dns K mg S ι H xs ds := by
  cases b with
  | dn h =>
    cases h with
    | lst h t => exact ⟨_, _, rfl, h.2, t⟩
  | lst h t => exact ⟨_, _, rfl, h, t⟩
theorem Bn.tupAt {v : V} {ds : List D} (b : Bn K mg S ι H v (.tup ds)) : ∃ a xs, v = .ref a ∧ SqT K H a xs ∧ Dns K mg S ι H xs ds ∧ Dn K mg S ι H v (.tup ds) := by
  cases b with
  | dn h =>
    have h' := h
    cases h with
    | tup h t => exact ⟨_, _, rfl, h.sq, t, h'⟩
theorem Bn.intAt {v : V} {i : Int} (b : Bn K mg S ι H v (.int i)) : v = .int i := by
  cases b with
  | dn h => cases h; rfl
theorem Bn.strAt {v : V} {i : Str} (b : Bn K mg S ι H v (.str i)) : v = .str i := by
  cases b with
  | dn h => cases h; rfl
theorem Bn.blAt {v : V} {i : Bool} (b : Bn K mg S ι H v (.bl i)) : v = .bl i := by
  cases b with
  | dn h => cases h; rfl
theorem Bn.nonAt {v : V} (b : Bn K mg S ι H v .non) : v = .non := by
  cases b with
  | dn h => cases h; rfl
end

section
variable {X : Cx} {N : En} {W : WX}
/-! ### operators -/
theorem OpD.mk {fn : Value → Value → Sem Value} {f : D → D → Option D} {R : R2} (h : OpR X fn R) (g : BiD X R f) : OpD X fn f := ⟨R, h, g⟩
/-- one or the other -/
theorem BiD.or {R R' : R2} {f g : D → D → Option D} (h : BiD X R f) (h' : BiD X R' g) : BiD X (fun x y H Q => R x y H Q ∨ R' x y H Q) (fun d e => (f d e).orElse fun _ => g d e) := by
  intro N ι M S H own x y d e r Q k b1 b2 q k'
  have q : ((f d e).orElse fun _ => g d e) = some r := q
  cases h1 : f d e with
  | some z =>
    rw [h1] at q
    have e0 : z = r := Option.some.inj q
    subst e0
    exact .inl (h N ι M S H own x y d e z Q k b1 b2 h1 k')
  | none =>
    rw [h1] at q
    exact .inr (h' N ι M S H own x y d e r Q k b1 b2 q k')
theorem OpD.or {fn : Value → Value → Sem Value} {f g : D → D → Option D} (h : OpD X fn f) (h' : OpD X fn g) : OpD X fn (fun d e => (f d e).orElse fun _ => g d e) :=
  let ⟨_, a, b⟩ := h
  let ⟨_, a', b'⟩ := h'
  ⟨_, a.or a', b.or b'⟩
def II (f : Int → Int → Option D) : D → D → Option D
  | .int i, .int j => f i j
  | _, _ => none
def SS (f : Str → Str → Option D) : D → D → Option D
  | .str i, .str j => f i j
  | _, _ => none
theorem II.get {f : Int → Int → Option D} {d e r : D} (h : II f d e = some r) : ∃ i j, d = .int i ∧ e = .int j ∧ f i j = some r := by
  unfold II at h
  split at h
  · exact ⟨_, _, rfl, rfl, h⟩
  · cases h
theorem SS.get {f : Str → Str → Option D} {d e r : D} (h : SS f d e = some r) : ∃ i j, d = .str i ∧ e = .str j ∧ f i j = some r := by
  unfold SS at h
  split at h
  · exact ⟨_, _, rfl, rfl, h⟩
  · cases h
/-- an operation on two ints that makes no object -/
theorem bi_int {C : Int → Int → Prop} {g : Int → Int → V} {f : Int → Int → Option D} (h : ∀ i j r, f i j = some r → C i j ∧ ∀ K mg S ι H, Dn K mg S ι H (g i j) r) : BiD X (rI C g) (II f) := by
  intro N ι M S H own x y d e r Q k b1 b2 q k'
  obtain ⟨i, j, rfl, rfl, q⟩ := II.get q
  obtain ⟨h1, h2⟩ := h i j r q
  exact ⟨i, j, b1.intAt, b2.intAt, h1, k' _ S H k .refl (h2 _ _ _ _ _)⟩
theorem bi_int0 {g : Int → Int → V} {f : Int → Int → Option D} (h : ∀ i j r, f i j = some r → ∀ K mg S ι H, Dn K mg S ι H (g i j) r) : BiD X (rI0 g) (II f) := by
  intro N ι M S H own x y d e r Q k b1 b2 q k'
  obtain ⟨i, j, rfl, rfl, q⟩ := II.get q
  exact ⟨i, j, b1.intAt, b2.intAt, k' _ S H k .refl (h i j r q _ _ _ _ _)⟩
def addI : Int → Int → Option D := fun i j => some (.int (i + j))
def subI : Int → Int → Option D := fun i j => some (.int (i - j))
def mulOk (i j : Int) : Prop := i.natAbs < 2 ^ 64 ∨ j.natAbs < 2 ^ 64 ∨ i.natAbs.log2 + j.natAbs.log2 < 1000000
instance (i j : Int) : Decidable (mulOk i j) := by unfold mulOk; infer_instance
def mulI : Int → Int → Option D := fun i j => if mulOk i j then some (.int (i * j)) else none
def divOk (j : Int) : Prop := j ≠ 0 ∧ j.natAbs.log2 < 9000
instance (j : Int) : Decidable (divOk j) := by unfold divOk; infer_instance
def divI : Int → Int → Option D := fun i j => if divOk j then some (.int (i.fdiv j)) else none
def modI : Int → Int → Option D := fun i j => if j ≠ 0 then some (.int (i.fmod j)) else none
def powOk (i j : Int) : Prop := 0 ≤ j ∧ j ≤ 1000000 ∧ i.natAbs < 2 ^ 64
instance (i j : Int) : Decidable (powOk i j) := by unfold powOk; infer_instance
def powI : Int → Int → Option D := fun i j => if powOk i j then some (.int (i ^ j.toNat)) else none
theorem op_mulN : OpR X (binaryOp .Mult) (rI mulOk fun i j => .int (i * j)) := opI fun i j _ _ _ _ _ hc q => mul_int q (by
  rcases hc with h | h | h
  · exact .of_left (intBits_le_64 (by omega) (by omega))
  · exact .of_right (intBits_le_64 (by omega) (by omega))
  · exact CMulW.ok h)
theorem op_divN : OpR X (binaryOp .FloorDiv) (rI (fun _ j => divOk j) fun i j => .int (i.fdiv j)) := opI fun i j _ _ _ _ _ hc q =>
  floordiv_int hc.1 q (.inl (PyProof.noPylong_of_log2 hc.2))
theorem od_addI : OpD X (binaryOp .Add) (II addI) := ⟨_, op_add, bi_int0 fun i j r e => by cases e; exact fun _ _ _ _ _ => .int _⟩
theorem od_sub : OpD X (binaryOp .Sub) (II subI) := ⟨_, op_sub, bi_int0 fun i j r e => by cases e; exact fun _ _ _ _ _ => .int _⟩
theorem od_mulI : OpD X (binaryOp .Mult) (II mulI) := ⟨_, op_mulN, bi_int fun i j r e => by
  unfold mulI at e
  split at e
  · cases e; exact ⟨by assumption, fun _ _ _ _ _ => .int _⟩
  · cases e⟩
theorem od_div : OpD X (binaryOp .FloorDiv) (II divI) := ⟨_, op_divN, bi_int fun i j r e => by
  unfold divI at e
  split at e
  · cases e; exact ⟨by assumption, fun _ _ _ _ _ => .int _⟩
  · cases e⟩
theorem od_mod : OpD X (binaryOp .Mod) (II modI) := ⟨_, op_modN, bi_int fun i j r e => by
  unfold modI at e
  split at e
  · cases e; exact ⟨by assumption, fun _ _ _ _ _ => .int _⟩
  · cases e⟩
theorem od_pow : OpD X (binaryOp .Pow) (II powI) := ⟨_, op_pow, bi_int fun i j r e => by
  unfold powI at e
  split at e
  · cases e; exact ⟨by assumption, fun _ _ _ _ _ => .int _⟩
  · cases e⟩
def cmpI (p : Int → Int → Bool) : Int → Int → Option D := fun i j => some (.bl (p i j))
theorem od_lt : OpD X (compareOp .Lt) (II (cmpI fun i j => decide (i < j))) := ⟨_, op_lt, bi_int0 fun i j r e => by cases e; exact fun _ _ _ _ _ => .bl _⟩
theorem od_le : OpD X (compareOp .LtE) (II (cmpI fun i j => decide (i ≤ j))) := ⟨_, op_le, bi_int0 fun i j r e => by cases e; exact fun _ _ _ _ _ => .bl _⟩
theorem od_gt : OpD X (compareOp .Gt) (II (cmpI fun i j => decide (j < i))) := ⟨_, op_gt, bi_int0 fun i j r e => by cases e; exact fun _ _ _ _ _ => .bl _⟩
theorem od_ge : OpD X (compareOp .GtE) (II (cmpI fun i j => decide (j ≤ i))) := ⟨_, op_ge, bi_int0 fun i j r e => by cases e; exact fun _ _ _ _ _ => .bl _⟩
/-- texts, lists, tuples put together -/
def addS' : Str → Str → Option D := fun a b => if a.length + b.length ≤ sizeLine then some (.str (a ++ b)) else none
theorem od_addS : OpD X (binaryOp .Add) (SS addS') := ⟨_, op_add_str, fun N ι M S H own x y d e r Q k b1 b2 q k' => by
  obtain ⟨i, j, rfl, rfl, q2⟩ := SS.get q
  unfold addS' at q2
  split at q2
  · cases q2
    exact ⟨i, j, b1.strAt, b2.strAt, by assumption, k' _ S H k .refl (.str _)⟩
  · cases q2⟩
def addL : D → D → Option D
  | .lst a, .lst b => if a.length + b.length ≤ sizeLine then some (.lst (a ++ b)) else none
  | _, _ => none
def addT : D → D → Option D
  | .tup a, .tup b => if a.length + b.length ≤ sizeLine then some (.tup (a ++ b)) else none
  | _, _ => none
theorem od_addL : OpD X (binaryOp .Add) addL := ⟨_, op_cat, fun N ι M S H own x y d e r Q k b1 b2 q k' => by
  unfold addL at q
  split at q
  · split at q
    · cases q
      obtain ⟨a, xs, rfl, ha, ta⟩ := b1.lstAt
      obtain ⟨b, ys, rfl, hb, tb⟩ := b2.lstAt
      refine ⟨a, b, xs, ys, rfl, rfl, ha, hb, by rw [ta.length, tb.length]; assumption, fun p hp => k' _ _ _ (k.alloc hp) ⟨k.alloc_ext hp, fun i a h => ⟨k.hown hp i a h, .inl h⟩⟩ ?_⟩
      exact .lst ⟨.inr rfl, upd_same⟩ ((ta.append tb).ext (k.alloc_ext hp))
    · cases q
  · cases q⟩
theorem od_addT : OpD X (binaryOp .Add) addT := ⟨_, op_catA, fun N ι M S H own x y d e r Q k b1 b2 q k' => by
  unfold addT at q
  split at q
  · split at q
    · cases q
      obtain ⟨a, xs, rfl, ha, ta, da⟩ := b1.tupAt
      obtain ⟨b, ys, rfl, hb, tb, db⟩ := b2.tupAt
      refine ⟨a, b, xs, ys, rfl, rfl, ha, hb, by rw [ta.length, tb.length]; assumption, fun z => ?_, fun _ z => ?_, fun _ _ p hp => k' _ _ _ (k.alloc hp) ⟨k.alloc_ext hp, fun i a h => ⟨k.hown hp i a h, .inl h⟩⟩ ?_⟩
      · subst z
        cases ta
        exact k' _ S H k .refl db
      · subst z
        cases tb
        refine k' _ S H k .refl ?_
        rw [List.append_nil]
        exact da
      · exact .tup (.inl ⟨.inr rfl, .inl upd_same⟩) ((ta.append tb).ext (k.alloc_ext hp))
    · cases q
  · cases q⟩
def addD : D → D → Option D := fun d e => (II addI d e).orElse fun _ => (SS addS' d e).orElse fun _ => (addL d e).orElse fun _ => addT d e
theorem od_add : OpD X (binaryOp .Add) addD := od_addI.or (od_addS.or (od_addL.or od_addT))
/-- == of data -/
def eqD (neg : Bool) : D → D → Option D := fun d e => match toPy d, toPy e with
  | some p, some q => if SeqAt.shaped p = true ∧ SeqAt.shaped q = true then some (.bl (xor neg (PyData.eqv p q))) else none
  | _, _ => none
theorem eqD.get {n : Bool} {d e r : D} (h : eqD n d e = some r) : ∃ p q, toPy d = some p ∧ toPy e = some q ∧ SeqAt.shaped p = true ∧ SeqAt.shaped q = true ∧ r = .bl (xor n (PyData.eqv p q)) := by
  unfold eqD at h
  split at h
  · rename_i p q e1 e2
    split at h
    · rename_i h'
      cases h
      exact ⟨p, q, e1, e2, h'.1, h'.2, rfl⟩
    · cases h
  · cases h
theorem od_eq (hu : X.A.units + 64 < cLine) : OpD X (compareOp .Eq) (eqD false) := ⟨_, op_eqD hu, fun N ι M S H own x y d e r Q k b1 b2 q k' => by
  obtain ⟨p, q', e1, e2, s1, s2, rfl⟩ := eqD.get q
  refine ⟨p, q', b1.dp e1, b2.dp e2, s1, s2, k' _ S H k .refl ?_⟩
  rw [Bool.false_xor]
  exact .bl _⟩
theorem od_ne (hu : X.A.units + 64 < cLine) : OpD X (compareOp .NotEq) (eqD true) := ⟨_, op_neD hu, fun N ι M S H own x y d e r Q k b1 b2 q k' => by
  obtain ⟨p, q', e1, e2, s1, s2, rfl⟩ := eqD.get q
  refine ⟨p, q', b1.dp e1, b2.dp e2, s1, s2, k' _ S H k .refl ?_⟩
  rw [Bool.true_xor]
  exact .bl _⟩
/-- is None -/
def isNone : D → Option Bool
  | .non => some true
  | .gl _ => none
  | _ => some false
def isN (neg : Bool) : D → D → Option D := fun d e => match e with
  | .non => (isNone d).map fun b => .bl (xor neg b)
  | _ => none
theorem Bn.isN {K : PySem.W.Frag} {mg : Str → Option Value} {S : AP} {ι : List Addr} {H : Hp} {v : V} {d : D} {b : Bool} (h : Bn K mg S ι H v d) (e : isNone d = some b) : decide (v = .non) = b := by
  cases h with
  | lst h t => cases e; rfl
  | dct h l t => cases e; rfl
  | dn h => cases h <;> first | (cases e; done) | (cases e; rfl)
theorem od_isN : OpD X (compareOp .Is) (isN false) := ⟨_, op_isN, fun N ι M S H own x y d e r Q k b1 b2 q k' => by
  unfold isN at q
  split at q
  · cases e1 : isNone d with
    | none => rw [e1] at q; cases q
    | some b =>
      rw [e1] at q
      cases q
      refine ⟨b2.nonAt, k' _ S H k .refl ?_⟩
      rw [b1.isN e1]
      show Dn X.K X.mg S ι H _ (.bl (xor false b))
      rw [Bool.false_xor]
      exact .bl _
  · cases q⟩
theorem od_notN : OpD X (compareOp .IsNot) (isN true) := ⟨_, op_notN, fun N ι M S H own x y d e r Q k b1 b2 q k' => by
  unfold isN at q
  split at q
  · cases e1 : isNone d with
    | none => rw [e1] at q; cases q
    | some b =>
      rw [e1] at q
      cases q
      refine ⟨b2.nonAt, k' _ S H k .refl ?_⟩
      rw [b1.isN e1]
      show Dn X.K X.mg S ι H _ (.bl (xor true b))
      rw [Bool.true_xor]
      exact .bl _
  · cases q⟩
/-- - x -/
def negD : D → Option D
  | .int i => some (.int (-i))
  | _ => none
theorem de_neg {e : Expr} {pos : Pos} {a : TDE} (ha : DB X N W e a) : DE X N W (.UnaryOp .USub e pos) (dUn negD a) := pe_imp (pe_un un_neg ha) (un_core fun N ι M S H own x d e Q k b q k' => by
  unfold negD at q
  split at q
  · cases q
    exact ⟨_, b.intAt, k' _ S H k .refl (.int _)⟩
  · cases q)
end
end DL
set_option maxHeartbeats 2000000
namespace DL
open PySem PySem.Spec PyProof.Rows L2

/-! ### a def's promise, where no display of an object runs around it -/
def Calm (A : Around) : Prop := A.guards = some []
structure FnG (P : Program) (w : World) (K : PySem.W.Frag) (mg : Str → Option Value) (base : Heap) (CX : CXT) (k : Nat) (f : Addr) (fd : FuncData) (ps : List Str) (sp : Sp) : Prop where
  len : ∀ vs H Q E, sp vs H Q E → vs.length = ps.length
  run : ∀ (A : Around) (outer : List Env) (s : Shared) (H : Hp) (args : Args) (us : List Value) (vs : List V) (Q : VK) (E : XK), Calm A → Room k A → Env0 P w K mg base A outer s H → BindsTo s fd args (ps.zip us) →
    Vals vs us → sp vs H Q E → codeAny (model P w) A (.call (.ref f) args) (CR CX outer P w H s Q E) s
theorem FnG.mono {P : Program} {w : World} {K : PySem.W.Frag} {mg : Str → Option Value} {base : Heap} {CX : CXT} {j k : Nat} {f : Addr} {fd : FuncData} {ps : List Str} {sp : Sp} (F : FnG P w K mg base CX j f fd ps sp) (h : j ≤ k) :
    FnG P w K mg base CX k f fd ps sp := ⟨F.len, fun A outer s H args us vs Q E g hr => F.run A outer s H args us vs Q E g (hr.mono h)⟩

/-- the def's code object -/
def CodeAt (K : PySem.W.Frag) (f c : Addr) : Prop := ∀ o fd, K.lookup f = some o → o.data = .func fd → fd.code = .ref c
/-- the def by its body: the body's reading may use that the surroundings are calm -/
theorem fnG_of {CX : CXT} {P : Program} {w : World} {K : PySem.W.Frag} {mg : Str → Option Value} {base : Heap} {k : Nat} {x qual : Str} {st : Stmt} {f : Addr} {fd : FuncData} {N ps : List Str} {sp : Sp} {dvs : List V} {kws : List (Str × V)}
    (F : FunD K x qual (defArgs st) (defBody st) (defScope st) dvs kws f fd) (S : FnScope N ps (defScope st)) (len : ∀ vs H Q E, sp vs H Q E → vs.length = ps.length)
    (hbody : ∀ (cdv : Value) (_ : ∀ c, CodeAt K f c → cdv = .ref c) (A : Around) (outer : List Env) (s : Shared) (H : Hp) (vs : List V) (Q : VK) (E : XK), Calm (A.deeper (envOfC qual (defScope st) s.heap.objs.size f cdv)) → Room k (A.deeper (envOfC qual (defScope st) s.heap.objs.size f cdv)) → sp vs H Q E →
      ∃ t, PSs (cxOf CX P w K mg base N qual (defScope st) f cdv A outer s H E) (defBody st) t ∧ t { nx := fun _ H' => Q .non H', rt := Q } (start N vs) H) :
    FnG P w K mg base CX (k + 1) f fd ps sp := by
  obtain ⟨oc, od, dV, kV, doc, pm, an, cdv, ct, osl, rfl, lk, hcd, _, _⟩ := F.ex
  -- the library's own rule, at surroundings that are kept: what it asks of the body is asked at these alone
  refine ⟨len, fun A outer s H args us vs Q E g hr e0 hb r hsp => ?_⟩
  have KX : K.In s.heap := e0.mod.kin.keeps fun b o e => (e0.bs b o e).1
  have lim : s.heap.NoLimit := e0.mod.nolimit.keeps fun b o e => (e0.bs b o e).1
  refine codeAny_call_function hr.depth (KX _ _ lk) rfl S.co S.gen rfl (PySem.W.codeRec_of KX hcd) (hb _ _ _ _ ?_)
  refine wpAny_newFunctionEnv_cells S.kind (fun y hy => ?_) fun env he s1 ic => ?_
  · obtain ⟨n, v⟩ := y
    cases S.par n (List.of_mem_zip hy).1 with
    | inl q => exact .inl q
    | inr q => exact .inr ⟨q, PySem.W.cellsFrom_some _ _ _ (.inl q)⟩
  subst he
  refine ⟨lim.keeps ic.toInCall.keep, codeAny_func ?_⟩
  obtain ⟨t, ht, hq⟩ := hbody cdv (fun c hc => hc _ _ lk rfl) A outer s H vs Q E g (hr.deeper _) hsp
  refine wpAny_mono (ht.run [] s1 (start N vs) H _ (inv_start S hr.hd e0 (len _ _ _ _ hsp) r ic) hq) (fun fl s' hs => ?_) fun e s' hs => hs
  cases fl with
  | ret u => obtain ⟨v, _, H', J, rv, q⟩ := hs; exact ⟨v, H', J.os, J.bare, J.base, J.hok, rv, q⟩
  | next => obtain ⟨_, H', J, q⟩ := hs; exact ⟨.non, H', J.os, J.bare, J.base, J.hok, rfl, q⟩
  | brk => obtain ⟨_, _, _, q⟩ := hs; exact q.elim
  | cont => obtain ⟨_, _, _, q⟩ := hs; exact q.elim

/-! ### a def's promise in data -/
section
variable {K : PySem.W.Frag} {mg : Str → Option Value} {N : En} {ι ι' : List Addr} {M M' : MS} {S S' : AP} {H H' : Hp} {own own' : OwnM} {σ : L2.St} {ρ : DS}
theorem Ok.enter (k : Ok K mg N ι M S H own) : Ok K mg ⟨H, S, ι, N.T⟩ ι M S H own0 where
  len := k.len
  pre := fun _ _ h => h
  fresh := fun _ h => .inl h
  objs := k.objs
  nd := k.nd
  iout := k.iout
  oout := fun _ _ h => by cases h
  oinj := fun _ _ _ h => by cases h
  ofin := ⟨0, fun _ _ => rfl⟩
  sub := fun _ h => h
  new := fun _ h => .inl h
  keep := fun _ _ h _ _ => h
  trk := fun _ h => h
  sat := k.sat
  tb := k.tb
theorem Ok.back (k : Ok K mg N ι M S H own) (k' : Ok K mg ⟨H, S, ι, N.T⟩ ι' M' S' H' own0) : Ok K mg N ι' M' S' H' own ∧ ExtE S ι H own S' ι' H' own := by
  have stay : ∀ a o, S a → H a = some o → H' a = some o := fun a o s h => k'.keep a o h (fun z => (k.iout a z).1 s) (by obtain ⟨o', h1, h2⟩ := k.sat a s; rw [h] at h1; cases h1; exact h2)
  have ow : ∀ i a, own i = some a → H' a = H a := fun i a h => by
    obtain ⟨o, h1, h2⟩ := (k.oout i a h).2.1
    rw [h1]
    exact k'.keep a o h1 (k.oout i a h).2.2.2 h2.nt
  refine ⟨⟨k'.len, fun j a h => k'.pre j a (k.pre j a h), fun a h => ?_, k'.objs, k'.nd, k'.iout, fun i a h => ?_, k.oinj, k.ofin, fun a h => k'.sub a (k.sub a h), fun a h => ?_, fun a o h1 h2 h3 => ?_, fun a h => k'.trk a (k.trk a h), k'.sat, k'.tb⟩, ⟨k'.sub, k'.pre, stay⟩, fun i a h => ⟨ow i a h, .inl h⟩⟩
  · rcases k'.fresh a h with h | h
    · exact k.fresh a h
    · exact .inr (k.free h)
  · obtain ⟨h1, h2, h3, h4⟩ := k.oout i a h
    refine ⟨fun s => ?_, by rw [ow i a h]; exact h2, h3, fun z => ?_⟩
    · rcases k'.new a s with s | s
      · exact h1 s
      · exact k.ohn h s
    · rcases k'.fresh a z with s | s
      · exact h4 s
      · exact k.ohn h s
  · rcases k'.new a h with h | h
    · exact k.new a h
    · exact .inr (k.free h)
  · have q := k.keep a o h1 h2 h3
    refine k'.keep a o q (fun z => ?_) h3
    rcases k.fresh a z with s | s
    · exact h2 s
    · rw [h1] at s; cases s
end
def spD (K : PySem.W.Frag) (mg : Str → Option Value) (T : List (Addr × Str)) (n : Nat) (φ : DF) : Sp := fun vs H Q E => vs.length = n ∧ ∃ ι M S ds, Ok K mg ⟨H, S, ι, T⟩ ι M S H own0 ∧ Dns K mg S ι H vs ds ∧
  match φ ds M with
  | some (.ret d M') => ∀ v ι' S' H', Ok K mg ⟨H, S, ι, T⟩ ι' M' S' H' own0 → Dn K mg S' ι' H' v d → Q v H'
  | some (.exc x M') => ∀ cls dd ι' S' H', Ok K mg ⟨H, S, ι, T⟩ ι' M' S' H' own0 → ExOk K mg S' ι' H' x cls dd → E cls dd H'
  | none => False
end DL
set_option maxHeartbeats 2000000
namespace DL
open PySem PySem.Spec PyProof.Rows L2

/-! ### how a call's values come to the parameters -/
inductive Src where
  | p (i : Nat) | d (i : Nat) | k (i : Nat)
def pick {α : Type} (sel : List Src) (us its ws : List α) : List α := sel.filterMap fun
  | .p i => us[i]?
  | .d i => its[i]?
  | .k i => ws[i]?
def Src.get {α : Type} (us its ws : List α) : Src → Option α
  | .p i => us[i]?
  | .d i => its[i]?
  | .k i => ws[i]?
theorem pick_eq {α : Type} (sel : List Src) (us its ws : List α) : pick sel us its ws = sel.filterMap (Src.get us its ws) := by
  have e : (fun s : Src => Src.get us its ws s) = fun
      | .p i => us[i]?
      | .d i => its[i]?
      | .k i => ws[i]? := by
    funext s
    cases s <;> rfl
  show _ = sel.filterMap (fun s : Src => Src.get us its ws s)
  rw [e]
  rfl
theorem pick_rel {α β : Type} {R : α → β → Prop} {P : List α → List β → Prop} (nil : P [] []) (cons : ∀ a b as bs, R a b → P as bs → P (a :: as) (b :: bs)) {us its ws : List α} {vs jts zs : List β}
    (h : ∀ s : Src, (Src.get us its ws s = none ∧ Src.get vs jts zs s = none) ∨ ∃ a b, Src.get us its ws s = some a ∧ Src.get vs jts zs s = some b ∧ R a b) : ∀ sel, P (pick sel us its ws) (pick sel vs jts zs) := fun sel => by
  rw [pick_eq, pick_eq]
  induction sel with
  | nil => exact nil
  | cons s r ih =>
    rcases h s with ⟨h1, h2⟩ | ⟨a, b, h1, h2, hr⟩
    · rw [List.filterMap_cons_none h1, List.filterMap_cons_none h2]; exact ih
    · rw [List.filterMap_cons_some h1, List.filterMap_cons_some h2]; exact cons _ _ _ _ hr ih
theorem vals_at {vs : List V} {us : List Value} (r : Vals vs us) (i : Nat) : (us[i]? = none ∧ vs[i]? = none) ∨ ∃ a b, us[i]? = some a ∧ vs[i]? = some b ∧ RelV b a := by
  cases e : vs[i]? with
  | none => exact .inl ⟨r.none_of e, rfl⟩
  | some v =>
    obtain ⟨u, h1, h2⟩ := r.get e
    exact .inr ⟨u, v, h1, rfl, h2⟩
theorem dns_at {K : PySem.W.Frag} {mg : Str → Option Value} {S : AP} {ι : List Addr} {H : Hp} {vs : List V} {ds : List D} (r : Dns K mg S ι H vs ds) (i : Nat) : (vs[i]? = none ∧ ds[i]? = none) ∨ ∃ a b, vs[i]? = some a ∧ ds[i]? = some b ∧ Dn K mg S ι H a b := by
  cases e : vs[i]? with
  | none =>
    refine .inl ⟨rfl, ?_⟩
    rw [List.getElem?_eq_none_iff] at e ⊢
    rw [← r.length]; exact e
  | some v =>
    obtain ⟨u, h1, h2⟩ := r.getV e
    exact .inr ⟨v, u, rfl, h1, h2⟩
theorem pick_vals {sel : List Src} {vs dv zs : List V} {us its ws : List Value} (r1 : Vals vs us) (r2 : Vals dv its) (r3 : Vals zs ws) : Vals (pick sel vs dv zs) (pick sel us its ws) :=
  pick_rel (R := fun (b : V) (a : Value) => RelV b a) (P := fun a b => Vals a b) .nil (fun _ _ _ _ h t => .cons h t) (fun s => by
    cases s with
    | p i => rcases vals_at r1 i with ⟨a, b⟩ | ⟨a, b, x, y, z⟩; exact .inl ⟨b, a⟩; exact .inr ⟨b, a, y, x, z⟩
    | d i => rcases vals_at r2 i with ⟨a, b⟩ | ⟨a, b, x, y, z⟩; exact .inl ⟨b, a⟩; exact .inr ⟨b, a, y, x, z⟩
    | k i => rcases vals_at r3 i with ⟨a, b⟩ | ⟨a, b, x, y, z⟩; exact .inl ⟨b, a⟩; exact .inr ⟨b, a, y, x, z⟩) sel
theorem pick_dns {K : PySem.W.Frag} {mg : Str → Option Value} {S : AP} {ι : List Addr} {H : Hp} {sel : List Src} {vs dv zs : List V} {us its ws : List D} (r1 : Dns K mg S ι H vs us) (r2 : Dns K mg S ι H dv its) (r3 : Dns K mg S ι H zs ws) : Dns K mg S ι H (pick sel vs dv zs) (pick sel us its ws) :=
  pick_rel (R := fun (b : V) (a : D) => Dn K mg S ι H b a) (P := fun a b => Dns K mg S ι H a b) .nil (fun _ _ _ _ h t => .cons h t) (fun s => by
    cases s with
    | p i => exact dns_at r1 i
    | d i => exact dns_at r2 i
    | k i => exact dns_at r3 i) sel
/-- n values by position, keywords ks, defaults as sel says -/
structure CB (K : PySem.W.Frag) (fd : FuncData) (ps : List Str) (dvs : List V) (n : Nat) (ks : List Str) (sel : List Src) : Prop where
  to : ∃ its, Vals dvs its ∧ ∀ (s : Shared) (us ws : List Value), K.In s.heap → us.length = n → ws.length = ks.length → BindsTo s fd ⟨us, ks.zip ws⟩ (ps.zip (pick sel us its ws))
section
variable {K : PySem.W.Frag} {x qual : Str} {params : Arguments} {body : List Stmt} {scope : Scope} {dvs : List V} {f : Addr} {fd : FuncData} {ps : List Str}
theorem cb0 (F : FunD K x qual params body scope [] [] f fd) (n : Nat) (ks : List Str) (sel : List Src)
    (h : ∀ (kV doc pm : Value) (an : Option Addr) (cdv ct : Value) (us ws : List Value), us.length = n → ws.length = ks.length → bindArgs (PySem.W.fnOf x qual params body scope .none kV doc pm an cdv ct) ⟨us, ks.zip ws⟩ = pure (ps.zip (pick sel us [] ws))) : CB K fd ps [] n ks sel := by
  obtain ⟨oc, od, dV, kV, doc, pm, an, cdv, ct, osl, rfl, lk, hcd, hD, hK⟩ := F.ex
  refine ⟨[], .nil, fun s us ws X l1 l2 => ?_⟩
  rcases hD with ⟨_, rfl⟩ | ⟨e, _⟩
  · exact .of_eq (h kV doc pm an cdv ct us ws l1 l2)
  · exact absurd rfl e
theorem cbD (F : FunD K x qual params body scope dvs [] f fd) (n : Nat) (ks : List Str) (sel : List Src) (hd : dvs ≠ [])
    (h : ∀ (T : Addr) (kV doc pm : Value) (an : Option Addr) (cdv ct : Value) (us its ws : List Value), us.length = n → its.length = dvs.length → ws.length = ks.length →
      ∃ k, bindArgs (PySem.W.fnOf x qual params body scope (.ref T) kV doc pm an cdv ct) ⟨us, ks.zip ws⟩ = seqItems? (.ref T) >>= k ∧ k (some its.toArray) = pure (ps.zip (pick sel us its ws))) : CB K fd ps dvs n ks sel := by
  obtain ⟨oc, od, dV, kV, doc, pm, an, cdv, ct, osl, rfl, lk, hcd, hD, hK⟩ := F.ex
  rcases hD with ⟨e, _⟩ | ⟨_, T, o, its, m, rfl, lT, oT, rT⟩
  · exact absurd e hd
  · refine ⟨its, rT, fun s us ws X l1 l2 => ?_⟩
    obtain ⟨k, e1, e2⟩ := h T kV doc pm an cdv ct us its ws l1 rT.length.symm l2
    refine BindsTo.of_looks fun M => ?_
    rw [e1]
    exact looks_items X lT oT (.of_pure e2)
end

/-! ### keywords -/
section
variable {X : Cx} {N : En} {W : WX}
abbrev DK (X : Cx) (N : En) (W : WX) (kws : List Keyword) (t : TDA) : Prop := PK X kws (tA X.K X.mg N W t)
theorem pk_imp {es : List Keyword} {t t' : TA} (h : PK X es t) (i : ∀ σ H Q, t' σ H Q → t σ H Q) : PK X es t' := ⟨fun p pins s σ H Q I q => h.run p pins s σ H Q I (i σ H Q q)⟩
theorem dk_nil : DK X N W [] aNil := pk_imp pk_nil fun σ H Q q => by
  obtain ⟨ι, S, own, ρ, M, c, q⟩ := q
  exact q [] ι S H own c .refl .nil
theorem dk_cons {nm : Option Str} {kpos : Pos} {e : Expr} {es : List Keyword} {a : TDE} {r : TDA} (ha : DE X N W e a) (hr : DK X N W es r) : DK X N W (⟨nm, e, kpos⟩ :: es) (aCons a r) :=
  pk_imp (pk_cons ha hr) fun σ H Q q => by
    obtain ⟨ι, S, own, ρ, M, c, q⟩ := q
    refine ⟨ι, S, own, ρ, M, c, ?_⟩
    unfold aCons at q
    cases e1 : a ρ M with
    | none => rw [e1] at q; exact q
    | some o1 =>
      rw [e1] at q
      cases o1 with
      | ex x ρ' M' => exact q
      | ok d ρ1 M1 =>
        intro v ι1 S1 H1 own1 c1 x1 dn
        refine ⟨ι1, S1, own1, ρ1, M1, c1, ?_⟩
        cases e2 : r ρ1 M1 with
        | none => simp only [e2] at q; exact q
        | some o2 =>
          simp only [e2] at q
          cases o2 with
          | ex x ρ' M' => exact XPost.later x1.ext q
          | ok ds ρ2 M2 => exact fun vs ι2 S2 H2 own2 c2 x2 dns => q (v :: vs) ι2 S2 H2 own2 c2 (x1.trans c.ok x2) (.cons (dn.ext x2.ext) dns)

/-! ### f(..) -/
def dRet (o : Option FO) : TDE := fun ρ M => match o with
  | some (.ret d M') => some (.ok d ρ M')
  | some (.exc x M') => some (.ex x ρ M')
  | none => none
/-- φ at the values -/
def dApp (φ : DF) (ds : List D) : TDE := fun ρ M => dRet (φ ds M) ρ M
def dCall (φ : DF) (sel : List Src) (dds : List D) (a : TDA) : TDE := aBind a fun ds => dApp φ (pick sel ds dds [])
def dCallK (φ : DF) (sel : List Src) (dds : List D) (a b : TDA) : TDE := aBind a fun ds => aBind b fun es => dApp φ (pick sel ds dds es)
/-- what the module has of a def -/
structure Fk (P : Program) (w : World) (K : PySem.W.Frag) (mg : Str → Option Value) (base : Heap) (T : List (Addr × Str)) (x : Str) (k : Nat) (f : Addr) (fd : FuncData) (ps : List Str) (φ : DF) : Prop where
  at_ : mg x = some (.ref f)
  kp : PySem.W.keepIn K (.ref f) = true
  fn : FnG P w K mg base (L2.CX P w) k f fd ps (spD K mg T ps.length φ)
section
variable {K : PySem.W.Frag} {mg : Str → Option Value} {ι : List Addr} {M : MS} {S : AP} {H : Hp} {own : OwnM} {σ : L2.St} {ρ : DS}
theorem app_sp {φ : DF} {n : Nat} {vs : List V} {ds : List D} {Q : VK} (c : Cur K mg N ι S H own σ ρ M) (hl : vs.length = n) (hd : Dns K mg S ι H vs ds) (q : postD K mg N W ι S H own σ Q (dApp φ ds ρ M)) : spD K mg N.T n φ vs H Q (WE W σ) := by
  refine ⟨hl, ι, M, S, ds, c.ok.enter, hd, ?_⟩
  unfold dApp dRet at q
  cases e : φ ds M with
  | none => rw [e] at q; exact q.elim
  | some o =>
    rw [e] at q
    cases o with
    | ret d M' =>
      intro v ι' S' H' k' dn
      obtain ⟨h1, h2⟩ := c.ok.back k'
      exact q v ι' S' H' own ⟨h1, c.env.ext h2.ext fun i a h => (h2.ow i a h).1⟩ h2 dn
    | exc x M' =>
      intro cls dd ι' S' H' k' ex
      obtain ⟨h1, h2⟩ := c.ok.back k'
      exact q cls dd ι' S' H' own ⟨h1, c.env.ext h2.ext fun i a h => (h2.ow i a h).1⟩ h2.ext ex
end
theorem run_g {k n : Nat} {f : Addr} {fd : FuncData} {ps ks : List Str} {sp : Sp} {sel : List Src} {dvs : List V} {pins : List (Addr × Obj)} {σ : L2.St} {H : Hp} {s : Shared} {Q : VK} {us ws : List Value} {vs zs : List V}
    (F : FnG X.prog X.w X.K X.mg X.base (L2.CX X.prog X.w) k f fd ps sp) (hg : Calm X.A) (hr : Room k X.A) (tk : Takes X W) (hb : CB X.K fd ps dvs n ks sel) (I : Inv X pins σ H s) (r : Vals vs us) (rz : Vals zs ws)
    (l1 : vs.length = n) (l2 : zs.length = ks.length) (h : sp (pick sel vs dvs zs) H Q (WE W σ)) : wpAny (model X.prog X.w) X.A (call (.ref f) us (ks.zip ws)) (EP X pins σ Q) X.xe s := by
  obtain ⟨its, r2, to⟩ := hb.to
  refine wpAny_call (codeAny_mono (F.run X.A X.stack s H ⟨us, ks.zip ws⟩ _ _ Q (WE W σ) hg hr I.env0 (to s us ws I.kIn (r.length.symm.trans l1) (rz.length.symm.trans l2)) (pick_vals r r2 rz) h) fun res s' hq => ?_)
  cases res with
  | error e => exact passAt tk σ pins H s e s' I hq
  | ok fl =>
    cases fl with
    | ret u => exact I.after hq
    | next => exact hq.elim
    | brk => exact hq.elim
    | cont => exact hq.elim
def fits (n : Nat) (ds : List D) : TDE → TDE := fun t ρ M => if ds.length = n then t ρ M else none
theorem fits_go {K : PySem.W.Frag} {mg : Str → Option Value} {ι : List Addr} {S : AP} {H : Hp} {own : OwnM} {σ : L2.St} {Q : VK} {n : Nat} {ds : List D} {t : TDE} {ρ : DS} {M : MS} (q : postD K mg N W ι S H own σ Q (fits n ds t ρ M)) : ds.length = n ∧ postD K mg N W ι S H own σ Q (t ρ M) := by
  unfold fits at q
  split at q
  · exact ⟨by assumption, q⟩
  · exact q.elim
variable {k n : Nat} {f : Addr} {fd : FuncData} {ps ks : List Str} {φ : DF} {sel : List Src} {dvs : List V} {dds : List D} {x : Str} {p pos : Pos} {e : Expr} {es : List Expr} {kws : List Keyword} {a b : TDA}
/-- f(e, ..) -/
theorem de_call (F : Fk X.prog X.w X.K X.mg X.base N.T x k f fd ps φ) (hg : Calm X.A) (hr : Room k X.A) (tk : Takes X W) (hb : CB X.K fd ps dvs n [] sel) (hd : ∀ S ι H, Dns X.K X.mg S ι H dvs dds) (hsel : sel.length = ps.length) (ha : DA X N W (e :: es) a)
    (hgl : Gl X x := by rfl) (hdb : (x == ("__debug__" : Str)) = false := by decide) (he : starEach (e :: es) X.env = (false, eval e X.env) :: starEach es X.env := by rfl) (hpl : (backTo pos (starEach es X.env)).any (·.1) = false := by rfl) :
    DE X N W (.Call (.Name x p) (e :: es) [] pos) (aBind a fun ds => fits n ds (fits ps.length (pick sel ds dds []) (dApp φ (pick sel ds dds [])))) := by
  refine ⟨fun pins s σ H Q I h => ?_⟩
  refine wpAny_Call_Name_kw (ld_glob I hgl F.at_ ?_ hdb)
  refine PySem.W.callWith_K (h₀ := X.base) I.ok.mod.kin F.kp (thn (ha.run pos pins s σ H _ I (bind_a h fun xs ds ι S H1 own ρ M c dn q => (⟨ds, ι, S, own, ρ, M, c, dn, q⟩ : ∃ ds ι S own ρ M, Cur X.K X.mg N ι S H1 own σ ρ M ∧ Dns X.K X.mg S ι H1 xs ds ∧ postD X.K X.mg N W ι S H1 own σ Q (fits n ds (fits ps.length (pick sel ds dds []) (dApp φ (pick sel ds dds []))) ρ M)))) fun us s1 ⟨vs, H1, I1, r, ds, ι, S, own, ρ, M, c, dn, q⟩ => ⟨I1.kIn, ?_⟩) he hpl
  obtain ⟨q1, q⟩ := fits_go q
  obtain ⟨q2, q⟩ := fits_go q
  have dn2 : Dns X.K X.mg S ι H1 (pick sel vs dvs []) (pick sel ds dds []) := pick_dns dn (hd S ι H1) .nil
  exact run_g (zs := []) (ws := []) F.fn hg hr tk hb I1 r .nil (dn.length.trans q1) rfl (app_sp c (dn2.length.trans q2) dn2 q)
/-- f() -/
theorem de_call0 (F : Fk X.prog X.w X.K X.mg X.base N.T x k f fd ps φ) (hg : Calm X.A) (hr : Room k X.A) (tk : Takes X W) (hb : CB X.K fd ps dvs 0 [] sel) (hd : ∀ S ι H, Dns X.K X.mg S ι H dvs dds)
    (hgl : Gl X x := by rfl) (hdb : (x == ("__debug__" : Str)) = false := by decide) :
    DE X N W (.Call (.Name x p) [] [] pos) (fits ps.length (pick sel [] dds []) (dApp φ (pick sel [] dds []))) := by
  refine ⟨fun pins s σ H Q I h => ?_⟩
  refine wpAny_Call_Name_kw (ld_glob I hgl F.at_ ?_ hdb)
  obtain ⟨ι, S, own, ρ, M, c, q⟩ := h
  obtain ⟨q2, q⟩ := fits_go q
  have dn2 : Dns X.K X.mg S ι H (pick sel [] dvs []) (pick sel [] dds []) := pick_dns .nil (hd S ι H) .nil
  exact PySem.W.callWith_K0 I.kIn F.kp (run_g (us := []) (vs := []) (zs := []) (ws := []) F.fn hg hr tk hb I .nil .nil rfl rfl (app_sp c (dn2.length.trans q2) dn2 q))
/-- f(e, .., k = v, ..) -/
theorem de_callK (F : Fk X.prog X.w X.K X.mg X.base N.T x k f fd ps φ) (hg : Calm X.A) (hr : Room k X.A) (tk : Takes X W) (hb : CB X.K fd ps dvs n ks sel) (hd : ∀ S ι H, Dns X.K X.mg S ι H dvs dds) (ha : DA X N W (e :: es) a) (hkw : DK X N W kws b)
    (hgl : Gl X x := by rfl) (hall : (backToKw pos (keywordEach kws X.env)).all (·.1.isSome) = true := by rfl) (hks : (backToKw pos (keywordEach kws X.env)).filterMap (·.1) = ks := by rfl)
    (hdb : (x == ("__debug__" : Str)) = false := by decide) (he : starEach (e :: es) X.env = (false, eval e X.env) :: starEach es X.env := by rfl)
    (hpl : ((backTo pos (starEach (e :: es) X.env)).any (·.1) || (backToKw pos (keywordEach kws X.env)).any (·.1.isNone)) = false := by rfl) :
    DE X N W (.Call (.Name x p) (e :: es) kws pos) (aBind a fun ds => aBind b fun bs => fits n ds (fits ks.length bs (fits ps.length (pick sel ds dds bs) (dApp φ (pick sel ds dds bs))))) := by
  refine ⟨fun pins s σ H Q I h => ?_⟩
  refine wpAny_Call_Name_kw (ld_glob I hgl F.at_ ?_ hdb)
  refine PySem.W.callWith_KW (h₀ := X.base) I.ok.mod.kin F.kp hall (thn (ha.run pos pins s σ H _ I (bind_a h fun xs ds ι S H1 own ρ M c dn q => (⟨ds, ι, S, own, ρ, M, c, dn, q⟩ : ∃ ds ι S own ρ M, Cur X.K X.mg N ι S H1 own σ ρ M ∧ Dns X.K X.mg S ι H1 xs ds ∧ postD X.K X.mg N W ι S H1 own σ Q ((aBind b fun bs => fits n ds (fits ks.length bs (fits ps.length (pick sel ds dds bs) (dApp φ (pick sel ds dds bs))))) ρ M)))) fun us s1 ⟨vs, H1, I1, r, ds, ι, S, own, ρ, M, c, dn, q⟩ => ?_) hpl he
  have h2 : tA X.K X.mg N W b σ H1 fun zs H2 => ∃ bs ι2 S2 own2 ρ2 M2, Cur X.K X.mg N ι2 S2 H2 own2 σ ρ2 M2 ∧ Dns X.K X.mg S2 ι2 H2 vs ds ∧ Dns X.K X.mg S2 ι2 H2 zs bs ∧ postD X.K X.mg N W ι2 S2 H2 own2 σ Q (fits n ds (fits ks.length bs (fits ps.length (pick sel ds dds bs) (dApp φ (pick sel ds dds bs)))) ρ2 M2) := by
    refine ⟨ι, S, own, ρ, M, c, ?_⟩
    unfold aBind at q
    cases e1 : b ρ M with
    | none => rw [e1] at q; exact q
    | some o1 =>
      rw [e1] at q
      cases o1 with
      | ex x ρ' M' => exact q
      | ok d ρ1 M1 => exact fun y ι1 S1 H2 own1 c1 x1 bx => ⟨d, ι1, S1, own1, ρ1, M1, c1, dn.ext x1.ext, bx, postD.later c.ok x1 q⟩
  refine thn (hkw.run pos pins s1 σ H1 _ I1 h2) fun ws s2 ⟨zs, H2, I2, rz, bs, ι2, S2, own2, ρ2, M2, c2, dn1, dn2, q2⟩ => ⟨I2.kIn, ?_⟩
  rw [hks]
  obtain ⟨q3, q2⟩ := fits_go q2
  obtain ⟨q4, q2⟩ := fits_go q2
  obtain ⟨q5, q2⟩ := fits_go q2
  have dn3 : Dns X.K X.mg S2 ι2 H2 (pick sel vs dvs zs) (pick sel ds dds bs) := pick_dns dn1 (hd S2 ι2 H2) dn2
  exact run_g F.fn hg hr tk hb I2 r rz (dn1.length.trans q3) (dn2.length.trans q4) (app_sp c2 (dn3.length.trans q5) dn3 q2)
/-- f(k = v, ..) -/
theorem de_callK0 (F : Fk X.prog X.w X.K X.mg X.base N.T x k f fd ps φ) (hg : Calm X.A) (hr : Room k X.A) (tk : Takes X W) (hb : CB X.K fd ps dvs 0 ks sel) (hd : ∀ S ι H, Dns X.K X.mg S ι H dvs dds) (hkw : DK X N W kws b)
    (hgl : Gl X x := by rfl) (hall : (backToKw pos (keywordEach kws X.env)).all (·.1.isSome) = true := by rfl) (hks : (backToKw pos (keywordEach kws X.env)).filterMap (·.1) = ks := by rfl)
    (hdb : (x == ("__debug__" : Str)) = false := by decide) (hpl : ((backTo pos (starEach [] X.env)).any (·.1) || (backToKw pos (keywordEach kws X.env)).any (·.1.isNone)) = false := by rfl) :
    DE X N W (.Call (.Name x p) [] kws pos) (aBind b fun bs => fits ks.length bs (fits ps.length (pick sel [] dds bs) (dApp φ (pick sel [] dds bs)))) := by
  refine ⟨fun pins s σ H Q I h => ?_⟩
  refine wpAny_Call_Name_kw (ld_glob I hgl F.at_ ?_ hdb)
  refine PySem.W.callWith_KW0 (h₀ := X.base) I.ok.mod.kin F.kp hall (thn (hkw.run pos pins s σ H _ I (bind_a h fun xs ds ι S H1 own ρ M c dn q => (⟨ds, ι, S, own, ρ, M, c, dn, q⟩ : ∃ ds ι S own ρ M, Cur X.K X.mg N ι S H1 own σ ρ M ∧ Dns X.K X.mg S ι H1 xs ds ∧ postD X.K X.mg N W ι S H1 own σ Q (fits ks.length ds (fits ps.length (pick sel [] dds ds) (dApp φ (pick sel [] dds ds))) ρ M)))) fun ws s1 ⟨zs, H1, I1, rz, ds, ι, S, own, ρ, M, c, dn, q⟩ => ⟨I1.kIn, ?_⟩) hpl
  rw [hks]
  obtain ⟨q1, q⟩ := fits_go q
  obtain ⟨q2, q⟩ := fits_go q
  have dn2 : Dns X.K X.mg S ι H1 (pick sel [] dvs zs) (pick sel [] dds ds) := pick_dns .nil (hd S ι H1) dn
  exact run_g (us := []) (vs := []) F.fn hg hr tk hb I1 .nil rz rfl (dn.length.trans q1) (app_sp c (dn2.length.trans q2) dn2 q)
end

/-! ### a def by its body -/
def dFn (n N : Nat) (t : TDS) : DF := fun ds M => if ds.length = n then
  match t (ds.map (fun d => some (.t d)) ++ List.replicate (N - ds.length) none) M with
  | some (.nx _ M') => some (.ret .non M')
  | some (.rt d M') => some (.ret d M')
  | some (.ex x _ M') => some (.exc x M')
  | _ => none else none
theorem env_start {K : PySem.W.Frag} {mg : Str → Option Value} {S : AP} {ι : List Addr} {H : Hp} {vs : List V} {ds : List D} {Ns : List Str} (hl : vs.length ≤ Ns.length) (hb : Ns.length ≤ slotsB) (h : Dns K mg S ι H vs ds) :
    EnvOk K mg S ι H own0 (L2.start Ns vs) (ds.map (fun d => some (.t d)) ++ List.replicate (Ns.length - ds.length) none) := by
  refine ⟨by simp [L2.start, h.length], ?_, fun _ _ _ => rfl, fun i x q => ?_, fun _ _ => rfl⟩
  · rw [List.length_append, List.length_map, List.length_replicate, ← h.length]; omega
  by_cases hi : i < ds.length
  · rw [List.getElem?_append_left (by simpa using hi), List.getElem?_map] at q
    cases e : ds[i]? with
    | none => rw [e] at q; cases q
    | some d =>
      rw [e] at q
      cases q
      obtain ⟨v, h1, h2⟩ := h.get e
      refine ⟨v, ?_, rfl, h2⟩
      unfold L2.start
      rw [List.getElem?_append_left (by simpa [h.length] using hi), List.getElem?_map, h1]
      rfl
  · rw [List.getElem?_append_right (by simpa using hi), List.getElem?_replicate] at q
    split at q <;> cases q
theorem def_of {P : Program} {w : World} {K : PySem.W.Frag} {mg : Str → Option Value} {base : Heap} {T : List (Addr × Str)} {k : Nat} {x qual : Str} {st : Stmt} {f : Addr} {fd : FuncData} {Ns ps : List Str} {dvs : List V} {t : TDS}
    (hm : mg x = some (.ref f)) (F : FunD K x qual (defArgs st) (defBody st) (defScope st) dvs [] f fd) (S : FnScope Ns ps (defScope st)) (hle : ps.length ≤ Ns.length) (hbig : Ns.length ≤ slotsB)
    (hbody : ∀ (cdv : Value) (_ : ∀ c, CodeAt K f c → cdv = .ref c) (A : Around) (outer : List Env) (s : Shared) (H : Hp) (E : XK) (N : En), N.T = T → Calm (A.deeper (envOfC qual (defScope st) s.heap.objs.size f cdv)) → Room k (A.deeper (envOfC qual (defScope st) s.heap.objs.size f cdv)) →
      Takes (cxOf (L2.CX P w) P w K mg base Ns qual (defScope st) f cdv A outer s H E) (fun cls d _ H => E cls d H) → DSs (cxOf (L2.CX P w) P w K mg base Ns qual (defScope st) f cdv A outer s H E) N (fun cls d _ H => E cls d H) (defBody st) t) :
    Fk P w K mg base T x (k + 1) f fd ps (dFn ps.length Ns.length t) := by
  refine ⟨hm, F.kp, fnG_of F S (fun vs H Q E h => h.1) fun cdv hcd A outer s H vs Q E hc hr hsp => ?_⟩
  obtain ⟨hl, ι, M, S0, ds, k0, dn, q⟩ := hsp
  refine ⟨_, hbody cdv hcd A outer s H E ⟨H, S0, ι, T⟩ rfl hc hr (takes_of rfl rfl rfl rfl), ?_⟩
  refine ⟨ι, S0, own0, _, M, ⟨k0, env_start (by rw [hl]; exact hle) hbig dn⟩, ?_⟩
  unfold dFn at q
  rw [if_pos (by rw [← dn.length]; exact hl)] at q
  cases e : t (ds.map (fun d => some (.t d)) ++ List.replicate (Ns.length - ds.length) none) M with
  | none => rw [e] at q; exact q.elim
  | some o =>
    rw [e] at q
    cases o with
    | nx ρ' M' => exact fun σ' ι' S' H' own' c' x => q .non ι' S' H' c'.ok.noOwn .non
    | rt d M' => exact fun v ι' S' H' k' x dn' => q v ι' S' H' k' dn'
    | bk ρ' M' => exact q.elim
    | ct ρ' M' => exact q.elim
    | ex x ρ' M' => exact fun σ' cls dd ι' S' H' own' c' x' ex => q cls dd ι' S' H' c'.ok.noOwn ex
end DL
set_option maxHeartbeats 2000000
namespace DL
open PySem PySem.Spec PyProof.Rows L2

section
variable {X : Cx} {N : En} {W : WX}
theorem Dns.len_eq {K : PySem.W.Frag} {mg : Str → Option Value} {S : AP} {ι : List Addr} {H : Hp} {xs : List V} {ds : List D} (h : Dns K mg S ι H xs ds) : xs.length = ds.length := h.length
theorem Dns.atI {K : PySem.W.Frag} {mg : Str → Option Value} {S : AP} {ι : List Addr} {H : Hp} {xs : List V} {ds : List D} {i : Int} {d : D} (h : Dns K mg S ι H xs ds) (e : L2.atI ds i = some d) : ∃ v, L2.atI xs i = some v ∧ Dn K mg S ι H v d := by
  unfold L2.atI at e ⊢
  rw [h.length]
  cases e1 : ixN ds.length i with
  | none => rw [e1] at e; cases e
  | some j =>
    rw [e1] at e
    exact h.get e
/-! ### x[i] -/
def ixS (ds : List D) (i : Int) : Option D := L2.atI ds i
def ixD : D → D → Option D
  | .lst ds, .int i => L2.atI ds i
  | .tup ds, .int i => L2.atI ds i
  | .str s, .int i => if s.length ≤ sizeLine then (L2.atI s.cps.toList i).map fun c => .str ⟨#[c]⟩ else none
  | _, _ => none
theorem ix_seq3 : IxR X (fun x y H Q => rIxL X.K x y H Q ∨ rIxT X.K x y H Q ∨ rIxS x y H Q) := ix_list.or (ix_tup.or ix_str)
theorem bi_ix : BiD X (fun x y H Q => rIxL X.K x y H Q ∨ rIxT X.K x y H Q ∨ rIxS x y H Q) ixD := by
  intro N ι M S H own x y d e r Q k b1 b2 q k'
  unfold ixD at q
  split at q
  · obtain ⟨a, xs, rfl, ha, ta⟩ := b1.lstAt
    obtain ⟨v, h1, h2⟩ := ta.atI q
    exact .inl ⟨a, xs, _, v, rfl, b2.intAt, SqL.of ha, h1, k' v S H k .refl h2⟩
  · obtain ⟨a, xs, rfl, ha, ta, _⟩ := b1.tupAt
    obtain ⟨v, h1, h2⟩ := ta.atI q
    exact .inr (.inl ⟨a, xs, _, v, rfl, b2.intAt, ha, h1, k' v S H k .refl h2⟩)
  · split at q
    · rename_i s i hz
      cases e1 : L2.atI s.cps.toList i with
      | none => rw [e1] at q; cases q
      | some c =>
        rw [e1] at q
        cases q
        exact .inr (.inr ⟨s, i, c, b1.strAt, b2.intAt, hz, e1, k' _ S H k .refl (.str _)⟩)
    · cases q
  · cases q
theorem de_ix {ea eb : Expr} {pos : Pos} {a b : TDE} (ha : DB X N W ea a) (hb : DB X N W eb b) (hs : PlainIx eb := by exact fun _ _ => rfl) : DE X N W (.Subscript ea eb pos) (dBin ixD a b) :=
  pe_imp (pe_ix ix_seq3 ha hb hs) (bin_core bi_ix)

theorem Bn.scrAt {K : PySem.W.Frag} {mg : Str → Option Value} {S : AP} {ι : List Addr} {H : Hp} {v : V} {ds : List D} (b : Bn K mg S ι H v (.scr ds)) : ∃ a xs, v = .ref a ∧ SqL K H a xs ∧ Dns K mg S ι H xs ds := by
  cases b with
  | dn h =>
    cases h with
    | scr h t => exact ⟨_, _, rfl, h.sq, t⟩
/-! ### x[a:b] -/
def cutD (xs : List D) (lo hi : Option Int) : List D := (xs.drop (HT.sIx xs.length 0 lo)).take (HT.sIx xs.length xs.length hi - HT.sIx xs.length 0 lo)
theorem Dns.cut {K : PySem.W.Frag} {mg : Str → Option Value} {S : AP} {ι : List Addr} {H : Hp} {xs : List V} {ds : List D} (h : Dns K mg S ι H xs ds) (lo hi : Option Int) : Dns K mg S ι H (cutV xs lo hi) (cutD ds lo hi) := by
  unfold cutV cutD
  rw [h.length]
  exact (h.drop _).take _
def slD : D → Option Int → Option Int → Option D
  | .lst ds, lo, hi => some (.lst (cutD ds lo hi))
  | .scr ds, lo, hi => some (.lst (cutD ds lo hi))
  | .tup ds, lo, hi => some (.tup (cutD ds lo hi))
  | .str s, lo, hi => if s.length ≤ sizeLine then some (.str (cutS s lo hi)) else none
  | _, _, _ => none
abbrev RSl (K : PySem.W.Frag) : V → Option Int → Option Int → Hp → VK → Prop := fun x lo hi H Q => rSlL K x lo hi H Q ∨ rSlA K x lo hi H Q ∨ rSlS x lo hi H Q
theorem sl_seq3 : SlR X (RSl X.K) := sl_list.or (sl_tupA.or sl_str)
/-- an end of a slice -/
def oNone : DS → MS → Option (Option (Option Int × DS × MS)) := fun ρ M => some (some (none, ρ, M))
def dSl (a : TDE) (lo hi : Option TDE) : TDE := dBind a fun d => match lo, hi with
  | none, none => dOut (slD d none none)
  | some l, none => dBind l fun x => dOut (match x with | .int i => slD d (some i) none | _ => none)
  | none, some h => dBind h fun y => dOut (match y with | .int j => slD d none (some j) | _ => none)
  | some l, some h => dBind l fun x => dBind h fun y => dOut (match x, y with | .int i, .int j => slD d (some i) (some j) | _, _ => none)
theorem cutD_all (ds : List D) (lo hi : Option Int) (h : HT.sIx ds.length 0 lo = 0 ∧ HT.sIx ds.length ds.length hi = ds.length) : cutD ds lo hi = ds := by
  unfold cutD
  rw [h.1, h.2]
  simp
theorem sl_go {x : V} {d : D} {lo hi : Option Int} {ι : List Addr} {M : MS} {S : AP} {H : Hp} {own : OwnM} {σ : L2.St} {ρ : DS} {Q : VK} (c : Cur X.K X.mg N ι S H own σ ρ M) (b : Bn X.K X.mg S ι H x d) (q : postD X.K X.mg N W ι S H own σ Q (dOut (slD d lo hi) ρ M)) : RSl X.K x lo hi H Q :=
  out_go (R := fun Q => RSl X.K x lo hi H Q) c q fun g e k => by
    unfold slD at e
    split at e
    · cases e
      obtain ⟨a, xs, rfl, ha, ta⟩ := b.lstAt
      refine .inl ⟨a, xs, rfl, SqL.of ha, fun p hp => k _ _ _ (c.ok.alloc hp) ⟨c.ok.alloc_ext hp, fun i a h => ⟨c.ok.hown hp i a h, .inl h⟩⟩ (.lst ⟨.inr rfl, upd_same⟩ ((ta.cut lo hi).ext (c.ok.alloc_ext hp)))⟩
    · cases e
      obtain ⟨a, xs, rfl, ha, ta⟩ := b.scrAt
      refine .inl ⟨a, xs, rfl, ha, fun p hp => k _ _ _ (c.ok.alloc hp) ⟨c.ok.alloc_ext hp, fun i a h => ⟨c.ok.hown hp i a h, .inl h⟩⟩ (.lst ⟨.inr rfl, upd_same⟩ ((ta.cut lo hi).ext (c.ok.alloc_ext hp)))⟩
    · cases e
      obtain ⟨a, xs, rfl, ha, ta, da⟩ := b.tupAt
      refine .inr (.inl ⟨a, xs, rfl, ha, fun z => ?_, fun _ p hp => k _ _ _ (c.ok.alloc hp) ⟨c.ok.alloc_ext hp, fun i a h => ⟨c.ok.hown hp i a h, .inl h⟩⟩ (.tup (.inl ⟨.inr rfl, .inl upd_same⟩) ((ta.cut lo hi).ext (c.ok.alloc_ext hp)))⟩)
      rw [ta.length] at z
      refine k _ S H c.ok .refl ?_
      rw [cutD_all _ _ _ z]
      exact da
    · split at e
      · cases e
        exact .inr (.inr ⟨_, b.strAt, by assumption, k _ S H c.ok .refl (.str _)⟩)
      · cases e
    · cases e
theorem bn_int {x : V} {d : D} {S : AP} {ι : List Addr} {H : Hp} {i : Int} (b : Bn X.K X.mg S ι H x (.int i)) : x = .int i := b.intAt
theorem de_sl00 {e : Expr} {pos p2 : Pos} {a : TDE} (ha : DB X N W e a) : DE X N W (.Subscript e (.Slice none none none p2) pos) (dSl a none none) :=
  pe_imp (pe_slice sl_seq3 ha po_none po_none) fun σ H Q q => bind_b q fun x d ι S H1 own ρ M c b q => sl_go c b.bn q
theorem de_sl10 {e l : Expr} {pos p2 : Pos} {a tl : TDE} (ha : DB X N W e a) (hl : DB X N W l tl) : DE X N W (.Subscript e (.Slice (some l) none none p2) pos) (dSl a (some tl) none) :=
  pe_imp (pe_slice sl_seq3 ha (po_some hl) po_none) fun σ H Q q => by
    obtain ⟨ι, S, own, ρ, M, c, q⟩ := q
    refine ⟨ι, S, own, ρ, M, c, ?_⟩
    unfold dSl dBind at q
    cases e1 : a ρ M with
    | none => rw [e1] at q; exact q
    | some o1 =>
      rw [e1] at q
      cases o1 with
      | ex x ρ' M' => exact q
      | ok d ρ1 M1 =>
        intro x ι1 S1 H1 own1 c1 x1 bx
        refine ⟨ι1, S1, own1, ρ1, M1, c1, ?_⟩
        cases e2 : tl ρ1 M1 with
        | none => simp only [e2] at q; exact q
        | some o2 =>
          simp only [e2] at q
          cases o2 with
          | ex x' ρ' M' => exact XPost.later x1.ext q
          | ok d2 ρ2 M2 =>
            intro y ι2 S2 H2 own2 c2 x2 hy
            cases d2 with
            | int i => exact ⟨i, hy.bn.intAt, sl_go c2 (bx.ext x2) (postD.later c1.ok x2 (postD.later c.ok x1 q))⟩
            | _ => exact q.elim
theorem de_sl01 {e l : Expr} {pos p2 : Pos} {a tl : TDE} (ha : DB X N W e a) (hl : DB X N W l tl) : DE X N W (.Subscript e (.Slice none (some l) none p2) pos) (dSl a none (some tl)) :=
  pe_imp (pe_slice sl_seq3 ha po_none (po_some hl)) fun σ H Q q => by
    obtain ⟨ι, S, own, ρ, M, c, q⟩ := q
    refine ⟨ι, S, own, ρ, M, c, ?_⟩
    unfold dSl dBind at q
    cases e1 : a ρ M with
    | none => rw [e1] at q; exact q
    | some o1 =>
      rw [e1] at q
      cases o1 with
      | ex x ρ' M' => exact q
      | ok d ρ1 M1 =>
        intro x ι1 S1 H1 own1 c1 x1 bx
        refine ⟨ι1, S1, own1, ρ1, M1, c1, ?_⟩
        cases e2 : tl ρ1 M1 with
        | none => simp only [e2] at q; exact q
        | some o2 =>
          simp only [e2] at q
          cases o2 with
          | ex x' ρ' M' => exact XPost.later x1.ext q
          | ok d2 ρ2 M2 =>
            intro y ι2 S2 H2 own2 c2 x2 hy
            cases d2 with
            | int i => exact ⟨i, hy.bn.intAt, sl_go c2 (bx.ext x2) (postD.later c1.ok x2 (postD.later c.ok x1 q))⟩
            | _ => exact q.elim

/-! ### built-in functions of one value, of two -/
theorem CallR.or2 {f : Value} {r r' : List V → Hp → VK → Prop} (h : CallR X f r) (h' : CallR X f r') : CallR X f (fun xs H Q => r xs H Q ∨ r' xs H Q) :=
  fun pins s σ H xs us Q I rv q => q.elim (h pins s σ H xs us Q I rv) (h' pins s σ H xs us Q I rv)
theorem UnD.or {R R' : V → Hp → VK → Prop} {f g : D → Option D} (h : UnD X R f) (h' : UnD X R' g) : UnD X (fun x H Q => R x H Q ∨ R' x H Q) (fun d => (f d).orElse fun _ => g d) := by
  intro N ι M S H own x d r Q k b q k'
  have q : ((f d).orElse fun _ => g d) = some r := q
  cases h1 : f d with
  | some z =>
    rw [h1] at q
    have e0 : z = r := Option.some.inj q
    subst e0
    exact .inl (h N ι M S H own x d z Q k b h1 k')
  | none =>
    rw [h1] at q
    exact .inr (h' N ι M S H own x d r Q k b q k')
/-- a built-in function, by its name's value -/
structure C1 (X : Cx) (f : Value) (g : D → Option D) : Prop where
  ok : ∃ R : List V → Hp → VK → Prop, CallR X f R ∧ UnD X (fun x H Q => R [x] H Q) g
structure C2 (X : Cx) (f : Value) (g : D → D → Option D) : Prop where
  ok : ∃ R : List V → Hp → VK → Prop, CallR X f R ∧ BiD X (fun x y H Q => R [x, y] H Q) g
theorem C1.or {f : Value} {g g' : D → Option D} (h : C1 X f g) (h' : C1 X f g') : C1 X f (fun d => (g d).orElse fun _ => g' d) :=
  let ⟨_, a, b⟩ := h.ok
  let ⟨_, a', b'⟩ := h'.ok
  ⟨_, CallR.or2 a a', b.or b'⟩
theorem C2.or {f : Value} {g g' : D → D → Option D} (h : C2 X f g) (h' : C2 X f g') : C2 X f (fun d e => (g d e).orElse fun _ => g' d e) :=
  let ⟨_, a, b⟩ := h.ok
  let ⟨_, a', b'⟩ := h'.ok
  ⟨_, CallR.or2 a a', b.or b'⟩
theorem de_b1 {id : String} {x : Str} {g : D → Option D} {e : Expr} {p pos : Pos} {a : TDE} (h : C1 X (.builtin id) g) (hm : X.mg x = none) (ha : DB X N W e a) (hv : bootBuiltins x = some (.builtin id) := by decide +kernel) (hg : Gl X x := by rfl)
    (hn : x ≠ "__name__" := by decide) (hdb : (x == ("__debug__" : Str)) = false := by decide) (he : starEach [e] X.env = (false, eval e X.env) :: starEach [] X.env := by rfl) (hpl : (backTo pos (starEach [] X.env)).any (·.1) = false := by rfl) : DE X N W (.Call (.Name x p) [e] [] pos) (dUn g a) :=
  let ⟨_, hc, hU⟩ := h.ok
  pe_imp (pe_callB hc hg hm hv (pa_cons ha pa_nil he) hn hdb he hpl) fun σ H Q q => un_core hU σ H Q q
theorem de_t1 {T : String} {x : Str} {g : D → Option D} {e : Expr} {p pos : Pos} {a : TDE} (h : C1 X (.type T) g) (hm : X.mg x = none) (ha : DB X N W e a) (hv : bootBuiltins x = some (.type T) := by decide +kernel) (hg : Gl X x := by rfl)
    (hn : x ≠ "__name__" := by decide) (hdb : (x == ("__debug__" : Str)) = false := by decide) (he : starEach [e] X.env = (false, eval e X.env) :: starEach [] X.env := by rfl) (hpl : (backTo pos (starEach [] X.env)).any (·.1) = false := by rfl) : DE X N W (.Call (.Name x p) [e] [] pos) (dUn g a) :=
  let ⟨_, hc, hU⟩ := h.ok
  pe_imp (pe_callTy hc hg hm hv (pa_cons ha pa_nil he) hn hdb he hpl) fun σ H Q q => un_core hU σ H Q q
theorem de_b2 {id : String} {x : Str} {g : D → D → Option D} {e e2 : Expr} {p pos : Pos} {a b : TDE} (h : C2 X (.builtin id) g) (hm : X.mg x = none) (ha : DB X N W e a) (hb : DB X N W e2 b) (hv : bootBuiltins x = some (.builtin id) := by decide +kernel) (hg : Gl X x := by rfl)
    (hn : x ≠ "__name__" := by decide) (hdb : (x == ("__debug__" : Str)) = false := by decide) (he : starEach [e, e2] X.env = (false, eval e X.env) :: starEach [e2] X.env := by rfl) (he2 : starEach [e2] X.env = (false, eval e2 X.env) :: starEach [] X.env := by rfl) (hpl : (backTo pos (starEach [e2] X.env)).any (·.1) = false := by rfl) : DE X N W (.Call (.Name x p) [e, e2] [] pos) (dBin g a b) :=
  let ⟨_, hc, hU⟩ := h.ok
  pe_imp (pe_callB hc hg hm hv (pa_cons ha (pa_cons hb pa_nil he2) he) hn hdb he hpl) fun σ H Q q => bin_core hU σ H Q q

def lenD : D → Option D
  | .lst ds => some (.int ds.length)
  | .tup ds => some (.int ds.length)
  | .str s => if s.length ≤ sizeLine then some (.int s.length) else none
  | _ => none
def lenM : D → Option D
  | .dct ks _ => some (.int ks.length)
  | _ => none
theorem c_len0 : C1 X (.builtin "len") lenD := ⟨_, call_len, fun N ι M S H own x d r Q k b q k' => by
  unfold lenD at q
  split at q
  · cases q
    obtain ⟨a, xs, rfl, ha, ta⟩ := b.lstAt
    exact ⟨_, _, rfl, .inl ⟨xs, SqL.of ha, ta.length.symm⟩, k' _ S H k .refl (.int _)⟩
  · cases q
    obtain ⟨a, xs, rfl, ha, ta, _⟩ := b.tupAt
    exact ⟨_, _, rfl, .inr ⟨xs, ha, ta.length.symm⟩, k' _ S H k .refl (.int _)⟩
  · split at q
    · cases q
      cases b.strAt
      exact ⟨_, _, rfl, ⟨by assumption, rfl⟩, k' _ S H k .refl (.int _)⟩
    · cases q
  · cases q⟩
theorem Bn.dctAt {K : PySem.W.Frag} {mg : Str → Option Value} {S : AP} {ι : List Addr} {H : Hp} {v : V} {ks : List Key} {ds : List D} (b : Bn K mg S ι H v (.dct ks ds)) : ∃ a xs, v = .ref a ∧ H a = some (.dK (ks.zip xs)) ∧ xs.length = ks.length ∧ Dns K mg S ι H xs ds := by
  cases b with
  | dn h =>
    cases h with
    | dct s h l t => exact ⟨_, _, rfl, h, l, t⟩
  | dct h l t => exact ⟨_, _, rfl, h, l, t⟩
theorem c_lenM : C1 X (.builtin "len") lenM := ⟨_, call_lenD, fun N ι M S H own x d r Q k b q k' => by
  cases d with
  | dct ks ds =>
    cases q
    obtain ⟨a, xs, rfl, ha, hl, ta⟩ := b.dctAt
    refine ⟨_, _, rfl, ha, ?_⟩
    rw [List.length_zip, hl, Nat.min_self]
    exact k' _ S H k .refl (.int _)
  | _ => cases q⟩
def lenA : D → Option D := fun d => (lenD d).orElse fun _ => lenM d
theorem c_len : C1 X (.builtin "len") lenA := c_len0.or c_lenM
def absD : D → Option D
  | .int i => some (.int (if i < 0 then -i else i))
  | _ => none
theorem c_abs : C1 X (.builtin "abs") absD := ⟨_, call_abs, fun N ι M S H own x d r Q k b q k' => by
  unfold absD at q
  split at q
  · cases q
    exact ⟨_, by rw [b.intAt], k' _ S H k .refl (.int _)⟩
  · cases q⟩
def intD : D → Option D
  | .int i => some (.int i)
  | .bl b => some (.int (if b then 1 else 0))
  | _ => none
theorem c_int0 : C1 X (.type "int") intD := ⟨_, call_int1, fun N ι M S H own x d r Q k b q k' => by
  unfold intD at q
  split at q
  · cases q
    exact .inl ⟨_, by rw [b.intAt], k' _ S H k .refl (.int _)⟩
  · cases q
    exact .inr ⟨_, by rw [b.blAt], k' _ S H k .refl (.int _)⟩
  · cases q⟩
def intS : D → Option D
  | .str s => if s.length ≤ 640 then (PySem.intText? s).map .int else none
  | _ => none
theorem c_intS : C1 X (.type "int") intS := ⟨_, call_int_str, fun N ι M S H own x d r Q k b q k' => by
  unfold intS at q
  split at q
  · split at q
    · rename_i s hz
      cases e : PySem.intText? s with
      | none => rw [e] at q; cases q
      | some n =>
        rw [e] at q
        cases q
        exact ⟨s, n, by rw [b.strAt], e, hz, k' _ S H k .refl (.int _)⟩
    · cases q
  · cases q⟩
def intA : D → Option D := fun d => (intD d).orElse fun _ => intS d
theorem c_int : C1 X (.type "int") intA := c_int0.or c_intS
def strI : D → Option D
  | .int i => if i.natAbs.log2 < 1920 then some (.str (toString i)) else none
  | _ => none
def strS : D → Option D
  | .str s => some (.str s)
  | _ => none
theorem c_strI : C1 X (.type "str") strI := ⟨_, call_str_int, fun N ι M S H own x d r Q k b q k' => by
  unfold strI at q
  split at q
  · split at q
    · cases q
      exact ⟨_, by rw [b.intAt], by assumption, k' _ S H k .refl (.str _)⟩
    · cases q
  · cases q⟩
theorem c_strS : C1 X (.type "str") strS := ⟨_, SkE.call_str_str, fun N ι M S H own x d r Q k b q k' => by
  unfold strS at q
  split at q
  · cases q
    exact ⟨_, by rw [b.strAt], k' _ S H k .refl (.str _)⟩
  · cases q⟩
def strA : D → Option D := fun d => (strI d).orElse fun _ => strS d
theorem c_str : C1 X (.type "str") strA := c_strI.or c_strS
def boolD : D → Option D
  | .int i => some (.bl (i != 0))
  | .bl b => some (.bl b)
  | _ => none
theorem c_bool : C1 X (.type "bool") boolD := ⟨_, call_bool1, fun N ι M S H own x d r Q k b q k' => by
  unfold boolD at q
  split at q
  · cases q
    exact .inl ⟨_, by rw [b.intAt], k' _ S H k .refl (.bl _)⟩
  · cases q
    exact .inr ⟨_, by rw [b.blAt], k' _ S H k .refl (.bl _)⟩
  · cases q⟩
def listD : D → Option D
  | .lst ds => some (.lst ds)
  | .tup ds => some (.lst ds)
  | _ => none
theorem c_list : C1 X (.type "list") listD := ⟨_, call_list_of, fun N ι M S H own x d r Q k b q k' => by
  unfold listD at q
  split at q
  · cases q
    obtain ⟨a, xs, rfl, ha, ta⟩ := b.lstAt
    exact ⟨_, _, rfl, .inl (SqL.of ha), fun p hp => k' _ _ _ (k.alloc hp) ⟨k.alloc_ext hp, fun i a h => ⟨k.hown hp i a h, .inl h⟩⟩ (.lst ⟨.inr rfl, upd_same⟩ (ta.ext (k.alloc_ext hp)))⟩
  · cases q
    obtain ⟨a, xs, rfl, ha, ta, _⟩ := b.tupAt
    exact ⟨_, _, rfl, .inr ha, fun p hp => k' _ _ _ (k.alloc hp) ⟨k.alloc_ext hp, fun i a h => ⟨k.hown hp i a h, .inl h⟩⟩ (.lst ⟨.inr rfl, upd_same⟩ (ta.ext (k.alloc_ext hp)))⟩
  · cases q⟩
def tupleD : D → Option D
  | .lst ds => some (.tup ds)
  | .tup ds => some (.tup ds)
  | _ => none
theorem c_tuple : C1 X (.type "tuple") tupleD := ⟨_, call_tuple_of, fun N ι M S H own x d r Q k b q k' => by
  unfold tupleD at q
  split at q
  · cases q
    obtain ⟨a, xs, rfl, ha, ta⟩ := b.lstAt
    exact ⟨_, _, rfl, .inl ⟨SqL.of ha, fun p hp => k' _ _ _ (k.alloc hp) ⟨k.alloc_ext hp, fun i a h => ⟨k.hown hp i a h, .inl h⟩⟩ (.tup (.inl ⟨.inr rfl, .inl upd_same⟩) (ta.ext (k.alloc_ext hp)))⟩⟩
  · cases q
    obtain ⟨a, xs, rfl, ha, ta, da⟩ := b.tupAt
    exact ⟨_, _, rfl, .inr ⟨ha, k' _ S H k .refl da⟩⟩
  · cases q⟩
def minI : Int → Int → Option D := fun i j => some (.int (if j < i then j else i))
def maxI : Int → Int → Option D := fun i j => some (.int (if j > i then j else i))
theorem c_min2 (hc : X.calm = true) : C2 X (.builtin "min") (II minI) := ⟨_, call_min2 hc, fun N ι M S H own x y d e r Q k b1 b2 q k' => by
  obtain ⟨i, j, rfl, rfl, q⟩ := II.get q
  cases q
  exact ⟨i, j, by rw [b1.intAt, b2.intAt], k' _ S H k .refl (.int _)⟩⟩
theorem c_max2 (hc : X.calm = true) : C2 X (.builtin "max") (II maxI) := ⟨_, call_max2 hc, fun N ι M S H own x y d e r Q k b1 b2 q k' => by
  obtain ⟨i, j, rfl, rfl, q⟩ := II.get q
  cases q
  exact ⟨i, j, by rw [b1.intAt, b2.intAt], k' _ S H k .refl (.int _)⟩⟩
def gcdI : Int → Int → Option D := fun i j => some (.int ((Nat.gcd i.natAbs j.natAbs : Nat) : Int))
theorem c_gcd : C2 X (.builtin "math.gcd") (II gcdI) := ⟨_, cr_gcd, fun N ι M S H own x y d e r Q k b1 b2 q k' => by
  obtain ⟨i, j, rfl, rfl, q⟩ := II.get q
  cases q
  exact ⟨i, j, by rw [b1.intAt, b2.intAt], k' _ S H k .refl (.int _)⟩⟩
end
end DL
set_option maxHeartbeats 2000000
namespace DL
open PySem PySem.Spec PyProof.Rows L2

section
variable {K : PySem.W.Frag} {mg : Str → Option Value} {N : En} {ι ι' : List Addr} {M M' : MS} {S S' : AP} {H H' : Hp} {own own' : OwnM} {σ : L2.St} {ρ : DS}
/-! ### an object of one's own -/
theorem Ok.track (k : Ok K mg N ι M S H own) {p : Addr} {o : HO} (i : Nat) (hp : H p = none) (ho : Own1 o := by exact ⟨(fun _ z => nomatch z), (fun _ z => nomatch z)⟩) : Ok K mg N ι M S (upd H p o) (setO own i (some p)) where
  len := k.len
  pre := k.pre
  fresh := k.fresh
  objs := fun j a m h1 h2 => (k.objs j a m h1 h2).ext ⟨fun _ h => h, fun _ _ h => h, fun a u _ h => by rw [upd_ne (ne_of_none h hp)]; exact h⟩ (upd_ne fun z => (k.iout a (List.mem_of_getElem? h1)).2 (by rw [z]; exact hp))
  nd := k.nd
  iout := fun a ha => ⟨(k.iout a ha).1, by rw [upd_ne fun z => (k.iout a ha).2 (by rw [z]; exact hp)]; exact (k.iout a ha).2⟩
  oout := fun j a e => by
    unfold setO at e
    split at e
    · cases e
      exact ⟨fun s => (by obtain ⟨u, h, _⟩ := k.sat p s; rw [hp] at h; cases h), ⟨o, upd_same, ho⟩, k.free hp, fun z => (k.iout p z).2 hp⟩
    · have q := k.oout j a e
      refine ⟨q.1, ?_, q.2.2⟩
      rw [upd_ne fun z => k.ohn e (by rw [z]; exact hp)]
      exact q.2.1
  oinj := fun i' j' a e1 e2 => by
    unfold setO at e1 e2
    split at e1
    · split at e2
      · rename_i h1 h2; rw [h1, h2]
      · cases e1; exact absurd hp (k.ohn e2)
    · split at e2
      · cases e2; exact absurd hp (k.ohn e1)
      · exact k.oinj i' j' a e1 e2
  ofin := setO_fin k.ofin
  sub := k.sub
  new := k.new
  keep := fun a u h1 h2 h3 => by
    have q := k.keep a u h1 h2 h3
    rw [upd_ne (ne_of_none q hp)]; exact q
  trk := fun a h => by
    by_cases z : a = p
    · rw [z, upd_same]; exact fun q => nomatch q
    · rw [upd_ne z]; exact k.trk a h
  sat := fun a h => by
    obtain ⟨u, h1, h2⟩ := k.sat a h
    rw [upd_ne (ne_of_none h1 hp)]
    exact ⟨u, h1, h2⟩
  tb := k.tb.new hp ho.1
theorem upd_ext (hp : H p = none) {o : HO} : Ext S ι H S ι (upd H p o) := ⟨fun _ h => h, fun _ _ h => h, fun a u _ h => by rw [upd_ne (ne_of_none h hp)]; exact h⟩
theorem Ok.neOwn (k : Ok K mg N ι M S H own) {i : Nat} {a b : Addr} (e : own i = some a) (s : S b) : b ≠ a := fun z => by
  rw [z] at s
  exact (k.oout i a e).1 s
theorem Ok.neOwnI (k : Ok K mg N ι M S H own) {i : Nat} {a b : Addr} (e : own i = some a) (s : b ∈ ι) : b ≠ a := fun z => by
  rw [z] at s
  exact (k.oout i a e).2.2.2 s
theorem Ok.writeOwn (k : Ok K mg N ι M S H own) {i : Nat} {a : Addr} {o : HO} (e : own i = some a) (ho : Own1 o := by exact ⟨(fun _ z => nomatch z), (fun _ z => nomatch z)⟩) : Ok K mg N ι M S (upd H a o) own where
  len := k.len
  pre := k.pre
  fresh := k.fresh
  objs := fun j b m h1 h2 => (k.objs j b m h1 h2).ext ⟨fun _ h => h, fun _ _ h => h, fun c u s h => by rw [upd_ne (k.neOwn e s)]; exact h⟩ (upd_ne (k.neOwnI e (List.mem_of_getElem? h1)))
  nd := k.nd
  iout := fun b hb => ⟨(k.iout b hb).1, by rw [upd_ne (k.neOwnI e hb)]; exact (k.iout b hb).2⟩
  oout := fun j b q => by
    have r := k.oout j b q
    refine ⟨r.1, ?_, r.2.2⟩
    by_cases z : b = a
    · rw [z, upd_same]; exact ⟨o, rfl, ho⟩
    · rw [upd_ne z]; exact r.2.1
  oinj := k.oinj
  ofin := k.ofin
  sub := k.sub
  new := k.new
  keep := fun b u h1 h2 h3 => by
    rw [upd_ne fun z => by rw [z, (k.oout i a e).2.2.1] at h1; cases h1]
    exact k.keep b u h1 h2 h3
  trk := fun b h => by
    by_cases z : b = a
    · rw [z, upd_same]; exact fun q => nomatch q
    · rw [upd_ne z]; exact k.trk b h
  sat := fun b h => by
    rw [upd_ne (k.neOwn e h)]
    exact k.sat b h
  tb := by
    obtain ⟨u, h1, h2⟩ := (k.oout i a e).2.1
    exact k.tb.set h1 h2 ho.1
theorem Ok.writeOwn_ext (k : Ok K mg N ι M S H own) {i : Nat} {a : Addr} {o : HO} (e : own i = some a) : Ext S ι H S ι (upd H a o) :=
  ⟨fun _ h => h, fun _ _ h => h, fun b u s h => by rw [upd_ne (k.neOwn e s)]; exact h⟩
/-- a fresh list comes to a slot -/
theorem Cur.newOwn (c : Cur K mg N ι S H own σ ρ M) {i : Nat} {p : Addr} {xs : List V} {ds : List D} (hp : H p = none) (hi0 : i < ρ.length) (hd : Dns K mg S ι H xs ds) : Cur K mg N ι S (upd H p (.lst xs)) (setO own i (some p)) (σ.set i (some (.ref p))) (ρ.set i (some (.own ds))) M := by
  refine ⟨c.ok.track i hp, ⟨by simpa using c.env.len, by simpa using c.env.big, fun j h1 h2 => (by
    rw [List.length_set] at h1
    unfold setO
    rw [if_neg (by omega)]
    exact c.env.gap j h1 h2), fun j x q => ?_, fun j q => ?_⟩⟩
  · by_cases hj : j = i
    · subst hj
      have hi : j < ρ.length := by
        have := (List.getElem?_eq_some_iff.mp q).1
        simpa using this
      rw [List.getElem?_set_self hi] at q
      cases q
      refine ⟨_, List.getElem?_set_self (by rw [c.env.len]; exact hi), p, xs, rfl, ?_, upd_same, hd.ext (upd_ext hp)⟩
      unfold setO; rw [if_pos rfl]
    · rw [List.getElem?_set_ne (Ne.symm hj)] at q ⊢
      obtain ⟨w, h1, h2⟩ := c.env.at_ j x q
      refine ⟨w, h1, ?_⟩
      unfold setO; rw [if_neg hj]
      exact h2.ext (upd_ext hp) fun a e => c.ok.hown hp j a e
  · by_cases hj : j = i
    · subst hj
      have hi : j < ρ.length := by
        have := (List.getElem?_eq_some_iff.mp q).1
        simpa using this
      rw [List.getElem?_set_self hi] at q
      cases q
    · unfold setO; rw [if_neg hj]
      rw [List.getElem?_set_ne (Ne.symm hj)] at q
      exact c.env.nown j q
/-- .. is changed -/
theorem Cur.setOwn (c : Cur K mg N ι S H own σ ρ M) {i : Nat} {a : Addr} {xs : List V} {ds es : List D} (q0 : ρ[i]? = some (some (.own ds))) (ha : σ[i]? = some (some (.ref a))) (hd : Dns K mg S ι H xs es) :
    Cur K mg N ι S (upd H a (.lst xs)) own σ (ρ.set i (some (.own es))) M := by
  obtain ⟨v, h1, b, ys, rfl, h3, h4, h5⟩ := c.env.at_ i _ q0
  rw [ha] at h1
  cases h1
  refine ⟨c.ok.writeOwn h3, ⟨by simpa using c.env.len, by simpa using c.env.big, fun j h1 h2 => c.env.gap j (by simpa using h1) h2, fun j x q => ?_, fun j q => ?_⟩⟩
  · by_cases hj : j = i
    · subst hj
      rw [getElem?_set_eq' q0] at q
      cases q
      exact ⟨_, ha, a, xs, rfl, h3, upd_same, hd.ext (c.ok.writeOwn_ext h3)⟩
    · rw [List.getElem?_set_ne (Ne.symm hj)] at q
      obtain ⟨w, g1, g2⟩ := c.env.at_ j x q
      refine ⟨w, g1, g2.ext (c.ok.writeOwn_ext h3) fun d e => upd_ne fun z => hj (c.ok.oinj j i a (z ▸ e) h3)⟩
  · by_cases hj : j = i
    · subst hj
      rw [getElem?_set_eq' q0] at q
      cases q
    · rw [List.getElem?_set_ne (Ne.symm hj)] at q
      exact c.env.nown j q
end
section
variable {X : Cx} {N : En} {W : WX}
/-- x = [..], x's own from here on -/
def sNew (i : Nat) (a : TDA) : TDS := fun ρ M => match a ρ M with
  | some (.ok ds ρ1 M1) => if ds.length ≤ sizeLine ∧ i < ρ1.length then some (.nx (ρ1.set i (some (.own ds))) M1) else none
  | some (.ex x ρ1 M1) => some (.ex x ρ1 M1)
  | none => none
theorem ds_new {st : Stmt} {i : Nat} {a : TDA} (h : PS X st (tAsg (tLst (tA X.K X.mg N W a)) (gName i))) : DS1 X N W st (sNew i a) := ps_imp h fun E σ H q => by
  obtain ⟨ι, S, own, ρ, M, c, q⟩ := q
  refine ⟨ι, S, own, ρ, M, c, ?_⟩
  unfold sNew at q
  cases e1 : a ρ M with
  | none => rw [e1] at q; exact q
  | some o1 =>
    rw [e1] at q
    cases o1 with
    | ex x ρ' M' => exact q σ
    | ok ds ρ1 M1 =>
      simp only at q
      split at q
      · intro vs ι1 S1 H1 own1 c1 x1 dn
        rename_i hq
        refine ⟨by rw [dn.length]; exact hq.1, fun p hp => ?_⟩
        exact q _ ι1 S1 _ _ (c1.newOwn hp hq.2 dn) (x1.ext.trans (upd_ext hp))
      · exact q.elim
/-- x.append(e), x's own -/
def sApp (i : Nat) (a : TDE) : TDS := fun ρ M => match ρ[i]? with
  | some (some (.own _)) => match a ρ M with
    | some (.ok d ρ1 M1) => match ρ1[i]? with
      | some (some (.own ds)) => if ds.length < sizeLine then some (.nx (ρ1.set i (some (.own (ds ++ [d])))) M1) else none
      | _ => none
    | some (.ex x ρ1 M1) => some (.ex x ρ1 M1)
    | none => none
  | _ => none
theorem ds_app {i : Nat} {ex e : Expr} {apos cpos pos : Pos} {a : TDE} (hx : PE X ex (tVar i)) (ha : DE X N W e a)
    (hbase : attributeBase ex "append" X.env (eval ex X.env) = eval ex X.env := by rfl)
    (hfew : ((backTo cpos (starEach [e] X.env)).all (fun x => !x.1) && (backToKw cpos (keywordEach [] X.env)).all (fun x => x.1.isSome)
      && decide ([e].length + ([] : List Keyword).length + (if ([] : List Keyword).isEmpty then 0 else 1) < 30)) = true := by rfl)
    (hline : (apos.endLine == cpos.line) = true := by rfl) (hs : starEach [e] X.env = (false, eval e X.env) :: starEach [] X.env := by rfl) (hplain : (backTo cpos (starEach [] X.env)).any (·.1) = false := by rfl)
    (hsw : swapsWith (.Call (.Attribute ex "append" apos) [e] [] cpos) none pos.line X.env = pure false := by rfl) :
    DS1 X N W (.Expr (.Call (.Attribute ex "append" apos) [e] [] cpos) pos) (sApp i a) :=
  ps_imp (ps_expr (pe_bm PySem.F.plainAttrs_list PySem.F.slot_list_append PySem.F.type_list_append mt_append hx (pa_cons ha pa_nil hs) hbase hfew hline hs hplain) hsw) fun E σ H q => by
    obtain ⟨ι, S, own, ρ, M, c, q⟩ := q
    unfold sApp at q
    cases e0 : ρ[i]? with
    | none => rw [e0] at q; exact q.elim
    | some o =>
      rw [e0] at q
      cases o with
      | none => exact q.elim
      | some sv =>
        cases sv with
        | own ds0 =>
          obtain ⟨v, h1, b, ys, rfl, h3, h4, h5⟩ := c.env.at_ i _ e0
          refine ⟨_, h1, .inl ⟨rfl, ys, SqL.of h4⟩, ι, S, own, ρ, M, c, ?_⟩
          simp only at q
          cases e1 : a ρ M with
          | none => rw [e1] at q; exact q
          | some o1 =>
            rw [e1] at q
            cases o1 with
            | ex x ρ' M' => exact q σ
            | ok d ρ1 M1 =>
              intro y ι1 S1 H1 own1 c1 x1 dn
              simp only at q
              cases e2 : ρ1[i]? with
              | none => rw [e2] at q; exact q.elim
              | some o2 =>
                rw [e2] at q
                cases o2 with
                | none => exact q.elim
                | some sv2 =>
                  cases sv2 with
                  | own ds =>
                    simp only at q
                    split at q
                    · obtain ⟨v', g1, b', zs, e3, g3, g4, g5⟩ := c1.env.at_ i _ e2
                      rw [h1] at g1
                      cases g1
                      cases e3
                      refine ⟨b, zs, y, rfl, rfl, g4, by rw [g5.length]; assumption, ?_⟩
                      have dd : Dns X.K X.mg S1 ι1 H1 (zs ++ [y]) (ds ++ [d]) := g5.append (.cons dn .nil)
                      exact q σ ι1 S1 _ own1 (c1.setOwn e2 h1 dd) (x1.ext.trans (c1.ok.writeOwn_ext g3))
                    · exact q.elim
                  | _ => exact q.elim
        | _ => exact q.elim
/-- what is taken as data from here on -/
def sFreeze (i : Nat) (t : TDS) : TDS := fun ρ M => match ρ[i]? with
  | some (some (.own ds)) => t (ρ.set i (some (.t (.lst ds)))) M
  | some (some (.owd ks ds)) => t (ρ.set i (some (.t (.dct ks ds)))) M
  | _ => t ρ M
theorem freeze_post {i : Nat} {t : TDS} {ι : List Addr} {S : AP} {H : Hp} {own : OwnM} {σ : L2.St} {ρ : DS} {M : MS} {E : Ends} (c : Cur X.K X.mg N ι S H own σ ρ M) (q : postS X.K X.mg N W ι S H E (sFreeze i t ρ M)) : tS X.K X.mg N W t E σ H := by
  unfold sFreeze at q
  split at q
  · rename_i ds e
    obtain ⟨v, a, ho, h1, h2, h3, h4⟩ := c.freeze e
    exact ⟨ι, _, _, _, M, h3, postS.later h4 q⟩
  · rename_i ks ds e
    obtain ⟨v, a, ho, h1, h2, h3, h4⟩ := c.freezeD e
    exact ⟨ι, _, _, _, M, h3, postS.later h4 q⟩
  · exact ⟨ι, S, own, ρ, M, c, q⟩

/-! ### targets -/
/-- d comes to a target -/
abbrev TDG := D → DS → Option DS
def DG (X : Cx) (N : En) (tg : Expr) (b : TDG) : Prop := ∃ g : TG, PG X tg g ∧ ∀ (ι : List Addr) (M : MS) (S : AP) (H : Hp) (own : OwnM) (σ : L2.St) (ρ ρ' : DS) (v : V) (d : D) (Q : L2.St → Hp → Prop), Cur X.K X.mg N ι S H own σ ρ M → Dn X.K X.mg S ι H v d → b d ρ = some ρ' →
  (∀ σ' own', Cur X.K X.mg N ι S H own' σ' ρ' M → Q σ' H) → g v σ H Q
abbrev TDGs := List D → DS → Option DS
def DGs (X : Cx) (N : En) (ts : List Expr) (b : TDGs) : Prop := ∃ g : TGs, PGs X ts g ∧ ∀ (ι : List Addr) (M : MS) (S : AP) (H : Hp) (own : OwnM) (σ : L2.St) (ρ ρ' : DS) (vs : List V) (ds : List D) (Q : L2.St → Hp → Prop), Cur X.K X.mg N ι S H own σ ρ M → Dns X.K X.mg S ι H vs ds → b ds ρ = some ρ' →
  (∀ σ' own', Cur X.K X.mg N ι S H own' σ' ρ' M → Q σ' H) → g vs σ H Q
def bName (i : Nat) : TDG := fun d ρ => some (ρ.set i (some (.t d)))
theorem dg_name {tg : Expr} {i : Nat} (h : PG X tg (gName i)) : DG X N tg (bName i) := ⟨_, h, fun ι M S H own σ ρ ρ' v d Q c dn e k => by
  cases e
  exact k _ _ (c.store dn)⟩
def bNil : TDGs := fun ds ρ => match ds with
  | [] => some ρ
  | _ => none
def bCons (a : TDG) (r : TDGs) : TDGs := fun ds ρ => match ds with
  | d :: ds => match a d ρ with
    | some ρ1 => r ds ρ1
    | none => none
  | [] => none
theorem dgs_nil : DGs X N [] bNil := ⟨_, pgs_nil, fun ι M S H own σ ρ ρ' vs ds Q c dn e k => by
  cases dn with
  | nil => cases e; exact ⟨rfl, k _ _ c⟩
  | cons _ _ => cases e⟩
theorem dgs_cons {e : Expr} {es : List Expr} {a : TDG} {r : TDGs} (h1 : DG X N e a) (h2 : DGs X N es r) (hs : (assignEach (e :: es) X.env).map (·.2) = assign e X.env :: (assignEach es X.env).map (·.2) := by rfl) : DGs X N (e :: es) (bCons a r) := by
  obtain ⟨g1, p1, k1⟩ := h1
  obtain ⟨g2, p2, k2⟩ := h2
  refine ⟨_, pgs_cons p1 p2 hs, fun ι M S H own σ ρ ρ' vs ds Q c dn e k => ?_⟩
  cases dn with
  | nil => cases e
  | @cons v vs d ds h t =>
    unfold bCons at e
    cases e1 : a d ρ with
    | none => simp only [e1] at e; cases e
    | some ρ1 =>
      simp only [e1] at e
      refine ⟨v, vs, rfl, k1 ι M S H own σ ρ ρ1 v d _ c h e1 fun σ1 own1 c1 => ?_⟩
      exact k2 ι M S H own1 σ1 ρ1 ρ' vs ds Q c1 t e k
def bTup (n : Nat) (r : TDGs) : TDG := fun d ρ => match d with
  | .tup ds => if ds.length = n then r ds ρ else none
  | _ => none
theorem dg_tup {es : List Expr} {k : Nat} {pos : Pos} {r : TDGs} {n : Nat} (hc : X.calm = true) (h : DGs X N es r) (hn : (assignEach es X.env).length = n := by rfl) (hst : (assignEach es X.env).findIdx? (·.1) = none := by rfl) : DG X N (.Tuple es k pos) (bTup n r) := by
  obtain ⟨g, p, kk⟩ := h
  refine ⟨_, pg_tup hc p hn hst, fun ι M S H own σ ρ ρ' v d Q c dn e k => ?_⟩
  cases d with
  | tup ds =>
    unfold bTup at e
    simp only at e
    split at e
    · obtain ⟨a, xs, rfl, ha, ta, _⟩ := (Bn.dn dn).tupAt
      exact ⟨a, xs, rfl, ha, by rw [ta.length]; assumption, kk ι M S H own σ ρ ρ' xs ds Q c ta e k⟩
    · cases e
  | _ => cases e
/-- target = e -/
def sAsg (a : TDE) (b : TDG) : TDS := sBind a fun d ρ M => match b d ρ with
  | some ρ' => some (.nx ρ' M)
  | none => none
theorem ds_asg {tg e : Expr} {pos : Pos} {a : TDE} {b : TDG} (ha : DE X N W e a) (hg : DG X N tg b) (hs : swapsWithSole [tg] e pos.line X.env = pure false := by rfl) (hw : swappedStores [tg] e X.env = pure none := by rfl)
    (h1 : (assignEach [tg] X.env).map (·.2) = [assign tg X.env] := by rfl) : DS1 X N W (.Assign [tg] e pos) (sAsg a b) := by
  obtain ⟨g, p, k⟩ := hg
  refine ps_imp (ps_asg ha p hs hw h1) fun E σ H q => sbind_d q fun x d ι S H1 own ρ M c dn q => ?_
  cases e1 : b d ρ with
  | none => simp only [e1] at q; exact q.elim
  | some ρ' =>
    simp only [e1] at q
    exact k ι M S H1 own σ ρ ρ' x d _ c dn e1 fun σ' own' c' => q σ' ι S H1 own' c' .refl
/-- a, b = e1, e2, plain names -/
def sPar (i j : Nat) (a : TDA) : TDS := fun ρ M => match a ρ M with
  | some (.ok [d, e] ρ1 M1) => some (.nx ((ρ1.set i (some (.t d))).set j (some (.t e))) M1)
  | some (.ok _ _ _) => none
  | some (.ex x ρ1 M1) => some (.ex x ρ1 M1)
  | none => none
theorem ds_par {st : Stmt} {i j : Nat} {a : TDA} (h : PS X st (tPar i j (tA X.K X.mg N W a))) : DS1 X N W st (sPar i j a) := ps_imp h fun E σ H q => by
  obtain ⟨ι, S, own, ρ, M, c, q⟩ := q
  refine ⟨ι, S, own, ρ, M, c, ?_⟩
  unfold sPar at q
  cases e1 : a ρ M with
  | none => rw [e1] at q; exact q
  | some o1 =>
    rw [e1] at q
    cases o1 with
    | ex x ρ' M' => exact q σ
    | ok ds ρ1 M1 =>
      intro vs ι1 S1 H1 own1 c1 x1 dn
      cases dn with
      | nil => exact q.elim
      | cons h1 t =>
        cases t with
        | nil => exact q.elim
        | cons h2 t =>
          cases t with
          | nil => exact ⟨_, _, rfl, q _ ι1 S1 H1 _ ((c1.store h1).store h2) x1.ext⟩
          | cons h3 t => exact q.elim
/-- a, b = [], [] -/
def sPar0 (i j : Nat) : TDS := fun ρ M => if i < ρ.length ∧ j < ρ.length then some (.nx ((ρ.set i (some (.own []))).set j (some (.own []))) M) else none
theorem ds_par0 {st : Stmt} {i j : Nat} (h : PS X st (tPar i j (tCons (tLst tNil) (tCons (tLst tNil) tNil)))) : DS1 X N W st (sPar0 i j) := ps_imp h fun E σ H q => by
  obtain ⟨ι, S, own, ρ, M, c, q⟩ := q
  unfold sPar0 at q
  by_cases hq : i < ρ.length ∧ j < ρ.length
  case neg => rw [if_neg hq] at q; exact q.elim
  rw [if_pos hq] at q
  refine ⟨Nat.zero_le _, fun p hp => ⟨Nat.zero_le _, fun p2 hp2 => ⟨_, _, rfl, ?_⟩⟩⟩
  have c1 := c.newOwn (i := i) hp hq.1 (.nil)
  have c2 := c1.newOwn (i := j) hp2 (by simpa using hq.2) (.nil)
  exact q _ ι S _ _ c2 ((upd_ext hp).trans (upd_ext hp2))
end
end DL
set_option maxHeartbeats 2000000
namespace DL
open PySem PySem.Spec PyProof.Rows L2

/-! ### what is walked -/
/-- J gives the items ds, whatever the heap becomes, as long as the data stands -/
structure ItOk (K : PySem.W.Frag) (mg : Str → Option Value) (J : It) (ds : List D) (S : AP) (ι : List Addr) (H : Hp) : Prop where
  go : ∀ i S2 ι2 H2, i < ds.length → Ext S ι H S2 ι2 H2 → J.go i H2
  stop : ∀ S2 ι2 H2, Ext S ι H S2 ι2 H2 → J.stop ds.length H2
  yld : ∀ i S2 ι2 H2 x H3, i < ds.length → Ext S ι H S2 ι2 H2 → J.yld i H2 x H3 → ∃ d, ds[i]? = some d ∧ ((H3 = H2 ∧ Dn K mg S2 ι2 H2 x d) ∨
    ∃ T xs es, x = .ref T ∧ H2 T = none ∧ H3 = upd H2 T (.tup xs) ∧ d = .tup es ∧ Dns K mg S2 ι2 H2 xs es)
section
variable {X : Cx} {N : En} {W : WX}
def postI (K : PySem.W.Frag) (mg : Str → Option Value) (N : En) (W : WX) (ι : List Addr) (S : AP) (H : Hp) (own : OwnM) (σ : L2.St) (R : It → Hp → Prop) : Option AO → Prop
  | some (.ok ds ρ' M') => ∀ J ι' S' H' own', Cur K mg N ι' S' H' own' σ ρ' M' → ExtE S ι H own S' ι' H' own' → ItOk K mg J ds S' ι' H' → R J H'
  | some (.ex x ρ' M') => XPost K mg N S ι H W σ x ρ' M'
  | none => False
def tI (K : PySem.W.Frag) (mg : Str → Option Value) (N : En) (W : WX) (t : TDA) : TI := fun σ H R => ∃ ι S own ρ M, Cur K mg N ι S H own σ ρ M ∧ postI K mg N W ι S H own σ R (t ρ M)
abbrev DI (X : Cx) (N : En) (W : WX) (tg e : Expr) (t : TDA) : Prop := PI X tg e (tI X.K X.mg N W t)
theorem pi_imp {tg e : Expr} {t t' : TI} (h : PI X tg e t) (i : ∀ σ H Q, t' σ H Q → t σ H Q) : PI X tg e t' := ⟨fun pins s σ H R I q => h.run pins s σ H R I (i σ H R q)⟩
/-- the items of a list, a tuple, a text -/
def itemsD : D → Option (List D)
  | .lst ds => some ds
  | .tup ds => some ds
  | _ => none
def iBind (a : TDE) (k : D → Option (List D)) : TDA := fun ρ M => match a ρ M with
  | some (.ok d ρ1 M1) => match k d with
    | some ds => some (.ok ds ρ1 M1)
    | none => none
  | some (.ex x ρ1 M1) => some (.ex x ρ1 M1)
  | none => none
theorem itOk_of {J : It} {n : Nat} {G : Hp → Prop} {Y : Nat → Hp → V → Hp → Prop} (w : Walk J n G Y) {ds : List D} {K : PySem.W.Frag} {mg : Str → Option Value} {S : AP} {ι : List Addr} {H : Hp} (hn : n = ds.length) (hG : ∀ S2 ι2 H2, Ext S ι H S2 ι2 H2 → G H2)
    (hY : ∀ i S2 ι2 H2 x H3, i < ds.length → Ext S ι H S2 ι2 H2 → Y i H2 x H3 → ∃ d, ds[i]? = some d ∧ ((H3 = H2 ∧ Dn K mg S2 ι2 H2 x d) ∨ ∃ T xs es, x = .ref T ∧ H2 T = none ∧ H3 = upd H2 T (.tup xs) ∧ d = .tup es ∧ Dns K mg S2 ι2 H2 xs es)) : ItOk K mg J ds S ι H :=
  ⟨fun i S2 ι2 H2 hi e => w.goes i H2 (by omega) (hG S2 ι2 H2 e), fun S2 ι2 H2 e => by rw [← hn]; exact w.stops H2 (hG S2 ι2 H2 e), fun i S2 ι2 H2 x H3 hi e y => hY i S2 ι2 H2 x H3 hi e (w.yields i H2 x H3 (by omega) (hG S2 ι2 H2 e) y)⟩
theorem at_item {K : PySem.W.Frag} {mg : Str → Option Value} {S S2 : AP} {ι ι2 : List Addr} {H H2 : Hp} {xs : List V} {ds : List D} (t : Dns K mg S ι H xs ds) (e : Ext S ι H S2 ι2 H2) {i : Nat} {x : V} {H3 : Hp} (y : YAt xs i H2 x H3) :
    ∃ d, ds[i]? = some d ∧ ((H3 = H2 ∧ Dn K mg S2 ι2 H2 x d) ∨ ∃ T ys es, x = .ref T ∧ H2 T = none ∧ H3 = upd H2 T (.tup ys) ∧ d = .tup es ∧ Dns K mg S2 ι2 H2 ys es) := by
  obtain ⟨rfl, h⟩ := y
  obtain ⟨d, h1, h2⟩ := (t.ext e).getV h
  exact ⟨d, h1, .inl ⟨rfl, h2⟩⟩
theorem di_seq {tg e : Expr} {a : TDE} (ha : DE X N W e a) : DI X N W tg e (iBind a itemsD) := pi_imp (pi_or2 (pi_list ha) (pi_tup ha)) fun σ H R q => by
  obtain ⟨ι, S, own, ρ, M, c, q⟩ := q
  unfold iBind at q
  cases e1 : a ρ M with
  | none => rw [e1] at q; exact q.elim
  | some o1 =>
    rw [e1] at q
    cases o1 with
    | ex x ρ' M' =>
      refine .inl ⟨ι, S, own, ρ, M, c, ?_⟩
      rw [e1]; exact q
    | ok d ρ1 M1 =>
      simp only at q
      cases d with
      | lst ds =>
        refine .inl ⟨ι, S, own, ρ, M, c, ?_⟩
        rw [e1]
        intro v ι1 S1 H1 own1 c1 x1 dn
        cases dn with
        | lst h t => exact ⟨_, rfl, ⟨_, h.sq⟩, q _ ι1 S1 H1 own1 c1 x1 (itOk_of walk_list t.length (fun S2 ι2 H2 e => (e.sqL h).sq) fun i S2 ι2 H2 x H3 hi e y => at_item t e y)⟩
      | tup ds =>
        refine .inr ⟨ι, S, own, ρ, M, c, ?_⟩
        rw [e1]
        intro v ι1 S1 H1 own1 c1 x1 dn
        cases dn with
        | tup h t => exact ⟨_, rfl, ⟨_, h.sq⟩, q _ ι1 S1 H1 own1 c1 x1 (itOk_of walk_tup t.length (fun S2 ι2 H2 e => (e.sqT h).sq) fun i S2 ι2 H2 x H3 hi e y => at_item t e y)⟩
      | _ => exact q.elim
/-- range(n), range(a, b) -/
def small62 (i : Int) : Prop := -(2 ^ 62) ≤ i ∧ i < 2 ^ 62
instance (i : Int) : Decidable (small62 i) := by unfold small62; infer_instance
def rangeL (lo : Int) (n : Nat) : List D := (List.range n).map fun k => .int (lo + (k : Nat))
theorem itOk_range {K : PySem.W.Frag} {mg : Str → Option Value} {S : AP} {ι : List Addr} {H : Hp} (lo : Int) (n : Nat) : ItOk K mg (Itr lo n) (rangeL lo n) S ι H :=
  itOk_of walk_range (by simp [rangeL]) (fun _ _ _ _ => trivial) fun i S2 ι2 H2 x H3 hi e y => by
    obtain ⟨rfl, rfl⟩ := y
    have hi' : i < n := by simpa [rangeL] using hi
    exact ⟨.int (lo + i), by simp [rangeL, hi'], .inl ⟨rfl, .int _⟩⟩
def iRange1 (a : TDE) : TDA := iBind a fun d => match d with
  | .int j => if small62 j then some (rangeL 0 j.toNat) else none
  | _ => none
theorem di_range1 {tg a : Expr} {ta : TDE} {p pos : Pos} (hm : X.mg "range" = none) (ha : DE X N W a ta) (hg : Gl X "range" := by rfl) (hs : starEach [a] X.env = [(false, eval a X.env)] := by rfl) (hs' : starEach [a] X.env = (false, eval a X.env) :: starEach [] X.env := by rfl) : DI X N W tg (.Call (.Name "range" p) [a] [] pos) (iRange1 ta) :=
  pi_imp (pi_range1 hg hm (pa_cons ha pa_nil hs') hs) fun σ H R q => by
    obtain ⟨ι, S, own, ρ, M, c, q⟩ := q
    refine ⟨ι, S, own, ρ, M, c, ?_⟩
    unfold iRange1 iBind at q
    cases e1 : ta ρ M with
    | none => rw [e1] at q; exact q
    | some o1 =>
      rw [e1] at q
      cases o1 with
      | ex x ρ' M' => exact q
      | ok d ρ1 M1 =>
        cases d with
        | int j =>
          intro v ι1 S1 H1 own1 c1 x1 dn
          by_cases hj : small62 j
          · simp only [if_pos hj] at q
            exact ⟨j, by rw [(Bn.dn dn).intAt], hj.1, hj.2, q _ ι1 S1 H1 own1 c1 x1 (itOk_range 0 j.toNat)⟩
          · simp only [if_neg hj] at q; exact q.elim
        | _ => exact q.elim
def iRange2 (a b : TDE) : TDA := fun ρ M => match a ρ M with
  | some (.ok d ρ1 M1) => iBind b (fun e => match d, e with
    | .int i, .int j => if small62 i ∧ small62 j then some (rangeL i (j - i).toNat) else none
    | _, _ => none) ρ1 M1
  | some (.ex x ρ1 M1) => some (.ex x ρ1 M1)
  | none => none
theorem postI.later {K : PySem.W.Frag} {mg : Str → Option Value} {ι ι1 : List Addr} {M : MS} {S S1 : AP} {H H1 : Hp} {own own1 : OwnM} {σ : L2.St} {R : It → Hp → Prop} (c : Ok K mg N ι M S H own) (e : ExtE S ι H own S1 ι1 H1 own1) : ∀ {o : Option AO}, postI K mg N W ι S H own σ R o → postI K mg N W ι1 S1 H1 own1 σ R o
  | some (.ok ds ρ' M'), h => fun J ι' S' H' own' c' x dn => h J ι' S' H' own' c' (e.trans c x) dn
  | some (.ex x ρ' M'), h => XPost.later e.ext h
  | none, h => h
theorem di_range2 {tg a b : Expr} {ta tb : TDE} {p pos : Pos} (hm : X.mg "range" = none) (ha : DE X N W a ta) (hb : DE X N W b tb) (hg : Gl X "range" := by rfl)
    (hs : starEach [a, b] X.env = [(false, eval a X.env), (false, eval b X.env)] := by rfl) (hs2 : starEach [b] X.env = [(false, eval b X.env)] := by rfl) (hs3 : starEach [a, b] X.env = (false, eval a X.env) :: starEach [b] X.env := by rfl) (hs4 : starEach [b] X.env = (false, eval b X.env) :: starEach [] X.env := by rfl) :
    DI X N W tg (.Call (.Name "range" p) [a, b] [] pos) (iRange2 ta tb) :=
  pi_imp (pi_range2 hg hm (pa_cons ha (pa_cons hb pa_nil hs4) hs3) hs hs2) fun σ H R q => by
    obtain ⟨ι, S, own, ρ, M, c, q⟩ := q
    refine ⟨ι, S, own, ρ, M, c, ?_⟩
    unfold iRange2 at q
    cases e1 : ta ρ M with
    | none => rw [e1] at q; exact q
    | some o1 =>
      rw [e1] at q
      cases o1 with
      | ex x ρ' M' => exact q
      | ok d ρ1 M1 =>
        intro v ι1 S1 H1 own1 c1 x1 dn
        refine ⟨ι1, S1, own1, ρ1, M1, c1, ?_⟩
        have q := postI.later c.ok x1 q
        unfold iBind at q
        cases e2 : tb ρ1 M1 with
        | none => simp only [e2] at q; exact q
        | some o2 =>
          simp only [e2] at q
          cases o2 with
          | ex x ρ' M' => exact q
          | ok d2 ρ2 M2 =>
            intro y ι2 S2 H2 own2 c2 x2 dn2
            cases d with
            | int i =>
              cases d2 with
              | int j =>
                by_cases hj : small62 i ∧ small62 j
                · simp only [if_pos hj] at q
                  have ev : v = .int i := (Bn.dn dn).intAt
                  have ey : y = .int j := (Bn.dn dn2).intAt
                  exact ⟨i, j, by rw [ev, ey], ⟨hj.1.1, hj.1.2, hj.2.1, hj.2.2⟩, q _ ι2 S2 H2 own2 c2 x2 (itOk_range i (j - i).toNat)⟩
                · simp only [if_neg hj] at q; exact q.elim
              | _ => exact q.elim
            | _ => exact q.elim

/-! ### for -/
def loopS (b : TDG) (body : TDS) : List D → TDS
  | [], ρ, M => some (.nx ρ M)
  | d :: r, ρ, M => match b d ρ with
    | some ρ1 => match body ρ1 M with
      | some (.nx ρ2 M2) => loopS b body r ρ2 M2
      | some (.ct ρ2 M2) => loopS b body r ρ2 M2
      | some (.bk ρ2 M2) => some (.nx ρ2 M2)
      | o => o
    | none => none
def sFor (src : TDA) (b : TDG) (body : TDS) : TDS := fun ρ M => match src ρ M with
  | some (.ok ds ρ1 M1) => loopS b body ds ρ1 M1
  | some (.ex x ρ1 M1) => some (.ex x ρ1 M1)
  | none => none
/-- an item has come -/
theorem Cur.item {K : PySem.W.Frag} {mg : Str → Option Value} {ι : List Addr} {M : MS} {S : AP} {H2 H3 : Hp} {own : OwnM} {σ : L2.St} {ρ : DS} {x : V} {d : D} (c : Cur K mg N ι S H2 own σ ρ M)
    (h : (H3 = H2 ∧ Dn K mg S ι H2 x d) ∨ ∃ T xs es, x = .ref T ∧ H2 T = none ∧ H3 = upd H2 T (.tup xs) ∧ d = .tup es ∧ Dns K mg S ι H2 xs es) : ∃ S3, Cur K mg N ι S3 H3 own σ ρ M ∧ ExtE S ι H2 own S3 ι H3 own ∧ Dn K mg S3 ι H3 x d := by
  rcases h with ⟨rfl, h⟩ | ⟨T, xs, es, rfl, hT, rfl, rfl, h⟩
  · exact ⟨S, c, .refl, h⟩
  · exact ⟨addS S T, c.alloc hT, ⟨c.ok.alloc_ext hT, fun i a e => ⟨c.ok.hown hT i a e, .inl e⟩⟩, .tup (.inl ⟨.inr rfl, .inl upd_same⟩) (h.ext (c.ok.alloc_ext hT))⟩
theorem ds_for {tg iter : Expr} {body : List Stmt} {pos : Pos} {src : TDA} {b : TDG} {u : TDS} (hp : PassesOwn (model X.prog X.w) X.A X.env X.xe) (hc : X.calm = true) (hi : DI X N W tg iter src) (hg : DG X N tg b) (hb : DSs X N W body u)
    (hs : ∀ x, foldedSetIterable iter X.env x = pure x := by intro _; rfl) : DS1 X N W (.For tg iter body [] pos) (sFor src b u) := by
  obtain ⟨g, pg, kg⟩ := hg
  refine ps_imp (ps_for hp hc hi pg hb hs) fun E σ H q => ?_
  obtain ⟨ι, S, own, ρ, M, c, q⟩ := q
  refine ⟨ι, S, own, ρ, M, c, ?_⟩
  unfold sFor at q
  cases e1 : src ρ M with
  | none => rw [e1] at q; exact q
  | some o1 =>
    rw [e1] at q
    cases o1 with
    | ex x ρ' M' => exact q σ
    | ok ds ρ1 M1 =>
      intro J ι1 S1 H1 own1 c1 x1 it
      have q1 : postS X.K X.mg N W ι1 S1 H1 E (loopS b u (ds.drop 0) ρ1 M1) := postS.later x1.ext q
      refine ⟨fun i m σ' H' => m = ds.length - i ∧ i ≤ ds.length ∧ ∃ ι2 S2 own2 ρ2 M2, Cur X.K X.mg N ι2 S2 H' own2 σ' ρ2 M2 ∧ Ext S1 ι1 H1 S2 ι2 H' ∧ postS X.K X.mg N W ι2 S2 H' E (loopS b u (ds.drop i) ρ2 M2), ⟨ds.length, rfl, Nat.zero_le _, ι1, S1, own1, ρ1, M1, c1, .refl, q1⟩, ?_⟩
      rintro i m σ2 H2 ⟨rfl, hi, ι2, S2, own2, ρ2, M2, c2, x2, q2⟩
      by_cases hlt : i < ds.length
      · refine .inr ⟨it.go i S2 ι2 H2 hlt x2, fun σ' H' => (∃ ι3 S3 own3 ρ3 M3, Cur X.K X.mg N ι3 S3 H' own3 σ' ρ3 M3 ∧ Ext S1 ι1 H1 S3 ι3 H' ∧ postS X.K X.mg N W ι3 S3 H' E (loopS b u (ds.drop (i + 1)) ρ3 M3)), fun σ' H' h => ⟨ds.length - (i + 1), by omega, rfl, hlt, h⟩, fun x H3 y => ?_⟩
        obtain ⟨d, hd, hv⟩ := it.yld i S2 ι2 H2 x H3 hlt x2 y
        obtain ⟨S3, c3, x3, dn⟩ := c2.item hv
        have ed : ds.drop i = d :: ds.drop (i + 1) := by
          have h1 := List.getElem?_eq_some_iff.mp hd
          rw [List.drop_eq_getElem_cons hlt, h1.2]
        rw [ed] at q2
        unfold loopS at q2
        cases e2 : b d ρ2 with
        | none => simp only [e2] at q2; exact q2.elim
        | some ρ3 =>
          simp only [e2] at q2
          refine kg ι2 M2 S3 H3 own2 σ2 ρ2 ρ3 x d _ c3 dn e2 fun σ4 own4 c4 => ⟨ι2, S3, own4, ρ3, M2, c4, ?_⟩
          have q3 := postS.later x3.ext q2
          cases e3 : u ρ3 M2 with
          | none => simp only [e3] at q3; exact q3
          | some o3 =>
            simp only [e3] at q3
            cases o3 with
            | nx ρ' M' => exact fun σ' ι' S' H' own' c' x' => ⟨ι', S', own', ρ', M', c', (x2.trans x3.ext).trans x', postS.later x' q3⟩
            | ct ρ' M' => exact fun σ' ι' S' H' own' c' x' => ⟨ι', S', own', ρ', M', c', (x2.trans x3.ext).trans x', postS.later x' q3⟩
            | bk ρ' M' => exact q3
            | rt d' M' => exact q3
            | ex x' ρ' M' => exact q3
      · have ei : i = ds.length := by omega
        subst ei
        rw [List.drop_length] at q2
        exact .inl ⟨it.stop S2 ι2 H2 x2, q2 σ2 ι2 S2 H2 own2 c2 .refl⟩

/-! ### while -/
def wh (c : TDE) (body : TDS) : Nat → TDS
  | 0, _, _ => none
  | n + 1, ρ, M => match c ρ M with
    | some (.ok (.bl true) ρ1 M1) => match body ρ1 M1 with
      | some (.nx ρ2 M2) => wh c body n ρ2 M2
      | some (.ct ρ2 M2) => wh c body n ρ2 M2
      | some (.bk ρ2 M2) => some (.nx ρ2 M2)
      | o => o
    | some (.ok (.bl false) ρ1 M1) => some (.nx ρ1 M1)
    | some (.ok _ _ _) => none
    | some (.ex x ρ1 M1) => some (.ex x ρ1 M1)
    | none => none
open Classical in
noncomputable def sWhile (c : TDE) (body : TDS) : TDS := fun ρ M => if h : ∃ n, (wh c body n ρ M).isSome = true then wh c body (choose h) ρ M else none
theorem wh_mono {c : TDE} {body : TDS} : ∀ {n m : Nat} {ρ : DS} {M : MS} {o : SO}, n ≤ m → wh c body n ρ M = some o → wh c body m ρ M = some o
  | 0, _, _, _, _, _, h => nomatch h
  | n + 1, 0, _, _, _, hm, _ => absurd hm (by omega)
  | n + 1, m + 1, ρ, M, o, hm, h => by
    unfold wh at h ⊢
    cases e : c ρ M with
    | none => rw [e] at h; exact h
    | some r =>
      rw [e] at h
      cases r with
      | ex x ρ1 M1 => exact h
      | ok d ρ1 M1 =>
        cases d with
        | bl b =>
          cases b with
          | false => exact h
          | true =>
            simp only at h ⊢
            cases e2 : body ρ1 M1 with
            | none => rw [e2] at h; exact h
            | some r2 =>
              rw [e2] at h
              cases r2 with
              | nx ρ2 M2 => exact wh_mono (by omega) h
              | ct ρ2 M2 => exact wh_mono (by omega) h
              | bk ρ2 M2 => exact h
              | rt d M2 => exact h
              | ex x ρ2 M2 => exact h
        | _ => exact h
theorem while_of {c : TDE} {body : TDS} {n : Nat} {ρ : DS} {M : MS} {o : SO} (h : wh c body n ρ M = some o) : sWhile c body ρ M = some o := by
  have hx : ∃ n, (wh c body n ρ M).isSome = true := ⟨n, by rw [h]; rfl⟩
  unfold sWhile
  rw [dif_pos hx]
  have h2 := Classical.choose_spec hx
  obtain ⟨o2, h3⟩ := Option.isSome_iff_exists.mp h2
  rw [h3]
  rcases Nat.le_total n (Classical.choose hx) with hle | hle
  · have := wh_mono hle h
    rw [h3] at this
    exact this
  · have := wh_mono hle h3
    rw [h] at this
    exact this.symm
theorem while_get {c : TDE} {body : TDS} {ρ : DS} {M : MS} {o : SO} (h : sWhile c body ρ M = some o) : ∃ n, wh c body n ρ M = some o := by
  unfold sWhile at h
  split at h
  · exact ⟨_, h⟩
  · cases h
theorem ds_while {c : Expr} {body : List Stmt} {pos : Pos} {t : TDE} {u : TDS} (hp : PassesOwn (model X.prog X.w) X.A X.env X.xe) (hc : DT X N W c t) (hb : DSs X N W body u) : DS1 X N W (.While c body [] pos) (sWhile t u) :=
  ps_imp (ps_while hp hc hb) fun E σ H q => by
    obtain ⟨ι, S, own, ρ, M, c, q⟩ := q
    cases e : sWhile t u ρ M with
    | none => rw [e] at q; exact q.elim
    | some o =>
      rw [e] at q
      obtain ⟨n, hn⟩ := while_get e
      rw [← hn] at q
      refine ⟨fun m σ' H' => ∃ ι2 S2 own2 ρ2 M2, Cur X.K X.mg N ι2 S2 H' own2 σ' ρ2 M2 ∧ postS X.K X.mg N W ι2 S2 H' E (wh t u m ρ2 M2), ⟨n, ι, S, own, ρ, M, c, q⟩, ?_⟩
      rintro m σ2 H2 ⟨ι2, S2, own2, ρ2, M2, c2, q2⟩
      cases m with
      | zero => exact q2.elim
      | succ m =>
        refine ⟨ι2, S2, own2, ρ2, M2, c2, ?_⟩
        unfold wh at q2
        cases e1 : t ρ2 M2 with
        | none => rw [e1] at q2; exact q2
        | some r =>
          rw [e1] at q2
          cases r with
          | ex x ρ1 M1 => exact q2 σ2
          | ok d ρ1 M1 =>
            cases d with
            | bl b =>
              intro ι3 S3 H3 own3 c3 x3
              cases b with
              | false => exact iteF (q2 σ2 ι3 S3 H3 own3 c3 x3.ext)
              | true =>
                refine iteT ⟨fun σ' H' => ∃ ι4 S4 own4 ρ4 M4, Cur X.K X.mg N ι4 S4 H' own4 σ' ρ4 M4 ∧ postS X.K X.mg N W ι4 S4 H' E (wh t u m ρ4 M4), fun σ' H' h => ⟨m, Nat.lt_succ_self m, h⟩, ι3, S3, own3, ρ1, M1, c3, ?_⟩
                have q3 := postS.later x3.ext q2
                simp only at q3
                cases e3 : u ρ1 M1 with
                | none => simp only [e3] at q3; exact q3
                | some o3 =>
                  simp only [e3] at q3
                  cases o3 with
                  | nx ρ' M' => exact fun σ' ι' S' H' own' c' x' => ⟨ι', S', own', ρ', M', c', postS.later x' q3⟩
                  | ct ρ' M' => exact fun σ' ι' S' H' own' c' x' => ⟨ι', S', own', ρ', M', c', postS.later x' q3⟩
                  | bk ρ' M' => exact q3
                  | rt d' M' => exact q3
                  | ex x' ρ' M' => exact q3
            | _ => exact q2.elim
end
end DL
set_option maxHeartbeats 2000000
namespace DL
open PySem PySem.Spec PyProof.Rows L2

/-! ### a comprehension -/
def borSV : SV → SV
  | .own ds => .bor ds
  | .owd ks ds => .bod ks ds
  | x => x
def borrow (ρ : DS) : DS := ρ.map fun o => o.map borSV
def kindSV : Option SV → Nat
  | none => 0
  | some (.t _) => 1
  | some (.own _) => 2
  | some (.owd _ _) => 3
  | some (.bor _) => 4
  | some (.bod _ _) => 5
  | some (.owi _ _ _ _) => 6
  | some (.fnv _) => 7
def kinds (ρ : DS) : List Nat := ρ.map kindSV
def wipeD (ρ : DS) : List Nat → DS
  | [] => ρ
  | v :: vs => (wipeD ρ vs).set v none
def freeSV : Option (Option SV) → Bool
  | some (some (.t _)) => true
  | some (some _) => false
  | _ => true
def freeAll (ρ : DS) (vs : List Nat) : Bool := vs.all fun v => freeSV ρ[v]?
section
variable {K : PySem.W.Frag} {mg : Str → Option Value} {N : En} {ι ι' : List Addr} {M M' : MS} {S S' : AP} {H H' : Hp} {own own' : OwnM} {σ : L2.St} {ρ ρ' : DS}
theorem EnvOk.borrow (h : EnvOk K mg S ι H own σ ρ) : EnvOk K mg S ι H own σ (borrow ρ) := by
  refine ⟨by simpa [DL.borrow] using h.len, by simpa [DL.borrow] using h.big, fun j h1 h2 => h.gap j (by simpa [DL.borrow] using h1) h2, fun j x q => ?_, fun j q => ?_⟩
  · unfold DL.borrow at q
    rw [List.getElem?_map] at q
    cases e : ρ[j]? with
    | none => rw [e] at q; cases q
    | some o =>
      cases o with
      | none => rw [e] at q; cases q
      | some y =>
        rw [e] at q
        cases q
        obtain ⟨v, h1, h2⟩ := h.at_ j y e
        refine ⟨v, h1, ?_⟩
        cases y with
        | t d => exact h2
        | own ds => exact h2
        | owd ks ds => exact h2
        | bor ds => exact h2
        | bod ks ds => exact h2
        | owi p c ks ds => exact h2
        | fnv f => exact h2
  · unfold DL.borrow at q
    rw [List.getElem?_map] at q
    cases e : ρ[j]? with
    | none => rw [e] at q; cases q
    | some o =>
      cases o with
      | none => exact h.nown j e
      | some y => rw [e] at q; cases q
theorem EnvOk.free (h : EnvOk K mg S ι H own σ ρ) {v : Nat} (hf : freeSV ρ[v]? = true) (hv : v < slotsB) : own v = none := by
  cases e : ρ[v]? with
  | none => exact h.gap v (List.getElem?_eq_none_iff.mp e) hv
  | some o =>
    cases o with
    | none => exact h.nown v e
    | some x =>
      rw [e] at hf
      cases x with
      | t d => obtain ⟨w, _, h2⟩ := h.at_ v _ e; exact h2.1
      | _ => cases hf
theorem EnvOk.wipe (h : EnvOk K mg S ι H own σ ρ) : ∀ {vs : List Nat}, (∀ v ∈ vs, own v = none) → EnvOk K mg S ι H own (L2.wipe σ vs) (wipeD ρ vs)
  | [], _ => h
  | v :: vs, hv => by
    have ih := EnvOk.wipe h (vs := vs) fun w hw => hv w (List.mem_cons_of_mem _ hw)
    unfold L2.wipe wipeD
    refine ⟨by simpa using ih.len, by simpa using ih.big, fun j h1 h2 => ih.gap j (by simpa using h1) h2, fun j x q => ?_, fun j q => ?_⟩
    · by_cases hj : j = v
      · subst hj
        rw [List.getElem?_set] at q
        rw [if_pos rfl] at q
        split at q <;> cases q
      · rw [List.getElem?_set_ne (Ne.symm hj)] at q ⊢
        exact ih.at_ j x q
    · by_cases hj : j = v
      · rw [hj]; exact hv v List.mem_cons_self
      · rw [List.getElem?_set_ne (Ne.symm hj)] at q
        exact ih.nown j q
/-- the slots' own lists are still their own -/
theorem own_same (h : EnvOk K mg S ι H own σ ρ) (h' : EnvOk K mg S' ι' H' own' σ ρ') (hk : kinds ρ' = kinds ρ) (e : ExtE S ι H own S' ι' H' own') : ∀ i a, own i = some a → own' i = some a := fun i a q => by
  by_cases hi : i < slotsB
  · cases e1 : ρ[i]? with
    | none => rw [h.gap i (List.getElem?_eq_none_iff.mp e1) hi] at q; cases q
    | some o =>
      cases o with
      | none => rw [h.nown i e1] at q; cases q
      | some x =>
        have hk2 : (kinds ρ')[i]? = (kinds ρ)[i]? := by rw [hk]
        unfold kinds at hk2
        rw [List.getElem?_map, List.getElem?_map, e1] at hk2
        obtain ⟨v, h1, h2⟩ := h.at_ i x e1
        cases e2 : ρ'[i]? with
        | none => rw [e2] at hk2; cases hk2
        | some o2 =>
          rw [e2] at hk2
          have hk3 : kindSV o2 = kindSV (some x) := Option.some.inj hk2
          cases o2 with
          | none => cases x <;> cases hk3
          | some y =>
            obtain ⟨v', g1, g2⟩ := h'.at_ i y e2
            rw [h1] at g1
            cases g1
            cases x with
            | t d => rw [h2.1] at q; cases q
            | fnv f => rw [h2.1] at q; cases q
            | own ds =>
              cases y <;> first | (cases hk3; done) | skip
              obtain ⟨b, xs, r1, r2, _⟩ := h2
              obtain ⟨b', xs', s1, s2, _⟩ := g2
              rw [r1] at s1; cases s1
              rw [q] at r2; cases r2
              exact s2
            | owd ks ds =>
              cases y <;> first | (cases hk3; done) | skip
              obtain ⟨b, xs, r1, r2, _⟩ := h2
              obtain ⟨b', xs', s1, s2, _⟩ := g2
              rw [r1] at s1; cases s1
              rw [q] at r2; cases r2
              exact s2
            | bor ds =>
              cases y <;> first | (cases hk3; done) | skip
              obtain ⟨b, xs, r1, r2, _⟩ := h2
              obtain ⟨b', xs', s1, s2, _⟩ := g2
              rw [r1] at s1; cases s1
              rw [q] at r2; cases r2
              exact s2
            | bod ks ds =>
              cases y <;> first | (cases hk3; done) | skip
              obtain ⟨b, xs, r1, r2, _⟩ := h2
              obtain ⟨b', xs', s1, s2, _⟩ := g2
              rw [r1] at s1; cases s1
              rw [q] at r2; cases r2
              exact s2
            | owi p c ks ds =>
              cases y <;> first | (cases hk3; done) | skip
              obtain ⟨b, C, dx, xs, r1, _, r2, _⟩ := h2
              obtain ⟨b', C', dx', xs', s1, _, s2, _⟩ := g2
              rw [r1] at s1; cases s1
              rw [q] at r2; cases r2
              exact s2
  · rcases (e.ow i a q).2 with z | ⟨z, _⟩
    · exact z
    · exact absurd z hi
theorem Ok.less (k : Ok K mg N ι M S H own') (h : ∀ i a, own i = some a → own' i = some a) : Ok K mg N ι M S H own :=
  ⟨k.len, k.pre, k.fresh, k.objs, k.nd, k.iout, fun i a e => k.oout i a (h i a e), fun i j a e1 e2 => k.oinj i j a (h i a e1) (h j a e2), (by
    obtain ⟨n, hn⟩ := k.ofin
    refine ⟨n, fun i hi => ?_⟩
    cases e : own i with
    | none => rfl
    | some a => have z := h i a e; rw [hn i hi] at z; cases z), k.sub, k.new, k.keep, k.trk, k.sat, k.tb⟩
end

/-- what a target asks, with the names it stores -/
def GOk (K : PySem.W.Frag) (mg : Str → Option Value) (N : En) (vs : List Nat) (g : TG) (b : TDG) : Prop := ∀ (ι : List Addr) (M : MS) (S : AP) (H : Hp) (own : OwnM) (σ : L2.St) (ρ ρ' : DS) (v : V) (d : D) (Q : L2.St → Hp → Prop), Cur K mg N ι S H own σ ρ M → (∀ i ∈ vs, own i = none) → Dn K mg S ι H v d → b d ρ = some ρ' →
  (∀ σ', Cur K mg N ι S H own σ' ρ' M → L2.wipe σ' vs = L2.wipe σ vs → Q σ' H) → g v σ H Q
def GsOk (K : PySem.W.Frag) (mg : Str → Option Value) (N : En) (vs : List Nat) (g : TGs) (b : TDGs) : Prop := ∀ (ι : List Addr) (M : MS) (S : AP) (H : Hp) (own : OwnM) (σ : L2.St) (ρ ρ' : DS) (ws : List V) (ds : List D) (Q : L2.St → Hp → Prop), Cur K mg N ι S H own σ ρ M → (∀ i ∈ vs, own i = none) → Dns K mg S ι H ws ds → b ds ρ = some ρ' →
  (∀ σ', Cur K mg N ι S H own σ' ρ' M → L2.wipe σ' vs = L2.wipe σ vs → Q σ' H) → g ws σ H Q
theorem wipe_set {σ : L2.St} {i : Nat} {x : Option V} : ∀ {vs : List Nat}, i ∈ vs → L2.wipe (σ.set i x) vs = L2.wipe σ vs
  | v :: vs, h => by
    unfold L2.wipe
    by_cases hv : i ∈ vs
    · rw [wipe_set hv]
    · have e : i = v := by
        rcases List.mem_cons.mp h with h | h
        · exact h
        · exact absurd h hv
      subst e
      have aux : ∀ {us : List Nat}, i ∉ us → L2.wipe (σ.set i x) us = (L2.wipe σ us).set i x := fun {us} => by
        induction us with
        | nil => intro _; rfl
        | cons u us ih =>
          intro hu
          unfold L2.wipe
          rw [ih fun z => hu (List.mem_cons_of_mem _ z), List.set_comm]
          exact fun z => hu (by rw [z]; exact List.mem_cons_self)
      rw [aux hv, List.set_set]
theorem wipe_wipe {σ : L2.St} : ∀ {us vs : List Nat}, (∀ u ∈ us, u ∈ vs) → L2.wipe (L2.wipe σ us) vs = L2.wipe σ vs
  | [], _, _ => rfl
  | u :: us, vs, h => by
    show L2.wipe ((L2.wipe σ us).set u none) vs = _
    rw [wipe_set (h u List.mem_cons_self), wipe_wipe fun w hw => h w (List.mem_cons_of_mem _ hw)]
section
variable {K : PySem.W.Frag} {mg : Str → Option Value} {N : En} {vs : List Nat}
theorem gok_name {i : Nat} (h : i ∈ vs) : GOk K mg N vs (gName i) (bName i) := fun ι M S H own σ ρ ρ' v d Q c hv dn e k => by
  cases e
  have c' := c.store (i := i) dn
  have eo : setO own i none = own := by
    funext j
    unfold setO
    split
    · rename_i hj; rw [hj, hv i h]
    · rfl
  rw [eo] at c'
  exact k _ c' (wipe_set h)
theorem gsok_nil : GsOk K mg N vs gNil bNil := fun ι M S H own σ ρ ρ' ws ds Q c hv dn e k => by
  cases dn with
  | nil => cases e; exact ⟨rfl, k _ c rfl⟩
  | cons _ _ => cases e
theorem gsok_cons {g : TG} {gs : TGs} {a : TDG} {r : TDGs} (h1 : GOk K mg N vs g a) (h2 : GsOk K mg N vs gs r) : GsOk K mg N vs (gCons g gs) (bCons a r) := fun ι M S H own σ ρ ρ' ws ds Q c hv dn e k => by
  cases dn with
  | nil => cases e
  | @cons v ws d ds h t =>
    unfold bCons at e
    cases e1 : a d ρ with
    | none => simp only [e1] at e; cases e
    | some ρ1 =>
      simp only [e1] at e
      refine ⟨v, ws, rfl, h1 ι M S H own σ ρ ρ1 v d _ c hv h e1 fun σ1 c1 w1 => ?_⟩
      exact h2 ι M S H own σ1 ρ1 ρ' ws ds Q c1 hv t e fun σ2 c2 w2 => k σ2 c2 (w2.trans w1)
theorem gok_tup {n : Nat} {gs : TGs} {r : TDGs} (h : GsOk K mg N vs gs r) : GOk K mg N vs (gTup K n gs) (bTup n r) := fun ι M S H own σ ρ ρ' v d Q c hv dn e k => by
  cases d with
  | tup ds =>
    unfold bTup at e
    simp only at e
    split at e
    · obtain ⟨a, xs, rfl, ha, ta, _⟩ := (Bn.dn dn).tupAt
      exact ⟨a, xs, rfl, ha, by rw [ta.length]; assumption, h ι M S H own σ ρ ρ' xs ds Q c hv ta e k⟩
    · cases e
  | _ => cases e
end

/-- the tests of a comprehension: none, one -/
def compL (b : TDG) (t u : TDE) (ρ : DS) : List D → List D → MS → Option (List D × MS)
  | [], acc, M => some (acc, M)
  | d :: r, acc, M => match b d ρ with
    | some ρ1 => match t ρ1 M with
      | some (.ok (.bl true) ρ2 M2) => match u ρ2 M2 with
        | some (.ok e ρ3 M3) => if kinds ρ3 = kinds ρ1 ∧ kinds ρ2 = kinds ρ1 ∧ acc.length < sizeLine then compL b t u ρ r (acc ++ [e]) M3 else none
        | _ => none
      | some (.ok (.bl false) ρ2 M2) => if kinds ρ2 = kinds ρ1 then compL b t u ρ r acc M2 else none
      | _ => none
    | none => none
def dComp (vs : List Nat) (src : TDA) (b : TDG) (t u : TDE) : TDE := fun ρ M => match src ρ M with
  | some (.ok ds ρ1 M1) => if freeAll ρ1 vs = true ∧ vs.all (fun v => decide (v < slotsB)) = true then match compL b t u (wipeD (borrow ρ1) vs) ds [] M1 with
    | some (es, M2) => some (.ok (.lst es) ρ1 M2)
    | none => none else none
  | some (.ex x ρ1 M1) => some (.ex x ρ1 M1)
  | none => none
abbrev W0 : WX := fun _ _ _ _ => False
section
variable {X : Cx} {N : En} {W : WX}
def dYes : TDE := fun ρ M => some (.ok (.bl true) ρ M)
/-- a comprehension's end: σ as it was, the new list at D -/
theorem comp_core {wi : TDA} {vs : List Nat} {g : TG} {b : TDG} {t u : TDE} {σ : L2.St} {H : Hp} {Q : VK} {tt : TT}
    (hg : GOk X.K X.mg N vs g b) (htt : ∀ σ H Q, tT X.K X.mg N W0 t σ H Q → tt σ H Q) {ι : List Addr} {S : AP} {own : OwnM} {ρ : DS} {M : MS} (c : Cur X.K X.mg N ι S H own σ ρ M)
    (q : postD X.K X.mg N W ι S H own σ (fun v H' => ∃ p, v = .ref p ∧ Q (.ref p) H') (dComp vs wi b t u ρ M))
    (hQ : True) : postI X.K X.mg N W ι S H own σ (fun J H1 => ∀ D, H1 D = none → ∃ Wf : Nat → Nat → Hp → Prop, (∃ m, Wf 0 m (upd H1 D (.lst []))) ∧ ∀ i m H, Wf i m H →
  (J.stop i H ∧ Q (.ref D) H) ∨ (J.go i H ∧ ∃ Nx : Hp → Prop, (∀ H', Nx H' → ∃ m', m' < m ∧ Wf (i + 1) m' H') ∧ ∀ x H', J.yld i H x H' → g x (L2.wipe σ vs) H' fun σ2 H2 => L2.wipe σ2 vs = L2.wipe σ vs ∧ tt σ2 H2 fun b H3 =>
    if b = true then tD X.K X.mg N W0 u σ2 H3 fun y H4 => ∃ acc, H4 D = some (.lst acc) ∧ acc.length < sizeLine ∧ Nx (upd H4 D (.lst (acc ++ [y]))) else Nx H3)) (wi ρ M) := by
  unfold dComp at q
  cases e1 : wi ρ M with
  | none => rw [e1] at q; exact q
  | some o1 =>
    rw [e1] at q
    cases o1 with
    | ex x ρ' M' => exact q
    | ok ds ρ1 M1 =>
      simp only at q
      split at q
      case isFalse => exact q.elim
      case isTrue hf =>
      intro J ι1 S1 H1 own1 c1 x1 it p hp
      have q1 := postD.later c.ok x1 q
      obtain ⟨hf1, hf2⟩ := hf
      have hv : ∀ v ∈ vs, own1 v = none := fun v hm => by
        refine c1.env.free (List.all_eq_true.mp hf1 v hm) ?_
        have := List.all_eq_true.mp hf2 v hm
        exact of_decide_eq_true this
      obtain ⟨n, hn⟩ := c1.ok.ofin
      obtain ⟨i0, hi0, hib⟩ : ∃ i0, own1 i0 = none ∧ slotsB ≤ i0 := ⟨max n slotsB, hn _ (by omega), by omega⟩
      have hvi : ∀ v ∈ vs, setO own1 i0 (some p) v = none := fun v hm => by
        unfold setO
        rw [if_neg fun z => ?_]
        · exact hv v hm
        · have := of_decide_eq_true (List.all_eq_true.mp hf2 v hm)
          omega
      have k2 : Ok X.K X.mg N ι1 M1 S1 (upd H1 p (.lst [])) (setO own1 i0 (some p)) := c1.ok.track i0 hp
      have envW : ∀ {S2 : AP} {ι2 : List Addr} {H2 : Hp}, Ext S1 ι1 H1 S2 ι2 H2 → (∀ i a, own1 i = some a → H2 a = H1 a) → EnvOk X.K X.mg S2 ι2 H2 (setO own1 i0 (some p)) (L2.wipe σ vs) (wipeD (borrow ρ1) vs) := fun {S2 ι2 H2} e1 e2 => by
        have h1 := (c1.env.ext e1 e2).borrow
        have h2 : EnvOk X.K X.mg S2 ι2 H2 (setO own1 i0 (some p)) σ (borrow ρ1) := ⟨h1.len, h1.big, fun j a1 a2 => (by unfold setO; rw [if_neg (by omega)]; exact h1.gap j a1 a2), fun j x qq => (by
          have hj : j ≠ i0 := fun z => by
            have := (List.getElem?_eq_some_iff.mp qq).1
            have := h1.big
            omega
          obtain ⟨v, a1, a2⟩ := h1.at_ j x qq
          refine ⟨v, a1, ?_⟩
          unfold setO; rw [if_neg hj]; exact a2), fun j qq => (by
          have hj : j ≠ i0 := fun z => by
            have := (List.getElem?_eq_some_iff.mp qq).1
            have := h1.big
            omega
          unfold setO; rw [if_neg hj]; exact h1.nown j qq)⟩
        exact h2.wipe hvi
      -- what stands at each turn
      refine ⟨fun i m H' => m = ds.length - i ∧ i ≤ ds.length ∧ ∃ ι2 S2 M2 xs es, Ok X.K X.mg N ι2 M2 S2 H' (setO own1 i0 (some p)) ∧ Ext S1 ι1 H1 S2 ι2 H' ∧ (∀ i a, own1 i = some a → H' a = H1 a) ∧ H' p = some (.lst xs) ∧ Dns X.K X.mg S2 ι2 H' xs es ∧
        postD X.K X.mg N W ι1 S1 H1 own1 σ (fun v H' => ∃ p, v = .ref p ∧ Q (.ref p) H') (match compL b t u (wipeD (borrow ρ1) vs) (ds.drop i) es M2 with | some (es, M2) => some (.ok (.lst es) ρ1 M2) | none => none),
        ⟨ds.length, rfl, Nat.zero_le _, ι1, S1, M1, [], [], k2, upd_ext hp, fun i a e => c1.ok.hown hp i a e, upd_same, .nil, q1⟩, ?_⟩
      rintro i m H2 ⟨rfl, hi, ι2, S2, M2, xs, es, k2, x2, o2, hp2, t2, q2⟩
      by_cases hlt : i < ds.length
      · refine .inr ⟨it.go i S2 ι2 H2 hlt x2, fun H' => (∃ ι3 S3 M3 ys fs, Ok X.K X.mg N ι3 M3 S3 H' (setO own1 i0 (some p)) ∧ Ext S1 ι1 H1 S3 ι3 H' ∧ (∀ i a, own1 i = some a → H' a = H1 a) ∧ H' p = some (.lst ys) ∧ Dns X.K X.mg S3 ι3 H' ys fs ∧
          postD X.K X.mg N W ι1 S1 H1 own1 σ (fun v H' => ∃ p, v = .ref p ∧ Q (.ref p) H') (match compL b t u (wipeD (borrow ρ1) vs) (ds.drop (i + 1)) fs M3 with | some (es, M2) => some (.ok (.lst es) ρ1 M2) | none => none)),
          fun H' h => ⟨ds.length - (i + 1), by omega, rfl, hlt, h⟩, fun x H3 y => ?_⟩
        obtain ⟨d, hd, hv3⟩ := it.yld i S2 ι2 H2 x H3 hlt x2 y
        have cw : Cur X.K X.mg N ι2 S2 H2 (setO own1 i0 (some p)) (L2.wipe σ vs) (wipeD (borrow ρ1) vs) M2 := ⟨k2, envW x2 o2⟩
        obtain ⟨S3, c3, x3, dn⟩ := cw.item hv3
        have ed : ds.drop i = d :: ds.drop (i + 1) := by
          have h1 := List.getElem?_eq_some_iff.mp hd
          rw [List.drop_eq_getElem_cons hlt, h1.2]
        rw [ed] at q2
        unfold compL at q2
        cases e2 : b d (wipeD (borrow ρ1) vs) with
        | none => simp only [e2] at q2; exact q2.elim
        | some ρ3 =>
          simp only [e2] at q2
          refine hg ι2 M2 S3 H3 _ _ _ ρ3 x d _ c3 hvi dn e2 fun σ4 c4 w4 => ⟨w4.trans (wipe_wipe fun _ h => h), htt σ4 H3 _ ⟨ι2, S3, _, ρ3, M2, c4, ?_⟩⟩
          -- own lists through a step
          have own_keep : ∀ {S5 : AP} {ι5 : List Addr} {H5 : Hp} {own5 : OwnM}, ExtE S3 ι2 H3 (setO own1 i0 (some p)) S5 ι5 H5 own5 → (∀ i a, own1 i = some a → H5 a = H1 a) ∧ H5 p = some (.lst xs) := fun {S5 ι5 H5 own5} x5 => by
            have ow3 : ∀ i a, own1 i = some a → setO own1 i0 (some p) i = some a := fun i a e => by
              unfold setO
              rw [if_neg fun z => ?_]
              · exact e
              · rw [z, hi0] at e; cases e
            have op : setO own1 i0 (some p) i0 = some p := by unfold setO; rw [if_pos rfl]
            refine ⟨fun i a e => ?_, ?_⟩
            · rw [(x5.ow i a (ow3 i a e)).1, (x3.ow i a (ow3 i a e)).1]
              exact o2 i a e
            · rw [(x5.ow i0 p op).1, (x3.ow i0 p op).1]
              exact hp2
          cases e3 : t ρ3 M2 with
          | none => simp only [e3] at q2; exact q2.elim
          | some o3 =>
            simp only [e3] at q2
            cases o3 with
            | ex x' ρ' M' => exact q2.elim
            | ok d4 ρ4 M4 =>
              cases d4 with
              | bl bb =>
                intro ι5 S5 H5 own5 c5 x5
                cases bb with
                | false =>
                  refine iteF ?_
                  by_cases hk : kinds ρ4 = kinds ρ3
                  case neg => simp only [if_neg hk] at q2; exact q2.elim
                  simp only [if_pos hk] at q2
                  obtain ⟨oa, ob⟩ := own_keep x5
                  exact ⟨ι5, S5, M4, xs, es, c5.ok.less (own_same c4.env c5.env hk x5), x2.trans (x3.ext.trans x5.ext), oa, ob, t2.ext (x3.ext.trans x5.ext), q2⟩
                | true =>
                  refine iteT ⟨ι5, S5, own5, ρ4, M4, c5, ?_⟩
                  cases e4 : u ρ4 M4 with
                  | none => simp only [e4] at q2; exact q2.elim
                  | some o4 =>
                    simp only [e4] at q2
                    cases o4 with
                    | ex x' ρ' M' => exact q2.elim
                    | ok e6 ρ6 M6 =>
                      by_cases hk : kinds ρ6 = kinds ρ3 ∧ kinds ρ4 = kinds ρ3 ∧ es.length < sizeLine
                      case neg => simp only [if_neg hk] at q2; exact q2.elim
                      simp only [if_pos hk] at q2
                      intro y6 ι6 S6 H6 own6 c6 x6 dn6
                      have x36 := x5.trans c4.ok x6
                      obtain ⟨oa, ob⟩ := own_keep x36
                      refine ⟨xs, ob, by rw [t2.length]; exact hk.2.2, ?_⟩
                      have k6 : Ok X.K X.mg N ι6 M6 S6 H6 (setO own1 i0 (some p)) := c6.ok.less (own_same c4.env c6.env hk.1 x36)
                      have op : setO own1 i0 (some p) i0 = some p := by unfold setO; rw [if_pos rfl]
                      have xe : Ext S6 ι6 H6 S6 ι6 (upd H6 p (.lst (xs ++ [y6]))) := k6.writeOwn_ext op
                      refine ⟨ι6, S6, M6, xs ++ [y6], es ++ [e6], k6.writeOwn op, (x2.trans (x3.ext.trans x36.ext)).trans xe, fun i a e => ?_, upd_same, ((t2.ext (x3.ext.trans x36.ext)).append (.cons dn6 .nil)).ext xe, q2⟩
                      rw [upd_ne fun z => ?_]
                      · exact oa i a e
                      · rw [z] at e
                        exact c1.ok.ohn e hp
              | _ => exact q2.elim
      · have ei : i = ds.length := by omega
        subst ei
        rw [List.drop_length] at q2
        refine .inl ⟨it.stop S2 ι2 H2 x2, ?_⟩
        have op : setO own1 i0 (some p) i0 = some p := by unfold setO; rw [if_pos rfl]
        -- the list is handed on
        have kf : Ok X.K X.mg N ι2 M2 (addS S2 p) H2 (setO (setO own1 i0 (some p)) i0 none) := k2.freeze op hp2 fun _ z => nomatch z
        have eo : setO (setO own1 i0 (some p)) i0 none = own1 := by
          funext j
          unfold setO
          split
          · rename_i hj; rw [hj, hi0]
          · rfl
        rw [eo] at kf
        have xf : Ext S1 ι1 H1 (addS S2 p) ι2 H2 := x2.trans addS_ext
        obtain ⟨p', ep, hq⟩ := q2 (.ref p) ι2 (addS S2 p) H2 own1 ⟨kf, c1.env.ext xf o2⟩ ⟨xf, fun i a e => ⟨o2 i a e, .inl e⟩⟩ (.lst ⟨.inr rfl, hp2⟩ (t2.ext addS_ext))
        cases ep
        exact hq
theorem lc_imp {wi : TDA} {vs : List Nat} {g : TG} {b : TDG} {tt : TT} {t u : TDE} (hgo : GOk X.K X.mg N vs g b) (htt : ∀ σ H Q, tT X.K X.mg N W0 t σ H Q → tt σ H Q) :
    ∀ σ H Q, tD X.K X.mg N W (dComp vs wi b t u) σ H Q → tLc (tI X.K X.mg N W wi) g tt (tD X.K X.mg N W0 u) vs σ H Q := fun σ H Q q => by
  obtain ⟨ι, S, own', ρ, M, c, q⟩ := q
  refine ⟨ι, S, own', ρ, M, c, comp_core (W := W) (u := u) (t := t) (b := b) hgo htt c ?_ trivial⟩
  cases e : dComp vs wi b t u ρ M with
  | none => rw [e] at q; exact q
  | some o =>
    rw [e] at q
    cases o with
    | ex x ρ' M' => exact q
    | ok d ρ' M' =>
      intro v ι' S' H' own'' c' x dn
      have qv := q v ι' S' H' own'' c' x dn
      unfold dComp at e
      split at e
      · split at e
        · split at e
          · cases e
            cases dn with
            | lst h tt => exact ⟨_, rfl, qv⟩
          · cases e
        · cases e
      · cases e
      · cases e
theorem de_lc {elt tg iter : Expr} {ifs : List Expr} {scope : Scope} {own : List (Str × Nat)} {pos : Pos} {wi : TDA} {g : TG} {b : TDG} {tt : TT} {t u : TDE} (hc : X.calm = true) (hN : X.N.Nodup) (hi : DI X N W tg iter wi) (ok : BlkOk X.N X.env.scope scope own)
    (hgo : GOk X.K X.mg N (own.map (·.2)) g b)
    (hg : ∀ (s : Shared) (H : Hp) (C : Addr) (cl : List (Str × Addr)) (fp : List Addr), PG (X.blk s H scope (compEnvC scope cl C X.env) fp) tg g) (ht : ∀ (s : Shared) (H : Hp) (C : Addr) (cl : List (Str × Addr)) (fp : List Addr), PTs (X.blk s H scope (compEnvC scope cl C X.env) fp) ifs tt)
    (htt : ∀ σ H Q, tT X.K X.mg N W0 t σ H Q → tt σ H Q)
    (he : ∀ (s : Shared) (H : Hp) (C : Addr) (cl : List (Str × Addr)) (fp : List Addr), DE (X.blk s H scope (compEnvC scope cl C X.env) fp) N W0 elt u) (hs : ∀ x, foldedSetIterable iter X.env x = pure x := by intro _; rfl) :
    DE X N W (.ListComp elt [⟨tg, iter, ifs, 0⟩] scope pos) (dComp (own.map (·.2)) wi b t u) := pe_imp (pe_lc hc hN hi ok hg ht he hs) (lc_imp hgo htt)
/-- y = [..] -/
theorem ds_setLc {i : Nat} {y : Str} {py : Pos} {spos : Pos} {elt tg iter : Expr} {ifs : List Expr} {scope : Scope} {own : List (Str × Nat)} {pos : Pos} {wi : TDA} {g : TG} {b : TDG} {tt : TT} {t u : TDE} (hc : X.calm = true) (hN : X.N.Nodup) (hy : X.N[i]? = some y) (hyl : X.env.scope.names.lookup y = some .local)
    (hsw : swapsWith (.ListComp elt [⟨tg, iter, ifs, 0⟩] scope pos) (some (.Name y py)) spos.line X.env = pure true) (hi : DI X N W tg iter wi) (ok : BlkOk X.N X.env.scope scope own)
    (hgo : GOk X.K X.mg N (own.map (·.2)) g b)
    (hg : ∀ (s : Shared) (H : Hp) (C : Addr) (cl : List (Str × Addr)) (fp : List Addr), PG (X.blk s H scope (compEnvC scope cl C X.env) fp) tg g) (ht : ∀ (s : Shared) (H : Hp) (C : Addr) (cl : List (Str × Addr)) (fp : List Addr), PTs (X.blk s H scope (compEnvC scope cl C X.env) fp) ifs tt)
    (htt : ∀ σ H Q, tT X.K X.mg N W0 t σ H Q → tt σ H Q)
    (he : ∀ (s : Shared) (H : Hp) (C : Addr) (cl : List (Str × Addr)) (fp : List Addr), DE (X.blk s H scope (compEnvC scope cl C X.env) fp) N W0 elt u) (hs : ∀ x, foldedSetIterable iter X.env x = pure x := by intro _; rfl) :
    DS1 X N W (.Assign [.Name y py] (.ListComp elt [⟨tg, iter, ifs, 0⟩] scope pos) spos) (sSet i (dComp (own.map (·.2)) wi b t u)) :=
  ds_set (ps_imp (ps_setLc hc hN hy hyl hsw hi ok hg ht he hs) fun E σ H q => lc_imp hgo htt σ H _ q)
theorem tYes_of : ∀ σ H Q, tT X.K X.mg N W0 dYes σ H Q → tYes σ H Q := fun σ H Q q => by
  obtain ⟨ι, S, own, ρ, M, c, q⟩ := q
  exact q ι S H own c .refl
end
end DL
set_option maxHeartbeats 2000000
namespace DL
open PySem PySem.Spec PyProof.Rows L2

/-! ### the store's objects: lists that are changed by many hands -/
section
variable {K : PySem.W.Frag} {mg : Str → Option Value} {N : En} {ι ι' : List Addr} {M M' : MS} {S S' : AP} {H H' : Hp} {own own' : OwnM} {σ : L2.St} {ρ : DS}
theorem Ok.neObj (k : Ok K mg N ι M S H own) {j : Nat} {a b : Addr} (e : ι[j]? = some a) (s : S b) : b ≠ a := fun z => by
  rw [z] at s
  exact (k.iout a (List.mem_of_getElem? e)).1 s
theorem Ok.setObj_ext (k : Ok K mg N ι M S H own) {j : Nat} {a : Addr} {o : HO} (e : ι[j]? = some a) : Ext S ι H S ι (upd H a o) :=
  ⟨fun _ h => h, fun _ _ h => h, fun b u s h => by rw [upd_ne (k.neObj e s)]; exact h⟩
theorem Ok.setObj (k : Ok K mg N ι M S H own) {j : Nat} {a : Addr} {xs : List V} {ds : List D} (e : ι[j]? = some a) (hd : Dns K mg S ι H xs ds) : Ok K mg N ι (M.set j (.lst ds)) S (upd H a (.lst xs)) own where
  len := by simpa using k.len
  pre := k.pre
  fresh := k.fresh
  objs := fun i b m h1 h2 => by
    have x := k.setObj_ext (o := HO.lst xs) e
    by_cases hi : i = j
    · subst hi
      rw [e] at h1
      cases h1
      have hlt : i < M.length := by
        have := (List.getElem?_eq_some_iff.mp h2).1
        simpa using this
      rw [List.getElem?_set_self hlt] at h2
      cases h2
      exact ⟨xs, upd_same, hd.ext x⟩
    · rw [List.getElem?_set_ne (Ne.symm hi)] at h2
      refine (k.objs i b m h1 h2).ext x (upd_ne fun z => hi ?_)
      subst z
      obtain ⟨p1, q1⟩ := List.getElem?_eq_some_iff.mp h1
      obtain ⟨p2, q2⟩ := List.getElem?_eq_some_iff.mp e
      exact (List.getElem_inj k.nd).mp (q1.trans q2.symm)
  nd := k.nd
  iout := fun b hb => ⟨(k.iout b hb).1, by
    by_cases z : b = a
    · rw [z, upd_same]; exact fun q => nomatch q
    · rw [upd_ne z]; exact (k.iout b hb).2⟩
  oout := fun i b q => by
    have r := k.oout i b q
    refine ⟨r.1, ?_, r.2.2⟩
    rw [upd_ne (show b ≠ a from fun z => r.2.2.2 (by rw [z]; exact List.mem_of_getElem? e))]
    exact r.2.1
  oinj := k.oinj
  ofin := k.ofin
  sub := k.sub
  new := k.new
  keep := fun b u h1 h2 h3 => by
    have hne : b ≠ a := fun z => by
      rcases k.fresh a (List.mem_of_getElem? e) with h | h
      · exact h2 (z ▸ h)
      · rw [z, h] at h1; cases h1
    rw [upd_ne hne]
    exact k.keep b u h1 h2 h3
  trk := fun b h => by
    by_cases z : b = a
    · rw [z, upd_same]; exact fun q => nomatch q
    · rw [upd_ne z]; exact k.trk b h
  sat := fun b h => by
    rw [upd_ne (k.neObj e h)]
    exact k.sat b h
  tb := by
    have hj : j < M.length := by rw [← k.len]; exact (List.getElem?_eq_some_iff.mp e).1
    have q := k.objs j a _ e (List.getElem?_eq_getElem hj)
    cases hm : M[j] with
    | lst ds =>
      rw [hm] at q
      obtain ⟨xs, h1, _⟩ := q
      exact k.tb.set h1 ⟨(fun _ z => nomatch z), (fun _ z => nomatch z)⟩ (fun _ z => nomatch z)
    | dct ks ds =>
      rw [hm] at q
      obtain ⟨xs, h1, _⟩ := q
      exact k.tb.set h1 ⟨(fun _ z => nomatch z), (fun _ z => nomatch z)⟩ (fun _ z => nomatch z)
    | ins c ks ds =>
      rw [hm] at q
      obtain ⟨C, dx, xs, h1, _⟩ := q
      exact k.tb.set h1 ⟨(fun _ z => nomatch z), (fun _ z => nomatch z)⟩ (fun _ z => nomatch z)
theorem Cur.setObj (c : Cur K mg N ι S H own σ ρ M) {j : Nat} {a : Addr} {xs : List V} {ds : List D} (e : ι[j]? = some a) (hd : Dns K mg S ι H xs ds) : Cur K mg N ι S (upd H a (.lst xs)) own σ ρ (M.set j (.lst ds)) :=
  ⟨c.ok.setObj e hd, c.env.ext (c.ok.setObj_ext e) fun i b h => upd_ne (show b ≠ a from fun z => (c.ok.oout i b h).2.2.2 (by rw [z]; exact List.mem_of_getElem? e))⟩
theorem Ok.newObj (k : Ok K mg N ι M S H own) {p : Addr} {xs : List V} {ds : List D} (hp : H p = none) (hd : Dns K mg S ι H xs ds) : Ok K mg N (ι ++ [p]) (M ++ [.lst ds]) S (upd H p (.lst xs)) own ∧ Ext S ι H S (ι ++ [p]) (upd H p (.lst xs)) := by
  have hpi : p ∉ ι := fun z => (k.iout p z).2 hp
  have x : Ext S ι H S (ι ++ [p]) (upd H p (.lst xs)) := ⟨fun _ h => h, fun j a h => by rw [List.getElem?_append_left (List.getElem?_eq_some_iff.mp h).1]; exact h, fun a u _ h => by rw [upd_ne (ne_of_none h hp)]; exact h⟩
  refine ⟨⟨by simp [k.len], fun j a h => x.idx j a (k.pre j a h), fun a ha => ?_, fun j a m h1 h2 => ?_, ?_, fun a ha => ?_, fun i a e => ?_, k.oinj, k.ofin, k.sub, k.new, fun a u h1 h2 h3 => ?_, fun a h => ?_, fun a h => ?_, k.tb.new hp (fun _ z => nomatch z)⟩, x⟩
  · rcases List.mem_append.mp ha with h | h
    · exact k.fresh a h
    · have e : a = p := by simpa using h
      rw [e]; exact .inr (k.free hp)
  · by_cases hj : j < ι.length
    · rw [List.getElem?_append_left hj] at h1
      rw [List.getElem?_append_left (by rw [← k.len]; exact hj)] at h2
      exact (k.objs j a m h1 h2).ext x (upd_ne fun z => (k.iout a (List.mem_of_getElem? h1)).2 (by rw [z]; exact hp))
    · have hj2 : ι.length ≤ j := by omega
      rw [List.getElem?_append_right hj2] at h1
      rw [List.getElem?_append_right (by rw [← k.len]; exact hj2)] at h2
      rw [← k.len] at h2
      cases e : j - ι.length with
      | zero =>
        rw [e] at h1 h2
        cases h1
        cases h2
        exact ⟨xs, upd_same, hd.ext x⟩
      | succ n => rw [e] at h1; cases h1
  · rw [List.nodup_append]
    refine ⟨k.nd, by simp, fun a ha b hb => ?_⟩
    have e : b = p := by simpa using hb
    rw [e]
    exact fun z => hpi (z ▸ ha)
  · rcases List.mem_append.mp ha with h | h
    · refine ⟨(k.iout a h).1, ?_⟩
      rw [upd_ne (show a ≠ p from fun z => hpi (by rw [← z]; exact h))]
      exact (k.iout a h).2
    · have e : a = p := by simpa using h
      rw [e, upd_same]
      exact ⟨fun s => (by obtain ⟨u, h, _⟩ := k.sat p s; rw [hp] at h; cases h), fun q => nomatch q⟩
  · have r := k.oout i a e
    have hne : a ≠ p := fun z => k.ohn e (by rw [z]; exact hp)
    refine ⟨r.1, by rw [upd_ne hne]; exact r.2.1, r.2.2.1, fun z => ?_⟩
    rcases List.mem_append.mp z with h | h
    · exact r.2.2.2 h
    · exact hne (by simpa using h)
  · have q := k.keep a u h1 h2 h3
    rw [upd_ne (ne_of_none q hp)]; exact q
  · by_cases z : a = p
    · rw [z, upd_same]; exact fun q => nomatch q
    · rw [upd_ne z]; exact k.trk a h
  · obtain ⟨u, h1, h2⟩ := k.sat a h
    rw [upd_ne (ne_of_none h1 hp)]
    exact ⟨u, h1, h2⟩
end
section
variable {X : Cx} {N : En} {W : WX}
/-- o[k], o an object of the store -/
def dObjIx (i : Nat) (b : TDE) : TDE := fun ρ M => match ρ[i]? with
  | some (some (.t (.obj j))) => match b ρ M with
    | some (.ok (.int k) ρ1 M1) => match M1[j]? with
      | some (.lst ds) => match L2.atI ds k with
        | some d => some (.ok d ρ1 M1)
        | none => none
      | _ => none
    | some (.ok _ _ _) => none
    | o => o
  | _ => none
theorem de_objix {ea eb : Expr} {pos : Pos} {i : Nat} {b : TDE} (ha : PE X ea (tVar i)) (hb : DE X N W eb b) (hs : PlainIx eb := by exact fun _ _ => rfl) : DE X N W (.Subscript ea eb pos) (dObjIx i b) :=
  pe_imp (pe_ix ix_list ha hb hs) fun σ H Q q => by
    obtain ⟨ι, S, own, ρ, M, c, q⟩ := q
    unfold dObjIx at q
    split at q
    · rename_i j e
      obtain ⟨v, h1, h2⟩ := c.env.at_ i _ e
      obtain ⟨_, dn⟩ := h2
      cases dn with
      | @obj _ a hj =>
        refine ⟨_, h1, ι, S, own, ρ, M, c, ?_⟩
        cases e1 : b ρ M with
        | none => rw [e1] at q; exact q
        | some o =>
          rw [e1] at q
          cases o with
          | ex x ρ' M' => exact q
          | ok d ρ1 M1 =>
            cases d with
            | int k =>
              simp only at q
              intro y ι1 S1 H1 own1 c1 x1 dy
              have ey : y = .int k := (Bn.dn dy).intAt
              cases e2 : M1[j]? with
              | none => rw [e2] at q; exact q.elim
              | some m =>
                rw [e2] at q
                cases m with
                | lst ds =>
                  simp only at q
                  cases e3 : L2.atI ds k with
                  | none => rw [e3] at q; exact q.elim
                  | some d =>
                    rw [e3] at q
                    obtain ⟨xs, g1, g2⟩ := c1.ok.objs j a _ (x1.ext.idx j a hj) e2
                    obtain ⟨v, w1, w2⟩ := g2.atI e3
                    exact ⟨a, xs, k, v, rfl, ey, SqL.of g1, w1, q v ι1 S1 H1 own1 c1 x1 w2⟩
                | _ => exact q.elim
            | _ => exact q.elim
    · exact q.elim
/-- o[k] = e -/
def sObjSet (i : Nat) (b a : TDE) : TDS := fun ρ M => match a ρ M with
  | some (.ok d ρ1 M1) => match ρ1[i]? with
    | some (some (.t (.obj j))) => match b ρ1 M1 with
      | some (.ok (.int k) ρ2 M2) => match M2[j]? with
        | some (.lst ds) => match ixN ds.length k with
          | some n => some (.nx ρ2 (M2.set j (.lst (ds.set n d))))
          | none => none
        | _ => none
      | some (.ok _ _ _) => none
      | some (.ex x ρ2 M2) => some (.ex x ρ2 M2)
      | none => none
    | _ => none
  | some (.ex x ρ1 M1) => some (.ex x ρ1 M1)
  | none => none
theorem ds_objset {st : Stmt} {i : Nat} {a b : TDE} (h : PS X st (tAsg (tD X.K X.mg N W a) (gSub (tVar i) (tD X.K X.mg N W b) rSetL))) : DS1 X N W st (sObjSet i b a) := ps_imp h fun E σ H q => by
  obtain ⟨ι, S, own, ρ, M, c, q⟩ := q
  refine ⟨ι, S, own, ρ, M, c, ?_⟩
  unfold sObjSet at q
  cases e1 : a ρ M with
  | none => rw [e1] at q; exact q
  | some o =>
    rw [e1] at q
    cases o with
    | ex x ρ' M' => exact q σ
    | ok d ρ1 M1 =>
      intro v ι1 S1 H1 own1 c1 x1 dv
      simp only at q
      have q := postS.later x1.ext q
      split at q
      · rename_i j e
        obtain ⟨v', h1, h2⟩ := c1.env.at_ i _ e
        obtain ⟨_, dn⟩ := h2
        cases dn with
        | @obj _ ad hj =>
          refine ⟨_, h1, ι1, S1, own1, ρ1, M1, c1, ?_⟩
          cases e2 : b ρ1 M1 with
          | none => rw [e2] at q; exact q
          | some o2 =>
            rw [e2] at q
            cases o2 with
            | ex x ρ' M' => exact q σ
            | ok d2 ρ2 M2 =>
              cases d2 with
              | int k =>
                simp only at q
                intro y ι2 S2 H2 own2 c2 x2 dy
                have ey : y = .int k := (Bn.dn dy).intAt
                cases e3 : M2[j]? with
                | none => rw [e3] at q; exact q.elim
                | some m =>
                  rw [e3] at q
                  cases m with
                  | lst ds =>
                    simp only at q
                    cases e4 : ixN ds.length k with
                    | none => rw [e4] at q; exact q.elim
                    | some n =>
                      rw [e4] at q
                      have hj2 := x2.ext.idx j ad hj
                      obtain ⟨xs, g1, g2⟩ := c2.ok.objs j ad _ hj2 e3
                      refine ⟨ad, xs, k, n, rfl, ey, g1, by rw [g2.length]; exact e4, ?_⟩
                      exact q σ ι2 S2 _ own2 (c2.setObj hj2 (g2.set n (dv.ext x2.ext))) (x2.ext.trans (c2.ok.setObj_ext hj2))
                  | _ => exact q.elim
              | _ => exact q.elim
      · exact q.elim
/-- return [..], an object of the store from here on -/
def sRetObj (a : TDA) : TDS := fun ρ M => match a ρ M with
  | some (.ok ds ρ1 M1) => if ds.length ≤ sizeLine then some (.rt (.obj M1.length) (M1 ++ [.lst ds])) else none
  | some (.ex x ρ1 M1) => some (.ex x ρ1 M1)
  | none => none
theorem ds_retObj {st : Stmt} {a : TDA} (h : PS X st (tRet (tLst (tA X.K X.mg N W a)))) : DS1 X N W st (sRetObj a) := ps_imp h fun E σ H q => by
  obtain ⟨ι, S, own, ρ, M, c, q⟩ := q
  refine ⟨ι, S, own, ρ, M, c, ?_⟩
  unfold sRetObj at q
  cases e1 : a ρ M with
  | none => rw [e1] at q; exact q
  | some o =>
    rw [e1] at q
    cases o with
    | ex x ρ' M' => exact q σ
    | ok ds ρ1 M1 =>
      intro vs ι1 S1 H1 own1 c1 x1 dv
      by_cases hz : ds.length ≤ sizeLine
      · simp only [if_pos hz] at q
        refine ⟨by rw [dv.length]; exact hz, fun p hp => ?_⟩
        obtain ⟨k2, x2⟩ := c1.ok.newObj hp dv
        refine q (.ref p) _ S1 _ k2.noOwn (x1.ext.trans x2) (.obj ?_)
        rw [← c1.ok.len, List.getElem?_append_right (Nat.le_refl _), Nat.sub_self]
        rfl
      · simp only [if_neg hz] at q
        exact q.elim
end
end DL
set_option maxHeartbeats 2000000
namespace DL
open PySem PySem.Spec PyProof.Rows L2

/-! ### repr of data -/
def shwD (p : PyData) : Prop := p.showable = true ∧ p.hasDict = false ∧ p.depth ≤ 60 ∧ p.shown.length ≤ sizeLine
instance (p : PyData) : Decidable (shwD p) := by unfold shwD; infer_instance
def reprD : D → Option D := fun d => match toPy d with
  | some p => if shwD p then some (.str p.shown) else none
  | none => none
section
variable {X : Cx} {N : En} {W : WX}
theorem call_reprD (hu : X.A.units + 64 < cLine) (hg : Calm X.A) : CallR X (.builtin "repr") (fun xs H Q => ∃ v d, xs = [v] ∧ Dp X.K H v d ∧ shwD d ∧ Q (.str d.shown) H) := by
  intro pins s σ H xs us Q I r h
  obtain ⟨v, d, rfl, hd, ⟨h1, h2, h3, h4⟩, q⟩ := h
  obtain ⟨u, rfl, rv⟩ := vals1 r
  have fin : ∀ (t : Str) s', t = d.shown → (∀ b o, s.heap.get? b = some o → s'.heap.get? b = some o) → Inv X pins σ H s' → ∀ tk, EP X pins σ Q (.str t tk) s' := fun t s' e k I' tk => ⟨.str t, H, I', ⟨_, rfl⟩, by rw [e]; exact q⟩
  have deep : ∀ {a : Addr}, u = .ref a → wpAny (model X.prog X.w) X.A (call (.builtin "repr") [u]) (EP X pins σ Q) X.xe s := fun {a} eu => by
    obtain ⟨as, rd⟩ := Dp.reads I d v u hd rv
    subst eu
    refine repr_of_reads' rd h1 (PyData.noDict_hsm h2) hg (by omega) (fun _ _ e => e) (fun h' t tk hk => ?_) h4
    exact ⟨.str d.shown, H, I.kept (h' := h') (t' := tk) hk, ⟨_, rfl⟩, q⟩
  cases hd with
  | non =>
    cases (show u = Value.none from rv)
    exact PySem.P.repr_of_none ⟨.str "None", H, I.tok _, ⟨_, rfl⟩, q⟩
  | bl b =>
    cases (show u = Value.bool b from rv)
    cases b with
    | true => exact PySem.P.repr_of_bool ⟨.str (PyData.bool true).shown, H, I.tok _, ⟨s.toks, by simp only [PyData.shown]⟩, q⟩
    | false => exact PySem.P.repr_of_bool ⟨.str (PyData.bool false).shown, H, I.tok _, ⟨s.toks, by simp only [PyData.shown]⟩, q⟩
  | int i =>
    obtain ⟨t, rfl⟩ := (show ∃ t, u = Value.int i t from rv)
    exact PySem.P.repr_of_int (by simpa [PyData.showable] using h1) ⟨.str (toString i), H, I.tok _, ⟨_, rfl⟩, q⟩
  | str x =>
    obtain ⟨t, rfl⟩ := (show ∃ t, u = Value.str x t from rv)
    exact PySem.P.repr_of_str (hsz := h4) ⟨.str (reprText x), H, I.tok _, ⟨_, rfl⟩, q⟩
  | lst h t => exact deep (show u = Value.ref _ from rv)
  | tup h t => exact deep (show u = Value.ref _ from rv)
theorem c_repr (hu : X.A.units + 64 < cLine) (hg : Calm X.A) : C1 X (.builtin "repr") reprD := ⟨_, call_reprD hu hg, fun N ι M S H own x d r Q k b q k' => by
  unfold reprD at q
  cases e : toPy d with
  | none => rw [e] at q; cases q
  | some p =>
    rw [e] at q
    simp only at q
    split at q
    · cases q
      exact ⟨x, p, rfl, b.dp e, by assumption, k' _ S H k .refl (.str _)⟩
    · cases q⟩

/-! ### is True, is False -/
def isB (neg : Bool) : D → D → Option D := fun d e => match d, e with
  | .bl a, .bl b => some (.bl (xor neg (decide (a = b))))
  | _, _ => none
theorem od_isB : OpD X (compareOp .Is) (isB false) := ⟨_, op_isBl, fun N ι M S H own x y d e r Q k b1 b2 q k' => by
  unfold isB at q
  split at q
  · cases q
    refine ⟨_, _, b1.blAt, b2.blAt, k' _ S H k .refl ?_⟩
    rw [Bool.false_xor]
    exact .bl _
  · cases q⟩
theorem od_notB : OpD X (compareOp .IsNot) (isB true) := ⟨_, op_notBl, fun N ι M S H own x y d e r Q k b1 b2 q k' => by
  unfold isB at q
  split at q
  · cases q
    refine ⟨_, _, b1.blAt, b2.blAt, k' _ S H k .refl ?_⟩
    rw [Bool.true_xor]
    exact .bl _
  · cases q⟩
def isA (neg : Bool) : D → D → Option D := fun d e => (isN neg d e).orElse fun _ => isB neg d e
theorem od_is : OpD X (compareOp .Is) (isA false) := od_isN.or od_isB
theorem od_not : OpD X (compareOp .IsNot) (isA true) := od_notN.or od_notB

/-! ### x.bit_length() -/
def bitsD : D → Option D
  | .int i => some (.int (Builtin.Int.intBits i : Nat))
  | _ => none
theorem de_bits {o : Expr} {apos pos : Pos} {a : TDE} (ha : DB X N W o a) (hbase : attributeBase o "bit_length" X.env (eval o X.env) = eval o X.env := by rfl) (hline : (apos.endLine == pos.line) = true := by rfl) : DE X N W (.Call (.Attribute o "bit_length" apos) [] [] pos) (dUn bitsD a) :=
  pe_imp (pe_bits ha hbase hline) fun σ H Q q => un_core (R := fun x H Q => ∃ i, x = .int i ∧ Q (.int (Builtin.Int.intBits i : Nat)) H) (fun N ι M S H own x d e Q k b q k' => by
    unfold bitsD at q
    split at q
    · cases q
      exact ⟨_, b.intAt, k' _ S H k .refl (.int _)⟩
    · cases q) σ H Q q

/-! ### names of the module, of the built-ins -/
theorem de_glob {x : Str} {v : V} {d : D} {u : Value} {pos : Pos} (hm : X.mg x = some u) (r : RelV v u) (hd : ∀ S ι H, Dn X.K X.mg S ι H v d) (hg : Gl X x := by rfl) (hdb : (x == ("__debug__" : Str)) = false := by decide) : DE X N W (.Name x pos) (dC d) := pe_imp (pe_glob hg hm r hdb) fun σ H Q q => by
  obtain ⟨ι, S, own, ρ, M, c, q⟩ := q
  exact q v ι S H own c .refl (hd _ _ _)
theorem de_gl {x : Str} {u : Value} {v : V} {pos : Pos} (hm : X.mg x = some u) (r : RelV v u) (hg : Gl X x := by rfl) (hdb : (x == ("__debug__" : Str)) = false := by decide) : DE X N W (.Name x pos) (dC (.gl x)) :=
  de_glob hm r (fun _ _ _ => .gl hm r) hg hdb
theorem de_tyn {x : Str} {T : String} {pos : Pos} (hm : X.mg x = none) (hv : bootBuiltins x = some (.type T) := by decide +kernel) (hg : Gl X x := by rfl) (hn : x ≠ "__name__" := by decide) (hdb : (x == ("__debug__" : Str)) = false := by decide) : DE X N W (.Name x pos) (dC (.ty T)) :=
  pe_imp (pe_bltn (v := .ty T) hg hm hv rfl hn hdb) fun σ H Q q => by
    obtain ⟨ι, S, own, ρ, M, c, q⟩ := q
    exact q (.ty T) ι S H own c .refl (.ty T)

/-! ### a, b, c = x, y, z -/
def sPar3 (i j l : Nat) (a : TDA) : TDS := fun ρ M => match a ρ M with
  | some (.ok [d, e, f] ρ1 M1) => some (.nx (((ρ1.set i (some (.t d))).set j (some (.t e))).set l (some (.t f))) M1)
  | some (.ok _ _ _) => none
  | some (.ex x ρ1 M1) => some (.ex x ρ1 M1)
  | none => none
theorem ds_par3 {st : Stmt} {i j l : Nat} {a : TDA} (h : PS X st (tPar3 i j l (tA X.K X.mg N W a))) : DS1 X N W st (sPar3 i j l a) := ps_imp h fun E σ H q => by
  obtain ⟨ι, S, own, ρ, M, c, q⟩ := q
  refine ⟨ι, S, own, ρ, M, c, ?_⟩
  unfold sPar3 at q
  cases e1 : a ρ M with
  | none => rw [e1] at q; exact q
  | some o1 =>
    rw [e1] at q
    cases o1 with
    | ex x ρ' M' => exact q σ
    | ok ds ρ1 M1 =>
      intro vs ι1 S1 H1 own1 c1 x1 dn
      cases dn with
      | nil => exact q.elim
      | cons h1 t =>
        cases t with
        | nil => exact q.elim
        | cons h2 t =>
          cases t with
          | nil => exact q.elim
          | cons h3 t =>
            cases t with
            | nil => exact ⟨_, _, _, rfl, q _ ι1 S1 H1 _ (((c1.store h1).store h2).store h3) x1.ext⟩
            | cons h4 t => exact q.elim
/-- never reached -/
def sNever : TDS := fun _ _ => none
theorem ds_never {st : Stmt} : DS1 X N W st sNever := ps_imp ps_never fun E σ H q => by
  obtain ⟨ι, S, own, ρ, M, c, q⟩ := q
  exact q.elim
end
end DL
set_option maxHeartbeats 2000000
namespace DL
open PySem PySem.Spec PyProof.Rows L2

/-! ### own classes: what is known of them -/
/-- a type by name -/
inductive TyN where
  | ty (n : String) | own (c : Str)
  deriving DecidableEq
structure ClsF (K : PySem.W.Frag) (C : Addr) : Prop where
  cls : Cls K C
  ha : PySem.W.findIn K (.ref C) "__class__" = some (some (.builtin "object.__class__"))
  hn : PySem.W.specialIn K (.builtin "object.__class__") "__get__" = some (some (.builtin "getset_descriptor.__get__"))
  htk : PySem.W.takesIn K (.builtin "object.__class__") = some true
  hm : PySem.W.mroIn K C (.type "object") = some true
/-- .. of an exception class -/
structure XcF (K : PySem.W.Frag) (C : Addr) : Prop where
  hcl : (PySem.W.clsIn K C).isSome = true
  hdc : PySem.W.hasDictIn K C = true
  hga : PySem.W.findIn K (.ref C) "__getattribute__" = some (some (.builtin "BaseException.__getattribute__"))
  hgt : PySem.W.findIn K (.ref C) "__getattr__" = some none
  hsub : PySem.W.subIn K (.ref C) (.type "BaseException") = some true
  ha : PySem.W.findIn K (.ref C) "__class__" = some (some (.builtin "object.__class__"))
  hn : PySem.W.specialIn K (.builtin "object.__class__") "__get__" = some (some (.builtin "getset_descriptor.__get__"))
  htk : PySem.W.takesIn K (.builtin "object.__class__") = some true
  hm : PySem.W.mroIn K C (.type "object") = some true
/-- tables: the classes; isinstance's answers; names that are no attribute of the class; the exception classes -/
structure OwnT where
  cs : List Str
  kt : List (TyN × TyN × Bool)
  at_ : List (Str × Str)
  xs : List Str
  em : List (Str × Str × Bool)
def TyN.val (mg : Str → Option Value) : TyN → Option Value
  | .ty n => some (.type n)
  | .own c => mg c
structure OwnOk (K : PySem.W.Frag) (mg : Str → Option Value) (T : OwnT) : Prop where
  ref : ∀ c, c ∈ T.cs ∨ c ∈ T.xs → ∃ C, mg c = some (.ref C)
  cls : ∀ c ∈ T.cs, ∀ C, mg c = some (.ref C) → ClsF K C
  xcl : ∀ c ∈ T.xs, ∀ C, mg c = some (.ref C) → XcF K C
  kt : ∀ a b r, (a, b, r) ∈ T.kt → ∀ va vb, a.val mg = some va → b.val mg = some vb → PySem.W.kitOne K va vb = some r
  at_ : ∀ c f, (c, f) ∈ T.at_ → ∀ C, mg c = some (.ref C) → NoAttr K C f
  em : ∀ a b r, (a, b, r) ∈ T.em → ∀ A B, mg a = some (.ref A) → mg b = some (.ref B) → PySem.W.exmOne K (.ref A) (.ref B) = some r
/-- does the clause's class take the exception's? -/
def emGet (a b : Str) : List (Str × Str × Bool) → Option Bool
  | [] => none
  | (x, y, r) :: l => if x = a ∧ y = b then some r else emGet a b l
theorem emGet_mem {a b : Str} {r : Bool} : ∀ {l : List (Str × Str × Bool)}, emGet a b l = some r → (a, b, r) ∈ l
  | (x, y, r') :: l, h => by
    unfold emGet at h
    split at h
    · rename_i e
      cases h
      rw [e.1, e.2]
      exact List.mem_cons_self
    · exact List.mem_cons_of_mem _ (emGet_mem h)
def ktGet (a b : TyN) : List (TyN × TyN × Bool) → Option Bool
  | [] => none
  | (x, y, r) :: l => if x = a ∧ y = b then some r else ktGet a b l
theorem ktGet_mem {a b : TyN} {r : Bool} : ∀ {l : List (TyN × TyN × Bool)}, ktGet a b l = some r → (a, b, r) ∈ l
  | (x, y, r') :: l, h => by
    unfold ktGet at h
    split at h
    · rename_i e
      cases h
      rw [e.1, e.2]
      exact List.mem_cons_self
    · exact List.mem_cons_of_mem _ (ktGet_mem h)
def tyD (T : OwnT) : D → Option TyN
  | .non => some (.ty "NoneType")
  | .bl _ => some (.ty "bool")
  | .int _ => some (.ty "int")
  | .str _ => some (.ty "str")
  | .lst _ => some (.ty "list")
  | .tup _ => some (.ty "tuple")
  | .dct _ _ => some (.ty "dict")
  | .ins c _ _ => if c ∈ T.cs then some (.own c) else none
  | .exn c _ _ => if c ∈ T.xs then some (.own c) else none
  | _ => none
def clsD (T : OwnT) : D → Option TyN
  | .ty n => some (.ty n)
  | .gl c => if c ∈ T.cs ∨ c ∈ T.xs then some (.own c) else none
  | _ => none
def anyK (T : OwnT) (a : TyN) : List D → Option Bool
  | [] => some false
  | d :: ds => match clsD T d with
    | some b => match ktGet a b T.kt with
      | some true => if ds.all (fun d => (clsD T d).isSome) = true then some true else none
      | some false => anyK T a ds
      | none => none
    | none => none
def isiD (T : OwnT) : D → D → Option D := fun d e => match tyD T d with
  | some a => (match e with
    | .tup es => anyK T a es
    | e => (clsD T e).bind fun b => ktGet a b T.kt).map .bl
  | none => none
section
variable {K : PySem.W.Frag} {mg : Str → Option Value} {S : AP} {ι : List Addr} {H : Hp} {T : OwnT}
/-- what isinstance asks of a value -/
def KX (K : PySem.W.Frag) (H : Hp) (v : V) (t : Value) : Prop := ∀ (X : Cx) (pins : List (Addr × Obj)) (σ : L2.St) (s : Shared) (u : Value), X.K = K → Inv X pins σ H s → RelV v u → ∃ P : Heap → Prop, PySem.W.KitX K u t P ∧ P s.heap ∧ u ≠ .builtin "__main__.__loader__#opaque"
theorem KX.of {v : V} {t : Value} (ty : TyX K H v t) : KX K H v t := fun X pins σ s u e I r => by
  subst e
  exact kit_of I r ty
theorem KX.exn {a C : Addr} {d : Option Addr} (F : XcF K C) (h : ExVal H a C d) (hd : ∀ dx, d = some dx → ∃ fs, H dx = some (.xd fs)) : KX K H (.ref a) (.ref C) := fun X pins σ s u e I r => by
  subst e
  cases (show u = Value.ref a from r)
  obtain ⟨φ, h1, h2⟩ := h
  obtain ⟨oe, vs, h3, hz, hv⟩ := h2 s.heap (show ObjOk X.prog X.w H s.heap a (.ext φ) from I.hok a _ h1).1
  cases d with
  | none => exact ⟨_, PySem.W.kitx_exc (od := none) F.hcl F.hga F.hgt F.hsub F.ha F.hn F.htk F.hm, ⟨h3, hz.1, by unfold PySem.W.notCls; rw [hv] <;> rfl, by rw [hz.2]; exact trivial⟩, fun z => nomatch z⟩
  | some dx =>
    obtain ⟨fs, h4⟩ := hd dx rfl
    obtain ⟨mA, hns, _⟩ := (show ObjOk X.prog X.w H s.heap dx (.xd fs) from I.hok dx _ h4)
    obtain ⟨od, ho, _⟩ := lookIn_ns hns
    exact ⟨_, PySem.W.kitx_exc (od := some od) F.hcl F.hga F.hgt F.hsub F.ha F.hn F.htk F.hm, ⟨h3, hz.1, by unfold PySem.W.notCls; rw [hv] <;> rfl, by rw [hz.2]; exact ho⟩, fun z => nomatch z⟩
theorem Bn.tyX (O : OwnOk K mg T) {v : V} {d : D} {a : TyN} (b : Bn K mg S ι H v d) (e : tyD T d = some a) : ∃ va, a.val mg = some va ∧ KX K H v va := by
  cases b with
  | lst h1 h2 => cases e; exact ⟨_, rfl, .of (.base (.lst h1))⟩
  | dct h1 l h2 => cases e; exact ⟨_, rfl, .of (.base (.dK h1))⟩
  | dn h =>
    cases h with
    | non => cases e; exact ⟨_, rfl, .of (.base .non)⟩
    | bl b => cases e; exact ⟨_, rfl, .of (.base (.bl b))⟩
    | int i => cases e; exact ⟨_, rfl, .of (.base (.int i))⟩
    | str s => cases e; exact ⟨_, rfl, .of (.base (.str s))⟩
    | lst h t => cases e; exact ⟨_, rfl, .of (.base (.lst h.2))⟩
    | tup h t =>
      cases e
      refine ⟨_, rfl, ?_⟩
      rcases h with ⟨_, h | ⟨o, h⟩⟩ | h
      · exact .of (.base (.tup h))
      · exact .of (.fTuple h)
      · rcases h with h | ⟨o, its, n, h1, h2, _⟩
        · rcases h with h | ⟨o, h⟩ <;> exact nomatch h
        · exact .of (.kTuple h1 h2)
    | dct s h l t => cases e; exact ⟨_, rfl, .of (.base (.dK h))⟩
    | @ins ad C dx c ks xs ds s h l m t =>
      have e' : (if c ∈ T.cs then some (TyN.own c) else none) = some a := e
      split at e'
      · rename_i hc
        cases e'
        have F := O.cls _ hc C m
        exact ⟨_, m, .of (.base (.ins h F.cls F.ha F.hn F.htk F.hm))⟩
      · cases e'
    | @exn ad C dx c ks xs ds s h sd hd l m t =>
      have e' : (if c ∈ T.xs then some (TyN.own c) else none) = some a := e
      split at e'
      · rename_i hc
        cases e'
        exact ⟨_, m, .exn (O.xcl _ hc C m) h fun dx' z => by cases z; exact ⟨_, hd⟩⟩
      · cases e'
    | @exn0 ad C c s h m =>
      have e' : (if c ∈ T.xs then some (TyN.own c) else none) = some a := e
      split at e'
      · rename_i hc
        cases e'
        exact ⟨_, m, .exn (O.xcl _ hc C m) h fun dx' z => nomatch z⟩
      · cases e'
    | _ => cases e
theorem Dn.clsV (O : OwnOk K mg T) {v : V} {d : D} {b : TyN} (h : Dn K mg S ι H v d) (e : clsD T d = some b) : ∃ vb, b.val mg = some vb ∧ ClsV v vb := by
  cases h with
  | ty n => cases e; exact ⟨_, rfl, .ty n⟩
  | @gl c v u m r =>
    have e' : (if c ∈ T.cs ∨ c ∈ T.xs then some (TyN.own c) else none) = some b := e
    split at e'
    · rename_i hc
      cases e'
      obtain ⟨C, hC⟩ := O.ref c hc
      rw [hC] at m
      cases m
      refine ⟨_, hC, ?_⟩
      cases v with
      | ref a =>
        have r' : Value.ref C = Value.ref a := r
        cases r'
        exact .own C
      | non => exact nomatch (show Value.ref C = Value.none from r)
      | bl b => exact nomatch (show Value.ref C = Value.bool b from r)
      | int i => obtain ⟨t, z⟩ := (show ∃ t, Value.ref C = Value.int i t from r); cases z
      | str x => obtain ⟨t, z⟩ := (show ∃ t, Value.ref C = Value.str x t from r); cases z
      | byt x => obtain ⟨t, z⟩ := (show ∃ t, Value.ref C = Value.bytes x t from r); cases z
      | flt x => obtain ⟨t, z⟩ := (show ∃ t, Value.ref C = Value.float x t from r); cases z
      | ty n => exact nomatch (show Value.ref C = Value.type n from r)
    · cases e'
  | _ => cases e
theorem Bn.clsV (O : OwnOk K mg T) {v : V} {d : D} {b : TyN} (h : Bn K mg S ι H v d) (e : clsD T d = some b) : ∃ vb, b.val mg = some vb ∧ ClsV v vb := by
  cases h with
  | dn h => exact h.clsV O e
  | lst _ _ => cases e
  | dct _ _ _ => cases e
theorem cls_all (O : OwnOk K mg T) : ∀ {vs : List V} {ds : List D}, Dns K mg S ι H vs ds → ds.all (fun d => (clsD T d).isSome) = true → ∃ us, Paired ClsV vs us
  | _, _, .nil, _ => ⟨[], .nil⟩
  | _, _, .cons (d := d) (ds := ds) h t, e => by
    rw [List.all_cons, Bool.and_eq_true] at e
    obtain ⟨b, hb⟩ := Option.isSome_iff_exists.mp e.1
    obtain ⟨vb, _, cv⟩ := h.clsV O hb
    obtain ⟨us, p⟩ := cls_all O t e.2
    exact ⟨vb :: us, .cons cv p⟩
theorem anyK_ok (O : OwnOk K mg T) {a : TyN} {va : Value} (ea : a.val mg = some va) : ∀ {vs : List V} {ds : List D} {r : Bool}, Dns K mg S ι H vs ds → anyK T a ds = some r → ∃ us, Paired ClsV vs us ∧ PySem.W.kitAny K va us = some r
  | _, _, _, .nil, e => by cases e; exact ⟨[], .nil, kitAny_nil⟩
  | _, _, r, .cons (d := d) (ds := ds) h t, e => by
    unfold anyK at e
    cases e1 : clsD T d with
    | none => rw [e1] at e; cases e
    | some b =>
      rw [e1] at e
      obtain ⟨vb, eb, cv⟩ := h.clsV O e1
      simp only at e
      cases e2 : ktGet a b T.kt with
      | none => rw [e2] at e; cases e
      | some r1 =>
        rw [e2] at e
        have k1 := O.kt a b r1 (ktGet_mem e2) va vb ea eb
        cases r1 with
        | true =>
          simp only at e
          split at e
          · rename_i ha
            cases e
            obtain ⟨us, p⟩ := cls_all O t ha
            exact ⟨_, .cons cv p, kitAny_cons k1 (fun z => nomatch z) (fun _ => rfl)⟩
          · cases e
        | false =>
          obtain ⟨us, p, q⟩ := anyK_ok O ea t e
          exact ⟨_, .cons cv p, kitAny_cons k1 (fun _ => q) (fun z => nomatch z)⟩
end
/-- isinstance(x, (c1, c2, ..)), any tuple -/
def rIsi1 (K : PySem.W.Frag) : List V → Hp → VK → Prop := fun xs H Q => ∃ (x c : V) (t u : Value) (b : Bool), xs = [x, c] ∧ ClsV c u ∧ KX K H x t ∧ PySem.W.kitOne K t u = some b ∧ Q (.bl b) H
def rIsiS (K : PySem.W.Frag) : List V → Hp → VK → Prop := fun xs H Q => ∃ (x : V) (tp : Addr) (cs : List V) (t : Value) (us : List Value) (b : Bool), xs = [x, .ref tp] ∧ SqT K H tp cs ∧ Paired ClsV cs us ∧ KX K H x t ∧ PySem.W.kitAny K t us = some b ∧ Q (.bl b) H
section
variable {X : Cx} {N : En} {W : WX} {T : OwnT}
theorem call_isi1 : CallR X (.builtin "isinstance") (rIsi1 X.K) := by
  intro pins s σ H xs us Q I r h
  obtain ⟨x, c, t, w, b, rfl, k, ty, e, q⟩ := h
  obtain ⟨u1, u2, rfl, r1, r2⟩ := vals2 r
  obtain ⟨P, Z, p, hx⟩ := ty X pins σ s u1 rfl I r1
  have e3 := k.eq r2
  subst e3
  exact PySem.W.kia_one Z I.kIn p e hx fun tk => ⟨.bl b, H, I.tok tk, rfl, q⟩
theorem call_isiS : CallR X (.builtin "isinstance") (rIsiS X.K) := by
  intro pins s σ H xs us Q I r h
  obtain ⟨x, tp, cs, t, ws, b, rfl, hT, k, ty, e, q⟩ := h
  obtain ⟨u1, u2, rfl, r1, r2⟩ := vals2 r
  cases (show u2 = Value.ref tp from r2)
  obtain ⟨P, Z, p, hx⟩ := ty X pins σ s u1 rfl I r1
  obtain ⟨its, rv, ⟨o, h1, h2, n, h3⟩, _⟩ := I.tuple hT
  have e3 := ClsV.all k rv
  subst e3
  obtain ⟨oc, od, dt, sl⟩ := o
  simp only at h2 h3
  subst h2 h3
  exact PySem.W.kia_tup Z I.kIn p h1 e hx fun tk => ⟨.bl b, H, I.tok tk, rfl, q⟩
theorem c_isi (O : OwnOk X.K X.mg T) : C2 X (.builtin "isinstance") (isiD T) := ⟨_, CallR.or2 call_isi1 call_isiS, fun N ι M S H own x y d e r Q k b1 b2 q k' => by
  unfold isiD at q
  cases e1 : tyD T d with
  | none => rw [e1] at q; cases q
  | some a =>
    rw [e1] at q
    obtain ⟨va, ea, tx⟩ := b1.tyX O e1
    have one : ∀ (w : Option Bool), (clsD T e).bind (fun b => ktGet a b T.kt) = w → w.map D.bl = some r → rIsi1 X.K [x, y] H Q ∨ rIsiS X.K [x, y] H Q := fun w ew hw => by
      cases e2 : clsD T e with
      | none => rw [e2] at ew; cases ew; cases hw
      | some b =>
        rw [e2] at ew
        obtain ⟨vb, eb, cv⟩ := b2.clsV O e2
        have ew : ktGet a b T.kt = w := ew
        cases w with
        | none => cases hw
        | some rr =>
          cases hw
          exact .inl ⟨x, y, va, vb, rr, rfl, cv, tx, O.kt a b rr (ktGet_mem ew) va vb ea eb, k' _ S H k .refl (.bl _)⟩
    cases e with
    | tup es =>
      have q : (anyK T a es).map D.bl = some r := q
      cases e2 : anyK T a es with
      | none => rw [e2] at q; cases q
      | some rr =>
        rw [e2] at q
        cases q
        obtain ⟨tp, xs, rfl, hs, dn, _⟩ := b2.tupAt
        obtain ⟨us, p, ky⟩ := anyK_ok O ea dn e2
        exact .inr ⟨x, tp, xs, va, us, rr, rfl, hs, p, tx, ky, k' _ S H k .refl (.bl _)⟩
    | _ => exact one _ rfl q⟩

/-! ### x.f -/
def lookD (f : Str) (ks : List Str) (ds : List D) : Option D := (ks.zip ds).lookup f
theorem Dns.look {K : PySem.W.Frag} {mg : Str → Option Value} {S : AP} {ι : List Addr} {H : Hp} {f : Str} : ∀ {ks : List Str} {xs : List V} {ds : List D} {d : D}, Dns K mg S ι H xs ds → lookD f ks ds = some d → ∃ v, (ks.zip xs).lookup f = some v ∧ Dn K mg S ι H v d
  | [], _, _, _, _, e => nomatch e
  | k :: ks, _, _, _, .nil, e => nomatch e
  | k :: ks, _, _, d, .cons (v := v) (d := d0) h t, e => by
    unfold lookD at e
    rw [List.zip_cons_cons, List.lookup_cons] at e ⊢
    cases h1 : (f == k) with
    | true => simp only [h1] at e ⊢; cases e; exact ⟨v, rfl, h⟩
    | false => simp only [h1] at e ⊢; exact Dns.look t e
def fldD (T : OwnT) (f : Str) : D → Option D
  | .ins c ks ds => if c ∈ T.cs ∧ (c, f) ∈ T.at_ then lookD f ks ds else none
  | .exn c ks ds => if c ∈ T.xs ∧ (c, f) ∈ T.at_ then lookD f ks ds else none
  | _ => none
/-- an exception's field -/
def rXf (K : PySem.W.Frag) (f : Str) : V → Hp → VK → Prop := fun x H Q => ∃ (a C dx : Addr) (fs : List (Str × V)) (v : V), x = .ref a ∧ ExVal H a C (some dx) ∧ H dx = some (.xd fs) ∧ XcF K C ∧ NoAttr K C f ∧ fs.lookup f = some v ∧ Q v H
def rFl (K : PySem.W.Frag) (f : Str) : V → Hp → VK → Prop := fun x H Q => (∃ a C dx fs v, x = .ref a ∧ H a = some (.ins C dx fs) ∧ Cls K C ∧ NoAttr K C f ∧ fs.lookup f = some v ∧ Q v H) ∨ rXf K f x H Q
theorem pe_flx {e : Expr} {f : Str} {pos : Pos} {te : TE} (he : PE X e te) (hb : attributeBase e f X.env (eval e X.env) = eval e X.env) : PE X (.Attribute e f pos) (fun σ H Q => te σ H fun x H1 => rFl X.K f x H1 Q) := by
  refine ⟨fun pins s σ H Q I h => attr_of hb (thn (he.run pins s σ H _ I h) fun u s1 hh => ?_)⟩
  obtain ⟨x, H1, I1, rx, q⟩ := hh
  rcases q with ⟨a, C, dx, fs, v, ex, ea, c, n, l, q⟩ | ⟨a, C, dx, fs, v, ex, ea, ed, F, n, l, q⟩
  · subst ex
    cases (show u = Value.ref a from rx)
    exact getattr_ok I1 ea c n l fun u' s2 I2 ru => ⟨v, H1, I2, ru, q⟩
  · subst ex
    cases (show u = Value.ref a from rx)
    obtain ⟨φ, h1, h2⟩ := ea
    obtain ⟨oe, vs, h3, hz, hv⟩ := h2 s1.heap (show ObjOk X.prog X.w H1 s1.heap a (.ext φ) from I1.hok a _ h1).1
    obtain ⟨mA, hns, hr⟩ := (show ObjOk X.prog X.w H1 s1.heap dx (.xd fs) from I1.hok dx _ ed)
    obtain ⟨od, ho, hl⟩ := lookIn_ns hns
    obtain ⟨u, hu, ru⟩ := RelO.some_of (v := v) (o := mA f) (by rw [← l]; exact hr f)
    have J : PySem.W.InstAt s1.heap a oe C (some od) := ⟨h3, hz.1, by unfold PySem.W.notCls; rw [hv] <;> rfl, by rw [hz.2]; exact ho⟩
    exact PySem.HandSPX.exc_get I1.kIn J F.hga F.hgt F.hsub (PySem.W.findObj_own F.hdc n rfl (by rw [hl, hu])) (handed_of ru) ⟨v, H1, I1.tok _, ru, q⟩
theorem de_fld (O : OwnOk X.K X.mg T) {e : Expr} {f : Str} {pos : Pos} {a : TDE} (he : DB X N W e a) (hb : attributeBase e f X.env (eval e X.env) = eval e X.env := by rfl) : DE X N W (.Attribute e f pos) (dUn (fldD T f) a) :=
  pe_imp (pe_flx he hb) fun σ H Q q => un_core (R := rFl X.K f) (fun N ι M S H own x d e Q k b q k' => by
    cases d with
    | ins c ks ds =>
      have q : (if c ∈ T.cs ∧ (c, f) ∈ T.at_ then lookD f ks ds else none) = some e := q
      split at q
      · rename_i hc
        cases b with
        | dn h =>
          cases h with
          | @ins ad C dx c ks xs ds s h l m t =>
            obtain ⟨v, h1, h2⟩ := t.look q
            exact .inl ⟨_, _, _, _, v, rfl, h, (O.cls c hc.1 _ m).cls, O.at_ c f hc.2 _ m, h1, k' v S H k .refl h2⟩
      · cases q
    | exn c ks ds =>
      have q : (if c ∈ T.xs ∧ (c, f) ∈ T.at_ then lookD f ks ds else none) = some e := q
      split at q
      · rename_i hc
        cases b with
        | dn h =>
          cases h with
          | @exn ad C dx c ks xs ds s h sd hd l m t =>
            obtain ⟨v, h1, h2⟩ := t.look q
            exact .inr ⟨_, _, _, _, v, rfl, h, hd, O.xcl c hc.1 _ m, O.at_ c f hc.2 _ m, h1, k' v S H k .refl h2⟩
          | exn0 s h m => cases q
      · cases q
    | _ => cases q) σ H Q q
end
end DL
set_option maxHeartbeats 2000000
namespace DL
open PySem PySem.Spec PyProof.Rows L2

/-! ### __init__: the object is its own -/
def putK (f : Str) : List Str → List Str
  | [] => [f]
  | g :: r => if g = f then g :: r else g :: putK f r
def putX {α : Type} (f : Str) (v : α) : List Str → List α → List α
  | [], _ => [v]
  | g :: r, x :: s => if g = f then v :: s else x :: putX f v r s
  | _ :: _, [] => []
theorem putF_zip (f : Str) (v : V) : ∀ {ks : List Str} {xs : List V}, xs.length = ks.length → putF f v (ks.zip xs) = (putK f ks).zip (putX f v ks xs)
  | [], [], _ => rfl
  | g :: r, x :: s, h => by
    show putF f v ((g, x) :: r.zip s) = _
    unfold putF putK putX
    by_cases e : g = f
    · simp only [if_pos e]; rfl
    · simp only [if_neg e]
      rw [putF_zip f v (by simpa using h)]
      rfl
theorem putX_len {α : Type} (f : Str) (v : α) : ∀ {ks : List Str} {xs : List α}, xs.length = ks.length → (putX f v ks xs).length = (putK f ks).length
  | [], [], _ => rfl
  | g :: r, x :: s, h => by
    unfold putK putX
    by_cases e : g = f
    · simp only [if_pos e]; simpa using h
    · simp only [if_neg e]
      simpa using putX_len f v (ks := r) (xs := s) (by simpa using h)
section
variable {K : PySem.W.Frag} {mg : Str → Option Value} {N : En} {ι ι' : List Addr} {M M' : MS} {S S' : AP} {H H' : Hp} {own own' : OwnM} {σ : L2.St} {ρ : DS}
theorem Dns.putX {f : Str} {v : V} {d : D} (hd : Dn K mg S ι H v d) : ∀ {ks : List Str} {xs : List V} {ds : List D}, Dns K mg S ι H xs ds → Dns K mg S ι H (DL.putX f v ks xs) (DL.putX f d ks ds)
  | [], _, _, _ => .cons hd .nil
  | _ :: _, _, _, .nil => .nil
  | g :: r, _, _, .cons h t => by
    unfold DL.putX
    by_cases e : g = f
    · simp only [if_pos e]; exact .cons hd t
    · simp only [if_neg e]; exact .cons h (Dns.putX hd t)
theorem Cur.setOwi (c : Cur K mg N ι S H own σ ρ M) {i : Nat} {a C dx : Addr} {cn : Str} {ks ls : List Str} {ds es : List D} {ys : List V} {p : Addr} (q0 : ρ[i]? = some (some (.owi p cn ks ds))) (ha : σ[i]? = some (some (.ref a))) (hC : mg cn = some (.ref C)) (hl : ys.length = ls.length) (hd : Dns K mg S ι H ys es) :
    Cur K mg N ι S (upd H a (.ins C dx (ls.zip ys))) own σ (ρ.set i (some (.owi p cn ls es))) M := by
  obtain ⟨v, h1, b, C', dx', xs, rfl, hp, h3, h4, h5, h6, h7⟩ := c.env.at_ i _ q0
  rw [ha] at h1
  cases h1
  refine ⟨c.ok.writeOwn h3, ⟨by simpa using c.env.len, by simpa using c.env.big, fun j h1 h2 => c.env.gap j (by simpa using h1) h2, fun j x q => ?_, fun j q => ?_⟩⟩
  · by_cases hj : j = i
    · subst hj
      rw [getElem?_set_eq' q0] at q
      cases q
      exact ⟨_, ha, a, C, dx, ys, rfl, hp, h3, upd_same, hl, hC, hd.ext (c.ok.writeOwn_ext h3)⟩
    · rw [List.getElem?_set_ne (Ne.symm hj)] at q
      obtain ⟨w, g1, g2⟩ := c.env.at_ j x q
      refine ⟨w, g1, g2.ext (c.ok.writeOwn_ext h3) fun d e => upd_ne fun z => hj (c.ok.oinj j i a (by rw [← z]; exact e) h3)⟩
  · by_cases hj : j = i
    · subst hj
      rw [getElem?_set_eq' q0] at q
      cases q
    · rw [List.getElem?_set_ne (Ne.symm hj)] at q
      exact c.env.nown j q
end
section
variable {X : Cx} {N : En} {W : WX} {T : OwnT}
/-- self.f = e, self the object that is made -/
def sSelf (T : OwnT) (i : Nat) (f : Str) (a : TDE) : TDS := fun ρ M => match a ρ M with
  | some (.ok d ρ1 M1) => match ρ1[i]? with
    | some (some (.owi p c ks ds)) => if c ∈ T.cs ∧ (c, f) ∈ T.at_ ∧ ks.length < 1000 ∧ ds.length = ks.length then some (.nx (ρ1.set i (some (.owi p c (putK f ks) (putX f d ks ds)))) M1) else none
    | _ => none
  | some (.ex x ρ1 M1) => some (.ex x ρ1 M1)
  | none => none
theorem ds_self (O : OwnOk X.K X.mg T) {o value : Expr} {f : Str} {pos pos' : Pos} {i : Nat} {a : TDE} (ho : PE X o (tVar i)) (hv : DE X N W value a) (hs : swapsWith value (some (.Attribute o f pos')) pos.line X.env = pure false := by rfl) : DS1 X N W (.Assign [.Attribute o f pos'] value pos) (sSelf T i f a) :=
  ps_imp (ps_fld ho hv hs) fun E σ H q => by
    obtain ⟨ι, S, own, ρ, M, c, q⟩ := q
    refine ⟨ι, S, own, ρ, M, c, ?_⟩
    unfold sSelf at q
    cases e1 : a ρ M with
    | none => rw [e1] at q; exact q
    | some o1 =>
      rw [e1] at q
      cases o1 with
      | ex x ρ' M' => exact q σ
      | ok d ρ1 M1 =>
        intro v ι1 S1 H1 own1 c1 x1 dv
        simp only at q
        have q := postS.later x1.ext q
        cases e2 : ρ1[i]? with
        | none => rw [e2] at q; exact q.elim
        | some ox =>
          rw [e2] at q
          cases ox with
          | none => exact q.elim
          | some sv =>
            cases sv with
            | owi p cn ks ds =>
              simp only at q
              split at q
              · rename_i hc
                obtain ⟨w, h1, b, C, dx, xs, rfl, hp, h3, h4, h5, h6, h7⟩ := c1.env.at_ i _ e2
                refine ⟨_, h1, b, C, dx, ks.zip xs, rfl, h4, (O.cls cn hc.1 C h6).cls, O.at_ cn f hc.2.1 C h6, by rw [List.length_zip, h5, Nat.min_self]; exact hc.2.2.1, ?_⟩
                rw [putF_zip f v h5]
                exact q σ ι1 S1 _ own1 (c1.setOwi e2 h1 h6 (putX_len f v h5) (Dns.putX dv h7)) (c1.ok.writeOwn_ext h3)
              · exact q.elim
            | _ => exact q.elim
/-- self.f, self the object that is made -/
def dSelf (T : OwnT) (i : Nat) (f : Str) : TDE := fun ρ M => match ρ[i]? with
  | some (some (.owi p c ks ds)) => if c ∈ T.cs ∧ (c, f) ∈ T.at_ then (lookD f ks ds).map fun d => .ok d ρ M else none
  | _ => none
theorem de_self (O : OwnOk X.K X.mg T) {e : Expr} {f : Str} {pos : Pos} {i : Nat} (he : PE X e (tVar i)) (hb : attributeBase e f X.env (eval e X.env) = eval e X.env := by rfl) : DE X N W (.Attribute e f pos) (dSelf T i f) :=
  pe_imp (pe_fld he hb) fun σ H Q q => by
    obtain ⟨ι, S, own, ρ, M, c, q⟩ := q
    unfold dSelf at q
    cases e2 : ρ[i]? with
    | none => rw [e2] at q; exact q.elim
    | some ox =>
      rw [e2] at q
      cases ox with
      | none => exact q.elim
      | some sv =>
        cases sv with
        | owi p cn ks ds =>
          simp only at q
          split at q
          · rename_i hc
            cases e3 : lookD f ks ds with
            | none => rw [e3] at q; exact q.elim
            | some d =>
              rw [e3] at q
              obtain ⟨w, h1, b, C, dx, xs, rfl, hp, h3, h4, h5, h6, h7⟩ := c.env.at_ i _ e2
              obtain ⟨v, l1, l2⟩ := h7.look e3
              exact ⟨_, h1, b, C, dx, ks.zip xs, v, rfl, h4, (O.cls cn hc.1 C h6).cls, O.at_ cn f hc.2 C h6, l1, q v ι S H own c .refl l2⟩
          · exact q.elim
        | _ => exact q.elim
end

/-! ### the contract of an __init__ -/
inductive IO where
  | ret (ks : List Str) (ds : List D) (M : MS) | exc (x : XV) (M : MS)
abbrev DFI := Addr → List D → MS → Option IO
def spI (K : PySem.W.Frag) (mg : Str → Option Value) (T : List (Addr × Str)) (n : Nat) (cn : Str) (φ : DFI) : Sp := fun vs H Q E => vs.length = n + 1 ∧ ∃ H0 x dx C vs' ι M S ds, vs = .ref x :: vs' ∧ H = upd (upd H0 dx (.own x)) x (.ins C dx []) ∧ H0 x = none ∧ H0 dx = none ∧ dx ≠ x ∧ mg cn = some (.ref C) ∧
  Ok K mg ⟨H0, S, ι, T⟩ ι M S H0 own0 ∧ Dns K mg S ι H0 vs' ds ∧
  match φ x ds M with
  | some (.ret ks' ds' M') => ∀ ι' S' H', Ok K mg ⟨H0, S, ι, T⟩ ι' M' S' H' own0 → Dn K mg S' ι' H' (.ref x) (.ins cn ks' ds') → Q .non H'
  | some (.exc x M') => ∀ cls dd ι' S' H', Ok K mg ⟨H0, S, ι, T⟩ ι' M' S' H' own0 → ExOk K mg S' ι' H' x cls dd → E cls dd H'
  | none => False
structure Fi (P : Program) (w : World) (K : PySem.W.Frag) (mg : Str → Option Value) (base : Heap) (T : List (Addr × Str)) (cn : Str) (k : Nat) (C f : Addr) (fd : FuncData) (ps : List Str) (φ : DFI) : Prop where
  at_ : mg cn = some (.ref C)
  mke : Mk K C f
  fn : FnG P w K mg base (L2.CX P w) k f fd ps (spI K mg T (ps.length - 1) cn φ)
section
variable {K : PySem.W.Frag} {mg : Str → Option Value} {N : En} {ι ι' : List Addr} {M M' : MS} {S S' : AP} {H H' : Hp} {own own' : OwnM} {σ : L2.St} {ρ : DS}
/-- something new that is of no concern -/
theorem Ok.junk (k : Ok K mg N ι M S H own) {p : Addr} {o : HO} (hp : H p = none) (ho : NTbl o := by exact fun _ z => nomatch z) : Ok K mg N ι M S (upd H p o) own where
  len := k.len
  pre := k.pre
  fresh := k.fresh
  objs := fun j a m h1 h2 => (k.objs j a m h1 h2).ext (upd_ext hp) (upd_ne fun z => (k.iout a (List.mem_of_getElem? h1)).2 (by rw [z]; exact hp))
  nd := k.nd
  iout := fun a ha => ⟨(k.iout a ha).1, by rw [upd_ne fun z => (k.iout a ha).2 (by rw [z]; exact hp)]; exact (k.iout a ha).2⟩
  oout := fun j a e => by
    have q := k.oout j a e
    refine ⟨q.1, ?_, q.2.2⟩
    rw [upd_ne fun z => k.ohn e (by rw [z]; exact hp)]
    exact q.2.1
  oinj := k.oinj
  ofin := k.ofin
  sub := k.sub
  new := k.new
  keep := fun a u h1 h2 h3 => by
    have q := k.keep a u h1 h2 h3
    rw [upd_ne (ne_of_none q hp)]; exact q
  trk := fun a h => by
    by_cases z : a = p
    · rw [z, upd_same]; exact fun q => nomatch q
    · rw [upd_ne z]; exact k.trk a h
  sat := fun a h => by
    obtain ⟨u, h1, h2⟩ := k.sat a h
    rw [upd_ne (ne_of_none h1 hp)]
    exact ⟨u, h1, h2⟩
  tb := k.tb.new hp ho
end
def dFi (n N : Nat) (cn : Str) (t : TDS) : DFI := fun p ds M => if ds.length + 1 = n then
  match t (some (SV.owi p cn [] []) :: ds.map (fun d => some (SV.t d)) ++ List.replicate (N - (ds.length + 1)) none) M with
  | some (.nx ρ M') => match ρ[0]? with
    | some (some (SV.owi p' c ks ds)) => if c = cn ∧ p' = p then some (.ret ks ds M') else none
    | _ => none
  | some (.ex x _ M') => some (.exc x M')
  | _ => none else none
theorem env_startI {K : PySem.W.Frag} {mg : Str → Option Value} {S : AP} {ι : List Addr} {H : Hp} {x dx C : Addr} {cn : Str} {vs : List V} {ds : List D} {Ns : List Str} (hl : vs.length + 1 ≤ Ns.length) (hb : Ns.length ≤ slotsB) (hx : H x = some (.ins C dx [])) (hC : mg cn = some (.ref C)) (h : Dns K mg S ι H vs ds) :
    EnvOk K mg S ι H (setO own0 0 (some x)) (L2.start Ns (.ref x :: vs)) (some (SV.owi x cn [] []) :: ds.map (fun d => some (SV.t d)) ++ List.replicate (Ns.length - (ds.length + 1)) none) := by
  have hlen : (some (SV.owi x cn [] []) :: ds.map (fun d => some (SV.t d)) ++ List.replicate (Ns.length - (ds.length + 1)) none).length = Ns.length := by
    rw [List.length_append, List.length_cons, List.length_map, List.length_replicate, ← h.length]; omega
  refine ⟨?_, by rw [hlen]; exact hb, fun i h1 h2 => ?_, fun i y q => ?_, fun i q => ?_⟩
  · rw [hlen]; simp [L2.start]; omega
  · rw [hlen] at h1
    unfold setO
    rw [if_neg (by omega)]; rfl
  · cases i with
    | zero =>
      cases q
      refine ⟨.ref x, rfl, x, C, dx, [], rfl, rfl, by unfold setO; rw [if_pos rfl], hx, rfl, hC, .nil⟩
    | succ i =>
      have q : (ds.map (fun d => some (SV.t d)) ++ List.replicate (Ns.length - (ds.length + 1)) none)[i]? = some (some y) := q
      by_cases hi : i < ds.length
      · rw [List.getElem?_append_left (by simpa using hi), List.getElem?_map] at q
        cases e : ds[i]? with
        | none => rw [e] at q; cases q
        | some d =>
          rw [e] at q
          cases q
          obtain ⟨v, h1, h2⟩ := h.get e
          refine ⟨v, ?_, by unfold setO; rw [if_neg (by omega)]; rfl, h2⟩
          unfold L2.start
          rw [List.getElem?_append_left (by simpa [h.length] using hi), List.getElem?_map, List.getElem?_cons_succ, h1]
          rfl
      · rw [List.getElem?_append_right (by simpa using hi), List.getElem?_replicate] at q
        split at q <;> cases q
  · unfold setO
    rw [if_neg (fun z => by subst z; cases q)]; rfl
theorem def_ofI {P : Program} {w : World} {K : PySem.W.Frag} {mg : Str → Option Value} {base : Heap} {T : List (Addr × Str)} {k : Nat} {cn x qual : Str} {st : Stmt} {C f : Addr} {fd : FuncData} {Ns ps : List Str} {dvs : List V} {t : TDS}
    (hm : mg cn = some (.ref C)) (hk : Mk K C f) (F : FunD K x qual (defArgs st) (defBody st) (defScope st) dvs [] f fd) (S : FnScope Ns ps (defScope st)) (hps : 1 ≤ ps.length) (hle : ps.length ≤ Ns.length) (hbig : Ns.length ≤ slotsB)
    (hbody : ∀ (cdv : Value) (_ : ∀ c, CodeAt K f c → cdv = .ref c) (A : Around) (outer : List Env) (s : Shared) (H : Hp) (E : XK) (N : En), N.T = T → Calm (A.deeper (envOfC qual (defScope st) s.heap.objs.size f cdv)) → Room k (A.deeper (envOfC qual (defScope st) s.heap.objs.size f cdv)) →
      Takes (cxOf (L2.CX P w) P w K mg base Ns qual (defScope st) f cdv A outer s H E) (fun cls d _ H => E cls d H) → DSs (cxOf (L2.CX P w) P w K mg base Ns qual (defScope st) f cdv A outer s H E) N (fun cls d _ H => E cls d H) (defBody st) t) :
    Fi P w K mg base T cn (k + 1) C f fd ps (dFi ps.length Ns.length cn t) := by
  refine ⟨hm, hk, fnG_of F S (fun vs H Q E h => by have := h.1; omega) fun cdv hcd A outer s H vs Q E hc hr hsp => ?_⟩
  obtain ⟨hl, H0, x, dx, C', vs', ι, M, S0, ds, rfl, rfl, hx, hdx, hne, hC, k0, dn, q⟩ := hsp
  rw [hm] at hC
  cases hC
  have hx1 : upd H0 dx (.own x) x = none := by rw [upd_ne (Ne.symm hne)]; exact hx
  have k1 := (k0.junk (o := .own x) hdx).track (o := .ins C dx []) 0 hx1
  have e1 : Ext S0 ι H0 S0 ι (upd (upd H0 dx (.own x)) x (.ins C dx [])) := (upd_ext hdx).trans (upd_ext hx1)
  have hl' : vs'.length + 1 = ps.length := by simp only [List.length_cons] at hl; omega
  refine ⟨_, hbody cdv hcd A outer s _ E ⟨H0, S0, ι, T⟩ rfl hc hr (takes_of rfl rfl rfl rfl), ?_⟩
  refine ⟨ι, S0, _, _, M, ⟨k1, env_startI (Ns := Ns) (by omega) hbig upd_same hm (dn.ext e1)⟩, ?_⟩
  unfold dFi at q
  rw [if_pos (by rw [← dn.length]; omega)] at q
  cases e : t (some (SV.owi x cn [] []) :: ds.map (fun d => some (SV.t d)) ++ List.replicate (Ns.length - (ds.length + 1)) none) M with
  | none => rw [e] at q; exact q.elim
  | some o =>
    rw [e] at q
    cases o with
    | nx ρ' M' =>
      intro σ' ι' S' H' own' c' xx
      simp only at q
      cases e2 : ρ'[0]? with
      | none => rw [e2] at q; exact q.elim
      | some ox =>
        rw [e2] at q
        cases ox with
        | none => exact q.elim
        | some sv =>
          cases sv with
          | owi p c ks ds =>
            simp only at q
            by_cases hcn : c = cn ∧ p = x
            · simp only [if_pos hcn] at q
              obtain ⟨w, h1, b, C2, dx2, xs, rfl, hp, h3, h4, h5, h6, h7⟩ := c'.env.at_ 0 _ e2
              have hb : b = x := hp.trans hcn.2
              subst hb
              have hcn1 := hcn.1
              subst hcn1
              have k2 := (c'.ok.freeze h3 h4 (fun _ z => nomatch z)).noOwn
              exact q ι' _ H' k2 (.ins (.inr rfl) h4 h5 h6 (h7.ext addS_ext))
            · simp only [if_neg hcn] at q
          | _ => exact q.elim
    | rt d M' => exact q.elim
    | bk ρ' M' => exact q.elim
    | ct ρ' M' => exact q.elim
    | ex x ρ' M' => exact fun σ' cls dd ι' S' H' own' c' x' ex => q cls dd ι' S' H' c'.ok.noOwn ex

/-! ### C(e, ..) -/
open Classical in
noncomputable def sameI (φ : DFI) (ds : List D) (M : MS) : Option IO := if h : ∃ r, ∀ p, φ p ds M = some r then some (choose h) else none
theorem sameI_of {φ : DFI} {ds : List D} {M : MS} {r : IO} (h : ∀ p, φ p ds M = some r) : sameI φ ds M = some r := by
  have hx : ∃ r, ∀ p, φ p ds M = some r := ⟨r, h⟩
  unfold sameI
  rw [dif_pos hx]
  have := Classical.choose_spec hx 0
  rw [h 0] at this
  exact this.symm
theorem sameI_get {φ : DFI} {ds : List D} {M : MS} {r : IO} (h : sameI φ ds M = some r) : ∀ p, φ p ds M = some r := by
  unfold sameI at h
  split at h
  · rename_i hx
    cases h
    exact Classical.choose_spec hx
  · cases h
noncomputable def dInit (cn : Str) (φ : DFI) (ds : List D) : TDE := fun ρ M => match sameI φ ds M with
  | some (.ret ks es M') => some (.ok (.ins cn ks es) ρ M')
  | some (.exc x M') => some (.ex x ρ M')
  | none => none
def Src.up : Src → Src
  | .p i => .p (i + 1)
  | .d i => .d i
  | .k i => .k i
theorem pick_up {α : Type} (v : α) (us its ws : List α) : ∀ sel : List Src, pick (.p 0 :: sel.map Src.up) (v :: us) its ws = v :: pick sel us its ws := fun sel => by
  have h : ∀ sel : List Src, pick (sel.map Src.up) (v :: us) its ws = pick sel us its ws := fun sel => by
    rw [pick_eq, pick_eq]
    induction sel with
    | nil => rfl
    | cons s r ih =>
      rw [List.map_cons, List.filterMap_cons, List.filterMap_cons, ih]
      cases s <;> rfl
  rw [← h sel]
  rw [pick_eq, pick_eq, List.filterMap_cons]
  rfl
section
variable {X : Cx} {N : En} {W : WX}
theorem run_makeG {k n : Nat} {cn : Str} {C f : Addr} {fd : FuncData} {ps ks : List Str} {φ : DFI} {sel : List Src} {dvs : List V} {dds : List D} {pins : List (Addr × Obj)} {σ : L2.St} {H : Hp} {s : Shared} {Q : VK} {us ws : List Value} {vs zs : List V} {ds bs : List D}
    {ι : List Addr} {S : AP} {own : OwnM} {ρ : DS} {M : MS} (F : Fi X.prog X.w X.K X.mg X.base N.T cn k C f fd ps φ) (hg : Calm X.A) (hr : Room (k + 1) X.A) (tk : Takes X W) (hb : CB X.K fd ps dvs (n + 1) ks (.p 0 :: sel.map Src.up)) (I : Inv X pins σ H s) (r : Vals vs us) (rz : Vals zs ws)
    (l1 : vs.length = n) (l2 : zs.length = ks.length) (l3 : (pick sel ds dds bs).length = ps.length - 1) (c : Cur X.K X.mg N ι S H own σ ρ M) (dn : Dns X.K X.mg S ι H (pick sel vs dvs zs) (pick sel ds dds bs)) (q : postD X.K X.mg N W ι S H own σ Q (dInit cn φ (pick sel ds dds bs) ρ M)) :
    wpAny (model X.prog X.w) X.A (call (.ref C) us (ks.zip ws)) (EP X pins σ Q) X.xe s := by
  obtain ⟨its, r2, to⟩ := hb.to
  have I2 := Inv.made (C := C) I
  have hx := I.hok.fresh (Nat.le_succ s.heap.objs.size)
  have hdx := I.hok.fresh (Nat.le_refl s.heap.objs.size)
  have hne : s.heap.objs.size ≠ s.heap.objs.size + 1 := Nat.ne_of_lt (Nat.lt_succ_self _)
  have rr := pick_vals (sel := .p 0 :: sel.map Src.up) (.cons (show RelV (.ref (s.heap.objs.size + 1)) (.ref (s.heap.objs.size + 1)) from rfl) r) r2 rz
  rw [pick_up, pick_up] at rr
  have hsp : spI X.K X.mg N.T (ps.length - 1) cn φ (.ref (s.heap.objs.size + 1) :: pick sel vs dvs zs) (upd (upd H s.heap.objs.size (.own (s.heap.objs.size + 1))) (s.heap.objs.size + 1) (.ins C s.heap.objs.size [])) (fun v H2 => v = .non ∧ Q (.ref (s.heap.objs.size + 1)) H2) (WE W σ) := by
    refine ⟨by rw [List.length_cons, dn.length, l3], H, _, _, C, _, ι, M, S, _, rfl, rfl, hx, hdx, hne, F.at_, c.ok.enter, dn, ?_⟩
    unfold dInit at q
    cases e : sameI φ (pick sel ds dds bs) M with
    | none => rw [e] at q; exact q.elim
    | some o =>
      rw [e] at q
      rw [sameI_get e]
      cases o with
      | ret ks' es M' =>
        intro ι' S' H' k' dn'
        obtain ⟨h1, h2⟩ := c.ok.back k'
        exact ⟨rfl, q _ ι' S' H' own ⟨h1, c.env.ext h2.ext fun i a h => (h2.ow i a h).1⟩ h2 dn'⟩
      | exc x M' =>
        intro cls dd ι' S' H' k' ex
        obtain ⟨h1, h2⟩ := c.ok.back k'
        exact q cls dd ι' S' H' own ⟨h1, c.env.ext h2.ext fun i a h => (h2.ow i a h).1⟩ h2.ext ex
  have bt := to { s with heap := (s.heap.push PySem.W.emptyDict).push (PySem.W.instObj C s.heap.objs.size) } (Value.ref (s.heap.objs.size + 1) :: us) ws I2.kIn (by rw [List.length_cons, ← r.length, l1]) (by rw [← rz.length, l2])
  rw [pick_up] at bt
  refine wpAny_call (make_map (f := f) I.kIn F.mke.makes F.mke.init (beq_iff_eq.mp F.mke.fn) (codeAny_mono (F.fn.run _ X.stack _ _ ⟨Value.ref (s.heap.objs.size + 1) :: us, ks.zip ws⟩ _ _ _ (WE W σ) hg (hr.make C us (ks.zip ws))
    (I2.env0.make C us (ks.zip ws)) bt rr hsp) fun res s' hq => ?_))
  cases res with
  | error e => exact passAt tk σ pins _ _ e s' I2 hq
  | ok fl =>
    cases fl with
    | ret u =>
      obtain ⟨v, H', I3, rv, ev, q3⟩ := I2.after hq
      subst ev
      exact ⟨rv, ⟨V.ref (s.heap.objs.size + 1), H', I3, rfl, q3⟩⟩
    | next => exact False.elim hq
    | brk => exact False.elim hq
    | cont => exact False.elim hq
variable {k n : Nat} {C f : Addr} {fd : FuncData} {ps ks : List Str} {φ : DFI} {sel : List Src} {dvs : List V} {dds : List D} {x : Str} {p pos : Pos} {e : Expr} {es : List Expr} {kws : List Keyword} {a b : TDA}
theorem de_make (F : Fi X.prog X.w X.K X.mg X.base N.T x k C f fd ps φ) (hg : Calm X.A) (hr : Room (k + 1) X.A) (tk : Takes X W) (hb : CB X.K fd ps dvs (n + 1) [] (.p 0 :: sel.map Src.up)) (hd : ∀ S ι H, Dns X.K X.mg S ι H dvs dds) (ha : DA X N W (e :: es) a)
    (hgl : Gl X x := by rfl) (hdb : (x == ("__debug__" : Str)) = false := by decide) (he : starEach (e :: es) X.env = (false, eval e X.env) :: starEach es X.env := by rfl) (hpl : (backTo pos (starEach es X.env)).any (·.1) = false := by rfl) :
    DE X N W (.Call (.Name x p) (e :: es) [] pos) (aBind a fun ds => fits n ds (fits (ps.length - 1) (pick sel ds dds []) (dInit x φ (pick sel ds dds [])))) := by
  refine ⟨fun pins s σ H Q I h => ?_⟩
  refine wpAny_Call_Name_kw (ld_glob I hgl F.at_ ?_ hdb)
  refine PySem.W.callWith_K (h₀ := X.base) I.ok.mod.kin F.mke.kp (thn (ha.run pos pins s σ H _ I (bind_a h fun xs ds ι S H1 own ρ M c dn q => (⟨ds, ι, S, own, ρ, M, c, dn, q⟩ : ∃ ds ι S own ρ M, Cur X.K X.mg N ι S H1 own σ ρ M ∧ Dns X.K X.mg S ι H1 xs ds ∧ postD X.K X.mg N W ι S H1 own σ Q (fits n ds (fits (ps.length - 1) (pick sel ds dds []) (dInit x φ (pick sel ds dds []))) ρ M)))) fun us s1 ⟨vs, H1, I1, r, ds, ι, S, own, ρ, M, c, dn, q⟩ => ⟨I1.kIn, ?_⟩) he hpl
  obtain ⟨q1, q⟩ := fits_go q
  obtain ⟨q2, q⟩ := fits_go q
  have dn2 : Dns X.K X.mg S ι H1 (pick sel vs dvs []) (pick sel ds dds []) := pick_dns dn (hd S ι H1) .nil
  exact run_makeG (zs := []) (ws := []) (ks := []) F hg hr tk hb I1 r .nil (dn.length.trans q1) rfl q2 c dn2 q
end
end DL
set_option maxHeartbeats 2000000
namespace DL
open PySem PySem.Spec PyProof.Rows L2

/-! ### the end: the law's call over the heap behind the top -/
theorem scr_dns {K : PySem.W.Frag} {mg : Str → Option Value} {S : AP} {ι : List Addr} {H : Hp} : ∀ ns : List Int, Dns K mg S ι H (ns.map V.int) (ns.map D.int)
  | [] => .nil
  | n :: ns => .cons (.int n) (scr_dns ns)
/-- nothing is held at the start but the script -/
theorem ok_first {K : PySem.W.Frag} {mg : Str → Option Value} {T : List (Addr × Str)} {H : Hp} {S : AP} (hs : ∀ a, S a → ∃ o, H a = some o ∧ NTbl o) (ht : TbOk T H) : Ok K mg ⟨H, S, [], T⟩ [] [] S H own0 where
  len := rfl
  pre := fun _ _ h => h
  fresh := fun _ h => nomatch h
  objs := fun j a m h _ => by cases h
  nd := .nil
  iout := fun _ h => nomatch h
  oout := fun _ _ h => nomatch h
  oinj := fun _ _ _ h => nomatch h
  ofin := ⟨0, fun _ _ => rfl⟩
  sub := fun _ h => h
  new := fun _ h => .inl h
  keep := fun _ _ h _ _ => h
  trk := fun _ h => h
  sat := hs
  tb := ht
/-- the heap of a law's start: the script, the makers' tables -/
def startH (ts : List Addr) (a : Addr) (o : Obj) (ns : List Int) (t : Bool) : Hp := fun b => if b ∈ ts then some (.tbl #[]) else if t = true ∧ b = a then some (.frz o (.lst (ns.map V.int))) else none
theorem startH_some {ts : List Addr} {a b : Addr} {o : Obj} {ns : List Int} {t : Bool} {u : HO} (h : startH ts a o ns t b = some u) : (b ∈ ts ∧ u = .tbl #[]) ∨ (b ∉ ts ∧ t = true ∧ b = a ∧ u = .frz o (.lst (ns.map V.int))) := by
  unfold startH at h
  split at h
  · rename_i z; cases h; exact .inl ⟨z, rfl⟩
  · rename_i n
    split at h
    · rename_i z; cases h; exact .inr ⟨n, z.1, z.2, rfl⟩
    · cases h
/-- the makers of lambdas: code objects, tables, the lambdas' name -/
abbrev Mk3 := List ((Addr × Addr) × Str)
def tbT (cs : Mk3) : List (Addr × Str) := cs.map fun p => (p.1.2, p.2)
def tbA (cs : Mk3) : List Addr := cs.map fun p => p.1.2
theorem tbOk_start {cs : Mk3} {a : Addr} {o : Obj} {ns : List Int} {t : Bool} : TbOk (tbT cs) (startH (tbA cs) a o ns t) := by
  refine ⟨fun p hp => ?_, fun b ps e => ?_⟩
  · obtain ⟨q, hq, rfl⟩ := List.mem_map.mp hp
    exact LamX.TabS.nil (if_pos (List.mem_map.mpr ⟨q, hq, rfl⟩))
  · rcases startH_some e with ⟨h, _⟩ | ⟨_, _, _, z⟩
    · obtain ⟨q, hq, rfl⟩ := List.mem_map.mp h
      exact ⟨q.2, List.mem_map.mpr ⟨q, hq, rfl⟩⟩
    · cases z
theorem law_callG {P : Program} {w : World} {K : PySem.W.Frag} {mg mb : Str → Option Value} {k : Nat} {fa a : Addr} {fd : FuncData} {x : Str} {φ : DF} {s₁ : Shared} {vs : List Value} {ns : List Int} {cs : Mk3}
    (KX : K.In s₁.heap) (hns : s₁.heap.Ns mainGlobals mg) (hb : s₁.heap.Ns builtinsNs mb) (hbb : ∀ x : Str, x ≠ "__name__" → mb x = bootBuiltins x) (hlim : s₁.heap.NoLimit) (hdig : s₁.heap.NoDigits) (hg : s₁.gens = #[])
    (hT : ∀ p ∈ cs, s₁.heap.get? p.1.2 = some { cls := .none, data := .fields #[] }) (nT : ∀ p ∈ cs, K.lookup p.1.2 = none) (hC : ∀ p ∈ cs, PySem.W.codeHdIn K p.1.1 p.1.2 = true)
    (hbm : ∃ (bm : Addr) (ob : Obj), mg "__builtins__" = some (.ref bm) ∧ bm ≠ builtinsNs ∧ s₁.heap.get? bm = some ob ∧ ob.cls = .type "module" ∧ ob.dict = some builtinsNs ∧ ob.data = .plain)
    (ha : s₁.heap.get? a = some { cls := .type "list", data := .seq vs.toArray }) (hi : IntsAre vs ns) (hl : ns.length ≤ sizeLine) (hr : Room k callerA)
    (F : ∀ base : Heap, K.In base → base.Ns mainGlobals mg → base.NoDigits → (∀ p ∈ cs, LamX.TabB base mg p.1.1 p.1.2) → FnG P w K mg base (L2.CX P w) k fa fd [x] (spD K mg (tbT cs) 1 φ)) (hbind : ∀ (s : Shared) (u : Value), BindsTo s fd ⟨[u], []⟩ [(x, u)])
    (hφ : ∃ M', φ [.scr (ns.map D.int)] [] = some (.ret (.bl true) M')) :
    codeAny (model P w) callerA (.call (.ref fa) ⟨[.ref a], []⟩) (fun r s' => r = .ok (.ret (.bool true)) ∧ OldK s₁.heap s'.heap ∧ s'.os = s₁.os ∧ AllBare s'.gens) s₁ := by
  obtain ⟨M', eφ⟩ := hφ
  have rv := vals_ints hi
  have isT : ∀ b, b ∈ tbA cs → s₁.heap.get? b = some { cls := .none, data := .fields #[] } := fun b h => by
    obtain ⟨p, hp, rfl⟩ := List.mem_map.mp h
    exact hT p hp
  have nK : ∀ b, b ∈ tbA cs → K.lookup b = none := fun b h => by
    obtain ⟨p, hp, rfl⟩ := List.mem_map.mp h
    exact nT p hp
  have aT : a ∉ tbA cs := fun z => by
    have q := isT a z
    rw [ha] at q
    exact nomatch (show Data.seq vs.toArray _ = Data.fields #[] from congrArg Obj.data (Option.some.inj q))
  -- is the script one of the module's own objects?
  obtain ⟨t, ht⟩ : ∃ t : Bool, (t = true → K.lookup a = none) ∧ (t = false → ∃ o, K.lookup a = some o) := by
    cases e : K.lookup a with
    | none => exact ⟨true, fun _ => rfl, fun z => nomatch z⟩
    | some o => exact ⟨false, (fun z => nomatch z), fun _ => ⟨o, rfl⟩⟩
  have hK : ∀ b, startH (tbA cs) a { cls := .type "list", data := .seq vs.toArray } ns t b ≠ none → K.lookup b = none ∧ (b = a ∨ b ∈ tbA cs) := fun b hne => by
    cases e : startH (tbA cs) a { cls := .type "list", data := .seq vs.toArray } ns t b with
    | none => exact absurd e hne
    | some u =>
      rcases startH_some e with ⟨h, _⟩ | ⟨_, h1, h2, _⟩
      · exact ⟨nK b h, .inr h⟩
      · subst h2
        exact ⟨ht.1 h1, .inl rfl⟩
  have hTb := @tbOk_start cs a { cls := .type "list", data := .seq vs.toArray } ns t
  generalize hH : startH (tbA cs) a { cls := .type "list", data := .seq vs.toArray } ns t = H at hK hTb
  have there : ∀ {b : Addr} {o : Obj}, s₁.heap.get? b = some o → (K.lookup b = none → b = a ∨ b ∈ tbA cs → False) → (hidT s₁.heap H).get? b = some o := fun {b o} e h => hidT_get e (by
    cases q : H b with
    | none => rfl
    | some u =>
      have := hK b (by rw [q]; exact fun z => nomatch z)
      exact (h this.1 this.2).elim)
  have away : ∀ {b : Addr} {o : Obj}, s₁.heap.get? b = some o → (∀ vs n, o.data ≠ .seq vs n) → o.data ≠ .fields #[] → (hidT s₁.heap H).get? b = some o := fun {b o} e h1 h2 => there e fun _ z => by
    rcases z with z | z
    · subst z
      rw [ha] at e
      cases e
      exact h1 _ _ rfl
    · rw [isT b z] at e
      cases e
      exact h2 rfl
  have isDict : ∀ {b : Addr} {m : Str → Option Value}, s₁.heap.Ns b m → (hidT s₁.heap H).Ns b m := fun {b m} ⟨o, es, ep, e, d, r⟩ => ⟨o, es, ep, away e (fun vs n z => by rw [d] at z; cases z) (fun z => by rw [d] at z; cases z), d, r⟩
  have hKb : K.In (hidT s₁.heap H) := fun b o e => there (KX b o e) fun n _ => by
    rw [n] at e
    cases e
  obtain ⟨mc, l1, l2⟩ := hlim
  obtain ⟨md, d1, d2⟩ := hdig
  have hok : HOk P w H s₁.heap := fun b u z => by
    subst hH
    rcases startH_some z with ⟨h, rfl⟩ | ⟨_, _, rfl, rfl⟩
    · exact isT b h
    · exact ⟨ha, by rw [List.length_map]; exact hl, vs, _, rv, ha⟩
  have e0 : Env0 P w K mg (hidT s₁.heap H) callerA [] s₁ H := ⟨rfl, ⟨hKb, isDict hns, ⟨mb, isDict hb, hbb⟩, mc, isDict l1, l2⟩, fun b o e => of_hidT e, Nat.le_of_eq (hidT_size _ _), trivial, fun b hb => (by cases hb), hok, .of_eq hg⟩
  have TB : ∀ p ∈ cs, LamX.TabB (hidT s₁.heap H) mg p.1.1 p.1.2 := fun p hp => by
    have hPp := isT p.1.2 (List.mem_map.mpr ⟨p, hp, rfl⟩)
    have nGP : mainGlobals ≠ p.1.2 := fun z => by
      obtain ⟨o, es, ep, e, hd, _⟩ := hns
      rw [z, hPp] at e
      cases e
      cases hd
    refine NdefX.tabB_of_K hKb (hC p hp) ?_ nGP
    obtain ⟨bm, ob, b1, b2, b3, b4, b5, b6⟩ := hbm
    refine ⟨bm, ob, b1, b2, fun z => ?_, fun z => ?_, away b3 (fun vs n z => by rw [b6] at z; cases z) (fun z => by rw [b6] at z; cases z), b4, b5, b6⟩
    · obtain ⟨o, es, ep, e, hd, _⟩ := hns
      rw [z, e] at b3
      cases b3
      rw [hd] at b6
      cases b6
    · rw [z, hPp] at b3
      cases b3
      cases b6
  have hS : SqLF K (fun b => b = a ∧ t = true) H a (ns.map V.int) := by
    cases t with
    | true =>
      refine .inl ⟨⟨rfl, rfl⟩, .inr ⟨{ cls := .type "list", data := .seq vs.toArray }, ?_⟩⟩
      rw [← hH]
      exact (if_neg aT).trans (if_pos ⟨rfl, rfl⟩)
    | false =>
      obtain ⟨o, hk⟩ := ht.2 rfl
      have e := KX a o hk
      rw [ha] at e
      cases e
      exact .inr (.inr ⟨_, vs.toArray, _, hk, rfl, rfl, rfl, by rw [List.size_toArray, hi.length]; exact hl, by simpa using rv⟩)
  have hsp : spD K mg (tbT cs) 1 φ [.ref a] H (fun v _ => v = .bl true) (fun _ _ _ => False) := by
    refine ⟨rfl, [], [], fun b => b = a ∧ t = true, [.scr (ns.map D.int)], ok_first (fun b hb => ?_) hTb, .cons (.scr hS (scr_dns ns)) .nil, ?_⟩
    · obtain ⟨rfl, rfl⟩ := hb
      refine ⟨.frz { cls := .type "list", data := .seq vs.toArray } (.lst (ns.map V.int)), by rw [← hH]; exact (if_neg aT).trans (if_pos ⟨rfl, rfl⟩), fun _ z => nomatch z⟩
    · rw [eφ]
      intro v ι' S' H' k' dn
      exact (Bn.dn dn).blAt
  refine codeAny_mono ((F _ hKb (isDict hns) ⟨md, isDict d1, d2⟩ TB).run callerA [] s₁ H ⟨[.ref a], []⟩ [.ref a] [.ref a] _ _ rfl hr e0 (hbind s₁ (.ref a)) (.cons rfl .nil) hsp) fun r s' h => ?_
  cases r with
  | error e =>
    obtain ⟨_, _, _, _, _, _, _, _, _, _, _, _, z⟩ := (show L2.CX P w [] H s₁ (fun _ _ _ => False) e s' from h)
    exact z.elim
  | ok fl =>
    cases fl with
    | next => exact False.elim h
    | brk => exact False.elim h
    | cont => exact False.elim h
    | ret u =>
      obtain ⟨v, H', os, bare, un, hok', r', q⟩ := h
      have q' : v = .bl true := q
      subst q'
      have eu : u = Value.bool true := r'
      subst eu
      have stays : ∀ b o, b ∉ tbA cs → s₁.heap.get? b = some o → s'.heap.get? b = some o := fun b o nb e => by
        cases q : H b with
        | none => exact un.keep b o e q (fun z => List.not_mem_nil (show b ∈ ([] : List Addr) from z)) (by simp)
        | some u =>
          subst hH
          rcases startH_some q with ⟨h, _⟩ | ⟨_, _, rfl, rfl⟩
          · exact absurd h nb
          · have z2 := un.frzs b _ _ q
            obtain ⟨e2, _⟩ := hok' b _ z2
            rw [ha] at e
            cases e
            exact e2
      have grown : ∀ p ∈ cs, ∃ more : Array Value, s'.heap.get? p.1.2 = some { cls := .none, data := .fields more } := fun p hp => by
        have hm : p.1.2 ∈ tbA cs := List.mem_map.mpr ⟨p, hp, rfl⟩
        obtain ⟨more, z⟩ := un.tbls p.1.2 #[] (by rw [← hH]; exact if_pos hm)
        exact ⟨_, hok' p.1.2 _ z⟩
      refine ⟨rfl, ⟨fun b o e => ?old, fun b o e => ?is⟩, os, bare⟩
      case old =>
        by_cases hb : b ∈ tbA cs
        · obtain ⟨p, hp, rfl⟩ := List.mem_map.mp hb
          obtain ⟨more, hm⟩ := grown p hp
          rw [hT p hp] at e
          cases e
          exact .inr (.inl ⟨((PySem.W.codeHd_of_K KX (hC p hp)).tab (hT p hp)).isCodeTable, rfl, #[], more, rfl, by rw [Array.empty_append]; exact hm⟩)
        · exact .inl (stays b o hb e)
      case is =>
        by_cases hb : b ∈ tbA cs
        · obtain ⟨p, hp, rfl⟩ := List.mem_map.mp hb
          obtain ⟨more, hm⟩ := grown p hp
          exact ⟨_, hm⟩
        · exact ⟨o, stays b o hb e⟩
theorem walk_ofD {l : PySem.W.OpenLaw} {n k : Nat} {q : Program} {loose : List Str} {XP : (Str → Option Value) → Heap → Prop} {YP : World → Heap → Prop} {d : DefRec} {x : Str}
    (hn : l.most = some n) (hn2 : n ≤ sizeLine) (hdf : d.params.defaults = []) (hr : Room k callerA)
    (F : ∀ (w : World) (mg : Str → Option Value) (fa : Addr) (h : Heap), YP w h → h.Ns mainGlobals mg → mg d.name = some (.ref fa) →
      ∃ (K : PySem.W.Frag) (fd : FuncData) (φ : DF) (cs : Mk3), K.In h ∧ (∀ p ∈ cs, h.get? p.1.2 = some { cls := .none, data := .fields #[] } ∧ K.lookup p.1.2 = none ∧ PySem.W.codeHdIn K p.1.1 p.1.2 = true) ∧ (∀ (s : Shared) (u : Value), BindsTo s fd ⟨[u], []⟩ [(x, u)]) ∧
        (∀ ns : List Int, ns.length ≤ n → (∀ z ∈ ns, Builtin.Int.intBits z ≤ 1048576) → ∃ M', φ [.scr (ns.map D.int)] [] = some (.ret (.bl true) M')) ∧
        ∀ base : Heap, K.In base → base.Ns mainGlobals mg → base.NoDigits → (∀ p ∈ cs, LamX.TabB base mg p.1.1 p.1.2) → FnG l.prog w K mg base (L2.CX l.prog w) k fa fd [x] (spD K mg (tbT cs) 1 φ)) :
    PySem.W.WalkO q loose XP YP l.row.toRowW d [] (fun f vs => PySem.call f vs) := by
  refine Att.attach_callB hn hdf fun w s₀ s₁ mg mb fa o pm cd doc a vs ns G Y ho hd hcd hmg hobj hints hlen hbits hg => ?_
  obtain ⟨K, fd, φ, cs, KX, hT, hb, hφ, hF⟩ := F w mg fa _ Y G.T.g hmg
  exact law_callG KX G.T.g G.T.b G.T.builtins G.T.nolimit G.T.nodigits hg (fun p hp => (hT p hp).1) (fun p hp => (hT p hp).2.1) (fun p hp => (hT p hp).2.2) G.T.bmain hobj hints (Nat.le_trans hlen hn2) hr hF hb (hφ ns hlen hbits)
end DL
set_option maxHeartbeats 2000000
namespace DL
open PySem PySem.Spec PyProof.Rows L2

/-! ### names in short, for printed texts -/
abbrev subD : D → D → Option D := II subI
abbrev mulD : D → D → Option D := II mulI
abbrev divD : D → D → Option D := II divI
abbrev modD : D → D → Option D := II modI
abbrev powD : D → D → Option D := II powI
abbrev ltD : D → D → Option D := II (cmpI fun i j => decide (i < j))
abbrev leD : D → D → Option D := II (cmpI fun i j => decide (i ≤ j))
abbrev gtD : D → D → Option D := II (cmpI fun i j => decide (j < i))
abbrev geD : D → D → Option D := II (cmpI fun i j => decide (j ≤ i))
theorem tk0 {X : Cx} : Takes X W0 := fun u s' ⟨_, _, _, _, _, _, _, _, _, _, _, _, _, _, _, _, w⟩ => w.elim
section
variable {X : Cx} {N : En} {W : WX}
theorem de_g2 {id : String} {x : Str} {g : D → D → Option D} {e e2 : Expr} {p pos : Pos} {a b : TDE} (h : C2 X (.builtin id) g) (hm : X.mg x = some (.builtin id)) (ha : DB X N W e a) (hb : DB X N W e2 b) (hg : Gl X x := by rfl) (hdb : (x == ("__debug__" : Str)) = false := by decide)
    (he : starEach [e, e2] X.env = (false, eval e X.env) :: starEach [e2] X.env := by rfl) (he2 : starEach [e2] X.env = (false, eval e2 X.env) :: starEach [] X.env := by rfl) (hpl : (backTo pos (starEach [e2] X.env)).any (·.1) = false := by rfl) : DE X N W (.Call (.Name x p) [e, e2] [] pos) (dBin g a b) :=
  let ⟨_, hc, hU⟩ := h.ok
  pe_imp (pe_callBfun hc hg hm (pa_cons ha (pa_cons hb pa_nil he2) he) hdb he hpl) fun σ H Q q => bin_core hU σ H Q q
end
/-- what the module has of a def, with its text -/
def DgD (P : Program) (w : World) (K : PySem.W.Frag) (mg : Str → Option Value) (base : Heap) (T : List (Addr × Str)) (x : Str) (st : Stmt) (k : Nat) (ps : List Str) (φ : DF) (dvs : List V) : Prop := ∃ f fd, FunD K x x (defArgs st) (defBody st) (defScope st) dvs [] f fd ∧ Fk P w K mg base T x k f fd ps φ
/-- .. an __init__ -/
def Di (P : Program) (w : World) (K : PySem.W.Frag) (mg : Str → Option Value) (base : Heap) (T : List (Addr × Str)) (x q : Str) (st : Stmt) (k : Nat) (ps : List Str) (φ : DFI) : Prop := ∃ C f fd, FunD K "__init__" q (defArgs st) (defBody st) (defScope st) [] [] f fd ∧ Fi P w K mg base T x k C f fd ps φ
/-- a def, found -/
def DfD (K : PySem.W.Frag) (mg : Str → Option Value) (x : Str) (st : Stmt) (dvs : List V) : Prop := ∃ f fd, FunD K x x (defArgs st) (defBody st) (defScope st) dvs [] f fd ∧ mg x = some (.ref f)
def Dfi (K : PySem.W.Frag) (mg : Str → Option Value) (x q : Str) (st : Stmt) : Prop := ∃ C f fd, FunD K "__init__" q (defArgs st) (defBody st) (defScope st) [] [] f fd ∧ mg x = some (.ref C) ∧ Mk K C f
section
variable {X : Cx} {N : En} {W : WX}
theorem de_int_glob {x : Str} {i : Int} {pos : Pos} (h : ∃ t, X.mg x = some (.int i t)) (hg : Gl X x := by rfl) (hdb : (x == ("__debug__" : Str)) = false := by decide) : DE X N W (.Name x pos) (dC (.int i)) :=
  let ⟨t, h⟩ := h
  de_glob (v := .int i) h ⟨t, rfl⟩ (fun _ _ _ => .int i) hg hdb
theorem de_str_glob {x i : Str} {pos : Pos} (h : ∃ t, X.mg x = some (.str i t)) (hg : Gl X x := by rfl) (hdb : (x == ("__debug__" : Str)) = false := by decide) : DE X N W (.Name x pos) (dC (.str i)) :=
  let ⟨t, h⟩ := h
  de_glob (v := .str i) h ⟨t, rfl⟩ (fun _ _ _ => .str i) hg hdb
/-- == of texts, of other data -/
def eqS (neg : Bool) : D → D → Option D := SS fun a b => some (.bl (xor neg (decide (a = b))))
theorem od_eqS : OpD X (compareOp .Eq) (eqS false) := ⟨_, op_eq, fun N ι M S H own x y d e r Q k b1 b2 q k' => by
  obtain ⟨a, b, rfl, rfl, q2⟩ := SS.get q
  cases q2
  have e1 := b1.strAt
  have e2 := b2.strAt
  subst e1 e2
  refine ⟨rfl, k' _ S H k .refl ?_⟩
  rw [Bool.false_xor, show decide (V.str a = V.str b) = decide (a = b) from by by_cases h : a = b <;> simp [h]]
  exact .bl _⟩
theorem od_neS : OpD X (compareOp .NotEq) (eqS true) := ⟨_, op_ne, fun N ι M S H own x y d e r Q k b1 b2 q k' => by
  obtain ⟨a, b, rfl, rfl, q2⟩ := SS.get q
  cases q2
  have e1 := b1.strAt
  have e2 := b2.strAt
  subst e1 e2
  refine ⟨rfl, k' _ S H k .refl ?_⟩
  rw [Bool.true_xor, show decide (V.str a = V.str b) = decide (a = b) from by by_cases h : a = b <;> simp [h]]
  exact .bl _⟩
def eqA (neg : Bool) : D → D → Option D := fun d e => (eqS neg d e).orElse fun _ => eqD neg d e
theorem od_eqA (hu : X.A.units + 64 < cLine) : OpD X (compareOp .Eq) (eqA false) := od_eqS.or (od_eq hu)
theorem od_neA (hu : X.A.units + 64 < cLine) : OpD X (compareOp .NotEq) (eqA true) := od_neS.or (od_ne hu)
/-- a module's tuple of ints -/
def TupG (K : PySem.W.Frag) (mg : Str → Option Value) (x : Str) (ns : List Int) : Prop := ∃ a, mg x = some (.ref a) ∧ SqT K (fun _ => none) a (ns.map V.int)
theorem de_tup_glob {x : Str} {ns : List Int} {pos : Pos} (h : TupG X.K X.mg x ns) (hg : Gl X x := by rfl) (hdb : (x == ("__debug__" : Str)) = false := by decide) : DE X N W (.Name x pos) (dC (.tup (ns.map D.int))) :=
  let ⟨a, h1, h2⟩ := h
  de_glob (v := .ref a) h1 rfl (fun _ _ _ => .tup (.inr h2) (scr_dns ns)) hg hdb
theorem de_gl_own {T : OwnT} (O : OwnOk X.K X.mg T) {x : Str} {pos : Pos} (hx : x ∈ T.cs ∨ x ∈ T.xs := by decide) (hg : Gl X x := by rfl) (hdb : (x == ("__debug__" : Str)) = false := by decide) : DE X N W (.Name x pos) (dC (.gl x)) :=
  let ⟨C, h⟩ := O.ref x hx
  de_gl (v := .ref C) h rfl hg hdb
end
/-- a class's i-th statement -/
def clsAt (s : Stmt) (i : Nat) : Stmt := match s with
  | .ClassDef _ _ _ b _ _ _ _ _ _ _ => b.getD i (.Pass ⟨0, 0, 0, 0⟩)
  | _ => .Pass ⟨0, 0, 0, 0⟩
end DL
set_option maxHeartbeats 2000000
namespace DL
open PySem PySem.Spec PyProof.Rows L2

/-! ### t[::-1] -/
section
variable {prog : Program} {w : World} {A : Around} {E : Value → Shared → Prop} {s : Shared}
theorem back_places (n : Nat) : Builtin.Slice.slicePlaces ((n : Int) - 1) (-1) (-1) = n := by
  have h1 : ¬ ((-1 : Int) > 0) := by omega
  unfold Builtin.Slice.slicePlaces
  rw [if_neg h1]
  by_cases h : n = 0
  · subst h; rfl
  · rw [if_pos (by omega)]
    have e : ((n : Int) - 1 - -1 - 1) / (- -1) + 1 = (n : Int) := by
      rw [show (- -1 : Int) = 1 from rfl, Int.ediv_one]; omega
    rw [e, Int.toNat_natCast]
theorem back_pick (xs : List Value) : ((List.range xs.toArray.size).filterMap fun (k : Nat) => xs.toArray[(((xs.toArray.size : Int) - 1) + (k : Int) * (-1)).toNat]?) = xs.reverse := by
  have h : ∀ k ∈ List.range xs.toArray.size, (fun (k : Nat) => xs.toArray[(((xs.toArray.size : Int) - 1) + (k : Int) * (-1)).toNat]?) k = xs.reverse[k]? := fun k hk => by
    have hk := List.mem_range.mp hk
    rw [List.size_toArray] at hk ⊢
    show xs.toArray[_]? = _
    rw [List.getElem?_reverse hk, show (((xs.length : Int) - 1) + (k : Int) * (-1)).toNat = xs.length - 1 - k by omega]
    simp
  have e : ∀ (l : List Nat) (f g : Nat → Option Value), (∀ k ∈ l, f k = g k) → l.filterMap f = l.filterMap g := fun l f g hfg => by
    induction l with
    | nil => rfl
    | cons a r ih =>
      rw [List.filterMap_cons, List.filterMap_cons, hfg a List.mem_cons_self, ih fun k hk => hfg k (List.mem_cons_of_mem _ hk)]
  rw [e _ _ _ h, List.size_toArray, ← List.length_reverse]
  generalize xs.reverse = ys
  have := PySem.W.krv_all ys.toArray
  simpa using this
theorem getItem_back {t sl : Addr} {its : List Value} {vl vu vs : Value} {Q : Value → Shared → Prop} (ht : IsTup s.heap t its.toArray) (hs : s.heap.IsSliceOf sl vl vu vs) (pl : IsPart vl none) (pu : IsPart vu none) (ps : IsPart vs (some (-1)))
    (h : Q (.ref s.heap.objs.size) { s with heap := s.heap.push { cls := .type "tuple", data := .seq its.reverse.toArray } }) (hsz : its.length ≤ sizeLine) : wpAny (model prog w) A (getItem (.ref t) (.ref sl)) Q E s := by
  have hk : sizeOk (.seq its.reverse.toArray) := by
    show its.reverse.toArray.size ≤ sizeLine
    rw [List.size_toArray, List.length_reverse]
    exact hsz
  obtain ⟨os, hos, hcs, hds⟩ := id hs
  have hT : s.TypeIs (.ref sl) "slice" := ⟨os, hos, hcs⟩
  unfold getItem
  try with_reducible refine wpAny_holding ?_
  first | refine wpAny_bind (wpAny_pure ?_) | skip
  refine wpAny_bind (wpAny_sequenceKey ht.typeIs (by decide) ?_)
  refine wpAny_bind (wpAny_callSpecial?_slot (name := Str.ofString "__getitem__") ht.typeIs PyProof.Rows.slot_tuple_getitem
    (wpAny_call_entry PyProof.Rows.slot_tuple_getitem ht.typeIs PyProof.Rows.entry_tuple_getitem ?_ (PyProof.Rows.args_tuple_getitem _ _)))
  show wpAny _ _ (Builtin.Tuple.tupleItemsOf (.ref t) >>= _) _ _ s
  refine wpAny_bind (PyProof.Rows.tupleItemsOf_ ht ?_)
  refine wpAny_bind (wpAny_typeOf hT ?_)
  rw [if_pos (by decide)]
  refine wpAny_bind ?_
  · unfold Builtin.Slice.sliceApplied Builtin.Slice.sliceFields
    refine wpAny_bind (wpAny_bind (wpAny_field hos hds (x := vl) rfl (wpAny_bind (wpAny_field hos hds (x := vu) rfl (wpAny_bind (wpAny_field hos hds (x := vs) rfl (wpAny_pure ?_)))))))
    refine wpAny_bind (HT.slicePart_ ps ?_)
    show wpAny _ _ (if ((-1 : Int) == 0) = true then _ else _) _ _ s
    rw [if_neg (by decide)]
    refine wpAny_bind (HT.slicePart_ pl (wpAny_bind (HT.slicePart_ pu (wpAny_bind (wpAny_pure ?_)))))
    show wpAny _ _ (pure ((its.toArray.size : Int) - 1, (-1 : Int), Builtin.Slice.slicePlaces ((its.toArray.size : Int) - 1) (-1) (-1))) _ _ s
    rw [back_places]
    refine wpAny_pure ?_
    have hno : ¬ ((((its.toArray.size : Int) - 1) == 0 && (-1 : Int) == 1 && its.toArray.size == its.toArray.size) = true) := by
      intro z
      rw [Bool.and_eq_true, Bool.and_eq_true] at z
      exact absurd z.1.2 (by decide)
    show wpAny _ _ (if (((its.toArray.size : Int) - 1) == 0 && (-1 : Int) == 1 && its.toArray.size == its.toArray.size) = true then _ else _) _ _ s
    rw [if_neg hno, back_pick]
    first
      | exact wpAny_bind (m := Builtin.Tuple.tupleExact _) (wpAny_newObj_type (wpAny_pure ⟨_, rfl, wpAny_pure h⟩) hk)
      | exact wpAny_bind (m := Builtin.Tuple.tupleExact _) (wpAny_newObj_type (wpAny_bind (wpAny_pure (wpAny_pure ⟨_, rfl, wpAny_pure h⟩))) hk)
      | exact wpAny_bind (wpAny_bind (m := Builtin.Tuple.tupleExact _) (wpAny_newObj_type (wpAny_pure (wpAny_pure ⟨_, rfl, wpAny_pure h⟩)) hk))
end
def tRevT (K : PySem.W.Frag) (te : TE) : TE := fun σ H Q => te σ H fun x H1 => ∃ a xs, x = .ref a ∧ SqT K H1 a xs ∧ ∀ p, H1 p = none → Q (.ref p) (upd H1 p (.tup xs.reverse))
section
variable {X : Cx} {N : En} {W : WX}
theorem pe_revT {e : Expr} {te : TE} {k : Nat} {p1 p2 p3 pos : Pos} (he : PE X e te) : PE X (.Subscript e (.Slice none none (some (.UnaryOp .USub (.Constant (.int 1) k p1) p2)) p3) pos) (tRevT X.K te) := by
  refine ⟨fun pins s σ H Q I h => Subscript_ (thn (he.run pins s σ H _ I h) fun v s1 ⟨x, H1, I1, r1, q1⟩ => ?_)⟩
  obtain ⟨a, xs, ex, hx, q⟩ := q1
  subst ex
  cases r1
  have hst : PO X (some (.UnaryOp .USub (.Constant (.int 1) k p1) p2)) (tPart (tUn (rU fun i => .int (-i)) (tC (.int 1)))) := po_some (pe_un un_neg pe_int)
  refine wpAny_Slice (thn (po_none.run pins s1 σ H1 (fun o H2 => o = none ∧ H2 = H1) I1 ⟨rfl, rfl⟩) fun vl s2 ⟨l, H2, I2, pl, el, e2⟩ => ?_)
  cases el
  cases e2
  refine thn (po_none.run pins s2 σ H1 (fun o H3 => o = none ∧ H3 = H1) I2 ⟨rfl, rfl⟩) fun vu s3 ⟨u, H3, I3, pu, eu, e3⟩ => ?_
  cases eu
  cases e3
  refine thn (hst.run pins s3 σ H1 (fun o H4 => o = some (-1) ∧ H4 = H1) I3 ⟨1, rfl, -1, rfl, rfl, rfl⟩) fun vs s4 ⟨o, H4, I4, ps, eo, e4⟩ => ?_
  cases eo
  cases e4
  have I5 : Inv X pins σ H1 { s4 with heap := s4.heap.push { cls := .type "slice", data := .fields #[vl, vu, vs] } } := I4.kept (t' := s4.toks) fun b ob q => Heap.get?_push_of_some _ q
  obtain ⟨its, r, ht, hz⟩ := I5.tuple hx
  show wpAny (model X.prog X.w) X.A (subscriptTail e (.Slice none none (some (.UnaryOp .USub (.Constant (.int 1) k p1) p2)) p3) (.ref a) (.ref s4.heap.objs.size)) (EP X pins σ Q) X.xe { s4 with heap := s4.heap.push { cls := .type "slice", data := .fields #[vl, vu, vs] } }
  refine tail_any (ops := [.ref a, .ref s4.heap.objs.size]) ht.typeIs (PyProof.Rows.slot_tuple_getitem.lookup) ?_ (by with_unfolding_all rfl)
  refine getItem_back ht (Heap.IsSliceOf.new _ vl vu vs) pl pu ps ?_ (by rw [← r.length]; exact hz)
  refine ⟨.ref _, _, I5.laid (t' := s4.toks) (o := .tup xs.reverse) (fun b ob q => Heap.get?_push_of_some _ q) (Nat.le_refl _) ?_, rfl, q _ (I5.hok.fresh (Nat.le_refl _))⟩
  exact ⟨by rw [List.length_reverse]; exact hz, _, r.reverse, IsTup.new _ _⟩
theorem Dns.rev {K : PySem.W.Frag} {mg : Str → Option Value} {S : AP} {ι : List Addr} {H : Hp} : ∀ {xs : List V} {ds : List D}, Dns K mg S ι H xs ds → Dns K mg S ι H xs.reverse ds.reverse
  | _, _, .nil => .nil
  | _, _, .cons h t => by
    rw [List.reverse_cons, List.reverse_cons]
    exact (Dns.rev t).append (.cons h .nil)
def revT : D → Option D
  | .tup ds => some (.tup ds.reverse)
  | _ => none
theorem de_rev {e : Expr} {k : Nat} {p1 p2 p3 pos : Pos} {a : TDE} (ha : DB X N W e a) : DE X N W (.Subscript e (.Slice none none (some (.UnaryOp .USub (.Constant (.int 1) k p1) p2)) p3) pos) (dUn revT a) :=
  pe_imp (pe_revT ha) fun σ H Q q => un_core (R := fun x H Q => ∃ a xs, x = .ref a ∧ SqT X.K H a xs ∧ ∀ p, H p = none → Q (.ref p) (upd H p (.tup xs.reverse))) (fun N ι M S H own x d r Q k b q k' => by
    unfold revT at q
    split at q
    · cases q
      obtain ⟨a, xs, rfl, ha, ta, _⟩ := b.tupAt
      exact ⟨a, xs, rfl, ha, fun p hp => k' _ _ _ (k.alloc hp) ⟨k.alloc_ext hp, fun i a h => ⟨k.hown hp i a h, .inl h⟩⟩ (.tup (.inl ⟨.inr rfl, .inl upd_same⟩) (ta.rev.ext (k.alloc_ext hp)))⟩
    · cases q) σ H Q q
end
end DL
set_option maxHeartbeats 2000000
namespace DL
open PySem PySem.Spec PyProof.Rows L2

/-! ### what the head tells of the classes -/
def TyN.valK (K : PySem.W.Frag) : TyN → Value
  | .ty n => .type n
  | .own c => .ref (He.ga K c)
def TyN.gloB (K : PySem.W.Frag) : TyN → Bool
  | .ty _ => true
  | .own c => (He.Fa.glo c).ok K
def clsB (K : PySem.W.Frag) (c : Str) : Bool := (He.Fa.glo c).ok K && ((He.Fa.cls c).ok K && (He.eqO (PySem.W.findIn K (.ref (He.ga K c)) "__class__") (some (some (.builtin "object.__class__"))) &&
  (He.eqO (PySem.W.specialIn K (.builtin "object.__class__") "__get__") (some (some (.builtin "getset_descriptor.__get__"))) && (decide (PySem.W.takesIn K (.builtin "object.__class__") = some true) && decide (PySem.W.mroIn K (He.ga K c) (.type "object") = some true)))))
def ktB (K : PySem.W.Frag) (e : TyN × TyN × Bool) : Bool := e.1.gloB K && (e.2.1.gloB K && decide (PySem.W.kitOne K (e.1.valK K) (e.2.1.valK K) = some e.2.2))
def atB (K : PySem.W.Frag) (e : Str × Str) : Bool := (He.Fa.glo e.1).ok K && (He.Fa.noat e.1 e.2).ok K
def xclB (K : PySem.W.Frag) (c : Str) : Bool := (He.Fa.glo c).ok K && ((PySem.W.clsIn K (He.ga K c)).isSome && (PySem.W.hasDictIn K (He.ga K c) && (He.eqO (PySem.W.findIn K (.ref (He.ga K c)) "__getattribute__") (some (some (.builtin "BaseException.__getattribute__"))) &&
  (He.eqO (PySem.W.findIn K (.ref (He.ga K c)) "__getattr__") (some none) && (decide (PySem.W.subIn K (.ref (He.ga K c)) (.type "BaseException") = some true) && (He.eqO (PySem.W.findIn K (.ref (He.ga K c)) "__class__") (some (some (.builtin "object.__class__"))) &&
  (He.eqO (PySem.W.specialIn K (.builtin "object.__class__") "__get__") (some (some (.builtin "getset_descriptor.__get__"))) && (decide (PySem.W.takesIn K (.builtin "object.__class__") = some true) && decide (PySem.W.mroIn K (He.ga K c) (.type "object") = some true)))))))))
def emB (K : PySem.W.Frag) (e : Str × Str × Bool) : Bool := (He.Fa.glo e.1).ok K && ((He.Fa.glo e.2.1).ok K && decide (PySem.W.exmOne K (.ref (He.ga K e.1)) (.ref (He.ga K e.2.1)) = some e.2.2))
def ownB (K : PySem.W.Frag) (T : OwnT) : Bool := T.cs.all (clsB K) && (T.kt.all (ktB K) && (T.at_.all (atB K) && (T.xs.all (xclB K) && T.em.all (emB K))))
section
variable {K : PySem.W.Frag} {h : Heap} {mg : Str → Option Value} {T : OwnT}
theorem val_of (X : K.In h) (G : h.Ns mainGlobals mg) {a : TyN} (c : a.gloB K = true) {v : Value} (e : a.val mg = some v) : v = a.valK K := by
  cases a with
  | ty n => cases e; rfl
  | own x =>
    have e2 := He.glo_ok X G (show (He.Fa.glo x).ok K = true from c)
    have e : mg x = some v := e
    rw [e2] at e
    cases e
    rfl
theorem own_ok (X : K.In h) (G : h.Ns mainGlobals mg) (c : ownB K T = true) : OwnOk K mg T := by
  obtain ⟨c1, c⟩ := He.ba c
  obtain ⟨c2, c⟩ := He.ba c
  obtain ⟨c3, c⟩ := He.ba c
  obtain ⟨c4, c5⟩ := He.ba c
  refine ⟨fun x hx => ?_, fun x hx C hC => ?_, fun x hx C hC => ?_, fun a b r hm va vb ea eb => ?_, fun x f hm C hC => ?_, fun a b r hm A B hA hB => ?em⟩
  case em =>
    obtain ⟨k1, k⟩ := He.ba (List.all_eq_true.mp c5 _ hm)
    obtain ⟨k2, k3⟩ := He.ba k
    rw [He.glo_ok X G k1] at hA
    rw [He.glo_ok X G k2] at hB
    cases hA
    cases hB
    exact of_decide_eq_true k3
  · rcases hx with hx | hx
    · exact ⟨_, He.glo_ok X G (He.ba (List.all_eq_true.mp c1 x hx)).1⟩
    · exact ⟨_, He.glo_ok X G (He.ba (List.all_eq_true.mp c4 x hx)).1⟩
  · obtain ⟨k1, k⟩ := He.ba (List.all_eq_true.mp c1 x hx)
    rw [He.glo_ok X G k1] at hC
    cases hC
    obtain ⟨k2, k⟩ := He.ba k
    obtain ⟨k3, k⟩ := He.ba k
    obtain ⟨k4, k⟩ := He.ba k
    obtain ⟨k5, k6⟩ := He.ba k
    exact ⟨He.cls_ok k2, He.eqO_ok k3, He.eqO_ok k4, of_decide_eq_true k5, of_decide_eq_true k6⟩
  · obtain ⟨k1, k⟩ := He.ba (List.all_eq_true.mp c4 x hx)
    rw [He.glo_ok X G k1] at hC
    cases hC
    obtain ⟨k2, k⟩ := He.ba k
    obtain ⟨k3, k⟩ := He.ba k
    obtain ⟨k4, k⟩ := He.ba k
    obtain ⟨k5, k⟩ := He.ba k
    obtain ⟨k6, k⟩ := He.ba k
    obtain ⟨k7, k⟩ := He.ba k
    obtain ⟨k8, k⟩ := He.ba k
    obtain ⟨k9, k10⟩ := He.ba k
    exact ⟨k2, k3, He.eqO_ok k4, He.eqO_ok k5, of_decide_eq_true k6, He.eqO_ok k7, He.eqO_ok k8, of_decide_eq_true k9, of_decide_eq_true k10⟩
  · obtain ⟨k1, k⟩ := He.ba (List.all_eq_true.mp c2 _ hm)
    obtain ⟨k2, k3⟩ := He.ba k
    rw [val_of X G k1 ea, val_of X G k2 eb]
    exact of_decide_eq_true k3
  · obtain ⟨k1, k2⟩ := He.ba (List.all_eq_true.mp c3 _ hm)
    rw [He.glo_ok X G k1] at hC
    cases hC
    exact He.noat_ok k2
/-- a module's name for a built-in function -/
def bfB (K : PySem.W.Frag) (x : Str) (id : String) : Bool := He.eqO (PySem.W.nsIn K mainGlobals x) (some (some (.builtin id)))
theorem bf_ok (X : K.In h) (G : h.Ns mainGlobals mg) {x : Str} {id : String} (c : bfB K x id = true) : mg x = some (.builtin id) := PySem.W.mg_of X G (He.eqO_ok c)
def tupGB (K : PySem.W.Frag) (x : Str) (ns : List Int) : Bool := (He.Fa.glo x).ok K && He.tupB K x (ns.map He.Dv.int)
theorem tupG_ok (X : K.In h) (G : h.Ns mainGlobals mg) {x : Str} {ns : List Int} (c : tupGB K x ns = true) : TupG K mg x ns := by
  obtain ⟨c1, c2⟩ := He.ba c
  refine ⟨_, He.glo_ok X G c1, ?_⟩
  have e := He.tupB_ok c2 (fun _ => none)
  rw [List.map_map] at e
  exact e
end
end DL
set_option maxHeartbeats 2000000
namespace DL
open PySem PySem.Spec PyProof.Rows L2
/-! ### data's laws, for evaluating -/
theorem line_ge : sizeLine = sizeLine := rfl
theorem addD_int (i j : Int) : addD (.int i) (.int j) = some (.int (i + j)) := rfl
theorem addD_lst (a b : List D) (h : a.length + b.length ≤ sizeLine) : addD (.lst a) (.lst b) = some (.lst (a ++ b)) := by
  show (addL (.lst a) (.lst b)).orElse _ = _
  unfold addL
  simp only [if_pos h]
  rfl
theorem intA_int (i : Int) : intA (.int i) = some (.int i) := rfl
theorem intA_bl (b : Bool) : intA (.bl b) = some (.int (if b then 1 else 0)) := rfl
theorem intD_int (i : Int) : intD (.int i) = some (.int i) := rfl
theorem mulI_ok {i j : Int} (h : mulOk i j) : mulI i j = some (.int (i * j)) := if_pos h
theorem divI_ok {i j : Int} (h : divOk j) : divI i j = some (.int (i.fdiv j)) := if_pos h
theorem modI_ok {i j : Int} (h : j ≠ 0) : modI i j = some (.int (i.fmod j)) := if_pos h
theorem powI_ok {i j : Int} (h : powOk i j) : powI i j = some (.int (i ^ j.toNat)) := if_pos h
theorem atI_nat {α : Type} (xs : List α) (n : Nat) : L2.atI xs (n : Int) = xs[n]? := by
  unfold L2.atI ixN
  by_cases h : n < xs.length
  · simp [h]
  · simp [h]
theorem ix_t0 (a : D) (r : List D) : ixD (.tup (a :: r)) (.int 0) = some a := by
  show L2.atI (a :: r) ((0 : Nat) : Int) = _
  rw [atI_nat]; rfl
theorem ix_t1 (a b : D) (r : List D) : ixD (.tup (a :: b :: r)) (.int 1) = some b := by
  show L2.atI (a :: b :: r) ((1 : Nat) : Int) = _
  rw [atI_nat]; rfl
theorem ix_t2 (a b c : D) (r : List D) : ixD (.tup (a :: b :: c :: r)) (.int 2) = some c := by
  show L2.atI (a :: b :: c :: r) ((2 : Nat) : Int) = _
  rw [atI_nat]; rfl
theorem ix_l0 (a : D) (r : List D) : ixD (.lst (a :: r)) (.int 0) = some a := by
  show L2.atI (a :: r) ((0 : Nat) : Int) = _
  rw [atI_nat]; rfl
theorem ix_l1 (a b : D) (r : List D) : ixD (.lst (a :: b :: r)) (.int 1) = some b := by
  show L2.atI (a :: b :: r) ((1 : Nat) : Int) = _
  rw [atI_nat]; rfl
theorem ix_lnat (ds : List D) (n : Nat) : ixD (.lst ds) (.int (n : Int)) = ds[n]? := atI_nat ds n
theorem eqD_of {n : Bool} {d e : D} {p q : PyData} {r : Bool} (h1 : toPy d = some p) (h2 : toPy e = some q) (s1 : SeqAt.shaped p = true) (s2 : SeqAt.shaped q = true) (h : PyData.eqv p q = r) : eqD n d e = some (.bl (xor n r)) := by
  unfold eqD
  rw [h1, h2]
  show (if SeqAt.shaped p = true ∧ SeqAt.shaped q = true then _ else _) = _
  rw [if_pos ⟨s1, s2⟩, h]
theorem eqD_int (n : Bool) (i j : Int) : eqD n (.int i) (.int j) = some (.bl (xor n (decide (i = j)))) :=
  eqD_of rfl rfl rfl rfl (by simp only [PyData.eqv]; by_cases h : i = j <;> simp [h])
theorem eqD_pair (n : Bool) (a b c d : Int) : eqD n (.tup [.int a, .int b]) (.tup [.int c, .int d]) = some (.bl (xor n (decide (a = c ∧ b = d)))) :=
  eqD_of rfl rfl rfl rfl (by simp only [PyData.eqv, PyData.eqvAll]; by_cases h : a = c <;> by_cases h2 : b = d <;> simp [h, h2])
theorem eqD_bl (n : Bool) (i j : Bool) : eqD n (.bl i) (.bl j) = some (.bl (xor n (i == j))) :=
  eqD_of rfl rfl rfl rfl (by simp only [PyData.eqv])
theorem eqA_int (n : Bool) (i j : Int) : eqA n (.int i) (.int j) = some (.bl (xor n (decide (i = j)))) := eqD_int n i j
theorem eqA_pair (n : Bool) (a b c d : Int) : eqA n (.tup [.int a, .int b]) (.tup [.int c, .int d]) = some (.bl (xor n (decide (a = c ∧ b = d)))) := eqD_pair n a b c d
theorem eqA_bl (n i j : Bool) : eqA n (.bl i) (.bl j) = some (.bl (xor n (i == j))) := eqD_bl n i j
theorem eqA_str (n : Bool) (a b : Str) : eqA n (.str a) (.str b) = some (.bl (xor n (decide (a = b)))) := rfl
theorem eqA_lst (n : Bool) (a : List D) (e : D) : eqA n (.lst a) e = eqD n (.lst a) e := rfl
theorem eqA_tup (n : Bool) (a : List D) (e : D) : eqA n (.tup a) e = eqD n (.tup a) e := rfl
/-! ### calls whose worth is known -/
theorem pcall {φ : DF} {ds : List D} {d : D} (h : ∀ M, φ ds M = some (.ret d M)) : ∀ ρ M, dApp φ ds ρ M = some (.ok d ρ M) := fun ρ M => by
  unfold dApp dRet
  rw [h]
theorem mcall {φ : DF} {ds : List D} {d : D} {M M' : MS} (h : φ ds M = some (.ret d M')) : ∀ ρ, dApp φ ds ρ M = some (.ok d ρ M') := fun ρ => by
  unfold dApp dRet
  rw [h]
theorem call_p {n np : Nat} {a : TDA} {sel : List Src} {dds vs ws : List D} {φ : DF} {ρ ρ1 : DS} {M M1 M2 : MS} {d : D} (h1 : a ρ M = some (.ok vs ρ1 M1)) (h2 : vs.length = n) (h3 : pick sel vs dds [] = ws) (h4 : ws.length = np) (h5 : φ ws M1 = some (.ret d M2)) :
    aBind a (fun ds => fits n ds (fits np (pick sel ds dds []) (dApp φ (pick sel ds dds [])))) ρ M = some (.ok d ρ1 M2) := by
  unfold aBind
  rw [h1]
  show fits n vs (fits np (pick sel vs dds []) (dApp φ (pick sel vs dds []))) ρ1 M1 = _
  unfold fits
  rw [h3, if_pos h2, if_pos h4]
  exact mcall h5 ρ1
theorem bin_p {f : D → D → Option D} {a b : TDE} {ρ ρ1 ρ2 : DS} {M M1 M2 : MS} {x y z : D} (h1 : a ρ M = some (.ok x ρ1 M1)) (h2 : b ρ1 M1 = some (.ok y ρ2 M2)) (h3 : f x y = some z) : dBin f a b ρ M = some (.ok z ρ2 M2) := by
  unfold dBin dBind
  rw [h1]
  show (match b ρ1 M1 with | some (.ok d ρ1 M1) => dOut (f x d) ρ1 M1 | o => o) = _
  rw [h2]
  show dOut (f x y) ρ2 M2 = _
  rw [h3]
  rfl
theorem set_p {i : Nat} {a : TDE} {ρ ρ1 : DS} {M M1 : MS} {d : D} (h : a ρ M = some (.ok d ρ1 M1)) : sSet i a ρ M = some (.nx (ρ1.set i (some (.t d))) M1) := by
  unfold sSet sBind
  rw [h]
/-! ### a comprehension of pure items -/
theorem compL_map {b : TDG} {u : TDE} {ρ : DS} {M : MS} (F : D → D) : ∀ (ds acc : List D), (∀ d ∈ ds, ∃ ρ2, b d ρ = some ρ2 ∧ u ρ2 M = some (.ok (F d) ρ2 M)) → acc.length + ds.length ≤ sizeLine → compL b dYes u ρ ds acc M = some (acc ++ ds.map F, M)
  | [], acc, _, _ => by rw [List.map_nil, List.append_nil]; rfl
  | d :: r, acc, h, hz => by
    obtain ⟨ρ2, h1, h2⟩ := h d List.mem_cons_self
    have hz2 : acc.length < sizeLine := by simp only [List.length_cons] at hz; omega
    have ih := compL_map F r (acc ++ [F d]) (fun x hx => h x (List.mem_cons_of_mem _ hx)) (by simp only [List.length_append, List.length_cons, List.length_nil] at hz ⊢; omega)
    unfold compL
    simp only [h1, dYes, h2]
    rw [if_pos ⟨trivial, trivial, hz2⟩, ih, List.map_cons, List.append_assoc]
    rfl
theorem comp_map {vs : List Nat} {src : TDA} {b : TDG} {u : TDE} {ρ ρ1 : DS} {M M1 : MS} {ds : List D} (F : D → D) (h1 : src ρ M = some (.ok ds ρ1 M1)) (h2 : freeAll ρ1 vs = true) (h3 : vs.all (fun v => decide (v < slotsB)) = true) (h4 : ds.length ≤ sizeLine)
    (h : ∀ d ∈ ds, ∃ ρ2, b d (wipeD (borrow ρ1) vs) = some ρ2 ∧ u ρ2 M1 = some (.ok (F d) ρ2 M1)) : dComp vs src b dYes u ρ M = some (.ok (.lst (ds.map F)) ρ1 M1) := by
  unfold dComp
  rw [h1]
  simp only
  rw [if_pos ⟨h2, h3⟩, compL_map F ds [] h (by simpa using h4)]
  rfl
/-! ### repr -/
theorem leafI {i : Int} (h : i.natAbs.log2 < 1920) : PyData.leavesShort 1921 (.int i) = true := by
  unfold PyData.leavesShort
  refine decide_eq_true ?_
  have e := PySem.int_text_length_le (a := i) (k := 1920) (by decide) h
  show (Str.ofString (toString i)).length ≤ 1921
  rw [PySem.ofString_length]
  exact e
theorem shw_of {p : PyData} (h1 : p.showable = true) (h2 : p.hasDict = false) (h3 : p.depth ≤ 60) (h4 : p.leavesShort 1921 = true) (h5 : p.bulk ≤ 8000) : shwD p := by
  refine ⟨h1, h2, h3, ?_⟩
  have := PyData.shown_le_bulk 1921 (by decide) p h4
  rw [sizeLine_eq]
  omega
theorem repr_of {d : D} {p : PyData} (h : toPy d = some p) (s : shwD p) : reprD d = some (.str p.shown) := by
  unfold reprD
  rw [h]
  exact if_pos s
theorem asg_p {a : TDE} {b : TDG} {ρ ρ1 ρ2 : DS} {M M1 : MS} {d : D} (h : a ρ M = some (.ok d ρ1 M1)) (h2 : b d ρ1 = some ρ2) : sAsg a b ρ M = some (.nx ρ2 M1) := by
  unfold sAsg sBind
  rw [h]
  simp only [h2]
theorem not_tru_p {a : TDE} {ρ ρ1 : DS} {M M1 : MS} (h : a ρ M = some (.ok (.bl true) ρ1 M1)) : dNot (dTru a) ρ M = some (.ok (.bl false) ρ1 M1) := by
  unfold dNot dTru
  rw [h]
  rfl
/-! ### statement by statement -/
theorem seq_nx {t u : TDS} {ρ ρ1 : DS} {M M1 : MS} (h : t ρ M = some (.nx ρ1 M1)) : sSeq t u ρ M = u ρ1 M1 := by
  unfold sSeq
  rw [h]
theorem seq_rt {t u : TDS} {ρ : DS} {M M1 : MS} {d : D} (h : t ρ M = some (.rt d M1)) : sSeq t u ρ M = some (.rt d M1) := by
  unfold sSeq
  rw [h]
theorem dFn_rt {n N : Nat} {t : TDS} {ds : List D} {M M1 : MS} {d : D} (hl : ds.length = n) (h : t (ds.map (fun d => some (.t d)) ++ List.replicate (N - ds.length) none) M = some (.rt d M1)) : dFn n N t ds M = some (.ret d M1) := by
  unfold dFn
  rw [if_pos hl, h]
theorem dFn_nx {n N : Nat} {t : TDS} {ds : List D} {M M1 : MS} {ρ : DS} (hl : ds.length = n) (h : t (ds.map (fun d => some (.t d)) ++ List.replicate (N - ds.length) none) M = some (.nx ρ M1)) : dFn n N t ds M = some (.ret .non M1) := by
  unfold dFn
  rw [if_pos hl, h]
theorem if_t {c : TDE} {u v : TDS} {ρ ρ1 : DS} {M M1 : MS} (h : c ρ M = some (.ok (.bl true) ρ1 M1)) : sIf c u v ρ M = u ρ1 M1 := by
  unfold sIf
  rw [h]
theorem if_f {c : TDE} {u v : TDS} {ρ ρ1 : DS} {M M1 : MS} (h : c ρ M = some (.ok (.bl false) ρ1 M1)) : sIf c u v ρ M = v ρ1 M1 := by
  unfold sIf
  rw [h]
theorem or_f {a b : TDE} {ρ ρ1 : DS} {M M1 : MS} (h : a ρ M = some (.ok (.bl false) ρ1 M1)) : dOrT a b ρ M = b ρ1 M1 := by
  unfold dOrT
  rw [h]
/-! ### while, a turn at a time -/
theorem while_t {c : TDE} {body : TDS} {ρ ρ1 ρ2 : DS} {M M1 M2 : MS} {o : SO} (h1 : c ρ M = some (.ok (.bl true) ρ1 M1)) (h2 : body ρ1 M1 = some (.nx ρ2 M2)) (h3 : sWhile c body ρ2 M2 = some o) : sWhile c body ρ M = some o := by
  obtain ⟨n, hn⟩ := while_get h3
  refine while_of (n := n + 1) ?_
  unfold wh
  rw [h1]
  show (match body ρ1 M1 with | some (.nx ρ2 M2) => wh c body n ρ2 M2 | some (.ct ρ2 M2) => wh c body n ρ2 M2 | some (.bk ρ2 M2) => some (.nx ρ2 M2) | o => o) = _
  rw [h2]
  exact hn
theorem while_f {c : TDE} {body : TDS} {ρ ρ1 : DS} {M M1 : MS} (h1 : c ρ M = some (.ok (.bl false) ρ1 M1)) : sWhile c body ρ M = some (.nx ρ1 M1) := by
  refine while_of (n := 1) ?_
  unfold wh
  rw [h1]
theorem for_eq {src : TDA} {b : TDG} {body : TDS} {ρ ρ1 : DS} {M M1 : MS} {ds : List D} (h : src ρ M = some (.ok ds ρ1 M1)) : sFor src b body ρ M = loopS b body ds ρ1 M1 := by
  unfold sFor
  rw [h]
theorem rng1 {a : TDE} {ρ ρ1 : DS} {M M1 : MS} {j : Int} (h : a ρ M = some (.ok (.int j) ρ1 M1)) (hj : small62 j) : iRange1 a ρ M = some (.ok (rangeL 0 j.toNat) ρ1 M1) := by
  unfold iRange1 iBind
  rw [h]
  simp only
  rw [if_pos hj]
theorem seq_eq {a : TDE} {ρ ρ1 : DS} {M M1 : MS} {d : D} {ds : List D} (h : a ρ M = some (.ok d ρ1 M1)) (hk : itemsD d = some ds) : iBind a itemsD ρ M = some (.ok ds ρ1 M1) := by
  unfold iBind
  rw [h]
  simp only [hk]
theorem rangeL_len (lo : Int) (n : Nat) : (rangeL lo n).length = n := by unfold rangeL; rw [List.length_map, List.length_range]
/-! ### greatness -/
theorem mulOk_of {i j : Int} {n m : Nat} (h1 : i.natAbs < 2 ^ n) (h2 : j.natAbs < 2 ^ m) (h : n + m ≤ 999999 := by omega) : mulOk i j := by
  refine .inr (.inr ?_)
  have k : ∀ {a n : Nat}, a < 2 ^ n → a.log2 ≤ n := fun {a n} h => by
    by_cases z : a = 0
    · subst z; rw [Nat.log2_zero]; omega
    · exact Nat.le_of_lt ((Nat.log2_lt z).mpr h)
  have := k h1
  have := k h2
  omega
theorem divOk_of {j : Int} {n : Nat} (h0 : j ≠ 0) (h : j.natAbs < 2 ^ n) (hn : n < 9000 := by omega) : divOk j := by
  refine ⟨h0, ?_⟩
  have := (Nat.log2_lt (n := j.natAbs) (k := n) (by omega)).mpr h
  omega
theorem line2 : (0 + 1 + 1 ≤ sizeLine) = True := by rw [sizeLine_eq]; decide
theorem line_nat {n : Nat} (h : n ≤ 16777216) : n ≤ sizeLine := by rw [sizeLine_eq]; exact h
theorem le1 : (1 ≤ sizeLine) = True := by rw [sizeLine_eq]; decide
theorem le2 : (2 ≤ sizeLine) = True := by rw [sizeLine_eq]; decide
theorem le3 : (3 ≤ sizeLine) = True := by rw [sizeLine_eq]; decide
theorem le4 : (4 ≤ sizeLine) = True := by rw [sizeLine_eq]; decide
theorem le5 : (5 ≤ sizeLine) = True := by rw [sizeLine_eq]; decide
theorem le8 : (8 ≤ sizeLine) = True := by rw [sizeLine_eq]; decide
theorem le9 : (9 ≤ sizeLine) = True := by rw [sizeLine_eq]; decide
theorem len_lst (ds : List D) : lenA (.lst ds) = some (.int ds.length) := rfl
theorem len_tup (ds : List D) : lenA (.tup ds) = some (.int ds.length) := rfl
end DL
set_option maxHeartbeats 4000000
namespace DL
open PySem PySem.Spec PyProof.Rows L2 PySem.W PySem.Calls

/-! ### an exception class of the program, whose __init__ says super().__init__(text), then self.f = p .. -/
/-- at L: a frame's names -/
def locO (L : Addr) (m : Str → Option Value) : HO := .ext fun h => h.Ns L m
theorem locO_ok {P : Program} {w : World} {H : Hp} {h : Heap} {L : Addr} {m : Str → Option Value} (hn : h.Ns L m) : ObjOk P w H h L (locO L m) :=
  ⟨hn, (let ⟨o, _, _, e, _⟩ := hn; ⟨o, e⟩), fun h1 h2 z k => by
    obtain ⟨o, es, ep, e, r⟩ := z
    exact ⟨o, es, ep, k _ e, r⟩⟩
theorem locO_at {P : Program} {w : World} {H : Hp} {h : Heap} {L : Addr} {m : Str → Option Value} (hok : HOk P w H h) (e : H L = some (locO L m)) : h.Ns L m := by
  have x : ObjOk P w H h L (.ext fun h => h.Ns L m) := hok L _ e
  exact x.1
theorem locO_ne_exo {L C : Addr} {m : Str → Option Value} {H : Hp} {a : Addr} {P : Program} {w : World} {h : Heap} {d : Option Addr} (hok : HOk P w H h) (e : H L = some (locO L m)) (ea : H a = some (exo a C d)) : L ≠ a := fun z => by
  obtain ⟨o, es, ep, h1, h2, _⟩ := locO_at hok e
  obtain ⟨t1, h3⟩ := exo_at hok ea
  rw [z, h3] at h1
  cases h1
  cases h2
/-- the written part's word of the class and its __init__ -/
structure XiD (K : PySem.W.Frag) (mg : Str → Option Value) (prog : Program) (C f : Addr) (qual : Str) (params : Arguments) (body : List Stmt) (scope : Scope) : Prop where
  fn : ∃ (oc : Value) (od : Option Addr) (osl : Array (Option Value)) (dV kV doc pm ct : Value) (an : Option Addr) (cda cc : Addr),
    dV = .none ∧ K.lookup f = some ⟨oc, od, .func (ksFn "__init__" qual params body scope dV kV doc pm an (.ref cda) ct cc), osl⟩ ∧ codeIn K (.ref cda) qual = true ∧
    (∃ (ccl : Value) (cdd : Option Addr) (vs : Array Value) (ccs : Array (Option Value)) (file : Str) (tf : Tok), K.lookup cda = some ⟨ccl, cdd, .fields vs, ccs⟩ ∧ vs[2]? = some (.str file tf) ∧ ((prog.main.file : Str) == file) = true) ∧
    ∃ (cl : Value) (cld : Option Addr) (csl : Array (Option Value)), K.lookup cc = some ⟨cl, cld, .cell (some (.ref C)), csl⟩
  o : OexC K C
  iC : findIn K (.ref C) "__init__" = some (some (.ref f))
  tI : typeIn K (.ref f) = some (.type "function")
  su : ks_superIn K C C "__init__" = some (some (.builtin "ValueError.__init__"))
  sv : subIn K (.ref C) (.type "ValueError") = some true
  mC : mroIn K C (.ref C) = some true
  op : nsIn K cStatics "thirdparty.any" = some none
  gs : mg "super" = none
  top : (prog.main.scope.names.lookup ("super" : Str)).isSome = false
/-- the body: super().__init__(text), then fields -/
inductive FldB : List Stmt → List (Str × Str) → Prop
  | nil : FldB [] []
  | cons {q1 q2 q3 q4 : Pos} {f p : Str} {r : List Stmt} {l : List (Str × Str)} (hs : ∀ env, swapsWith (.Name p q3) (some (.Attribute (.Name "self" q1) f q2)) q4.line env = pure false) (h : FldB r l) : FldB (.Assign [.Attribute (.Name "self" q1) f q2] (.Name p q3) q4 :: r) ((f, p) :: l)
inductive InitB : List Stmt → List (Str × Str) → Prop
  | mk {pl : Env → Sem Bool} {p0 p1 p2 p3 p4 p5 : Pos} {msg : Str} {j : Nat} {r : List Stmt} {l : List (Str × Str)}
    (he : ∀ env, eval (.Call (.Attribute (.Call (.Name "super" p0) [] [] p1) "__init__" p2) [.Constant (.str msg) j p3] [] p4) env = (do
      let ov ← attributeBase (.Call (.Name "super" p0) [] [] p1) "__init__" env (eval (.Call (.Name "super" p0) [] [] p1) env)
      standAt p2.atName
      let (f, first) ← holding [ov] (getMethod ov "__init__" (pl env))
      callWith p4 f first (backTo p4 (starEach [.Constant (.str msg) j p3] env)) []))
    (hs : ∀ env, swapsWith (.Call (.Attribute (.Call (.Name "super" p0) [] [] p1) "__init__" p2) [.Constant (.str msg) j p3] [] p4) none p5.line env = pure false) (h : FldB r l) :
    InitB (.Expr (.Call (.Attribute (.Call (.Name "super" p0) [] [] p1) "__init__" p2) [.Constant (.str msg) j p3] [] p4) p5 :: r) l
/-- the exception, its fields; what stood before stands -/
structure XS (H0 H : Hp) (a C : Addr) (fs : List (Str × V)) : Prop where
  sup : ∀ b o, H0 b = some o → H b = some o
  na : H0 a = none
  nt : ∀ b ps, H0 b = none → H b ≠ some (.tbl ps)
  at_ : (fs = [] ∧ H a = some (exo a C none)) ∨ ∃ dx, H a = some (exo a C (some dx)) ∧ H dx = some (exd dx fs) ∧ H0 dx = none ∧ dx ≠ a
/-- the frame has the fields' values -/
inductive FV (m : Str → Option Value) : List (Str × Str) → List V → Prop
  | nil : FV m [] []
  | cons {f p : Str} {u : Value} {y : V} {l : List (Str × Str)} {ys : List V} (e : m p = some u) (r : RelV y u) (h : FV m l ys) : FV m ((f, p) :: l) (y :: ys)
def accF : List (Str × Str) → List V → List (Str × V) → List (Str × V)
  | (f, _) :: l, y :: ys, acc => accF l ys ((f, y) :: acc)
  | _, _, acc => acc
/-- the names of such an __init__ -/
structure XiN (params : Arguments) (scope : Scope) (l : List (Str × Str)) : Prop where
  kind : scope.kind = .function
  co : scope.isCoroutine = false
  gen : scope.isGenerator = false
  cell : ∀ y ∈ scope.names, y.2 ≠ .cell
  sup : scope.names.lookup ("super" : Str) = some .globalImplicit
  cls : scope.names.lookup ("__class__" : Str) = some .free
  slf : scope.names.lookup ("self" : Str) = some .local
  par : ∀ p ∈ l, scope.names.lookup p.2 = some .local ∧ (p.2 == ("__debug__" : Str)) = false
  hd : ∃ ar, (params.posonlyargs ++ params.args).head? = some ar ∧ ar.arg = "self"
section
variable {X : Cx} {pins : List (Addr × Obj)} {σ : L2.St} {H : Hp} {s : Shared} {A : Around} {E : Value → Shared → Prop}
/-- super().__init__(..) called -/
theorem sup_call {a C u : Addr} {us : List Value} {Q : Value → Shared → Prop} (T : OexC X.K C) (I : Inv X pins σ H s) (e : H a = some (exo a C none)) (hu : s.heap.get? u = some (kxs_mw "ValueError.__init__" a)) (hl : us.length ≤ sizeLine) (h : ∀ s', Inv X pins σ H s' → Q .none s') :
    wpAny (model X.prog X.w) A (call (.ref u) us) Q E s := by
  obtain ⟨nm, q, N, bs, bm, sn, sub, ab, col, dd, k0, k1, k2, k3, k5, hC, hbm⟩ := T.cls
  obtain ⟨t1, ho⟩ := exo_at I.hok e
  have hC' := I.kIn _ _ hC
  obtain ⟨hp, g, d, t, os⟩ := s
  refine wpAny_call (codeAny_of_tree ?_)
  show wpAny _ A.in1 (callAny (.ref u) ⟨us, []⟩) _ _ _
  simp only [callAny]
  refine wpAny_bind (wpAny_load hu ?_)
  simp only [kxs_mw, show (Value.type "method-wrapper" == Value.type "method" || Value.type "method-wrapper" == Value.type "builtin_function_or_method" || Value.type "method-wrapper" == Value.type "method-wrapper") = true by decide, if_true]
  refine KFB.if_so (by decide) ?_
  refine wpAny_bind (check_bound_init PySem.F.excBase_ValueError.toExcCallFacts hC' ho rfl ?_)
  refine wpAny_bind (wpAny_pure (wpAny_pure ?_))
  refine ⟨plainId_quiet PySem.F.excBase_ValueError.init.plain _, codeAny_builtin PySem.F.excBase_ValueError.initEntry ?_⟩
  refine exc_init_tree (cls := .ref C) (t0 := t1) (dv := none) (c2 := .none) (c3 := .none) (b4 := .bool false) ho hl fun h' k hx _ => ?_
  have J := I.write (t' := t) (x := a) (e := a) (o := exo a C none) (by rw [e]; exact True.intro) (.inl rfl) k ⟨_, hx⟩ (exo_ok hx)
  have eu : upd H a (exo a C none) = H := by
    funext b
    by_cases hb : b = a
    · rw [hb, upd_same, e]
    · rw [upd_ne hb]
  rw [eu] at J
  exact h _ J
theorem exd_tbl {e : Addr} {fs : List (Str × V)} {ps : Array Value} : exd e fs ≠ .tbl ps := fun z => by
  have z' : HO.ext _ = HO.tbl ps := z
  cases z'
/-- the fields are stored -/
theorem fld_run {c : Code} {env : Env} {a C L : Addr} {m : Str → Option Value} {H0 : Hp} {body : List Stmt} {l : List (Str × Str)} (hb : FldB body l) (T : OexC X.K C) (hL : H0 L = some (locO L m)) (hel : env.locals = L) (hk : env.scope.kind = .function) (hself : env.kindOf "self" = some .local) (hms : m "self" = some (.ref a))
    (hp : ∀ p ∈ l, env.kindOf p.2 = some .local ∧ (p.2 == ("__debug__" : Str)) = false) (hno : ∀ p ∈ l, findIn X.K (.ref C) p.1 = some none) :
    ∀ {s : Shared} {H : Hp} {fs : List (Str × V)} {ys : List V} {Q : Flow → Shared → Prop}, Inv X pins σ H s → XS H0 H a C fs → FV m l ys → fs.length + l.length ≤ 900 → (∀ s' H', Inv X pins σ H' s' → XS H0 H' a C (accF l ys fs) → Q .next s') →
      PySem.wpAt (model X.prog X.w) A c (execs body env) Q E s := by
  induction hb with
  | nil =>
    intro s H fs ys Q I x v hl h
    cases v
    exact PySem.wpAt_of_wpAny (wpAny_execs_nil (h s H I x))
  | @cons q1 q2 q3 q4 f p r l hs hr ih =>
    intro s H fs ys Q I x v hl h
    cases v with
    | @cons _ _ u y _ ys e rv v =>
      have hn := locO_at I.hok (x.sup L _ hL)
      have hpp := hp _ List.mem_cons_self
      have hnn := hno _ List.mem_cons_self
      refine ks_wpAt_execs_cons (ks_wpAt_Assign_Attr (PySem.wpAt_of_wpAny ?_) (hs env))
      refine wpAny_Name (wpAny_loadName_local hk hpp.1 (by rw [hel]; exact hn) e ?_) hpp.2
      refine wpAny_Name (wpAny_loadName_local hk hself (by rw [hel]; exact hn) hms ?_) (by decide)
      have next : ∀ s' H', Inv X pins σ H' s' → XS H0 H' a C ((f, y) :: fs) → PySem.wpAt (model X.prog X.w) A c (execs r env) Q E s' := fun s' H' I' x' =>
        ih (fun p hp' => hp p (List.mem_cons_of_mem _ hp')) (fun p hp' => hno p (List.mem_cons_of_mem _ hp')) I' x' v (by simp only [List.length_cons] at hl ⊢; omega) h
      rcases x.at_ with ⟨rfl, ea⟩ | ⟨dx, ea, ed, nd, ne⟩
      · refine ost_new T I ea hnn rv fun dx s' hd hne I' => next s' _ I' ⟨fun b o q => ?_, x.na, fun b ps q => ?_, .inr ⟨dx, upd_same, ?_, ?_, hne⟩⟩
        · rw [upd_ne (fun z => by rw [z, x.na] at q; cases q), upd_ne (fun z => by have := x.sup b o q; rw [z, hd] at this; cases this)]
          exact x.sup b o q
        · by_cases h1 : b = a
          · rw [h1, upd_same]; exact fun z => exo_tbl (Option.some.inj z)
          · rw [upd_ne h1]
            by_cases h2 : b = dx
            · rw [h2, upd_same]; exact fun z => exd_tbl (Option.some.inj z)
            · rw [upd_ne h2]; exact x.nt b ps q
        · rw [upd_ne hne, upd_same]
        · cases q : H0 dx with
          | none => rfl
          | some o => have := x.sup dx o q; rw [hd] at this; cases this
      · refine ost_old T I ea ed (by simp only [List.length_cons] at hl; omega) hnn rv fun s' I' => next s' _ I' ⟨fun b o q => ?_, x.na, fun b ps q => ?_, .inr ⟨dx, ?_, upd_same, nd, ne⟩⟩
        · rw [upd_ne (fun z => by rw [z, nd] at q; cases q)]
          exact x.sup b o q
        · by_cases h2 : b = dx
          · rw [h2, upd_same]; exact fun z => exd_tbl (Option.some.inj z)
          · rw [upd_ne h2]; exact x.nt b ps q
        · rw [upd_ne (Ne.symm ne)]; exact ea
/-- the __init__ runs -/
theorem xinit_run {a C f : Addr} {qual : Str} {params : Arguments} {body : List Stmt} {scope : Scope} {l : List (Str × Str)} {fd : FuncData} {args : Args} {binds : List (Str × Value)} {ys : List V} {R : Result → Shared → Prop}
    (D : XiD X.K X.mg X.prog C f qual params body scope) (N : XiN params scope l) (hB : InitB body l) (hno : ∀ p ∈ l, findIn X.K (.ref C) p.1 = some none) (hl : l.length ≤ 800) (hroom : A.depth < recursionLimit) (I : Inv X pins σ H s) (ea : H a = some (exo a C none))
    (hfd : ∃ o, X.K.lookup f = some o ∧ o.data = .func fd) (hbind : BindsTo s fd args binds) (hbl : ∀ y ∈ binds, scope.names.lookup y.1 = some .local) (hms : binds.reverse.lookup ("self" : Str) = some (.ref a)) (hv : FV (fun y => binds.reverse.lookup y) l ys)
    (h : ∀ s' H', Inv X pins σ H' s' → (∀ b o, H b = some o → b ≠ a → H' b = some o) → (∀ b ps, H b = none → H' b ≠ some (.tbl ps)) → ((accF l ys [] = [] ∧ H' a = some (exo a C none)) ∨ ∃ dx, H' a = some (exo a C (some dx)) ∧ H' dx = some (exd dx (accF l ys [])) ∧ H dx = none ∧ dx ≠ a) → R (.ok (.ret .none)) s') :
    codeAny (model X.prog X.w) A (.call (.ref f) args) R s := by
  obtain ⟨oc, od, osl, dV, kV, doc, pm, ct, an, cda, cc, hdV, lk, hcd, ⟨ccl, cdd, vs, ccs, file, tf, lc, hvs, hfile⟩, cl, cld, csl, lcc⟩ := D.fn
  obtain ⟨nm, q, Nn, bs, bm, sn, sub, ab, col, dd, k0, k1, k2, k3, k5, hC, hbm⟩ := D.o.cls
  obtain ⟨o, lo, hod⟩ := hfd
  rw [lk] at lo
  cases lo
  cases hod
  obtain ⟨ar, har, hars⟩ := N.hd
  have KX := I.kIn
  refine ks_codeAny_call_defAt hroom (KX _ _ lk) rfl I.nolimit (codeRec_of KX hcd) rfl hbind N.cell hbl (fun h₀ hns hk => ?_) N.co N.gen N.kind
  -- the frame is tracked
  have hsz : s.heap.objs.size ≤ s.heap.objs.size := Nat.le_refl _
  have I1 : Inv X pins σ (upd H s.heap.objs.size (locO s.heap.objs.size fun y => binds.reverse.lookup y)) { s with heap := h₀, toks := s.toks + binds.length } := I.laid (t' := s.toks + binds.length) hk hsz (locO_ok hns)
  have hLn : H s.heap.objs.size = none := I.hok.fresh hsz
  have hLa : s.heap.objs.size ≠ a := fun z => by rw [z, ea] at hLn; cases hLn
  generalize hH1 : upd H s.heap.objs.size (locO s.heap.objs.size fun y => binds.reverse.lookup y) = H1 at I1
  have e1 : H1 a = some (exo a C none) := by rw [← hH1, upd_ne (Ne.symm hLa)]; exact ea
  have eL : H1 s.heap.objs.size = some (locO s.heap.objs.size fun y => binds.reverse.lookup y) := by rw [← hH1, upd_same]
  have keep1 : ∀ b o, H b = some o → H1 b = some o := fun b o q => by rw [← hH1, upd_ne (ne_of_none q hLn)]; exact q
  generalize hL : s.heap.objs.size = L at *
  cases hB with
  | @mk pl p0 p1 p2 p3 p4 p5 msg j r _ he hs hF =>
    have hI : interactive (callEnv (ksFn "__init__" qual params (.Expr (.Call (.Attribute (.Call (.Name "super" p0) [] [] p1) "__init__" p2) [.Constant (.str msg) j p3] [] p4) p5 :: r) scope dV kV doc pm an (.ref cda) ct cc) L f) = false := by
      show (scope.kind == .module && _) = false
      rw [N.kind]; rfl
    obtain ⟨mb, hb, hbb⟩ := I1.mod.blt
    obtain ⟨oC, hC1, hC2⟩ : ∃ oC, h₀.get? C = some oC ∧ ∃ cd, oC.data = .cls cd := ⟨_, I1.kIn _ _ hC, _, rfl⟩
    obtain ⟨cdC, hC2⟩ := hC2
    obtain ⟨t1, hx⟩ := exo_at I1.hok e1
    refine ks_wpAt_execs_cons (ks_wpAt_Expr_any (ks_wpAt_MethodCall (pl := pl _) (ks_wpAt_super_base (f := f) (cc := cda) (ar := ar) (file := file) (tf := tf) (vs := vs) N.sup N.cls (by decide) rfl (I1.kIn _ _ lk) rfl har rfl (I1.kIn _ _ lc) rfl hvs hfile D.top ?_) (he _)) (hi := hI) (hs := hs _))
    refine ks_loadName_global N.kind N.sup (loadGlobal_builtin (I1.mod.glob.keeps I1.bk) D.gs (hb.keeps I1.bk) ((hbb _ (by decide +kernel)).trans PyProof.Rows.Boot.«super») ⟨rfl, ?_⟩)
    refine wpAny_loadName_free N.kind N.cls rfl ⟨_, I1.kIn _ _ lcc, rfl⟩ ?_
    rw [hars]
    refine wpAny_loadName_local N.kind N.slf hns hms ?_
    refine ks_wpAny_isType_cls hC1 hC2 ⟨rfl, ?_⟩
    refine ks_wpAny_call_super hC1 hC2 hx rfl (fun c e => by cases e) (looks_mroIn I1.kIn D.mC) (fun h2 e2 k2 => ?_)
    have I2 : Inv X pins σ H1 { s with heap := h2, toks := s.toks + binds.length } := I1.kept (h' := h2) (t' := s.toks + binds.length) k2
    have hcl : ∃ cd, clsIn X.K C = some cd := ⟨_, by unfold clsIn; rw [hC]⟩
    obtain ⟨cd, hcl⟩ := hcl
    have hsu := D.su
    unfold ks_superIn at hsu
    rw [hcl] at hsu
    have hI2 : Looks (model X.prog X.w) h2 (isInstance (.ref a) (.type "ValueError")) true := Looks.andThen (fun A Q E s k q => wpAny_typeOf_ref (k _ _ (k2 _ _ hx)) (by exact q)) (looks_subIn I2.kIn D.sv)
    refine kxs_getMethod kxs_ValueError e2 (looks_opaque I2.kIn D.op) (l₀ := cd.mro) ?_ rfl I2.kIn hsu hI2 ?_ (by decide) ?_
    · exact fun A Q E s k q => wpAny_bind ((looks_clsIn I2.kIn hcl) A _ E s k (wpAny_pure q))
    · intro z
      rw [← z] at hC
      have := I2.kIn _ _ hC
      rw [k2 _ _ hx] at this
      cases this
    have I3 : Inv X pins σ H1 { s with heap := h2.push (kxs_mw "ValueError.__init__" a), toks := s.toks + binds.length + 1 } := I2.kept (h' := h2.push (kxs_mw "ValueError.__init__" a)) (t' := s.toks + binds.length + 1) fun b o e => Heap.get?_push_of_some _ e
    have hu : (h2.push (kxs_mw "ValueError.__init__" a)).get? h2.objs.size = some (kxs_mw "ValueError.__init__" a) := Heap.get?_push_size _ rfl
    refine kxs_callWith (i := "ValueError.__init__") (x := a) rfl ?_
    refine evalArgs_plain (spliced_cons ?_)
    refine wpAny_Constant_str (pos := p3) (k := j) (spliced_nil ⟨hu, ?_⟩)
    refine sup_call D.o (I3.tok _) e1 hu (show 1 ≤ sizeLine from by rw [sizeLine_eq]; decide) fun s4 I4 => ?_
    have hx4 : XS (del H1 a) H1 a C [] := ⟨fun b o q => by
      by_cases hb : b = a
      · rw [hb, del_same] at q; cases q
      · rw [del_ne hb] at q; exact q, del_same, fun b ps q z => (by
      by_cases hb : b = a
      · rw [hb, e1] at z; exact exo_tbl (Option.some.inj z)
      · rw [del_ne hb, z] at q; cases q), .inl ⟨rfl, e1⟩⟩
    refine fld_run (env := callEnv (ksFn "__init__" qual params (.Expr (.Call (.Attribute (.Call (.Name "super" p0) [] [] p1) "__init__" p2) [.Constant (.str msg) j p3] [] p4) p5 :: r) scope dV kV doc pm an (.ref cda) ct cc) L f) hF D.o (L := L) (m := fun y => binds.reverse.lookup y) (H0 := del H1 a) (by rw [del_ne hLa]; exact eL) rfl N.kind N.slf hms N.par hno I4 hx4 hv (by simp; omega) fun s' H' I' x' => ?_
    refine h s' H' I' (fun b o q hb => x'.sup b o (by rw [del_ne hb]; exact keep1 b o q)) (fun b ps q z => ?_) ?_
    · by_cases hb : b = L
      · have := x'.sup L _ (by rw [del_ne hLa]; exact eL)
        rw [hb, this] at z
        exact nomatch (show HO.ext _ = HO.tbl ps from Option.some.inj z)
      · refine x'.nt b ps ?_ z
        by_cases hb2 : b = a
        · rw [hb2, del_same]
        · rw [del_ne hb2, ← hH1, upd_ne hb]; exact q
    rcases x'.at_ with ⟨q1, q2⟩ | ⟨dx, q1, q2, q3, q4⟩
    · exact .inl ⟨q1, q2⟩
    · refine .inr ⟨dx, q1, q2, ?_, q4⟩
      rw [del_ne q4] at q3
      cases q : H dx with
      | none => rfl
      | some o => rw [keep1 dx o q] at q3; cases q3
end
end DL
set_option maxHeartbeats 4000000
namespace DL
open PySem PySem.Spec PyProof.Rows L2 PySem.W PySem.Calls PySem.HandSPX
section
variable {M : Model} {A : Around} {E : Value → Shared → Prop} {h : Heap} {g : Array GenState} {d : Drawn} {t : Nat} {os : OsState}
variable {nm q : Str} {C N : Addr} {bs bm bmB : List Value} {hdct : Bool} {sn : List Str} {sub : List Value} {ab : Bool} {col : Option Bool} {dd : Option Addr} {k0 k1 k2 k3 k5 : Option Value} {B newId initId : String} {kw : List (Str × Value)}
theorem chk_new (F : ExcBaseFacts B newId initId bmB) (hT : ∀ X : String, bm.contains (.type X) = bmB.contains (.type X)) {rest : List Value} {Q : Unit → Shared → Prop}
    (hC : h.get? C = some (excClassObj nm q C N bs bm hdct sn sub ab col dd k0 k1 k2 k3 k5 newId)) (hq : Q () ⟨h, g, d, t, os⟩) : wpAny M A (checkBuiltinCall newId ⟨.ref C :: rest, kw⟩) Q E ⟨h, g, d, t, os⟩ := by
  have c1 : (Value.ref C :: bm).contains (.type B) = true := by
    rw [List.contains_cons, hT]
    rw [F.hasB, Bool.or_true]
  have c2 := F.noStar
  simp only [checkBuiltinCall]
  simp only [F.newKind, F.newSplit]
  simp only [F.newRow]
  repeat (first
    | refine wpAny_loadPart_at hC ?_
    | (refine wpAny_isSubtype_exc hC ?_
       rw [c1])
    | refine wpAny_staticBase_exc hC ?_
    | refine wpAny_madeBy_exc hC ?_
    | simp only [bne_self_eq_false]
    | simp only [Bool.false_eq_true, if_false]
    | wp_step)
  exact hq
end
section
variable {prog : Program} {w : World} {A : Around} {E : Value → Shared → Prop} {R : Result → Shared → Prop} {h : Heap} {g : Array GenState} {d : Drawn} {t : Nat} {os : OsState}
variable {nm q : Str} {C N : Addr} {bs bm bmB : List Value} {hdct : Bool} {sn : List Str} {sub : List Value} {ab : Bool} {col : Option Bool} {dd : Option Addr} {k0 k1 k2 k3 k5 : Option Value} {B newId initId : String} {kw : List (Str × Value)}
theorem new_kw (F : ExcBaseFacts B newId initId bmB) (hT : ∀ X : String, bm.contains (.type X) = bmB.contains (.type X)) {rest : List Value}
    (hC : h.get? C = some (excClassObj nm q C N bs bm hdct sn sub ab col dd k0 k1 k2 k3 k5 newId))
    (hq : R (.ok (.ret (.ref (h.objs.size + 1)))) ⟨(h.push (W.kdv_tup rest)).push (excO C h.objs.size), g, d, t, os⟩) (hz : rest.length ≤ sizeLine) :
    codeAny (model prog w) A (.builtin newId ⟨.ref C :: rest, kw⟩) R ⟨h, g, d, t, os⟩ := by
  have c0 := F.ends
  have c1 : (Value.ref C :: bm).contains (.type B) = true := by
    rw [List.contains_cons, hT]
    rw [F.hasB, Bool.or_true]
  have c2 : (Value.ref C :: bm).contains (.type "AttributeError") = false := by
    rw [List.contains_cons, hT]
    rw [F.noAttr]; rfl
  have c3 : (Value.ref C :: bm).contains (.type "NameError") = false := by
    rw [List.contains_cons, hT]
    rw [F.noName]; rfl
  refine codeAny_builtinAt F.entry ?_
  unfold Builtin.«BaseException.__new__»
  refine PyProof.Rows.wpAt_bind ?_
  show PyProof.Rows.wpAt _ _ _ (stack >>= _) _ _ _
  refine PyProof.Rows.wpAt_bind (PyProof.Rows.wpAt_stack fun p below => PyProof.Rows.wpAt_of_any ?_)
  wp_walk
  refine PyProof.Rows.wpAt_of_any ?_
  rw [F.owner]
  repeat (first
    | with_reducible refine wpAny_madeHere_exc F.canon hC ?_
    | with_reducible refine wpAny_loadPart_at hC ?_
    | (with_reducible refine wpAny_isSubtype_exc hC ?_
       first
       | rw [c1]
       | rw [c2]
       | rw [c3])
    | wp_step)
  show R _ _
  rw [Heap.size_push]
  exact hq
theorem tcall_kw (F : ExcBaseFacts B newId initId bmB) (hT : ∀ X : String, bm.contains (.type X) = bmB.contains (.type X)) {rest : List Value} {fI : Addr} {Q : Fin → Shared → Prop}
    (hC : h.get? C = some (excClassObj nm q C N bs bm hdct sn sub ab col dd k0 k1 k2 k3 k5 newId))
    (hi : W.Looks (model prog w) h (typeLookup (.ref C) "__init__") (some (.ref fI))) (hb : ∀ self, W.Looks (model prog w) h (bindSpecial (.ref fI) self) (.ref fI, [self])) (hz : rest.length ≤ sizeLine)
    (hq : codeAny (model prog w) A (.call (.ref fI) ⟨.ref (h.objs.size + 1) :: rest, kw⟩)
      (fun r s' => match r with | .ok (.ret v) => v = .none ∧ Q (.done (.ret (.ref (h.objs.size + 1)))) s' | .ok _ => False | .error e => E e s')
      ⟨(h.push (W.kdv_tup rest)).push (excO C h.objs.size), g, d, t, os⟩) :
    wpAny (model prog w) A (Builtin.«type.__call__» ⟨.ref C :: rest, kw⟩) Q E ⟨h, g, d, t, os⟩ := by
  repeat (first
    | with_reducible refine wpAny_loadPart_at hC ?_
    | with_reducible refine wpAny_madeBy_exc hC ?_
    | wp_step)
  refine codeAny_call_builtin_code (Code.quiet_builtin _ F.quiet) (chk_new F hT hC ?_)
  refine new_kw F hT hC ?_ hz
  show wpAny _ _ _ _ _ _
  have kk : ∀ b o, h.get? b = some o → ((h.push (W.kdv_tup rest)).push (excO C h.objs.size)).get? b = some o := fun b o e => by
    exact Heap.get?_push_of_some _ (Heap.get?_push_of_some _ e)
  have hC1 := kk _ _ hC
  have hg1 : ((h.push (W.kdv_tup rest)).push (excO C h.objs.size)).get? (h.objs.size + 1) = some (excO C h.objs.size) := by
    heap_get
  have c1 : (Value.ref C :: bm).contains (.ref C) = true := by simp
  have i1 := hi.keeps kk
  have b1 := (hb (.ref (h.objs.size + 1))).keeps kk
  unfold isInstance
  repeat (first
    | with_reducible refine wpAny_loadPart_at hg1 ?_
    | (with_reducible refine wpAny_isSubtype_exc hC1 ?_
       rw [c1])
    | wp_step)
  show wpAny _ _ (typeLookup (.ref C) _) _ _ _
  refine i1.at ?_
  refine wpAny_holding (wpAny_bind (b1.at ?_))
  refine wpAny_bind (wpAny_call (codeAny_mono hq fun r s' z => ?_))
  rcases r with e | fl
  · exact z
  cases fl with
  | ret v =>
    obtain ⟨rfl, z⟩ := z
    first
      | exact wpAny_pure (wpAny_pure z)
      | (wp_walk
         exact z)
  | next => exact z.elim
  | brk => exact z.elim
  | cont => exact z.elim
theorem call_kw (F : ExcBaseFacts B newId initId bmB) (hT : ∀ X : String, bm.contains (.type X) = bmB.contains (.type X)) {rest : List Value} {fI : Addr}
    (hC : h.get? C = some (excClassObj nm q C N bs bm hdct sn sub ab col dd k0 k1 k2 k3 k5 newId))
    (hi : W.Looks (model prog w) h (typeLookup (.ref C) "__init__") (some (.ref fI))) (hb : ∀ self, W.Looks (model prog w) h (bindSpecial (.ref fI) self) (.ref fI, [self])) (hz : rest.length ≤ sizeLine)
    (hq : codeAny (model prog w) (A.under (.builtin "type.__call__" ⟨.ref C :: rest, kw⟩)) (.call (.ref fI) ⟨.ref (h.objs.size + 1) :: rest, kw⟩) (W.InitBack (h.objs.size + 1) R)
      ⟨(h.push (W.kdv_tup rest)).push (excO C h.objs.size), g, d, t, os⟩) :
    codeAny (model prog w) A (.call (.ref C) ⟨rest, kw⟩) R ⟨h, g, d, t, os⟩ := by
  have f1 := tc_lookup
  have f2 := tc_bind (.ref C)
  have hTy : (⟨h, g, d, t, os⟩ : Shared).TypeIs (.ref C) "type" := ⟨_, hC, rfl⟩
  have chk : ∀ {M : Model} {A : Around} {E : Value → Shared → Prop} {Q : Unit → Shared → Prop}, Q () ⟨h, g, d, t, os⟩ → wpAny M A (checkBuiltinCall "type.__call__" ⟨.ref C :: rest, kw⟩) Q E ⟨h, g, d, t, os⟩ := fun {M A E Q} hq => by
    have f3 := tc_sub
    simp only [checkBuiltinCall]
    simp only [tc_kind, tc_split]
    repeat (any_goals (first
      | assumption
      | with_reducible refine wpAny_loadPart_at hC ?_
      | with_reducible refine wpAny_onRaise ?_
      | with_reducible refine wpAny_map ?_
      | wp_step))
  refine codeAny_of_tree ?_
  show wpAny _ _ (callAny (.ref C) _) _ _ _
  repeat (any_goals (first
    | assumption
    | with_reducible refine wpAny_loadPart_at hC ?_
    | wp_step))
  refine ⟨rfl, ?_⟩
  refine codeAny_call_builtin_at (Code.quiet_builtin _ (by decide +kernel)) entry_typeCall (chk (tcall_kw F hT hC hi hb hz ?_))
  refine codeAny_mono hq fun r s' z => ?_
  rcases r with e | fl
  · exact z
  cases fl <;> exact z
end
end DL
set_option maxHeartbeats 4000000
namespace DL
open PySem PySem.Spec PyProof.Rows L2 PySem.W PySem.Calls
/-! ### C(..), an exception of the program -/
theorem lookup_nodup {β : Type} {k : Str} {v : β} : ∀ {xs : List (Str × β)}, (xs.map (·.1)).Nodup → (k, v) ∈ xs → xs.lookup k = some v
  | (a, b) :: xs, hn, hm => by
    simp only [List.map_cons, List.nodup_cons] at hn
    rcases List.mem_cons.mp hm with e | h
    · cases e
      simp [List.lookup]
    · have : (k == a) = false := by
        rw [beq_eq_false_iff_ne]
        intro z
        subst z
        exact hn.1 (List.mem_map.mpr ⟨(k, v), h, rfl⟩)
      simp only [List.lookup, this]
      exact lookup_nodup hn.2 h
theorem lookup_rev {β : Type} {k : Str} {v : β} {xs : List (Str × β)} (hn : (xs.map (·.1)).Nodup) (hm : (k, v) ∈ xs) : xs.reverse.lookup k = some v :=
  lookup_nodup (by rw [List.map_reverse]; exact (List.pairwise_reverse.mpr (hn.imp fun h => Ne.symm h))) (List.mem_reverse.mpr hm)
theorem fv_of {m : Str → Option Value} : ∀ {ps : List Str} {us : List Value} {ys : List V}, Vals ys us → ps.length = us.length → (∀ p u, (p, u) ∈ ps.zip us → m p = some u) → FV m (ps.map fun p => (p, p)) ys
  | [], [], _, .nil, _, _ => .nil
  | p :: ps, u :: us, _, .cons r t, hl, h => .cons (h p u List.mem_cons_self) r (fv_of t (by simpa using hl) fun p u hp => h p u (List.mem_cons_of_mem _ hp))
/-- a made exception -/
structure XMade (s_0 : Heap) (H H' : Hp) (a C : Addr) (fs : List (Str × V)) : Prop where
  na : H a = none
  n0 : s_0.get? a = none
  nt : ∀ b ps, H b = none → H' b ≠ some (.tbl ps)
  sup : ∀ b o, H b = some o → H' b = some o
  at_ : (fs = [] ∧ H' a = some (exo a C none)) ∨ ∃ dx, H' a = some (exo a C (some dx)) ∧ H' dx = some (exd dx fs) ∧ H dx = none ∧ dx ≠ a
section
variable {X : Cx} {pins : List (Addr × Obj)} {σ : L2.St} {H : Hp} {s : Shared}
theorem xmake {C f : Addr} {qual : Str} {params : Arguments} {body : List Stmt} {scope : Scope} {ps : List Str} {us zs : List Value} {kw : List (Str × Value)} {ys : List V} {Q : Value → Shared → Prop}
    (D : XiD X.K X.mg X.prog C f qual params body scope) (N : XiN params scope (ps.map fun p => (p, p))) (hB : InitB body (ps.map fun p => (p, p))) (hno : ∀ p ∈ ps, findIn X.K (.ref C) p = some none) (hps : (("self" : Str) :: ps).Nodup) (hl : ps.length ≤ 800) (hr : Room 1 X.A) (I : Inv X pins σ H s)
    (hz : us.length ≤ sizeLine) (rz : Vals ys zs) (hlz : ps.length = zs.length)
    (hb : ∀ (a : Addr) (dV kV doc pm cdv ct : Value) (an : Option Addr) (cc : Addr), dV = .none → bindArgs (ksFn "__init__" qual params body scope dV kV doc pm an cdv ct cc) ⟨.ref a :: us, kw⟩ = pure ((("self" : Str) :: ps).zip (.ref a :: zs)))
    (h : ∀ a s' H', Inv X pins σ H' s' → XMade X.s_0.heap H H' a C (accF (ps.map fun p => (p, p)) ys []) → Q (.ref a) s') : wpAny (model X.prog X.w) X.A (call (.ref C) us kw) Q X.xe s := by
  obtain ⟨nm, q, Nn, bs, bm, sn, sub, ab, col, dd, k0, k1, k2, k3, k5, hC, hbm⟩ := D.o.cls
  obtain ⟨oc, od, osl, dV, kV, doc, pm, ct, an, cda, cc, hdV, lk, _⟩ := id D.fn
  obtain ⟨hp, g, dr, tk, os⟩ := s
  have hsz : hp.objs.size ≤ hp.objs.size + 1 := Nat.le_succ _
  have hn : H (hp.objs.size + 1) = none := I.hok.fresh hsz
  have h0 : X.s_0.heap.get? (hp.objs.size + 1) = none := by
    cases e : X.s_0.heap.get? (hp.objs.size + 1) with
    | none => rfl
    | some o =>
      have h1 := Heap.lt_size e
      have h2 : X.s_0.heap.objs.size ≤ hp.objs.size := I.sz
      exact absurd (Nat.lt_of_lt_of_le h1 (Nat.le_trans h2 (Nat.le_succ _))) (Nat.lt_irrefl _)
  have kk : ∀ b o, hp.get? b = some o → ((hp.push (PySem.W.kdv_tup us)).push (PySem.HandSPX.excO C hp.objs.size)).get? b = some o := fun b o e => by
    exact Heap.get?_push_of_some _ (Heap.get?_push_of_some _ e)
  have hget : ((hp.push (PySem.W.kdv_tup us)).push (PySem.HandSPX.excO C hp.objs.size)).get? (hp.objs.size + 1) = some (PySem.HandSPX.excO C hp.objs.size) := by
    heap_get
  have I2 : Inv X pins σ (upd H (hp.objs.size + 1) (exo (hp.objs.size + 1) C none)) ⟨(hp.push (PySem.W.kdv_tup us)).push (PySem.HandSPX.excO C hp.objs.size), g, dr, tk, os⟩ :=
    I.laid (t' := tk) (h' := (hp.push (PySem.W.kdv_tup us)).push (PySem.HandSPX.excO C hp.objs.size)) kk hsz (exo_ok hget)
  have hkeys : (((("self" : Str) :: ps).zip (Value.ref (hp.objs.size + 1) :: zs)).map (·.1)) = ("self" : Str) :: ps := by
    rw [List.map_fst_zip]
    simp [hlz]
  have hmem : ∀ p u, (p, u) ∈ (("self" : Str) :: ps).zip (Value.ref (hp.objs.size + 1) :: zs) → ((("self" : Str) :: ps).zip (Value.ref (hp.objs.size + 1) :: zs)).reverse.lookup p = some u := fun p u hpu => lookup_rev (by rw [hkeys]; exact hps) hpu
  refine wpAny_call (call_kw PySem.F.excBase_ValueError (fun Y => PySem.HandSPX.refsVE_contains Y bm hbm) (I.kIn _ _ hC) (PySem.W.looks_findIn I.kIn D.iC) (fun self => PySem.W.bind_fn I.kIn self D.tI) hz ?_)
  refine xinit_run (H := upd H (hp.objs.size + 1) (exo (hp.objs.size + 1) C none)) (a := hp.objs.size + 1) D N hB (fun p hp' => ?_) (by simpa using hl) (by have := (hr.make C us kw).depth; exact this) I2 upd_same ⟨_, lk, rfl⟩ (.of_eq (hb _ _ _ _ _ _ _ _ _ hdV)) (fun y hy => ?_) (hmem "self" _ List.mem_cons_self) (fv_of rz hlz fun p u hpu => hmem p u (List.mem_cons_of_mem _ hpu)) fun s' H' I' kp nt at_ => ?_
  · obtain ⟨p', hp2, rfl⟩ := List.mem_map.mp hp'
    exact hno p' hp2
  · obtain ⟨n, v⟩ := y
    have hn' := (List.of_mem_zip hy).1
    rcases List.mem_cons.mp hn' with e | e
    · rw [e]; exact N.slf
    · exact (N.par (n, n) (List.mem_map.mpr ⟨n, e, rfl⟩)).1
  · refine ⟨rfl, h _ s' H' I' ⟨hn, h0, fun b ps q => ?_, fun b o e => kp b o ?_ (ne_of_none e hn), ?_⟩⟩
    · by_cases hb : b = hp.objs.size + 1
      · rcases at_ with ⟨_, z⟩ | ⟨_, z, _⟩
        · rw [hb, z]; exact fun y => exo_tbl (Option.some.inj y)
        · rw [hb, z]; exact fun y => exo_tbl (Option.some.inj y)
      · exact nt b ps (by rw [upd_ne hb]; exact q)
    · rw [upd_ne (ne_of_none e hn)]; exact e
    · rcases at_ with z | ⟨dx, z1, z2, z3, z4⟩
      · exact .inl z
      · refine .inr ⟨dx, z1, z2, ?_, z4⟩
        rw [upd_ne z4] at z3
        exact z3
/-- the exception is let go -/
theorem inv_drop {a : Addr} {φ : Heap → Prop} (I : Inv X pins σ H s) (ha : H a = some (.ext φ)) (n0 : X.s_0.heap.get? a = none) :
    ∃ G : Heap, (∀ b o, G.get? b = some o → s.heap.get? b = some o) ∧ G.get? a = none ∧ Inv X pins σ (del H a) { s with heap := G } := by
  obtain ⟨G, g1, g2⟩ := restrict s.heap fun b => decide (b ≠ a)
  have gk : ∀ b o, b ≠ a → s.heap.get? b = some o → G.get? b = some o := fun b o hb e => (g1 b (decide_eq_true hb)).trans e
  have ga : G.get? a = none := g2 a (decide_eq_false fun z => z rfl)
  have gs : ∀ b o, G.get? b = some o → s.heap.get? b = some o := fun b o e => by
    have hb : b ≠ a := fun z => by rw [z, ga] at e; cases e
    rw [← g1 b (decide_eq_true hb)]; exact e
  have s0 : ∀ b o, X.s_0.heap.get? b = some o → b ≠ a := fun b o e z => by rw [z, n0] at e; cases e
  have un_ : ∀ b u, H b = some u → (∀ ψ, u ≠ .ext ψ) → b ≠ a := fun b u e n z => by
    rw [z, ha] at e
    exact n φ (Option.some.inj e).symm
  have nn : ∀ b, H b = none → b ≠ a := fun b e z => by rw [z, ha] at e; cases e
  have cl : ∀ c v, H c = none → s.heap.IsCell c v → G.IsCell c v := fun c v n z => by
    obtain ⟨o, ho, hd⟩ := z
    exact ⟨o, gk c o (nn c n) ho, hd⟩
  refine ⟨G, gs, ga, I.ok, I.os, I.bare, ⟨?_, ?_, ?_, ?_, ?_, ?_, ?_⟩, ?_, ?_, ?_, ?_, ?_, ?_, I.len⟩
  · exact fun b o e n hb hx => gk b o (s0 b o e) (I.base.keep b o e n hb hx)
  · intro b o e n hb hx
    obtain ⟨sl, q⟩ := I.base.slot b o e n hb hx
    exact ⟨sl, gk b _ (s0 b o e) q⟩
  · intro b o e n hx
    rw [del_ne (s0 b o e)]
    exact I.base.free b o e n hx
  · intro b o e hx
    obtain ⟨o', q⟩ := I.base.there b o e hx
    exact ⟨o', gk b o' (s0 b o e) q⟩
  · intro b xs e
    have q := I.base.tups b xs e
    rw [del_ne (un_ b _ q (fun _ z => nomatch z))]; exact q
  · intro b o u e
    have q := I.base.frzs b o u e
    rw [del_ne (un_ b _ q (fun _ z => nomatch z))]; exact q
  · intro b ps e
    obtain ⟨m, q⟩ := I.base.tbls b ps e
    exact ⟨m, by rw [del_ne (un_ b _ q (fun _ z => nomatch z))]; exact q⟩
  · obtain ⟨m, ⟨o, es, ep, ho, r⟩, hl⟩ := I.loc
    refine ⟨m, ⟨o, es, ep, gk _ _ (nn _ I.free) ho, r⟩, fun i x v e1 e2 e3 => ?_⟩
    obtain ⟨u, r', l⟩ := hl i x v e1 e2 e3
    refine ⟨u, r', ?_⟩
    rcases l with l | ⟨k, c, ec, z⟩
    · exact .inl l
    · exact .inr ⟨k, c, ec, cl c _ (I.freeC x c ec) z⟩
  · intro x c e
    obtain ⟨v, z⟩ := I.cell x c e
    exact ⟨v, cl c v (I.freeC x c e) z⟩
  · rw [del_ne (nn _ I.free)]; exact I.free
  · intro x c e
    rw [del_ne (nn _ (I.freeC x c e))]; exact I.freeC x c e
  · intro p hp
    obtain ⟨e, n, r⟩ := I.pin p hp
    exact ⟨gk _ _ (nn _ n) e, by rw [del_ne (nn _ n)]; exact n, r⟩
  · intro b u e
    have hb : b ≠ a := fun z => by rw [z, del_same] at e; cases e
    rw [del_ne hb] at e
    refine (I.hok b u e).stay (fun c v hc q => gk c v ?_ q) (fun c q => ?_) fun c xs q => ?_
    · rcases hc with z | z
      · rw [z]; exact hb
      · exact un_ _ _ z (fun _ y => nomatch y)
    · rw [del_ne (un_ c _ q (fun _ y => nomatch y))]; exact q
    · rw [del_ne (un_ c _ q (fun _ y => nomatch y))]; exact q
/-- a thing told by a predicate is told otherwise -/
theorem inv_retell {a : Addr} {φ : Heap → Prop} {o : HO} (I : Inv X pins σ H s) (ha : H a = some (.ext φ)) (ho : NTbl o) (new : ObjOk X.prog X.w (upd H a o) s.heap a o) : Inv X pins σ (upd H a o) s := by
  have un_ : ∀ b u, H b = some u → (∀ ψ, u ≠ .ext ψ) → b ≠ a := fun b u e n z => by
    rw [z, ha] at e
    exact n φ (Option.some.inj e).symm
  have nn : ∀ b, H b = none → b ≠ a := fun b e z => by rw [z, ha] at e; cases e
  have J := I.un (H' := upd H a o) (h' := s.heap) (t' := s.toks) ⟨fun b u e _ _ _ => e, fun b u e _ _ _ => ⟨u.slots, e⟩, fun b u e n _ => by rw [upd_ne (nn b n)]; exact n, fun b u e _ => ⟨u, e⟩, fun b xs q => by rw [upd_ne (un_ b _ q (fun _ z => nomatch z))]; exact q,
    fun b u v q => by rw [upd_ne (un_ b _ q (fun _ z => nomatch z))]; exact q, fun b ps q => ⟨#[], by rw [upd_ne (un_ b _ q (fun _ z => nomatch z)), q]; simp⟩⟩ fun b u e => by
      by_cases hb : b = a
      · subst hb
        rw [upd_same] at e
        cases e
        exact new
      · rw [upd_ne hb] at e
        exact (I.hok b u e).stay (fun c v _ q => q) (fun c q => by rw [upd_ne (un_ c _ q (fun _ y => nomatch y))]; exact q) fun c xs q => by rw [upd_ne (un_ c _ q (fun _ y => nomatch y))]; exact q
  exact J
end
end DL
set_option maxHeartbeats 4000000
namespace DL
open PySem PySem.Spec PyProof.Rows L2

/-! ### growing -/
section
variable {K : PySem.W.Frag} {mg : Str → Option Value} {N : En} {ι ι' : List Addr} {M M' : MS} {S S' : AP} {H H' : Hp} {own own' : OwnM} {σ σ' : L2.St} {ρ ρ' : DS}
theorem Ok.sup (k : Ok K mg N ι M S H own) (sup : ∀ b o, H b = some o → H' b = some o) (nt : ∀ b ps, H b = none → H' b ≠ some (.tbl ps)) : Ok K mg N ι M S H' own ∧ ExtE S ι H own S ι H' own := by
  have x : Ext S ι H S ι H' := ⟨fun _ h => h, fun _ _ h => h, fun a o _ h => sup a o h⟩
  have eq_ : ∀ a, H a ≠ none → H' a = H a := fun a h => by
    cases e : H a with
    | none => exact absurd e h
    | some o => exact sup a o e
  refine ⟨⟨k.len, k.pre, k.fresh, fun j a m h1 h2 => (k.objs j a m h1 h2).ext x (eq_ a (k.iout a (List.mem_of_getElem? h1)).2), k.nd, fun a ha => ⟨(k.iout a ha).1, by rw [eq_ a (k.iout a ha).2]; exact (k.iout a ha).2⟩, fun i a e => ?_, k.oinj, k.ofin, k.sub, k.new, fun a o h1 h2 h3 => sup _ _ (k.keep a o h1 h2 h3), fun a h => by rw [eq_ a (k.trk a h)]; exact k.trk a h, fun a h => ?_, ⟨k.tb.tabs.ext sup, fun a ps e => ?_⟩⟩, x, fun i a e => ⟨eq_ a (k.ohn e), .inl e⟩⟩
  · have q := k.oout i a e
    exact ⟨q.1, by rw [eq_ a (k.ohn e)]; exact q.2.1, q.2.2⟩
  · obtain ⟨o, h1, h2⟩ := k.sat a h
    exact ⟨o, sup _ _ h1, h2⟩
  · cases q : H a with
    | none => exact absurd e (nt a ps q)
    | some o =>
      rw [sup a o q] at e
      cases e
      exact k.tb.all a ps q
theorem Ok.addNew (k : Ok K mg N ι M S H own) {p : Addr} {o : HO} (hp : H p = some o) (ho : NTbl o) (hN : N.H p = none) (hι : p ∉ ι) (hw : ∀ i, own i ≠ some p) : Ok K mg N ι M (addS S p) H own where
  len := k.len
  pre := k.pre
  fresh := k.fresh
  objs := fun j b m h1 h2 => (k.objs j b m h1 h2).ext addS_ext rfl
  nd := k.nd
  iout := fun b hb => ⟨fun s => by
    rcases s with s | s
    · exact (k.iout b hb).1 s
    · exact hι (s ▸ hb), (k.iout b hb).2⟩
  oout := fun j b q => ⟨fun s => by
    rcases s with s | s
    · exact (k.oout j b q).1 s
    · exact hw j (s ▸ q), (k.oout j b q).2⟩
  oinj := k.oinj
  ofin := k.ofin
  sub := fun b h => .inl (k.sub b h)
  new := fun b h => by
    rcases h with h | h
    · exact k.new b h
    · rw [h]; exact .inr hN
  keep := k.keep
  trk := k.trk
  sat := fun b h => by
    rcases h with h | h
    · exact k.sat b h
    · rw [h]; exact ⟨o, hp, ho⟩
  tb := k.tb
theorem Cur.grow2 (c : Cur K mg N ι S H own σ ρ M) (k : Ok K mg N ι M S' H' own) (e : ExtE S ι H own S' ι H' own) : Cur K mg N ι S' H' own σ ρ M := c.grow k e
end

/-! ### exceptions of the program -/
theorem accF_eq : ∀ (ps : List Str) (ys : List V) (acc : List (Str × V)), ps.length = ys.length → accF (ps.map fun p => (p, p)) ys acc = (ps.zip ys).reverse ++ acc
  | [], [], acc, _ => rfl
  | p :: ps, y :: ys, acc, h => by
    show accF (ps.map fun p => (p, p)) ys ((p, y) :: acc) = _
    rw [accF_eq ps ys _ (by simpa using h)]
    simp
  | [], _ :: _, _, h => nomatch h
  | _ :: _, [], _, h => nomatch h
theorem zip_rev {α β : Type} : ∀ (l : List α) (r : List β), l.length = r.length → (l.zip r).reverse = l.reverse.zip r.reverse
  | [], [], _ => rfl
  | a :: l, b :: r, h => by
    have h' : l.length = r.length := by simpa using h
    rw [List.zip_cons_cons, List.reverse_cons, List.reverse_cons, List.reverse_cons, zip_rev l r h', List.zip_append (by simp [h'])]
    rfl
  | [], _ :: _, h => nomatch h
  | _ :: _, [], h => nomatch h
/-- what the head tells of an exception class -/
structure Xk (P : Program) (K : PySem.W.Frag) (mg : Str → Option Value) (cn qual : Str) (st : Stmt) (ps : List Str) : Prop where
  ex : ∃ C f, mg cn = some (.ref C) ∧ XiD K mg P C f qual (defArgs st) (defBody st) (defScope st) ∧ ∀ p ∈ ps, PySem.W.findIn K (.ref C) p = some none
/-- what is written of it -/
structure XkS (st : Stmt) (ps : List Str) : Prop where
  N : XiN (defArgs st) (defScope st) (ps.map fun p => (p, p))
  B : InitB (defBody st) (ps.map fun p => (p, p))
  nd : (("self" : Str) :: ps).Nodup
  len : ps.length ≤ 800
/-- how its arguments come -/
abbrev XB (qual : Str) (st : Stmt) (ps : List Str) (n : Nat) (ks : List Str) (sel : List Src) : Prop := ∀ (us ws : List Value) (a : Addr) (dV kV doc pm cdv ct : Value) (an : Option Addr) (cc : Addr), dV = .none → us.length = n → ws.length = ks.length →
  bindArgs (PySem.W.ksFn "__init__" qual (defArgs st) (defBody st) (defScope st) dV kV doc pm an cdv ct cc) ⟨.ref a :: us, ks.zip ws⟩ = pure ((("self" : Str) :: ps).zip (.ref a :: pick sel us [] ws))
def XV.of (cn : Str) (ps : List Str) (ds : List D) : XV := ⟨cn, ps.reverse, ds.reverse⟩
def XV.d (x : XV) : D := .exn x.c x.ks x.ds
def dMkX (cn : Str) (ps : List Str) (ds : List D) : TDE := fun ρ M => if ds.length = ps.length then some (.ok (XV.of cn ps ds).d ρ M) else none
def dRaiseX (cn : Str) (ps : List Str) (ds : List D) : TDE := fun ρ M => if ds.length = ps.length then some (.ex (XV.of cn ps ds) ρ M) else none
section
variable {X : Cx} {N : En} {W : WX} {cn qual : Str} {st : Stmt} {ps ks : List Str} {n : Nat} {sel : List Src}
theorem x_call {C f : Addr} {pins : List (Addr × Obj)} {σ : L2.St} {H : Hp} {s : Shared} {us ws : List Value} {vs zs : List V} {Q : Value → Shared → Prop}
    (D : XiD X.K X.mg X.prog C f qual (defArgs st) (defBody st) (defScope st)) (hno : ∀ p ∈ ps, PySem.W.findIn X.K (.ref C) p = some none) (T : XkS st ps) (B : XB qual st ps n ks sel) (hr : Room 1 X.A) (I : Inv X pins σ H s) (hz : n ≤ 1000) (r : Vals vs us) (rz : Vals zs ws)
    (l1 : vs.length = n) (l2 : zs.length = ks.length) (l3 : (pick sel vs [] zs).length = ps.length)
    (h : ∀ a s' H', Inv X pins σ H' s' → XMade X.s_0.heap H H' a C (ps.reverse.zip (pick sel vs [] zs).reverse) → Q (.ref a) s') : wpAny (model X.prog X.w) X.A (call (.ref C) us (ks.zip ws)) Q X.xe s := by
  have rp : Vals (pick sel vs [] zs) (pick sel us [] ws) := pick_vals r .nil rz
  refine xmake (zs := pick sel us [] ws) D T.N T.B hno T.nd T.len hr I (by rw [← r.length, l1, sizeLine_eq]; omega) rp (by rw [← rp.length, l3]) (fun a dV kV doc pm cdv ct an cc hdV => B us ws a dV kV doc pm cdv ct an cc hdV (r.length.symm.trans l1) (rz.length.symm.trans l2)) fun a s' H' I' m => h a s' H' I' ?_
  rw [accF_eq _ _ _ l3.symm, List.append_nil, zip_rev _ _ l3.symm] at m
  exact m
/-- as a value -/
theorem x_val {C f : Addr} {pins : List (Addr × Obj)} {σ : L2.St} {H : Hp} {s : Shared} {us ws : List Value} {vs zs : List V} {Q : VK} {ds bs : List D} {ι : List Addr} {S : AP} {own : OwnM} {ρ : DS} {M : MS}
    (hm : X.mg cn = some (.ref C)) (D : XiD X.K X.mg X.prog C f qual (defArgs st) (defBody st) (defScope st)) (hno : ∀ p ∈ ps, PySem.W.findIn X.K (.ref C) p = some none) (T : XkS st ps) (B : XB qual st ps n ks sel) (hr : Room 1 X.A) (I : Inv X pins σ H s) (hz : n ≤ 1000) (r : Vals vs us) (rz : Vals zs ws)
    (l1 : vs.length = n) (l2 : zs.length = ks.length) (c : Cur X.K X.mg N ι S H own σ ρ M) (dn : Dns X.K X.mg S ι H vs ds) (dz : Dns X.K X.mg S ι H zs bs) (q : postD X.K X.mg N W ι S H own σ Q (dMkX cn ps (pick sel ds [] bs) ρ M)) :
    wpAny (model X.prog X.w) X.A (call (.ref C) us (ks.zip ws)) (EP X pins σ Q) X.xe s := by
  have dp : Dns X.K X.mg S ι H (pick sel vs [] zs) (pick sel ds [] bs) := pick_dns dn .nil dz
  unfold dMkX at q
  by_cases hl : (pick sel ds [] bs).length = ps.length
  case neg => rw [if_neg hl] at q; exact q.elim
  rw [if_pos hl] at q
  have l3 : (pick sel vs [] zs).length = ps.length := dp.length.trans hl
  refine x_call D hno T B hr I hz r rz l1 l2 l3 fun a s' H' I' m => ?_
  obtain ⟨k1, e1⟩ := c.ok.sup m.sup m.nt
  have nι : ∀ p, H p = none → p ∉ ι := fun p hp z => (c.ok.iout p z).2 hp
  have nw : ∀ p, H p = none → ∀ i, own i ≠ some p := fun p hp i z => c.ok.ohn z hp
  rcases m.at_ with ⟨h1, h2⟩ | ⟨dx, h1, h2, h3, h4⟩
  · have hps : ps = [] := by
      cases ps with
      | nil => rfl
      | cons p ps =>
        have := congrArg List.length h1
        simp [l3] at this
    subst hps
    have hd : pick sel ds [] bs = [] := List.length_eq_zero_iff.mp hl
    rw [hd] at q
    have k2 := k1.addNew h2 (fun _ z => exo_tbl z) (c.ok.free m.na) (nι a m.na) (nw a m.na)
    have e2 : ExtE S ι H own (addS S a) ι H' own := e1.trans c.ok ⟨addS_ext, fun i b e => ⟨rfl, .inl e⟩⟩
    exact ⟨.ref a, H', I', rfl, q (.ref a) ι (addS S a) H' own (c.grow k2 e2) e2 (.exn0 (.inr rfl) ⟨_, h2, fun h z => by obtain ⟨t1, z⟩ := z; exact ⟨_, _, z, ⟨rfl, rfl⟩, rfl⟩⟩ hm)⟩
  · have hxd : H' dx = some (exd dx (ps.reverse.zip (pick sel vs [] zs).reverse)) := h2
    obtain ⟨mA, hns, rel⟩ := exd_at I'.hok hxd
    have I2 : Inv X pins σ (upd H' dx (.xd (ps.reverse.zip (pick sel vs [] zs).reverse))) s' := inv_retell I' hxd (fun _ z => nomatch z) ⟨mA, hns, rel⟩
    generalize hH2 : upd H' dx (.xd (ps.reverse.zip (pick sel vs [] zs).reverse)) = H2 at I2
    have sup2 : ∀ b o, H b = some o → H2 b = some o := fun b o e => by rw [← hH2, upd_ne (ne_of_none e h3)]; exact m.sup b o e
    have nt2 : ∀ b ps, H b = none → H2 b ≠ some (.tbl ps) := fun b ps' e z => by
      rw [← hH2] at z
      by_cases hb : b = dx
      · rw [hb, upd_same] at z; exact nomatch z
      · rw [upd_ne hb] at z; exact m.nt b ps' e z
    have h1' : H2 a = some (exo a C (some dx)) := by rw [← hH2, upd_ne (Ne.symm h4)]; exact h1
    have h2' : H2 dx = some (.xd (ps.reverse.zip (pick sel vs [] zs).reverse)) := by rw [← hH2, upd_same]
    obtain ⟨k1, e1⟩ := c.ok.sup sup2 nt2
    have k2 := k1.addNew h1' (fun _ z => exo_tbl z) (c.ok.free m.na) (nι a m.na) (nw a m.na)
    have k3 := k2.addNew h2' (fun _ z => nomatch z) (c.ok.free h3) (nι dx h3) (nw dx h3)
    have e3 : ExtE S ι H own (addS (addS S a) dx) ι H2 own := e1.trans c.ok (ExtE.trans k1 ⟨addS_ext, fun i b e => ⟨rfl, .inl e⟩⟩ ⟨addS_ext, fun i b e => ⟨rfl, .inl e⟩⟩)
    exact ⟨.ref a, H2, I2, rfl, q (.ref a) ι _ H2 own (c.grow k3 e3) e3 (.exn (.inl (.inr rfl)) ⟨_, h1', fun h z => by obtain ⟨t1, z⟩ := z; exact ⟨_, _, z, ⟨rfl, rfl⟩, rfl⟩⟩ (.inr rfl) h2' (by show _ = ps.reverse.length; simp [l3]) hm ((dp.ext e3.ext).rev))⟩
/-- raised: the exception is let go -/
theorem x_raise {C f : Addr} {pins : List (Addr × Obj)} {σ : L2.St} {H : Hp} {s : Shared} {us ws : List Value} {vs zs : List V} {Q : XK} {ds bs : List D} {ι : List Addr} {S : AP} {own : OwnM} {ρ : DS} {M : MS}
    (hm : X.mg cn = some (.ref C)) (D : XiD X.K X.mg X.prog C f qual (defArgs st) (defBody st) (defScope st)) (hno : ∀ p ∈ ps, PySem.W.findIn X.K (.ref C) p = some none) (T : XkS st ps) (B : XB qual st ps n ks sel) (hr : Room 1 X.A) (I : Inv X pins σ H s) (hz : n ≤ 1000) (r : Vals vs us) (rz : Vals zs ws)
    (l1 : vs.length = n) (l2 : zs.length = ks.length) (c : Cur X.K X.mg N ι S H own σ ρ M) (dn : Dns X.K X.mg S ι H vs ds) (dz : Dns X.K X.mg S ι H zs bs) (hl : (pick sel ds [] bs).length = ps.length)
    (q : ∀ cls dd ι' S' H' own', Cur X.K X.mg N ι' S' H' own' σ ρ M → Ext S ι H S' ι' H' → ExOk X.K X.mg S' ι' H' (XV.of cn ps (pick sel ds [] bs)) cls dd → Q cls dd H') :
    wpAny (model X.prog X.w) X.A (call (.ref C) us (ks.zip ws)) (MkP X pins σ Q) X.xe s := by
  have dp : Dns X.K X.mg S ι H (pick sel vs [] zs) (pick sel ds [] bs) := pick_dns dn .nil dz
  have l3 : (pick sel vs [] zs).length = ps.length := dp.length.trans hl
  refine x_call D hno T B hr I hz r rz l1 l2 l3 fun a s' H' I' m => ?_
  have nι : ∀ p, H p = none → p ∉ ι := fun p hp z => (c.ok.iout p z).2 hp
  have nw : ∀ p, H p = none → ∀ i, own i ≠ some p := fun p hp i z => c.ok.ohn z hp
  have fin : ∀ (d : Option Addr) (H2 : Hp), Inv X pins σ H2 s' → H2 a = some (exo a C d) → (∀ b o, H b = some o → H2 b = some o) → (∀ b ps, H b = none → H2 b ≠ some (.tbl ps)) → ((d = none ∧ ps = []) ∨ ∃ dx, d = some dx ∧ H2 dx = some (.xd (ps.reverse.zip (pick sel vs [] zs).reverse)) ∧ H dx = none ∧ dx ≠ a) → MkP X pins σ Q (.ref a) s' := fun d H2 I2 ea sup nt at_ => by
    obtain ⟨t1, hoe⟩ := exo_at I2.hok ea
    obtain ⟨G, g1, g2, I3⟩ := inv_drop I2 ea m.n0
    have sup3 : ∀ b o, H b = some o → del H2 a b = some o := fun b o e => by rw [del_ne (ne_of_none e m.na)]; exact sup b o e
    have nt3 : ∀ b ps, H b = none → del H2 a b ≠ some (.tbl ps) := fun b ps' e z => by
      by_cases hb : b = a
      · rw [hb, del_same] at z; exact nomatch z
      · rw [del_ne hb] at z; exact nt b ps' e z
    obtain ⟨k1, e1⟩ := c.ok.sup sup3 nt3
    refine ⟨a, _, _, { s' with heap := G }, del H2 a, .ref C, d, rfl, I3, g1, g2, hoe, ⟨rfl, rfl⟩, rfl, rfl, del_same, rfl, I2.bare, raises_own D.o.exC D.o.tyC, ?_⟩
    rcases at_ with ⟨rfl, rfl⟩ | ⟨dx, rfl, h2, h3, h4⟩
    · have hd : pick sel ds [] bs = [] := List.length_eq_zero_iff.mp hl
      exact q _ _ ι S (del H2 a) own (c.grow k1 e1) e1.ext ⟨C, hm, rfl, .inl ⟨rfl, rfl, by rw [hd]; rfl⟩⟩
    · have h2' : del H2 a dx = some (.xd (ps.reverse.zip (pick sel vs [] zs).reverse)) := by rw [del_ne h4]; exact h2
      have k3 := k1.addNew h2' (fun _ z => nomatch z) (c.ok.free h3) (nι dx h3) (nw dx h3)
      have e3 : ExtE S ι H own (addS S dx) ι (del H2 a) own := e1.trans c.ok ⟨addS_ext, fun i b e => ⟨rfl, .inl e⟩⟩
      exact q _ _ ι _ (del H2 a) own (c.grow k3 e3) e3.ext ⟨C, hm, rfl, .inr ⟨dx, _, rfl, .inr rfl, h2', by show _ = ps.reverse.length; simp [l3], (dp.ext e3.ext).rev⟩⟩
  rcases m.at_ with ⟨h1, h2⟩ | ⟨dx, h1, h2, h3, h4⟩
  · have hps : ps = [] := by
      cases ps with
      | nil => rfl
      | cons p ps =>
        have := congrArg List.length h1
        simp [l3] at this
    exact fin none H' I' h2 m.sup m.nt (.inl ⟨rfl, hps⟩)
  · have hxd : H' dx = some (exd dx (ps.reverse.zip (pick sel vs [] zs).reverse)) := h2
    obtain ⟨mA, hns, rel⟩ := exd_at I'.hok hxd
    have I2 : Inv X pins σ (upd H' dx (.xd (ps.reverse.zip (pick sel vs [] zs).reverse))) s' := inv_retell I' hxd (fun _ z => nomatch z) ⟨mA, hns, rel⟩
    refine fin (some dx) _ I2 (by rw [upd_ne (Ne.symm h4)]; exact h1) (fun b o e => by rw [upd_ne (ne_of_none e h3)]; exact m.sup b o e) (fun b ps' e z => ?_) (.inr ⟨dx, rfl, upd_same, h3, h4⟩)
    by_cases hb : b = dx
    · rw [hb, upd_same] at z; exact nomatch z
    · rw [upd_ne hb] at z; exact m.nt b ps' e z
variable {p pos : Pos} {e : Expr} {es : List Expr} {kws : List Keyword} {a b : TDA}
/-- C(e, ..) -/
theorem de_mkx (k : Xk X.prog X.K X.mg cn qual st ps) (T : XkS st ps) (hr : Room 1 X.A) (B : XB qual st ps n [] sel) (ha : DA X N W (e :: es) a) (hz : n ≤ 1000 := by decide)
    (hgl : Gl X cn := by rfl) (hdb : (cn == ("__debug__" : Str)) = false := by decide) (he : starEach (e :: es) X.env = (false, eval e X.env) :: starEach es X.env := by rfl) (hpl : (backTo pos (starEach es X.env)).any (·.1) = false := by rfl) :
    DE X N W (.Call (.Name cn p) (e :: es) [] pos) (aBind a fun ds => fits n ds (dMkX cn ps (pick sel ds [] []))) := by
  obtain ⟨C, f, hm, D, hno⟩ := k.ex
  refine ⟨fun pins s σ H Q I h => ?_⟩
  refine wpAny_Call_Name_kw (ld_glob I hgl hm ?_ hdb)
  refine PySem.W.callWith_K (h₀ := X.base) I.ok.mod.kin D.o.kC (thn (ha.run pos pins s σ H _ I (bind_a h fun xs ds ι S H1 own ρ M c dn q => (⟨ds, ι, S, own, ρ, M, c, dn, q⟩ : ∃ ds ι S own ρ M, Cur X.K X.mg N ι S H1 own σ ρ M ∧ Dns X.K X.mg S ι H1 xs ds ∧ postD X.K X.mg N W ι S H1 own σ Q (fits n ds (dMkX cn ps (pick sel ds [] [])) ρ M)))) fun us s1 ⟨vs, H1, I1, r, ds, ι, S, own, ρ, M, c, dn, q⟩ => ⟨I1.kIn, ?_⟩) he hpl
  obtain ⟨q1, q⟩ := fits_go q
  exact x_val (ks := []) (ws := []) (zs := []) (bs := []) hm D hno T B hr I1 hz r .nil (dn.length.trans q1) rfl c dn .nil q
/-- C(k = e, ..) -/
theorem de_mkxK (k : Xk X.prog X.K X.mg cn qual st ps) (T : XkS st ps) (hr : Room 1 X.A) (B : XB qual st ps 0 ks sel) (hkw : DK X N W kws b)
    (hgl : Gl X cn := by rfl) (hall : (backToKw pos (keywordEach kws X.env)).all (·.1.isSome) = true := by rfl) (hks : (backToKw pos (keywordEach kws X.env)).filterMap (·.1) = ks := by rfl)
    (hdb : (cn == ("__debug__" : Str)) = false := by decide) (hpl : ((backTo pos (starEach [] X.env)).any (·.1) || (backToKw pos (keywordEach kws X.env)).any (·.1.isNone)) = false := by rfl) :
    DE X N W (.Call (.Name cn p) [] kws pos) (aBind b fun bs => fits ks.length bs (dMkX cn ps (pick sel [] [] bs))) := by
  obtain ⟨C, f, hm, D, hno⟩ := k.ex
  refine ⟨fun pins s σ H Q I h => ?_⟩
  refine wpAny_Call_Name_kw (ld_glob I hgl hm ?_ hdb)
  refine PySem.W.callWith_KW0 (h₀ := X.base) I.ok.mod.kin D.o.kC hall (thn (hkw.run pos pins s σ H _ I (bind_a h fun xs ds ι S H1 own ρ M c dn q => (⟨ds, ι, S, own, ρ, M, c, dn, q⟩ : ∃ ds ι S own ρ M, Cur X.K X.mg N ι S H1 own σ ρ M ∧ Dns X.K X.mg S ι H1 xs ds ∧ postD X.K X.mg N W ι S H1 own σ Q (fits ks.length ds (dMkX cn ps (pick sel [] [] ds)) ρ M)))) fun ws s1 ⟨zs, H1, I1, rz, ds, ι, S, own, ρ, M, c, dn, q⟩ => ⟨I1.kIn, ?_⟩) hpl
  rw [hks]
  obtain ⟨q1, q⟩ := fits_go q
  exact x_val (us := []) (vs := []) (ds := []) hm D hno T B hr I1 (by decide) .nil rz rfl (dn.length.trans q1) c .nil dn q
/-- C() -/
theorem de_mkx0 (k : Xk X.prog X.K X.mg cn qual st ps) (T : XkS st ps) (hr : Room 1 X.A) (B : XB qual st ps 0 [] sel) (hgl : Gl X cn := by rfl) (hdb : (cn == ("__debug__" : Str)) = false := by decide) :
    DE X N W (.Call (.Name cn p) [] [] pos) (dMkX cn ps (pick sel [] [] [])) := by
  obtain ⟨C, f, hm, D, hno⟩ := k.ex
  refine ⟨fun pins s σ H Q I h => ?_⟩
  refine wpAny_Call_Name_kw (ld_glob I hgl hm ?_ hdb)
  obtain ⟨ι, S, own, ρ, M, c, q⟩ := h
  exact PySem.W.callWith_K0 I.kIn D.o.kC (x_val (us := []) (vs := []) (ds := []) (ks := []) (ws := []) (zs := []) (bs := []) hm D hno T B hr I (by decide) .nil .nil rfl rfl c .nil .nil q)
/-- raise C(e, ..) -/
def sRaise (cn : Str) (ps : List Str) (n : Nat) (sel : List Src) (a : TDA) : TDS := fun ρ M => match a ρ M with
  | some (.ok ds ρ1 M1) => if ds.length = n ∧ (pick sel ds [] []).length = ps.length then some (.ex (XV.of cn ps (pick sel ds [] [])) ρ1 M1) else none
  | some (.ex x ρ1 M1) => some (.ex x ρ1 M1)
  | none => none
theorem ds_raise {rp : Pos} (k : Xk X.prog X.K X.mg cn qual st ps) (T : XkS st ps) (hr : Room 1 X.A) (hc : X.calm = true) (tk : Takes X W) (B : XB qual st ps n [] sel) (ha : DA X N W (e :: es) a) (hz : n ≤ 1000 := by decide)
    (hgl : Gl X cn := by rfl) (hdb : (cn == ("__debug__" : Str)) = false := by decide) (he : starEach (e :: es) X.env = (false, eval e X.env) :: starEach es X.env := by rfl) (hpl : (backTo pos (starEach es X.env)).any (·.1) = false := by rfl) :
    DS1 X N W (.Raise (some (.Call (.Name cn p) (e :: es) [] pos)) none rp) (sRaise cn ps n sel a) := by
  obtain ⟨C, f, hm, D, hno⟩ := k.ex
  have mk : PMk X (.Call (.Name cn p) (e :: es) [] pos) (fun σ H Q => tA X.K X.mg N W a σ H fun vs H1 => ∃ ds ι S own ρ M, Cur X.K X.mg N ι S H1 own σ ρ M ∧ Dns X.K X.mg S ι H1 vs ds ∧ ds.length = n ∧ (pick sel ds [] []).length = ps.length ∧
      ∀ cls dd ι' S' H' own', Cur X.K X.mg N ι' S' H' own' σ ρ M → Ext S ι H1 S' ι' H' → ExOk X.K X.mg S' ι' H' (XV.of cn ps (pick sel ds [] [])) cls dd → Q cls dd H') := by
    intro pins s σ H Q I h
    refine wpAny_Call_Name_kw (ld_glob I hgl hm ?_ hdb)
    refine PySem.W.callWith_K (h₀ := X.base) I.ok.mod.kin D.o.kC (thn (ha.run pos pins s σ H _ I h) fun us s1 ⟨vs, H1, I1, r, ds, ι, S, own, ρ, M, c, dn, q1, q2, q⟩ => ⟨I1.kIn, ?_⟩) he hpl
    exact x_raise (ks := []) (ws := []) (zs := []) (bs := []) hm D hno T B hr I1 hz r .nil (dn.length.trans q1) rfl c dn .nil q2 q
  refine ps_imp (ps_raise hc tk mk) fun E σ H q => ?_
  obtain ⟨ι, S, own, ρ, M, c, q⟩ := q
  refine ⟨ι, S, own, ρ, M, c, ?_⟩
  unfold sRaise at q
  cases e1 : a ρ M with
  | none => rw [e1] at q; exact q
  | some o1 =>
    rw [e1] at q
    cases o1 with
    | ex x ρ' M' => exact q σ
    | ok ds ρ1 M1 =>
      intro vs ι1 S1 H1 own1 c1 x1 dn
      simp only at q
      split at q
      · rename_i hh
        exact ⟨ds, ι1, S1, own1, ρ1, M1, c1, dn, hh.1, hh.2, fun cls dd ι' S' H' own' c' x' ex => q σ cls dd ι' S' H' own' c' (x1.ext.trans x') ex⟩
      · exact q.elim
end
end DL
set_option maxHeartbeats 4000000
namespace DL
open PySem PySem.Spec PyProof.Rows L2

/-! ### what the head tells of the exception classes' __init__ -/
structure XDef where
  cn : Str
  qual : Str
  st : Stmt
  ps : List Str
abbrev FnY : Type := Option (Str × Str × Arguments × FuncBody × Scope × Addr × List Str × Addr)
def fnY (K : PySem.W.Frag) (cn : Str) : FnY := match K.lookup (He.ma K (He.ga K cn) "__init__") with
  | some ⟨_, _, .func fd, _⟩ => some (fd.name, fd.qualname, fd.params, fd.body, fd.scope, fd.globals, fd.closure.map (·.1), fd.builtins)
  | _ => none
def XDef.val (d : XDef) : FnY := some ("__init__", d.qual, defArgs d.st, .stmts (defBody d.st), defScope d.st, mainGlobals, ["__class__"], builtinsNs)
def oexB (K : PySem.W.Frag) (C : Addr) : Bool := match K.lookup C with
  | some ⟨.type t, _, .cls cd, sl⟩ => decide (t = "type") && ((match cd.mro with
    | .ref C' :: bm => decide (C' = C) && PySem.HandSPX.refsVE bm
    | _ => false) && (cd.hasDict && (!cd.hasDel && (match sl.toList with
    | [_, _, _, _, some (.builtin n), _] => decide (n = "ValueError.__new__")
    | _ => false))))
  | _ => false
theorem oexB_ok {K : PySem.W.Frag} {C : Addr} (h : oexB K C = true) : ∃ nm q N bs bm sn sub ab col dd k0 k1 k2 k3 k5, K.lookup C = some (excClassObj nm q C N bs bm true sn sub ab col dd k0 k1 k2 k3 k5 "ValueError.__new__") ∧ PySem.HandSPX.refsVE bm = true := by
  unfold oexB at h
  cases e : K.lookup C with
  | none => rw [e] at h; cases h
  | some o =>
    rw [e] at h
    obtain ⟨oc, od, dt, sl⟩ := o
    cases oc with
    | type t =>
      cases dt with
      | cls cd =>
        obtain ⟨h1, h⟩ := He.ba h
        obtain ⟨h2, h⟩ := He.ba h
        obtain ⟨h3, h⟩ := He.ba h
        obtain ⟨h4, h5⟩ := He.ba h
        have h1 := of_decide_eq_true h1
        subst h1
        obtain ⟨nm, bs, mro, ns, qn, hd, sn, sb, ab, col, del⟩ := cd
        simp only at h2 h3 h4
        subst h3
        have h4 : del = false := by simpa using h4
        subst h4
        clear h
        cases mro with
        | nil => cases h2
        | cons m bm =>
          cases m with
          | ref C' =>
            obtain ⟨e1, e2⟩ := He.ba (show (decide (C' = C) && PySem.HandSPX.refsVE bm) = true from h2)
            have e1 := of_decide_eq_true e1
            subst e1
            split at h5
            · rename_i k0 k1 k2 k3 n k5 hs
              have h5 := of_decide_eq_true h5
              subst h5
              have hsl : sl = #[k0, k1, k2, k3, some (.builtin "ValueError.__new__"), k5] := by
                rw [← Array.toArray_toList (xs := sl), hs]
              subst hsl
              exact ⟨nm, qn, ns, bs, bm, sn, sb, ab, col, od, k0, k1, k2, k3, k5, rfl, e2⟩
            · cases h5
          | _ => cases h2
      | _ => cases h
    | _ => cases dt <;> cases h
def codeB (K : PySem.W.Frag) (file qual : Str) (cd : Value) : Bool := match cd with
  | .ref cda => PySem.W.codeIn K (.ref cda) qual && (match K.lookup cda with
    | some ⟨_, _, .fields (vs : Array Value), _⟩ => (match (vs[2]? : Option Value) with
      | some (Value.str fl _) => file == fl
      | _ => false)
    | _ => false)
  | _ => false
def noneV : Value → Bool
  | .none => true
  | _ => false
def cellB (K : PySem.W.Frag) (C : Addr) : List (Str × Addr) → Bool
  | [(_, cc)] => (match K.lookup cc with
    | some ⟨_, _, .cell (some (.ref D)), _⟩ => decide (D = C)
    | _ => false)
  | _ => false
/-- for all classes -/
def xglB (K : PySem.W.Frag) : Bool := He.eqO (PySem.W.nsIn K cStatics "thirdparty.any") (some none) && (He.Fa.free "super").ok K
def xdB (file : Str) (K : PySem.W.Frag) (d : XDef) : Bool := (He.Fa.glo d.cn).ok K && (oexB K (He.ga K d.cn) && (He.eqO (PySem.W.findIn K (.ref (He.ga K d.cn)) "__setattr__") (some (some (.builtin "object.__setattr__"))) && (decide (PySem.W.subIn K (.ref (He.ga K d.cn)) (.type "BaseException") = some true) &&
  (decide (PySem.W.typeIn K (.ref (He.ga K d.cn)) = some (.type "type")) && (PySem.W.keepIn K (.ref (He.ga K d.cn)) && (He.eqO (PySem.W.findIn K (.ref (He.ga K d.cn)) "__init__") (some (some (.ref (He.ma K (He.ga K d.cn) "__init__")))) && (decide (PySem.W.typeIn K (.ref (He.ma K (He.ga K d.cn) "__init__")) = some (.type "function")) &&
  (He.eqO (PySem.W.ks_superIn K (He.ga K d.cn) (He.ga K d.cn) "__init__") (some (some (.builtin "ValueError.__init__"))) && (decide (PySem.W.subIn K (.ref (He.ga K d.cn)) (.type "ValueError") = some true) && (decide (PySem.W.mroIn K (He.ga K d.cn) (.ref (He.ga K d.cn)) = some true) &&
  (d.ps.all (fun p => He.eqO (PySem.W.findIn K (.ref (He.ga K d.cn)) p) (some none)) && (match K.lookup (He.ma K (He.ga K d.cn) "__init__") with
    | some ⟨_, _, .func fd, _⟩ => noneV fd.defaults && (codeB K file d.qual fd.code && cellB K (He.ga K d.cn) fd.closure)
    | _ => false))))))))))))
theorem xd_ok {P : Program} {K : PySem.W.Frag} {h : Heap} {mg : Str → Option Value} {d : XDef} (X : K.In h) (G : h.Ns mainGlobals mg) (g : xglB K = true) (b : xdB P.main.file K d = true) (e : fnY K d.cn = d.val) (htop : (P.main.scope.names.lookup ("super" : Str)).isSome = false) : Xk P K mg d.cn d.qual d.st d.ps := by
  obtain ⟨g1, g2⟩ := He.ba g
  obtain ⟨k1, b⟩ := He.ba b
  obtain ⟨k2, b⟩ := He.ba b
  obtain ⟨k3, b⟩ := He.ba b
  obtain ⟨k4, b⟩ := He.ba b
  obtain ⟨k5, b⟩ := He.ba b
  obtain ⟨k6, b⟩ := He.ba b
  obtain ⟨k7, b⟩ := He.ba b
  obtain ⟨k8, b⟩ := He.ba b
  obtain ⟨k9, b⟩ := He.ba b
  obtain ⟨k10, b⟩ := He.ba b
  obtain ⟨k11, b⟩ := He.ba b
  obtain ⟨k12, k13⟩ := He.ba b
  refine ⟨_, _, He.glo_ok X G k1, ⟨?_, ⟨oexB_ok k2, He.eqO_ok k3, of_decide_eq_true k4, of_decide_eq_true k5, k6⟩, He.eqO_ok k7, of_decide_eq_true k8, He.eqO_ok k9, of_decide_eq_true k10, of_decide_eq_true k11, He.eqO_ok g1, He.free_ok X G g2, htop⟩, fun p hp => He.eqO_ok (List.all_eq_true.mp k12 p hp)⟩
  unfold fnY at e
  cases q : K.lookup (He.ma K (He.ga K d.cn) "__init__") with
  | none => rw [q] at k13; cases k13
  | some o =>
    obtain ⟨oc, od, dt, osl⟩ := o
    rw [q] at k13 e
    cases dt with
    | func fd =>
      obtain ⟨n1, n2, n3, n4, n5, n6, n7, n8, n9, n10, n11, n12, n13, n14, n15⟩ := fd
      have e2 : (some (n1, n2, n3, n4, n5, n6, n7.map (·.1), n15) : FnY) = (some (("__init__" : Str), d.qual, defArgs d.st, .stmts (defBody d.st), defScope d.st, mainGlobals, [("__class__" : Str)], builtinsNs) : FnY) := e
      simp only [Option.some.injEq, Prod.mk.injEq] at e2
      obtain ⟨h1, h2, h3, h4, h5, h6, h7, h8⟩ := e2
      subst h1 h2 h3 h4 h5 h6 h8
      obtain ⟨c0, k14⟩ := He.ba k13
      obtain ⟨c1, c2⟩ := He.ba k14
      simp only at c0 c1 c2
      have hdV : n8 = .none := by cases n8 <;> first | rfl | cases c0
      unfold codeB at c1
      unfold cellB at c2
      split at c1
      · rename_i cda
        obtain ⟨c3, c4⟩ := He.ba c1
        split at c2
        · rename_i nn cc
          have h7 : [nn] = [("__class__" : Str)] := h7
          cases h7
          cases q2 : K.lookup cda with
          | none => rw [q2] at c4; cases c4
          | some o2 =>
            obtain ⟨oc2, od2, dt2, osl2⟩ := o2
            rw [q2] at c4
            cases dt2 with
            | fields vs =>
              simp only at c4
              cases q3 : vs[2]? with
              | none => rw [q3] at c4; cases c4
              | some v =>
                rw [q3] at c4
                cases v with
                | str fl tf =>
                  cases q4 : K.lookup cc with
                  | none => rw [q4] at c2; cases c2
                  | some o4 =>
                    obtain ⟨oc4, od4, dt4, osl4⟩ := o4
                    rw [q4] at c2
                    cases dt4 with
                    | cell v =>
                      cases v with
                      | none => cases c2
                      | some v =>
                        cases v with
                        | ref D =>
                          have c2 := of_decide_eq_true c2
                          subst c2
                          exact ⟨oc, od, osl, n8, n9, n10, n11, n14, n12, cda, cc, hdV, rfl, c3, ⟨oc2, od2, vs, osl2, fl, tf, q2, q3, c4⟩, oc4, od4, osl4, q4⟩
                        | _ => cases c2
                    | _ => cases c2
                | _ => cases c4
            | _ => cases c4
        · cases c2
      · cases c1
    | _ => cases k13

/-! ### the Hook -/
def frY (g : Addr → Option Obj) (n : Nat) : PySem.W.Frag := He.frT g (cStatics :: (He.asD g n ++ [sysModules]))
abbrev AlY : Type := He.AlX × List FnY
structure SaysY (file : Str) (fa : List He.Fa) (fn : List He.DefD) (tf : List He.Defn) (xd : List XDef) (ex : PySem.W.Frag → Bool) (w : World) (h : Heap) (K : PySem.W.Frag) : Prop where
  t : He.SaysT fa fn [] w K
  more : ex K = true
  xg : xglB K = true
  xb : ∀ d ∈ xd, xdB file K d = true
  xe : xd.map (fun d => fnY K d.cn) = xd.map XDef.val
  hd : ∀ p ∈ tf, PySem.W.codeHdIn K (He.cT K p).1 (He.cT K p).2 = true
  out : ∀ p ∈ tf, K.lookup (He.cT K p).2 = none
  empty : ∀ p ∈ tf, h.get? (He.cT K p).2 = some { cls := .none, data := .fields #[] }
def obsY (file : Str) (n : Nat) (fa : List He.Fa) (fn : List He.DefD) (tf : List He.Defn) (xd : List XDef) (ex : PySem.W.Frag → Bool) (g : Addr → Option Obj) : AlY :=
  ((He.obsT fa fn [] (frY g n), ex (frY g n) && (xglB (frY g n) && (xd.all (xdB file (frY g n)) && He.tabsB g tf (frY g n)))), xd.map fun d => fnY (frY g n) d.cn)
def valY (fn : List He.DefD) (xd : List XDef) (w : World) : AlY := ((He.valT fn [] w, true), xd.map XDef.val)
theorem saysY_of {file : Str} {n : Nat} {fa : List He.Fa} {fn : List He.DefD} {tf : List He.Defn} {xd : List XDef} {ex : PySem.W.Frag → Bool} {w : World} {h : Heap} (e : obsY file n fa fn tf xd ex h.get? = valY fn xd w) : SaysY file fa fn tf xd ex w h (frY h.get? n) := by
  have e0 := congrArg (fun z : AlY => z.1) e
  have e1 : He.obsT fa fn [] (frY h.get? n) = He.valT fn [] w := congrArg (fun z : He.AlX => z.1) e0
  have e2 : (ex (frY h.get? n) && (xglB (frY h.get? n) && (xd.all (xdB file (frY h.get? n)) && He.tabsB h.get? tf (frY h.get? n)))) = true := congrArg (fun z : He.AlX => z.2) e0
  have e3 : xd.map (fun d => fnY (frY h.get? n) d.cn) = xd.map XDef.val := congrArg (fun z : AlY => z.2) e
  obtain ⟨h1, h2⟩ := He.ba e2
  obtain ⟨h2, h3⟩ := He.ba h2
  obtain ⟨h3, h4⟩ := He.ba h3
  have key : ∀ p ∈ tf, PySem.W.codeHdIn (frY h.get? n) (He.cT (frY h.get? n) p).1 (He.cT (frY h.get? n) p).2 = true ∧ ∃ o, h.get? (He.cT (frY h.get? n) p).2 = some o ∧ He.emptyTab o = true := fun p hp => by
    obtain ⟨h5, h6⟩ := He.ba (List.all_eq_true.mp h4 p hp)
    refine ⟨h5, ?_⟩
    cases q : h.get? (He.cT (frY h.get? n) p).2 with
    | none => rw [q] at h6; cases h6
    | some o => rw [q] at h6; exact ⟨o, rfl, h6⟩
  refine ⟨e1, h1, h2, fun d hd => List.all_eq_true.mp h3 d hd, e3, fun p hp => (key p hp).1, fun p hp => ?_, fun p hp => ?_⟩
  · obtain ⟨_, o, q, z⟩ := key p hp
    exact He.frT_none q z
  · obtain ⟨_, o, q, z⟩ := key p hp
    rw [q, He.emptyTab_eq z]
def hookY (file : Str) (n : Nat) (fa : List He.Fa) (fn : List He.DefD) (tf : List He.Defn) (xd : List XDef) (ex : PySem.W.Frag → Bool) : PySem.W.Hook where
  α := AlY
  obs := fun s => obsY file n fa fn tf xd ex s.heap.get?
  val := fun w => valY fn xd w
  says := fun w h => ∃ K : PySem.W.Frag, K.In h ∧ SaysY file fa fn tf xd ex w h K
  of := fun _ _ e => ⟨_, He.frT_in, saysY_of e⟩
  keeps := fun _ _ _ ⟨K, hK, c⟩ k => ⟨K, PySem.W.Frag.In.keeps hK k, ⟨c.t, c.more, c.xg, c.xb, c.xe, c.hd, c.out, fun p hp => k _ _ (c.empty p hp)⟩⟩
theorem obsY_eq {file : Str} {n : Nat} {fa : List He.Fa} {fn : List He.DefD} {tf : List He.Defn} {xd : List XDef} {ex : PySem.W.Frag → Bool} {g : Addr → Option Obj} {s : Shared} (h : ∀ a, g a = s.heap.get? a) : obsY file n fa fn tf xd ex g = (hookY file n fa fn tf xd ex).obs s := by
  have e : g = s.heap.get? := funext h
  rw [e] <;> rfl
theorem SaysY.xk {P : Program} {fa : List He.Fa} {fn : List He.DefD} {tf : List He.Defn} {xd : List XDef} {ex : PySem.W.Frag → Bool} {w : World} {h : Heap} {K : PySem.W.Frag} {mg : Str → Option Value} (c : SaysY P.main.file fa fn tf xd ex w h K) (X : K.In h) (G : h.Ns mainGlobals mg) (htop : (P.main.scope.names.lookup ("super" : Str)).isSome = false) (i : Nat) {d : XDef} (hi : xd[i]? = some d := by rfl) : Xk P K mg d.cn d.qual d.st d.ps := by
  have e2 : (xd.map fun d => fnY K d.cn)[i]? = (xd.map XDef.val)[i]? := by rw [c.xe]
  rw [List.getElem?_map, List.getElem?_map, hi] at e2
  exact xd_ok X G c.xg (c.xb d (List.mem_of_getElem? hi)) (Option.some.inj e2) htop
/-- the makers of lambdas -/
structure MkL (K : PySem.W.Frag) (mg : Str → Option Value) (base : Heap) (T : List (Addr × Str)) (f : Addr) (q : Str) : Prop where
  ex : ∃ c P, CodeAt K f c ∧ LamX.TabB base mg c P ∧ (P, q) ∈ T ∧ ∀ p ∈ T, p.1 = P → p.2 = q
end DL
set_option maxHeartbeats 4000000
namespace DL
open PySem PySem.Spec PyProof.Rows L2

/-! ### try: body, except C as n: m = n -/
/-- at a: an exception of the class cls with the dict d -/
def exV (a : Addr) (cls : Value) (d : Option Addr) : HO := .ext fun h => ∃ (oe : Obj) (vs : Array Value), h.get? a = some oe ∧ Zc cls d oe ∧ oe.data = .fields vs
section
variable {X : Cx} {pins : List (Addr × Obj)} {σ : L2.St} {H : Hp} {s : Shared}
theorem inv_trackX {a : Addr} {oe : Obj} {vs : Array Value} {cls : Value} {d : Option Addr} (I : Inv X pins σ H s) (ha : s.heap.get? a = some oe) (hz : Zc cls d oe) (hd : oe.data = .fields vs) (na : H a = none) (n0 : X.s_0.heap.get? a = none) (nL : a ≠ X.env.locals)
    (np : ∀ p ∈ X.pn ++ pins, p.1 ≠ a) : Inv X pins σ (upd H a (exV a cls d)) s := by
  have nc : ∀ x c, X.env.cells.lookup x = some c → c ≠ a := fun x c e z => by
    obtain ⟨v, o, ho, hc⟩ := I.cell x c e
    rw [z, ha] at ho
    cases ho
    rw [hd] at hc
    cases hc
  have n1 : ∀ b o, X.s_0.heap.get? b = some o → b ≠ a := fun b o e z => by rw [z, n0] at e; cases e
  refine ⟨I.ok, I.os, I.bare, ⟨I.base.keep, I.base.slot, fun b o e n hx => ?_, I.base.there, fun b xs e => ?_, fun b o u e => ?_, fun b ps e => ?_⟩, I.loc, I.cell, ?_, fun x c e => ?_, fun p hp => ?_, fun b u e => ?_, I.len⟩
  · rw [upd_ne (n1 b o e)]; exact I.base.free b o e n hx
  · have q := I.base.tups b xs e
    rw [upd_ne (ne_of_none q na)]; exact q
  · have q := I.base.frzs b o u e
    rw [upd_ne (ne_of_none q na)]; exact q
  · obtain ⟨m, q⟩ := I.base.tbls b ps e
    exact ⟨m, by rw [upd_ne (ne_of_none q na)]; exact q⟩
  · rw [upd_ne (Ne.symm nL)]; exact I.free
  · rw [upd_ne (nc x c e)]; exact I.freeC x c e
  · obtain ⟨q1, q2, q3⟩ := I.pin p hp
    exact ⟨q1, by rw [upd_ne (np p hp)]; exact q2, q3⟩
  · by_cases hb : b = a
    · subst hb
      rw [upd_same] at e
      cases e
      exact ⟨⟨oe, vs, ha, hz, hd⟩, ⟨oe, ha⟩, fun h1 h2 ⟨o1, v1, g1, g2, g3⟩ k => ⟨o1, v1, k _ g1, g2, g3⟩⟩
    · rw [upd_ne hb] at e
      refine (I.hok b u e).stay (fun c v _ q => q) (fun c q => ?_) fun c xs q => ?_
      · rw [upd_ne (ne_of_none q na)]; exact q
      · rw [upd_ne (ne_of_none q na)]; exact q
/-- what such a clause wishes of the body's exceptions -/
def wEsc (K : PySem.W.Frag) (c : Value) (i j : Nat) (Wout : WX) (D : Ends) : WX := fun cls d σ H =>
  ∃ b, PySem.W.exmOne K cls c = some b ∧ (b = true → ∀ a, H a = none → D.nx ((σ.set j (some (.ref a))).set i none) (upd H a (exV a cls d))) ∧ (b = false → Wout cls d σ H)
theorem ps_try_esc {x n m : Str} {c : Value} {i j : Nat} {body : List Stmt} {np mp ap n2 pos pos' : Pos} {tb : WX → TS} {Wout : WX} (hs : X.stack = X.env :: X.outer) (hf : X.env.frame = some X.env.locals) (hN : X.N.Nodup) (hi : X.N[i]? = some n) (hj : X.N[j]? = some m) (hln : X.env.kindOf n = some .local) (hlm : X.env.kindOf m = some .local) (hij : i ≠ j)
    (hc : Names X x c) (tk : Takes X Wout) (hex : X.ex = [])
    (hb : ∀ (W : WX) (pn : List (Addr × Obj)) (xe : Value → Shared → Prop), Takes (X.tr pn xe) W → PassesOwn (model X.prog X.w) X.A X.env xe → PSs (X.tr pn xe) body (tb W))
    (hdn : (n == ("__debug__" : Str)) = false := by decide) (hcn : (n == ("__classdict__" : Str)) = false := by decide) :
    PS X (.Try body [.ExceptHandler (some (.Name x np)) (some n) [.Assign [.Name m mp] (.Name n n2) ap] pos'] [] [] pos) (fun D σ H => tb (wEsc X.K c i j Wout D) D σ H) := by
  refine ⟨fun pins s σ H D I h => ?_⟩
  have ok := I.ok
  have hfr : X.A.frames = some (X.env :: X.outer) := ok.frames.trans (congrArg some hs)
  refine wpAny_Try_except ?_
  have HB := hb (wEsc X.K c i j Wout D) (X.pn ++ pins) (fun e s₁ => wpAny (model X.prog X.w) X.A (noteFrame e X.env) (fun _ s₂ => wpAny (model X.prog X.w) X.A (setFlight e none) (fun _ s₃ =>
    wpAny (model X.prog X.w) X.A (handleBy e X.env [.ExceptHandler (some (.Name x np)) (some n) [.Assign [.Name m mp] (.Name n n2) ap] pos']) (SP X pins D) X.xe s₃) X.xe s₂) X.xe s₁) (fun u s' xx => ?caught) PassesOwn.looking
  refine wpAny_mono (HB.run [] s σ H D (I.toTry _) h) (fun f s1 hsp => ?_) (fun e s1 he => he)
  case caught =>
    obtain ⟨a, B, sI, pins', σ', H', cls, d, rfl, J', nb, up, sky, na, os, ag, b, hb1, hyes, hno⟩ := xx
    have J : Inv X pins σ' H' sI := J'.ofTry ok
    rw [show (X.tr (X.pn ++ pins) _).stack = X.env :: X.outer from hs] at sky
    show wpAny (model X.prog X.w) X.A (noteFrame (.ref a) X.env) _ _ _
    refine Sky.land Zc.steady hfr hf sky fun h3 fl3 up3 => ?_
    have J3 : Inv X pins σ' H' { s' with heap := h3 } := J.landed nb fl3.1 (up.trans up3) os ag
    obtain ⟨oe3, vs3, he3, hz3, hd3⟩ := fl3.there
    have nfr : a ∉ frs (X.env :: X.outer) := fun hm => by
      obtain ⟨_, o', e', hnf⟩ := fl3.2.2.1.mem hm
      rw [he3] at e'
      cases e'
      exact hnf _ hd3
    have nL : a ≠ X.env.locals := fun z => nfr (List.mem_filterMap.mpr ⟨X.env, List.mem_cons_self, by rw [hf, z]⟩)
    have nF : a ∉ X.fs := fun hm => by
      obtain ⟨e, he, q⟩ := List.mem_filterMap.mp hm
      exact nfr (List.mem_filterMap.mpr ⟨e, List.mem_cons_of_mem _ he, q⟩)
    have notI : ∀ o, sI.heap.get? a = some o → False := fun o e => by
      have q := nb a o e (by rw [hs]; exact nfr)
      rw [fl3.2.1] at q
      cases q
    have n0 : X.s_0.heap.get? a = none := by
      cases e : X.s_0.heap.get? a with
      | none => rfl
      | some o =>
        obtain ⟨o', q⟩ := J.base.there a o e (by rw [hex]; simp)
        exact (notI _ q).elim
    have npn : ∀ p ∈ X.pn ++ pins, p.1 ≠ a := fun p hp z => notI p.2 (by rw [← z]; exact (J.pin p hp).1)
    have S3 := J3.suite he3 hd3 na nL nF
    have LT : PySem.W.Looks (model X.prog X.w) h3 (typeOf (.ref a)) cls := fun A Q E s k q => by
      exact wpAny_typeOf_ref (k _ _ he3) (by rw [hz3.1]; exact q)
    have LM := PySem.W.exm_one (M := model X.prog X.w) (J3.kIn) LT hb1
    refine wpAny_handleBy_cons (codeAny_handlers_test ?_) (fun q => nomatch q)
    have test : ∀ {Q : Value → Shared → Prop} {E : Value → Shared → Prop}, Q c { s' with heap := h3 } → wpAny (model X.prog X.w) (X.A.mark (some (.ref a))) (eval (.Name x np) X.env) Q E { s' with heap := h3 } := fun {Q E} q => by
      obtain ⟨g1, g2, g3⟩ := hc
      rcases g3 with g3 | ⟨g3, g4, g5⟩
      · exact ld_glob (X := X.suite a ((a, oe3) :: (X.pn ++ pins))) S3 g1 g3 q g2
      · exact ld_blt (X := X.suite a ((a, oe3) :: (X.pn ++ pins))) S3 g1 g3 g4 q g5 g2
    refine test (LM.here ?_)
    cases b with
    | true =>
      refine codeAny_handlers_suite_as (HandSPX.lands_againZ fl3 fun h4 fl4 up4 => ?_)
      have J4 : Inv X pins σ' H' { s' with heap := h4 } := J.landed nb fl4.1 ((up.trans up3).trans up4) os ag
      obtain ⟨oe4, vs4, he4, hz4, hd4⟩ := fl4.there
      have S4 := J4.suite he4 hd4 na nL nF
      have hlen : i < σ'.length := by rw [J4.len]; exact (List.getElem?_eq_some_iff.mp hi).1
      refine store_ok (X := X.suite a ((a, oe4) :: (X.pn ++ pins))) (v := .ref a) S4 hN hi (.inl hln) rfl (fun s5 S5 => ?_) (.inr hln)
      -- m = n
      have hset : PSs (X.suite a ((a, oe4) :: (X.pn ++ pins))) [.Assign [.Name m mp] (.Name n n2) ap] (tAsg (tVar i) (gName j)) := by
        exact pss_one (ps_set (i := j) hN hj (.inl hlm) (pe_var (i := i) hi (.inl hln) hdn hcn) (hf := .inr hlm))
      refine wpAny_mono (hset.run [] s5 _ H' { nx := fun σ6 H6 => σ6 = (σ'.set i (some (.ref a))).set j (some (.ref a)) ∧ H6 = H', rt := fun _ _ => False, bk := fun _ _ => False, ct := fun _ _ => False } S5 ⟨.ref a, by rw [List.getElem?_set_self hlen], rfl, rfl⟩) (fun f s6 hsp => ?_) (fun _ _ z => False.elim z)
      cases f with
      | next =>
        obtain ⟨σ6, H6, S6, rfl, rfl⟩ := hsp
        have p6 := S6.pin (a, oe4) (List.mem_append.mpr (.inl List.mem_cons_self))
        have J6 := inv_trackX (S6.unsuite ok) p6.1 hz4 hd4 na n0 nL npn
        refine gone_ok J6 hN hi hln fun s7 J7 => ?_
        have e7 : ((σ'.set i (some (.ref a))).set j (some (.ref a))).set i none = (σ'.set j (some (V.ref a))).set i none := by
          rw [List.set_comm _ _ hij, List.set_set]
        rw [e7] at J7
        exact ⟨_, _, J7, hyes rfl a na⟩
      | brk => obtain ⟨_, _, _, q⟩ := hsp; exact q.elim
      | cont => obtain ⟨_, _, _, q⟩ := hsp; exact q.elim
      | ret u => obtain ⟨_, _, _, _, _, q⟩ := hsp; exact q.elim
    | false =>
      show wpAny _ X.A (handleBy (.ref a) X.env []) _ _ _
      refine wpAny_handleBy_nil ?_
      obtain ⟨k1, k2, k3, oe, vs, T, oT, ts', he, hz, hd, h1, hr⟩ := id fl3
      unfold PySem.passOn
      refine wpAny_bind (wpAny_field he hd h1 ?_)
      rw [if_neg (by simp)]
      have fin : wpAny (model X.prog X.w) X.A (setFlight (.ref a) X.env.frame) (fun _ s4 => wpAny (model X.prog X.w) X.A (throw (.ref a) : Sem Flow) (SP X pins D) X.xe s4) X.xe { s' with heap := h3 } := by
        rw [hf]
        refine HandSPX.setFlight_upZ fl3 fun h4 hh4 up4 => ?_
        refine wpAny_throw (tk _ _ ⟨a, B, sI, pins, σ', H', cls, d, rfl, J, nb, (up.trans up3).trans up4, .inr (.inr ?_), na, os, ag, hno rfl⟩)
        rw [hs]; exact hh4
      first
        | exact wpAny_bind (wpAny_pure (wpAny_bind fin))
        | exact wpAny_bind fin
  cases f with
  | next =>
    obtain ⟨σ', H', J', q⟩ := hsp
    refine wpAny_execs_nil ?_
    exact ⟨σ', H', J'.ofTry ok, q⟩
  | brk =>
    obtain ⟨σ', H', J', q⟩ := hsp
    refine ⟨σ', H', ?_, q⟩
    exact J'.ofTry ok
  | cont =>
    obtain ⟨σ', H', J', q⟩ := hsp
    refine ⟨σ', H', ?_, q⟩
    exact J'.ofTry ok
  | ret u =>
    obtain ⟨v, σ', H', J', r, q⟩ := hsp
    refine ⟨v, σ', H', ?_, r, q⟩
    exact J'.ofTry ok
end
section
variable {K : PySem.W.Frag} {mg : Str → Option Value} {N : En} {ι : List Addr} {M : MS} {S : AP} {H : Hp} {own : OwnM} {σ : L2.St} {ρ : DS}
/-- a slot is emptied -/
theorem Cur.unset (c : Cur K mg N ι S H own σ ρ M) (i : Nat) : Cur K mg N ι S H (setO own i none) (σ.set i none) (ρ.set i none) M := by
  refine ⟨c.ok.unown i, ⟨by simpa using c.env.len, by simpa using c.env.big, fun j h1 h2 => setO_gap c.env (by simpa using h1) h2, fun j x q => ?_, fun j q => ?_⟩⟩
  · by_cases hj : j = i
    · subst hj
      have hi : j < ρ.length := by
        have := (List.getElem?_eq_some_iff.mp q).1
        simpa using this
      rw [List.getElem?_set_self hi] at q
      cases q
    · rw [List.getElem?_set_ne (Ne.symm hj)] at q ⊢
      obtain ⟨w, h1, h2⟩ := c.env.at_ j x q
      refine ⟨w, h1, ?_⟩
      unfold setO; rw [if_neg hj]; exact h2
  · unfold setO
    by_cases hj : j = i
    · rw [if_pos hj]
    · rw [if_neg hj]
      rw [List.getElem?_set_ne (Ne.symm hj)] at q
      exact c.env.nown j q
end
/-- try: t, except cn as (slot i): (slot j) = (slot i) -/
def sTryE (T : OwnT) (cn : Str) (i j : Nat) (t : TDS) : TDS := fun ρ M => match t ρ M with
  | some (.ex x ρ1 M1) => match emGet x.c cn T.em with
    | some true => some (.nx ((ρ1.set j (some (.t x.d))).set i none) M1)
    | some false => some (.ex x ρ1 M1)
    | none => none
  | o => o
section
variable {X : Cx} {N : En} {W : WX} {T : OwnT}
theorem ds_tryE {x n m : Str} {i j : Nat} {body : List Stmt} {np mp ap n2 pos pos' : Pos} {t : TDS} (O : OwnOk X.K X.mg T) (hs : X.stack = X.env :: X.outer) (hf : X.env.frame = some X.env.locals) (hN : X.N.Nodup) (hi : X.N[i]? = some n) (hj : X.N[j]? = some m) (hln : X.env.kindOf n = some .local) (hlm : X.env.kindOf m = some .local) (hij : i ≠ j)
    (hx : x ∈ T.cs ∨ x ∈ T.xs) (hg : Gl X x) (tk : Takes X W) (hex : X.ex = [])
    (hb : ∀ (W' : WX) (pn : List (Addr × Obj)) (xe : Value → Shared → Prop), Takes (X.tr pn xe) W' → DSs (X.tr pn xe) N W' body t)
    (hdx : (x == ("__debug__" : Str)) = false := by decide) (hdn : (n == ("__debug__" : Str)) = false := by decide) (hcn : (n == ("__classdict__" : Str)) = false := by decide) :
    DS1 X N W (.Try body [.ExceptHandler (some (.Name x np)) (some n) [.Assign [.Name m mp] (.Name n n2) ap] pos'] [] [] pos) (sTryE T x i j t) := by
  obtain ⟨C, hC⟩ := O.ref x hx
  refine ps_imp (ps_try_esc (c := .ref C) (tb := fun W' => tS X.K X.mg N W' t) hs hf hN hi hj hln hlm hij ⟨hg, hdx, .inl hC⟩ tk hex (fun W' pn xe tk' _ => hb W' pn xe tk') hdn hcn) fun E σ H q => ?_
  obtain ⟨ι, S, own, ρ, M, c, q⟩ := q
  refine ⟨ι, S, own, ρ, M, c, ?_⟩
  unfold sTryE at q
  cases e1 : t ρ M with
  | none => rw [e1] at q; exact q
  | some o =>
    rw [e1] at q
    cases o with
    | nx ρ' M' => exact q
    | rt d M' => exact q
    | bk ρ' M' => exact q
    | ct ρ' M' => exact q
    | ex xv ρ1 M1 =>
      intro σ' cls dd ι1 S1 H1 own1 c1 x1 ex
      simp only at q
      cases e2 : emGet xv.c x T.em with
      | none => rw [e2] at q; exact q.elim
      | some b =>
        rw [e2] at q
        obtain ⟨C1, m1, rfl, at_⟩ := id ex
        refine ⟨b, O.em _ _ _ (emGet_mem e2) _ _ m1 hC, fun hb => ?_, fun hb => ?_⟩
        · subst hb
          intro a na
          have c2 := c1.alloc (o := exV a (.ref C1) dd) na (fun ps z => nomatch (show HO.ext _ = HO.tbl ps from z))
          have x2 : Ext S1 ι1 H1 (addS S1 a) ι1 (upd H1 a (exV a (.ref C1) dd)) := c1.ok.alloc_ext na
          have dn : Dn X.K X.mg (addS S1 a) ι1 (upd H1 a (exV a (.ref C1) dd)) (.ref a) xv.d := by
            rcases at_ with ⟨rfl, h1, h2⟩ | ⟨dx, xs, rfl, h1, h2, h3, h4⟩
            · unfold XV.d
              rw [h1, h2]
              exact .exn0 (.inr rfl) ⟨_, upd_same, fun h z => z⟩ m1
            · exact .exn (.inr rfl) ⟨_, upd_same, fun h z => z⟩ (.inl h1) (by rw [upd_ne (ne_of_none h2 na)]; exact h2) h3 m1 (h4.ext x2)
          exact q _ ι1 _ _ _ ((c2.store (i := j) dn).unset i) (x1.trans x2)
        · subst hb
          exact q σ' (.ref C1) dd ι1 S1 H1 own1 c1 x1 ex
end
end DL
set_option maxHeartbeats 4000000
namespace DL
open PySem PySem.Spec PyProof.Rows L2 LamX

/-! ### a lambda without parameters, handed to a def that calls it -/
section
variable {X : Cx} {pins : List (Addr × Obj)} {σ : L2.St} {H HZ : Hp} {s s1 : Shared}
/-- the def's context, within a try's body -/
abbrev actCx (X : Cx) (Ng : List Str) (qg : Str) (sg : Scope) (g : Addr) (cdg : Value) (s : Shared) (H : Hp) (pn : List (Addr × Obj)) (xe : Value → Shared → Prop) : Cx :=
  (cxOf C8.CX0 X.prog X.w X.K X.mg X.base Ng qg sg g cdg X.A X.stack s H C8.E0).tr pn xe
/-- what the def's name calls: the exception is wished for by the slots as they stand -/
theorem act_pe {Ng : List Str} {qg : Str} {sg : Scope} {g f c' : Addr} {cdg pm ctv : Value} {params : Arguments} {body : Expr} {scope : Scope} {k i : Nat} {a : Str} {pn : List (Addr × Obj)} {xe : Value → Shared → Prop} {W : WX} {tb : XK → TE} {p1 p2 : Pos}
    (I : Inv X pins σ H s) (L : LamS X.env.scope scope) (hf : s.heap.get? f = some (PySem.W.kla_obj "<lambda>" (X.env.qual ++ "<lambda>") params body scope (cloFrom X.env.cells scope.names []) pm c' ctv)) (hfn : H f = none) (hfr : f ∉ frs X.stack)
    (hbind : bindArgs (PySem.W.kla_fn "<lambda>" (X.env.qual ++ "<lambda>") params body scope (cloFrom X.env.cells scope.names []) pm (.ref c') ctv) ⟨[], []⟩ = pure [])
    (tk : Takes (actCx X Ng qg sg g cdg s H pn xe) W) (hg : Calm (X.A.deeper (envOfC qg sg s.heap.objs.size g cdg))) (hr : Room (k + 1) (X.A.deeper (envOfC qg sg s.heap.objs.size g cdg)))
    (hbody : ∀ (E : XK) (A : Around) (outer : List Env) (s : Shared) (H : Hp), Calm (A.deeper (lamEnv X scope s.heap.objs.size f c')) → Room k (A.deeper (lamEnv X scope s.heap.objs.size f c')) → PE (lamCx X A outer s H E scope f c') body (tb E))
    (hN : Ng[i]? = some a) (hv : Vis sg a) (hd : (a == ("__debug__" : Str)) = false := by decide) (hcd : (a == ("__classdict__" : Str)) = false := by decide) :
    PE (actCx X Ng qg sg g cdg s H pn xe) (.Call (.Name a p1) [] [] p2) (fun σZ HZ Q => σZ[i]? = some (some (.ref f)) ∧ HZ c' = some (CodeO c' (X.env.qual ++ "<lambda>")) ∧ tb (WE W σZ) σ HZ Q) := by
  refine ⟨fun pz sz σZ HZ Q IZ h => ?_⟩
  obtain ⟨hs, hc, ht⟩ := h
  have name := (pe_var (X := actCx X Ng qg sg g cdg s H pn xe) (pos := p1) (i := i) hN hv hd hcd).run pz sz σZ HZ (fun v H1 => v = .ref f ∧ H1 = HZ) IZ ⟨.ref f, hs, rfl, rfl⟩
  refine wpAny_Call_Name_kw (thn name fun u s1 hu => ?_)
  obtain ⟨v, H1, I1, r1, rfl, rfl⟩ := hu
  cases (show u = Value.ref f from r1)
  -- the lambda's object stands as it was made
  have of1 := I1.base.keep f _ hf hfn hfr (fun z => nomatch (show f ∈ ([] : List Addr) from z))
  have un : Un (frs X.stack) [] H H1 s.heap s1.heap := I1.base
  obtain ⟨⟨oc, vs, t, hoc, hdc, hvc⟩, _, _⟩ := I1.hok c' _ hc
  refine PySem.W.callWith_F0 ⟨_, _, _, _, of1⟩ ?_
  refine wpAny_call (codeAny_mono (R := CR (L2.CX X.prog X.w) (envOfC qg sg s.heap.objs.size g cdg :: X.stack) X.prog X.w H1 s1 Q (WE W σZ)) ?_ fun r s' hq => ?_)
  · refine PySem.W.kla_callFunE hr.depth of1 rfl L.co L.gen rfl ⟨c', oc, vs, t, rfl, hoc, hdc, hvc⟩ ?_
    have hb2 : bindArgs (PySem.W.kla_fn "<lambda>" (X.env.qual ++ "<lambda>") params body scope (cloFrom X.env.cells scope.names []) pm (.ref c') ctv) ⟨[] ++ [], []⟩ = pure [] := hbind
    rw [hb2]
    refine wpAny_pure (wpAny_newFunctionEnv (fun y hy => (L.own y hy).2) (fun y hy => nomatch hy) (fun h₁ hns hsb => ⟨I1.nolimit.fresh _ hsb, ?_⟩) L.kind)
    show codeAny _ _ (.expr body (lamEnv X scope s1.heap.objs.size f c')) _ _
    have kp : ∀ b o, s1.heap.get? b = some o → h₁.get? b = some o := fun b o e => by
      exact hsb.extBut b o (Nat.ne_of_lt (Heap.lt_size e)) (Heap.get?_push_of_some _ e)
    have J := lam_start2 (A := X.A.deeper (envOfC qg sg s.heap.objs.size g cdg)) (outer := envOfC qg sg s.heap.objs.size g cdg :: X.stack) (E := WE W σZ) (f := f) (c' := c') (tk := s1.toks + ([] : List (Str × Value)).length) I L I1.env0 hr.hd un hns kp
    refine PySem.W.kla_codeExpr (wpAny_mono ((hbody _ (X.A.deeper (envOfC qg sg s.heap.objs.size g cdg)) _ s1 H1 hg (hr.deeper _)).run [] _ _ H1 Q J ht) (fun v s' hq => ?_) fun e s' hq => hq)
    obtain ⟨w', H', J', rv, q⟩ := hq
    exact ⟨w', H', J'.os, J'.bare, J'.base, J'.hok, rv, q⟩
  · cases r with
    | error e => exact passAt tk σZ pz H1 s1 e s' I1 hq
    | ok fl =>
      cases fl with
      | ret u => exact I1.after hq
      | next => exact hq.elim
      | brk => exact hq.elim
      | cont => exact hq.elim
/-- the lambda is made; the heap is the same, or has one code object more -/
theorem lam_new {T : List (Addr × Str)} {c P : Addr} {params : Arguments} {body : Expr} {scope : Scope} {pos : Pos} {E : Value → Shared → Prop} {Q : Value → Shared → Prop} (I : Inv X pins σ H s) (TB : TabB X.base X.mg c P) (hcode : X.env.code = .ref c)
    (hm : (P, X.env.qual ++ "<lambda>") ∈ T) (hu : ∀ p ∈ T, p.1 = P → p.2 = X.env.qual ++ "<lambda>") (hT : TbOk T H) (hdef : defaultsOf params X.env = ([], [])) (hfree : ∀ y ∈ scope.names, y.2 = .free → ∃ c, X.env.cells.lookup y.1 = some c)
    (h : ∀ (f c' : Addr) (pm ctv : Value) (H1 : Hp) (s' : Shared), Inv X pins σ H1 s' → ExtN H H1 → (∀ a, H a ≠ none → H1 a ≠ none) → TbOk T H1 →
      s'.heap.get? f = some (PySem.W.kla_obj "<lambda>" (X.env.qual ++ "<lambda>") params body scope (cloFrom X.env.cells scope.names []) pm c' ctv) → H1 f = none → f ∉ frs X.stack → H1 c' = some (CodeO c' (X.env.qual ++ "<lambda>")) → Q (.ref f) s') :
    wpAny (model X.prog X.w) X.A (eval (.Lambda params body scope pos) X.env) Q E s := by
  obtain ⟨ps, hP, ht, ha⟩ := hT.tabs _ hm
  have bP : s.heap.BuiltinsAt X.mg P := TB.bm.keeps I.bk
  have hP' : s.heap.get? P = some { cls := .none, data := .fields ps } := I.hok P _ hP
  have away : ∀ f, s.heap.objs.size ≤ f → f ∉ frs X.stack := fun f hf z => by
    rcases List.mem_cons.mp (I.stkSub _ z) with e | e
    · exact absurd (Nat.lt_of_lt_of_le I.lt (by rw [← e]; exact hf)) (Nat.lt_irrefl _)
    · exact I.nofs hf e
  refine PySem.W.kla_eval hdef ?_
  cases hc : codeAmong pos ps.toList with
  | some cv =>
    -- known already
    obtain ⟨c', rfl, hco⟩ := ha pos cv hc
    refine PySem.W.kla_makeFunctionHit (mg := X.mg) (c := c) (P := P) (ps := ps) (closure_ok hfree) I.ok.glob (I.mod.glob.keeps I.bk) hcode (TB.code.keeps I.bk) hP' ht hc bP fun ctv h' tk hx hsz => ?_
    refine h h'.objs.size c' ((X.mg "__name__").getD .none) ctv H _ (I.kept (t' := tk) (h' := h'.push _) fun b o e => Heap.get?_push_of_some _ (hx b o e)) (ExtN.refl H) (fun _ z => z) hT (Heap.get?_push_size _ rfl) (I.hok.fresh hsz) (away _ hsz) hco
  | none =>
    refine PySem.W.kla_makeFunction (mg := X.mg) (c := c) (P := P) (ps := ps) (closure_ok hfree) I.ok.glob (I.mod.glob.keeps I.bk) hcode (TB.code.keeps I.bk) hP' ht hc TB.gP bP fun c' ctv h' tk hx hge hlt hrec htb => ?_
    obtain ⟨c2, oc, vs, t, e2, hoc, hd, hv⟩ := hrec
    cases e2
    have nC : H c' = none := I.hok.fresh hge
    have hsz : s.heap.objs.size ≤ h'.objs.size := Nat.le_trans hge (Nat.le_of_lt hlt)
    have I1 := inv_table (t' := tk) (more := #[rawInt pos.line, rawInt pos.col, .ref c']) (h' := h'.push (PySem.W.kla_obj "<lambda>" (X.env.qual ++ "<lambda>") params body scope (cloFrom X.env.cells scope.names []) ((X.mg "__name__").getD .none) c' ctv)) I hP
      (fun b o hb e => by exact Heap.get?_push_of_some _ (hx b o hb e)) (by exact Heap.get?_push_of_some _ htb) hge ⟨oc, vs, t, by exact Heap.get?_push_of_some _ hoc, hd, hv⟩
    generalize hps : ps ++ #[rawInt pos.line, rawInt pos.col, .ref c'] = ps2 at I1
    have eL : ps2.toList = ps.toList ++ [rawInt pos.line, rawInt pos.col, .ref c'] := by rw [← hps]; simp
    generalize hH1 : upd (upd H P (.tbl ps2)) c' (CodeO c' (X.env.qual ++ "<lambda>")) = H1 at I1
    have ext : ExtN H H1 := fun b o e n => by
      rw [← hH1, upd_ne (ne_of_none e nC), upd_ne (fun z => n ps (by rw [z, hP] at e; exact (Option.some.inj e).symm))]
      exact e
    have atC : H1 c' = some (CodeO c' (X.env.qual ++ "<lambda>")) := by rw [← hH1, upd_same]
    have atP : H1 P = some (.tbl ps2) := by rw [← hH1, upd_ne (ne_of_none hP nC), upd_same]
    have nP : ∀ b, b ≠ P → H b ≠ none → H1 b = H b := fun b hb hn => by
      rw [← hH1, upd_ne (fun z => hn (by rw [z]; exact nC)), upd_ne hb]
    have stays : ∀ a, H a ≠ none → H1 a ≠ none := fun a hn => by
      by_cases hb : a = P
      · rw [hb, atP]; exact fun z => nomatch z
      · rw [nP a hb hn]; exact hn
    refine h h'.objs.size c' ((X.mg "__name__").getD .none) ctv H1 _ I1 ext stays ⟨fun p hp => ?_, fun a qs e => ?_⟩ (Heap.get?_push_size _ rfl) ?_ (away _ hsz) atC
    · by_cases hb : p.1 = P
      · rw [hu p hp hb, hb]
        refine ⟨ps2, atP, by rw [eL]; exact PySem.TriplesOk_snoc _ _ _ _ ht, fun p' cv hcv => ?_⟩
        rw [eL] at hcv
        rcases among_app _ ht hcv with z | z
        · obtain ⟨c0, e1, e2⟩ := ha p' cv z
          exact ⟨c0, e1, ext _ _ e2 codeO_ne⟩
        · exact ⟨c', z, atC⟩
      · obtain ⟨ps', a1, a2, a3⟩ := hT.tabs p hp
        refine ⟨ps', by rw [nP _ hb (by rw [a1]; exact fun z => nomatch z)]; exact a1, a2, fun p' cv hcv => ?_⟩
        obtain ⟨c0, e1, e2⟩ := a3 p' cv hcv
        exact ⟨c0, e1, ext _ _ e2 codeO_ne⟩
    · by_cases hb : a = P
      · rw [hb]; exact ⟨_, hm⟩
      · by_cases hb2 : a = c'
        · rw [hb2, atC] at e
          exact absurd (Option.some.inj e) (codeO_ne qs)
        · rw [← hH1, upd_ne hb2, upd_ne hb] at e
          exact hT.all a qs e
    · have n1 : h'.objs.size ≠ c' := Nat.ne_of_gt hlt
      have n2 : h'.objs.size ≠ P := Nat.ne_of_gt (Nat.lt_of_lt_of_le (Heap.lt_size hP') hsz)
      rw [← hH1, upd_ne n1, upd_ne n2]
      exact I.hok.fresh hsz
end
section
variable {K : PySem.W.Frag} {mg : Str → Option Value} {N : En} {ι : List Addr} {M : MS} {S : AP} {H H1 : Hp} {own : OwnM} {σ : L2.St} {ρ : DS}
theorem Ok.extN (k : Ok K mg N ι M S H own) (e : ExtN H H1) (st : ∀ a, H a ≠ none → H1 a ≠ none) (tb : TbOk N.T H1) : Ok K mg N ι M S H1 own ∧ ExtE S ι H own S ι H1 own := by
  have x : Ext S ι H S ι H1 := ⟨fun _ h => h, fun _ _ h => h, fun a o s h => e a o h (by obtain ⟨o', h1, h2⟩ := k.sat a s; rw [h] at h1; cases h1; exact h2)⟩
  have ow : ∀ i a, own i = some a → H1 a = H a := fun i a h => by
    obtain ⟨o, h1, h2⟩ := (k.oout i a h).2.1
    rw [h1]; exact e a o h1 h2.nt
  refine ⟨⟨k.len, k.pre, k.fresh, fun j a m h1 h2 => (k.objs j a m h1 h2).ext x ?_, k.nd, fun a ha => ⟨(k.iout a ha).1, st a (k.iout a ha).2⟩, fun i a h => ?_, k.oinj, k.ofin, k.sub, k.new, fun a o h1 h2 h3 => e a o (k.keep a o h1 h2 h3) h3, fun a h => st a (k.trk a h), fun a h => ?_, tb⟩, x, fun i a h => ⟨ow i a h, .inl h⟩⟩
  · have q := k.objs j a m h1 h2
    cases m with
    | lst ds => obtain ⟨xs, g, _⟩ := q; rw [g]; exact e a _ g (fun _ z => nomatch z)
    | dct ks ds => obtain ⟨xs, g, _⟩ := q; rw [g]; exact e a _ g (fun _ z => nomatch z)
    | ins c ks ds => obtain ⟨C, dx, xs, g, _⟩ := q; rw [g]; exact e a _ g (fun _ z => nomatch z)
  · have q := k.oout i a h
    exact ⟨q.1, by rw [ow i a h]; exact q.2.1, q.2.2⟩
  · obtain ⟨o, h1, h2⟩ := k.sat a h
    exact ⟨o, e a o h1 h2, h2⟩
/-- a code object is none of the store's -/
theorem Ok.notExt (k : Ok K mg N ι M S H own) {a : Addr} {φ : Heap → Prop} (h : H a = some (.ext φ)) : a ∉ ι := fun z => by
  obtain ⟨j, hj⟩ := List.mem_iff_getElem?.mp z
  have hl : j < M.length := by rw [← k.len]; exact (List.getElem?_eq_some_iff.mp hj).1
  have q := k.objs j a _ hj (List.getElem?_eq_getElem hl)
  cases hm : M[j] with
  | lst ds => rw [hm] at q; obtain ⟨xs, g, _⟩ := q; rw [h] at g; cases g
  | dct ks ds => rw [hm] at q; obtain ⟨xs, g, _⟩ := q; rw [h] at g; cases g
  | ins c ks ds => rw [hm] at q; obtain ⟨C, dx, xs, g, _⟩ := q; rw [h] at g; cases g
end
/-- what the lambda sees of the slots -/
def lamS (ρ : DS) : DS := ρ.map fun
  | some (.t d) => some (.t d)
  | _ => none
theorem lamS_get {ρ : DS} {i : Nat} {x : SV} (h : (lamS ρ)[i]? = some (some x)) : ∃ d, x = .t d ∧ ρ[i]? = some (some (.t d)) := by
  unfold lamS at h
  rw [List.getElem?_map] at h
  cases e : ρ[i]? with
  | none => rw [e] at h; cases h
  | some o =>
    rw [e] at h
    cases o with
    | none => cases h
    | some y => cases y <;> first | (cases h; done) | (cases h; exact ⟨_, rfl, rfl⟩)
/-- the lambda, called -/
def lamAct (t : TDE) (ρ : DS) : MS → Option FO := fun M => match t (lamS ρ) M with
  | some (.ok d _ M') => some (.ret d M')
  | some (.ex x _ M') => some (.exc x M')
  | none => none
/-- ask(), ask the name in slot i -/
def dAct (i : Nat) (f0 : Addr) (act : MS → Option FO) : TDE := fun ρ M => match ρ[i]? with
  | some (some (.fnv f)) => if f = f0 then dRet (act M) ρ M else none
  | _ => none
/-- the def that calls what it got -/
abbrev THd := Addr → (MS → Option FO) → TDS
def heardRun (m : THd) (n : Nat) (f0 : Addr) (act : MS → Option FO) (M : MS) : Option FO := match m f0 act (some (.fnv f0) :: List.replicate (n - 1) none) M with
  | some (.nx _ M') => some (.ret .non M')
  | some (.rt d M') => some (.ret d M')
  | _ => none
open Classical in
noncomputable def sameH (m : THd) (n : Nat) (act : MS → Option FO) (M : MS) : Option FO := if h : ∃ r, ∀ f0, heardRun m n f0 act M = some r then some (choose h) else none
theorem sameH_of {m : THd} {n : Nat} {act : MS → Option FO} {M : MS} {r : FO} (h : ∀ f0, heardRun m n f0 act M = some r) : sameH m n act M = some r := by
  have hx : ∃ r, ∀ f0, heardRun m n f0 act M = some r := ⟨r, h⟩
  unfold sameH
  rw [dif_pos hx]
  have := Classical.choose_spec hx 0
  rw [h 0] at this
  exact this.symm
theorem sameH_get {m : THd} {n : Nat} {act : MS → Option FO} {M : MS} {r : FO} (h : sameH m n act M = some r) : ∀ f0, heardRun m n f0 act M = some r := by
  unfold sameH at h
  split at h
  · rename_i hx
    cases h
    exact Classical.choose_spec hx
  · cases h
noncomputable def dHeard (m : THd) (n : Nat) (t : TDE) : TDE := fun ρ M => match sameH m n (lamAct t ρ) M with
  | some (.ret d M') => some (.ok d ρ M')
  | _ => none
theorem env_startF {K : PySem.W.Frag} {mg : Str → Option Value} {S : AP} {ι : List Addr} {H : Hp} {f : Addr} {Ns : List Str} (hl : 1 ≤ Ns.length) (hb : Ns.length ≤ slotsB) :
    EnvOk K mg S ι H own0 (L2.start Ns [.ref f]) (some (SV.fnv f) :: List.replicate (Ns.length - 1) none) := by
  have hlen : (some (SV.fnv f) :: List.replicate (Ns.length - 1) none).length = Ns.length := by
    rw [List.length_cons, List.length_replicate]; omega
  refine ⟨?_, by rw [hlen]; exact hb, fun _ _ _ => rfl, fun i y q => ?_, fun _ _ => rfl⟩
  · rw [hlen]; simp [L2.start]; omega
  · cases i with
    | zero => cases q; exact ⟨.ref f, rfl, rfl, rfl⟩
    | succ i =>
      have q : (List.replicate (Ns.length - 1) (none : Option SV))[i]? = some (some y) := q
      rw [List.getElem?_replicate] at q
      split at q <;> cases q
/-- what is known of the def that calls what it got -/
structure Hk (P : Program) (w : World) (K : PySem.W.Frag) (mg : Str → Option Value) (base : Heap) (T : List (Addr × Str)) (x : Str) (st : Stmt) (k : Nat) (Ng : List Str) (a : Str) (m : THd) : Prop where
  ex : ∃ g fd, FunD K x x (defArgs st) (defBody st) (defScope st) [] [] g fd ∧ mg x = some (.ref g)
  S : FnScope Ng [a] (defScope st)
  slot : Ng[0]? = some a
  vis : Vis (defScope st) a
  big : 1 ≤ Ng.length ∧ Ng.length ≤ slotsB
  bnd : ∀ (kV doc pm : Value) (an : Option Addr) (cdv ct u : Value), bindArgs (PySem.W.fnOf x x (defArgs st) (defBody st) (defScope st) .none kV doc pm an cdv ct) ⟨[u], []⟩ = pure ([a].zip [u])
  run : ∀ (g : Addr) (cdv : Value) (A : Around) (outer : List Env) (s : Shared) (H : Hp) (N : En) (f0 : Addr) (act : MS → Option FO), N.T = T → Calm (A.deeper (envOfC x (defScope st) s.heap.objs.size g cdv)) → Room k (A.deeper (envOfC x (defScope st) s.heap.objs.size g cdv)) →
    (∀ (W : WX) (pn : List (Addr × Obj)) (xe : Value → Shared → Prop) (p1 p2 : Pos), Takes ((cxOf C8.CX0 P w K mg base Ng x (defScope st) g cdv A outer s H C8.E0).tr pn xe) W → DE ((cxOf C8.CX0 P w K mg base Ng x (defScope st) g cdv A outer s H C8.E0).tr pn xe) N W (.Call (.Name a p1) [] [] p2) (dAct 0 f0 act)) →
    DSs (cxOf C8.CX0 P w K mg base Ng x (defScope st) g cdv A outer s H C8.E0).nox N W0 (defBody st) (m f0 act)
section
variable {X : Cx} {N : En} {W : WX} {x a : Str} {st : Stmt} {k j : Nat} {Ng : List Str} {m : THd} {params : Arguments} {body : Expr} {scope : Scope} {t : TDE} {p lpos pos : Pos}
/-- x(lambda: body) -/
theorem de_heard (F : Hk X.prog X.w X.K X.mg X.base N.T x st k Ng a m) (hg : Calm X.A) (hr : Room (k + 1) X.A) (hr2 : Room (j + 2) X.A)
    (ML : ∃ c P, X.env.code = .ref c ∧ TabB X.base X.mg c P ∧ (P, X.env.qual ++ "<lambda>") ∈ N.T ∧ ∀ p ∈ N.T, p.1 = P → p.2 = X.env.qual ++ "<lambda>") (L : LamS X.env.scope scope)
    (hb : ∀ (E : XK) (A : Around) (outer : List Env) (s : Shared) (H : Hp) (f c' : Addr) (N' : En), N'.T = N.T → Calm (A.deeper (lamEnv X scope s.heap.objs.size f c')) → Room j (A.deeper (lamEnv X scope s.heap.objs.size f c')) → Takes (lamCx X A outer s H E scope f c') (fun cls d _ H => E cls d H) →
      DE (lamCx X A outer s H E scope f c') N' (fun cls d _ H => E cls d H) body t)
    (hdef : defaultsOf params X.env = ([], []) := by rfl) (hbind : ∀ (q : Str) (cl : List (Str × Addr)) (pm cv ctv : Value), bindArgs (PySem.W.kla_fn "<lambda>" q params body scope cl pm cv ctv) ⟨[], []⟩ = pure [] := by exact fun _ _ _ _ _ => rfl)
    (hgl : Gl X x := by rfl) (hdb : (x == ("__debug__" : Str)) = false := by decide) (hd : (a == ("__debug__" : Str)) = false := by decide) (hcd : (a == ("__classdict__" : Str)) = false := by decide) :
    DE X N W (.Call (.Name x p) [.Lambda params body scope lpos] [] pos) (dHeard m Ng.length t) := by
  obtain ⟨c, P, hcode, TB, hmT, hu⟩ := ML
  obtain ⟨g, fd, FD, hm⟩ := F.ex
  have kp := FD.kp
  obtain ⟨oc, od, dV, kV, doc, pm, an, cdv, ct, osl, rfl, lk, hcdv, hD, _⟩ := FD.ex
  obtain ⟨_, rfl⟩ : ([] : List V) = [] ∧ dV = .none := by
    rcases hD with ⟨h1, h2⟩ | ⟨h1, _⟩
    · exact ⟨h1, h2⟩
    · exact absurd rfl h1
  refine ⟨fun pins s σ H Q I h => ?_⟩
  obtain ⟨ι, S, own, ρ, M, cu, q⟩ := h
  refine wpAny_Call_Name_kw (ld_glob I hgl hm ?_ hdb)
  refine PySem.W.callWith_K (h₀ := X.base) I.ok.mod.kin kp ?_ (by rfl) (by rfl)
  show wpAny _ _ (spliced ((false, eval (.Lambda params body scope lpos) X.env) :: backTo pos (starEach [] X.env))) _ _ s
  refine Calls.spliced_cons (lam_new I TB hcode hmT hu cu.ok.tb hdef (L.has I.ok) fun f c' pm' ctv H1 s' I1 eN stays T1 hf hfn hfr hco => ?_)
  refine Calls.spliced_nil ⟨I1.kIn, ?_⟩
  obtain ⟨k1, e1⟩ := cu.ok.extN eN stays T1
  -- what the heard def gives
  unfold dHeard at q
  cases er : sameH m Ng.length (lamAct t ρ) M with
  | none => rw [er] at q; exact q.elim
  | some r =>
    rw [er] at q
    have hrun := sameH_get er f
    have rc : codeAny (model X.prog X.w) X.A (.call (.ref g) ⟨[.ref f], []⟩) (CR C8.CX0 X.stack X.prog X.w H1 s' Q C8.E0) s' := by
      refine run_ofS (k := k) (N := Ng) (ps := [a]) (us := [.ref f]) (vs := [.ref f]) lk hcdv F.S hr I1.env0 (.of_eq (F.bnd _ _ _ _ _ _ _)) (.cons rfl .nil) rfl fun hr' => ?_
      have body_ := F.run g cdv X.A X.stack s' H1 ⟨H1, S, ι, N.T⟩ f (lamAct t ρ) rfl hg hr' fun W' pn xe p1 p2 tk => ?act
      case act =>
        have pa := act_pe (X := X) (tb := fun E σ HZ Q => ∃ N' : En, N'.T = N.T ∧ tD X.K X.mg N' (fun cls d _ H => E cls d H) t σ HZ Q) (k := j) (i := 0) (pn := pn) (xe := xe) (W := W') (p1 := p1) (p2 := p2) I1 L hf hfn hfr (hbind _ _ _ _ _) tk hg (hr2.deeper _)
          (fun E A outer s H hc2 hr3 => ⟨fun pins s2 σ2 H2 Q2 I2 ⟨N', hT', q2⟩ => (hb E A outer s H f c' N' hT' hc2 hr3 (takes_of rfl rfl rfl rfl)).run pins s2 σ2 H2 Q2 I2 q2⟩) F.slot F.vis hd hcd
        refine pe_imp pa fun σZ HZ QZ qz => ?_
        obtain ⟨ι', S', own', ρ', M', cz, qz⟩ := qz
        unfold dAct at qz
        cases e0 : ρ'[0]? with
        | none => rw [e0] at qz; exact qz.elim
        | some o0 =>
          rw [e0] at qz
          cases o0 with
          | none => exact qz.elim
          | some sv =>
            cases sv with
            | fnv f2 =>
              simp only at qz
              split at qz
              case isFalse => exact qz.elim
              rename_i hf2
              subst hf2
              obtain ⟨v, h1, _, rfl⟩ := cz.env.at_ 0 _ e0
              have hx : Ext S ι H1 S' ι' HZ := (k1.back cz.ok.noOwn).2.ext
              refine ⟨h1, cz.ok.keep c' _ hco (k1.notExt hco) (fun _ => codeO_ne _), ⟨HZ, S', ι', N.T⟩, rfl, ι', S', own0, lamS ρ, M', ⟨cz.ok.enter, ⟨by unfold lamS; rw [List.length_map]; exact cu.env.len, by unfold lamS; rw [List.length_map]; exact cu.env.big, fun _ _ _ => rfl, fun i y hy => ?_, fun _ _ => rfl⟩⟩, ?_⟩
              · obtain ⟨d, rfl, hy2⟩ := lamS_get hy
                obtain ⟨v, g1, _, g2⟩ := cu.env.at_ i _ hy2
                exact ⟨v, g1, rfl, (g2.ext e1.ext).ext hx⟩
              · unfold lamAct at qz
                cases et : t (lamS ρ) M' with
                | none => rw [et] at qz; exact qz.elim
                | some o =>
                  rw [et] at qz
                  cases o with
                  | ok d ρ2 M2 =>
                    intro v ι2 S2 H2 own2 c2 x2 dn
                    obtain ⟨b1, b2⟩ := cz.ok.back c2.ok.noOwn
                    exact qz v ι2 S2 H2 own' ⟨b1, cz.env.ext b2.ext fun i a h => (b2.ow i a h).1⟩ b2 dn
                  | ex xv ρ2 M2 =>
                    intro cls dd ι2 S2 H2 own2 c2 x2 ex
                    obtain ⟨b1, b2⟩ := cz.ok.back c2.ok.noOwn
                    exact qz cls dd ι2 S2 H2 own' ⟨b1, cz.env.ext b2.ext fun i a h => (b2.ow i a h).1⟩ b2.ext ex
            | _ => exact qz.elim
      refine ⟨_, PSs.nox body_, ι, S, own0, _, M, ⟨k1.enter, env_startF F.big.1 F.big.2⟩, ?_⟩
      have fin : ∀ d M', r = .ret d M' → ∀ v ι' S' H', Ok X.K X.mg ⟨H1, S, ι, N.T⟩ ι' M' S' H' own0 → Dn X.K X.mg S' ι' H' v d → Q v H' := fun d M' e v ι' S' H' k' dn => by
        subst e
        obtain ⟨b1, b2⟩ := k1.back k'
        exact q v ι' S' H' own ⟨b1, cu.env.ext (e1.ext.trans b2.ext) fun i a h => ((b2.ow i a h).1.trans (e1.ow i a h).1)⟩ (e1.trans cu.ok b2) dn
      unfold heardRun at hrun
      cases em : m f (lamAct t ρ) (some (SV.fnv f) :: List.replicate (Ng.length - 1) none) M with
      | none => rw [em] at hrun; cases hrun
      | some o =>
        rw [em] at hrun
        cases o with
        | nx ρ' M' =>
          cases hrun
          exact fun σ' ι' S' H' own' c' x' => fin _ _ rfl .non ι' S' H' c'.ok.noOwn .non
        | rt d M' =>
          cases hrun
          exact fun v ι' S' H' k' x' dn => fin _ _ rfl v ι' S' H' k' dn
        | bk _ _ => cases hrun
        | ct _ _ => cases hrun
        | ex _ _ _ => cases hrun
    refine wpAny_call (codeAny_mono rc fun r' s2 hq => ?_)
    cases r' with
    | error e => exact (show False from hq).elim
    | ok fl =>
      cases fl with
      | ret u => exact I1.after hq
      | next => exact hq.elim
      | brk => exact hq.elim
      | cont => exact hq.elim
end
end DL
set_option maxHeartbeats 4000000
namespace DL
open PySem PySem.Spec PyProof.Rows L2

/-! ### a name that holds a def, called -/
def tDV (K : PySem.W.Frag) (mg : Str → Option Value) (N : En) (W : WX) (i : Nat) (x : Str) (t : TDE) : TE := fun σ H Q => ∃ ι S own ρ M, Cur K mg N ι S H own σ ρ M ∧ ρ[i]? = some (some (.t (.gl x))) ∧ postD K mg N W ι S H own σ Q (t ρ M)
abbrev DV (X : Cx) (N : En) (W : WX) (i : Nat) (x : Str) (e : Expr) (t : TDE) : Prop := PE X e (tDV X.K X.mg N W i x t)
def dCallV (i : Nat) (alts : List (Str × TDE)) : TDE := fun ρ M => match ρ[i]? with
  | some (some (.t (.gl x))) => match alts.lookup x with
    | some t => t ρ M
    | none => none
  | _ => none
inductive DVs (X : Cx) (N : En) (W : WX) (i : Nat) (e : Expr) : List (Str × TDE) → Prop
  | nil : DVs X N W i e []
  | cons {x : Str} {t : TDE} {l : List (Str × TDE)} (h : DV X N W i x e t) (r : DVs X N W i e l) : DVs X N W i e ((x, t) :: l)
section
variable {X : Cx} {N : En} {W : WX}
theorem DVs.get {i : Nat} {e : Expr} {x : Str} {t : TDE} : ∀ {l : List (Str × TDE)}, DVs X N W i e l → l.lookup x = some t → DV X N W i x e t
  | _, .nil, h => nomatch h
  | _, .cons (x := y) (t := u) (l := l) d r, h => by
    rw [List.lookup_cons] at h
    cases e1 : (x == y) with
    | true =>
      rw [e1] at h
      cases h
      rw [beq_iff_eq.mp e1]
      exact d
    | false =>
      rw [e1] at h
      exact r.get h
theorem de_callV {i : Nat} {e : Expr} {alts : List (Str × TDE)} (h : DVs X N W i e alts) : DE X N W e (dCallV i alts) := by
  refine ⟨fun pins s σ H Q I q => ?_⟩
  obtain ⟨ι, S, own, ρ, M, c, q⟩ := q
  unfold dCallV at q
  cases e1 : ρ[i]? with
  | none => rw [e1] at q; exact q.elim
  | some o =>
    rw [e1] at q
    cases o with
    | none => exact q.elim
    | some sv =>
      cases sv with
      | t d =>
        cases d with
        | gl x =>
          simp only at q
          cases e2 : alts.lookup x with
          | none => rw [e2] at q; exact q.elim
          | some t =>
            rw [e2] at q
            exact (h.get e2).run pins s σ H Q I ⟨ι, S, own, ρ, M, c, e1, q⟩
        | _ => exact q.elim
      | _ => exact q.elim
variable {k n i : Nat} {f : Addr} {fd : FuncData} {ps ks : List Str} {φ : DF} {sel : List Src} {dvs : List V} {dds : List D} {x y : Str} {p pos : Pos} {e : Expr} {es : List Expr} {kws : List Keyword} {a b : TDA}
theorem gl_ref {K : PySem.W.Frag} {mg : Str → Option Value} {S : AP} {ι : List Addr} {H : Hp} {v : V} {x : Str} {f : Addr} (h : Dn K mg S ι H v (.gl x)) (hm : mg x = some (.ref f)) : v = .ref f := by
  cases h with
  | gl m r =>
    rw [hm] at m
    cases m
    cases v with
    | ref a =>
      have r' : Value.ref f = Value.ref a := r
      cases r'
      rfl
    | non => exact nomatch (show Value.ref f = Value.none from r)
    | bl b => exact nomatch (show Value.ref f = Value.bool b from r)
    | int i => obtain ⟨t, z⟩ := (show ∃ t, Value.ref f = Value.int i t from r); cases z
    | str x => obtain ⟨t, z⟩ := (show ∃ t, Value.ref f = Value.str x t from r); cases z
    | byt x => obtain ⟨t, z⟩ := (show ∃ t, Value.ref f = Value.bytes x t from r); cases z
    | flt x => obtain ⟨t, z⟩ := (show ∃ t, Value.ref f = Value.float x t from r); cases z
    | ty n => exact nomatch (show Value.ref f = Value.type n from r)
/-- y(e, ..), y's slot holding the def x -/
theorem dv_call (F : Fk X.prog X.w X.K X.mg X.base N.T x k f fd ps φ) (hy : PE X (.Name y p) (tVar i)) (hg : Calm X.A) (hr : Room k X.A) (tk : Takes X W) (hb : CB X.K fd ps dvs n [] sel) (hd : ∀ S ι H, Dns X.K X.mg S ι H dvs dds) (ha : DA X N W (e :: es) a)
    (he : starEach (e :: es) X.env = (false, eval e X.env) :: starEach es X.env := by rfl) (hpl : (backTo pos (starEach es X.env)).any (·.1) = false := by rfl) :
    DV X N W i x (.Call (.Name y p) (e :: es) [] pos) (aBind a fun ds => fits n ds (fits ps.length (pick sel ds dds []) (dApp φ (pick sel ds dds [])))) := by
  refine ⟨fun pins s σ H Q I h => ?_⟩
  obtain ⟨ι, S, own, ρ, M, c, ex, q⟩ := h
  obtain ⟨v, h1, _, h2⟩ := c.env.at_ i _ ex
  cases gl_ref h2 F.at_
  refine wpAny_Call_Name_kw (thn (hy.run pins s σ H (fun v H1 => v = .ref f ∧ H1 = H) I ⟨.ref f, h1, rfl, rfl⟩) fun u s1 hu => ?_)
  obtain ⟨v, H1, I1, r1, rfl, rfl⟩ := hu
  cases (show u = Value.ref f from r1)
  refine PySem.W.callWith_K (h₀ := X.base) I.ok.mod.kin F.kp (thn (ha.run pos pins s1 σ _ _ I1 (bind_a (k := fun ds => fits n ds (fits ps.length (pick sel ds dds []) (dApp φ (pick sel ds dds [])))) ⟨ι, S, own, ρ, M, c, q⟩ fun xs ds ι S H1 own ρ M c dn q => (⟨ds, ι, S, own, ρ, M, c, dn, q⟩ : ∃ ds ι S own ρ M, Cur X.K X.mg N ι S H1 own σ ρ M ∧ Dns X.K X.mg S ι H1 xs ds ∧ postD X.K X.mg N W ι S H1 own σ Q (fits n ds (fits ps.length (pick sel ds dds []) (dApp φ (pick sel ds dds []))) ρ M)))) fun us s1 ⟨vs, H1, I1, r, ds, ι, S, own, ρ, M, c, dn, q⟩ => ⟨I1.kIn, ?_⟩) he hpl
  obtain ⟨q1, q⟩ := fits_go q
  obtain ⟨q2, q⟩ := fits_go q
  have dn2 : Dns X.K X.mg S ι H1 (pick sel vs dvs []) (pick sel ds dds []) := pick_dns dn (hd S ι H1) .nil
  exact run_g (zs := []) (ws := []) F.fn hg hr tk hb I1 r .nil (dn.length.trans q1) rfl (app_sp c (dn2.length.trans q2) dn2 q)
/-- y(k = v, ..) -/
theorem dv_callK0 (F : Fk X.prog X.w X.K X.mg X.base N.T x k f fd ps φ) (hy : PE X (.Name y p) (tVar i)) (hg : Calm X.A) (hr : Room k X.A) (tk : Takes X W) (hb : CB X.K fd ps dvs 0 ks sel) (hd : ∀ S ι H, Dns X.K X.mg S ι H dvs dds) (hkw : DK X N W kws b)
    (hall : (backToKw pos (keywordEach kws X.env)).all (·.1.isSome) = true := by rfl) (hks : (backToKw pos (keywordEach kws X.env)).filterMap (·.1) = ks := by rfl)
    (hpl : ((backTo pos (starEach [] X.env)).any (·.1) || (backToKw pos (keywordEach kws X.env)).any (·.1.isNone)) = false := by rfl) :
    DV X N W i x (.Call (.Name y p) [] kws pos) (aBind b fun bs => fits ks.length bs (fits ps.length (pick sel [] dds bs) (dApp φ (pick sel [] dds bs)))) := by
  refine ⟨fun pins s σ H Q I h => ?_⟩
  obtain ⟨ι, S, own, ρ, M, c, ex, q⟩ := h
  obtain ⟨v, h1, _, h2⟩ := c.env.at_ i _ ex
  cases gl_ref h2 F.at_
  refine wpAny_Call_Name_kw (thn (hy.run pins s σ H (fun v H1 => v = .ref f ∧ H1 = H) I ⟨.ref f, h1, rfl, rfl⟩) fun u s1 hu => ?_)
  obtain ⟨v, H1, I1, r1, rfl, rfl⟩ := hu
  cases (show u = Value.ref f from r1)
  refine PySem.W.callWith_KW0 (h₀ := X.base) I.ok.mod.kin F.kp hall (thn (hkw.run pos pins s1 σ _ _ I1 (bind_a (k := fun bs => fits ks.length bs (fits ps.length (pick sel [] dds bs) (dApp φ (pick sel [] dds bs)))) ⟨ι, S, own, ρ, M, c, q⟩ fun xs ds ι S H1 own ρ M c dn q => (⟨ds, ι, S, own, ρ, M, c, dn, q⟩ : ∃ ds ι S own ρ M, Cur X.K X.mg N ι S H1 own σ ρ M ∧ Dns X.K X.mg S ι H1 xs ds ∧ postD X.K X.mg N W ι S H1 own σ Q (fits ks.length ds (fits ps.length (pick sel [] dds ds) (dApp φ (pick sel [] dds ds))) ρ M)))) fun ws s1 ⟨zs, H1, I1, rz, ds, ι, S, own, ρ, M, c, dn, q⟩ => ⟨I1.kIn, ?_⟩) hpl
  rw [hks]
  obtain ⟨q1, q⟩ := fits_go q
  obtain ⟨q2, q⟩ := fits_go q
  have dn2 : Dns X.K X.mg S ι H1 (pick sel [] dvs zs) (pick sel [] dds ds) := pick_dns .nil (hd S ι H1) dn
  exact run_g (us := []) (vs := []) F.fn hg hr tk hb I1 .nil rz rfl (dn.length.trans q1) (app_sp c (dn2.length.trans q2) dn2 q)

/-! ### a op b op c -/
def dChain (f g : D → D → Option D) (a b c : TDE) : TDE := dBind a fun d => dBind b fun e => fun ρ M => match f d e with
  | some (.bl true) => dBind c (fun d2 => dOut (g e d2)) ρ M
  | some (.bl false) => some (.ok (.bl false) ρ M)
  | _ => none
end
section
variable {X : Cx} {N : En} {W : WX}
theorem chain_core {R R' : R2} {f g : D → D → Option D} {a b c : TDE} (hR : BiD X R f) (hR' : BiD X R' g) : ∀ σ H Q, tD X.K X.mg N W (dChain f g a b c) σ H Q → tChain R R' (tD X.K X.mg N W a) (tD X.K X.mg N W b) (tD X.K X.mg N W c) σ H Q := fun σ H Q q =>
  bind_d q fun x d ι S H1 own ρ M cu dx q => by
    have q' : tD X.K X.mg N W (dBind b fun e => fun ρ M => match f d e with
      | some (.bl true) => dBind c (fun d2 => dOut (g e d2)) ρ M
      | some (.bl false) => some (.ok (.bl false) ρ M)
      | _ => none) σ H1 Q := ⟨ι, S, own, ρ, M, cu, q⟩
    -- the first operand stands behind the second
    obtain ⟨ι, S, own, ρ, M, cu, q⟩ : ∃ ι0 S0 own0 ρ0 M0, Cur X.K X.mg N ι0 S0 H1 own0 σ ρ0 M0 ∧ Dn X.K X.mg S0 ι0 H1 x d ∧ postD X.K X.mg N W ι0 S0 H1 own0 σ Q (dBind b (fun e => fun ρ M => match f d e with
      | some (.bl true) => dBind c (fun d2 => dOut (g e d2)) ρ M
      | some (.bl false) => some (.ok (.bl false) ρ M)
      | _ => none) ρ0 M0) := ⟨ι, S, own, ρ, M, cu, dx, q⟩
    obtain ⟨dx, q⟩ := q
    refine ⟨ι, S, own, ρ, M, cu, ?_⟩
    unfold dBind at q
    cases e1 : b ρ M with
    | none => rw [e1] at q; exact q
    | some o1 =>
      rw [e1] at q
      cases o1 with
      | ex xv ρ' M' => exact q
      | ok e ρ1 M1 =>
        intro y ι1 S1 H2 own1 c1 x1 dy
        simp only at q
        cases e2 : f d e with
        | none => rw [e2] at q; exact q.elim
        | some r =>
          rw [e2] at q
          cases r with
          | bl kb =>
            refine hR N ι1 M1 S1 H2 own1 x y d e (.bl kb) _ c1.ok (.dn (dx.ext x1.ext)) (.dn dy) e2 fun v S3 H3 k3 x3 dv => ?_
            cases dv with
            | bl _ =>
              refine ⟨kb, rfl, ?_⟩
              have c3 := c1.grow k3 x3
              cases kb with
              | false => exact iteF (q (.bl false) ι1 S3 H3 own1 c3 (x1.trans cu.ok x3) (.bl false))
              | true =>
                refine iteT ?_
                have q3 : postD X.K X.mg N W ι1 S3 H3 own1 σ Q (dBind c (fun d2 => dOut (g e d2)) ρ1 M1) := postD.later cu.ok (x1.trans cu.ok x3) q
                refine ⟨ι1, S3, own1, ρ1, M1, c3, ?_⟩
                unfold dBind at q3
                cases e4 : c ρ1 M1 with
                | none => rw [e4] at q3; exact q3
                | some o4 =>
                  rw [e4] at q3
                  cases o4 with
                  | ex xv ρ' M' => exact q3
                  | ok d2 ρ4 M4 =>
                    intro z ι4 S4 H4 own4 c4 x4 dz
                    exact out_go (R := fun Q => R' y z H4 Q) c4 (postD.later c3.ok x4 q3) fun gg eg kk => hR' N ι4 M4 S4 H4 own4 y z e d2 gg Q c4.ok (.dn ((dy.ext x3.ext).ext x4.ext)) (.dn dz) eg kk
          | _ => exact q.elim
theorem de_chain {ea eb ec : Expr} {op op' : CmpOp} {pos : Pos} {f g : D → D → Option D} {a b c : TDE} (ho : OpD X (compareOp op) f) (ho' : OpD X (compareOp op') g) (ha : DE X N W ea a) (hb : DE X N W eb b) (hc : DE X N W ec c)
    (hm : lastMarks [op, op'] [eb, ec] = false := by with_unfolding_all rfl) : DE X N W (.Compare ea [op, op'] [eb, ec] pos) (dChain f g a b c) := by
  obtain ⟨R, h1, h2⟩ := ho
  obtain ⟨R', h1', h2'⟩ := ho'
  exact pe_imp (pe_chain h1 h1' ha hb hc hm) (chain_core h2 h2')
theorem dt_chain {ea eb ec : Expr} {op op' : CmpOp} {pos : Pos} {f g : D → D → Option D} {a b c : TDE} (ho : OpD X (compareOp op) f) (ho' : OpD X (compareOp op') g) (ha : DE X N W ea a) (hb : DE X N W eb b) (hc : DE X N W ec c)
    (hm : lastMarks [op, op'] [eb, ec] = false := by with_unfolding_all rfl) : DT X N W (.Compare ea [op, op'] [eb, ec] pos) (dChain f g a b c) := by
  obtain ⟨R, h1, h2⟩ := ho
  obtain ⟨R', h1', h2'⟩ := ho'
  refine pt_imp (pt_chain h1 h1' ha hb hc hm) fun σ H Q q => ?_
  have := test_core (X := X) (N := N) (W := W) (t := dChain f g a b c) σ H Q q
  exact chain_core h2 h2' σ H _ this
end
/-! ### lists times n; in -/
def repL : D → D → Option D
  | .lst ds, .int k => if -(2 ^ 63) ≤ k ∧ k < 2 ^ 63 ∧ ds.length * k.toNat ≤ sizeLine then some (.lst (List.replicate k.toNat ds).flatten) else none
  | _, _ => none
theorem Dns.rep {K : PySem.W.Frag} {mg : Str → Option Value} {S : AP} {ι : List Addr} {H : Hp} {xs : List V} {ds : List D} (h : Dns K mg S ι H xs ds) : ∀ n : Nat, Dns K mg S ι H (List.replicate n xs).flatten (List.replicate n ds).flatten
  | 0 => .nil
  | n + 1 => by
    rw [List.replicate_succ, List.replicate_succ, List.flatten_cons, List.flatten_cons]
    exact h.append (Dns.rep h n)
theorem od_repL {X : Cx} : OpD X (binaryOp .Mult) repL := ⟨_, op_rep, fun N ι M S H own x y d e r Q k b1 b2 q k' => by
  unfold repL at q
  split at q
  · split at q
    · rename_i hk
      cases q
      obtain ⟨a, xs, rfl, ha, ta⟩ := b1.lstAt
      refine ⟨a, _, xs, rfl, b2.intAt, ha, hk.1, hk.2.1, by rw [ta.length]; exact hk.2.2, fun p hp => k' _ _ _ (k.alloc hp) ⟨k.alloc_ext hp, fun i a h => ⟨k.hown hp i a h, .inl h⟩⟩ ?_⟩
      exact .lst ⟨.inr rfl, upd_same⟩ ((ta.rep _).ext (k.alloc_ext hp))
    · cases q
  · cases q⟩
def flatD : D → Option V
  | .non => some .non
  | .bl b => some (.bl b)
  | .int i => some (.int i)
  | .str s => some (.str s)
  | _ => none
theorem flatD_v {K : PySem.W.Frag} {mg : Str → Option Value} {S : AP} {ι : List Addr} {H : Hp} {v w : V} {d : D} (h : Bn K mg S ι H v d) (e : flatD d = some w) : v = w ∧ flatV v = true := by
  cases h with
  | lst _ _ => cases e
  | dct _ _ _ => cases e
  | dn h => cases h <;> cases e <;> exact ⟨rfl, rfl⟩
def flatDs : List D → Option (List V)
  | [] => some []
  | d :: ds => match flatD d, flatDs ds with
    | some v, some vs => some (v :: vs)
    | _, _ => none
theorem flatDs_v {K : PySem.W.Frag} {mg : Str → Option Value} {S : AP} {ι : List Addr} {H : Hp} : ∀ {vs ws : List V} {ds : List D}, Dns K mg S ι H vs ds → flatDs ds = some ws → vs = ws ∧ vs.all flatV = true
  | _, _, _, .nil, e => by cases e; exact ⟨rfl, rfl⟩
  | _, ws, _, .cons (v := v) (vs := vs) (d := d) (ds := ds) h t, e => by
    unfold flatDs at e
    cases e1 : flatD d with
    | none => rw [e1] at e; cases e
    | some v' =>
      cases e2 : flatDs ds with
      | none => rw [e1, e2] at e; cases e
      | some vs' =>
        rw [e1, e2] at e
        cases e
        obtain ⟨rfl, h1⟩ := flatD_v (.dn h) e1
        obtain ⟨rfl, h2⟩ := flatDs_v t e2
        exact ⟨rfl, by simp [h1, h2]⟩
/-- x in a list, a tuple of flat things -/
def inSeq (neg : Bool) : D → D → Option D := fun d e => match flatD d, (match e with
    | .lst ds => flatDs ds
    | .tup ds => flatDs ds
    | _ => none) with
  | some v, some vs => some (.bl (if neg then !L2.inV v vs else L2.inV v vs))
  | _, _ => none
theorem inSeq_ok {X : Cx} (neg : Bool) : BiD X (rIn X.K neg) (inSeq neg) := fun N ι M S H own x y d e r Q k b1 b2 q k' => by
  unfold inSeq at q
  cases e1 : flatD d with
  | none => rw [e1] at q; cases q
  | some v =>
    rw [e1] at q
    obtain ⟨rfl, f1⟩ := flatD_v b1 e1
    cases e with
    | lst ds =>
      cases e2 : flatDs ds with
      | none => simp only [e2] at q; cases q
      | some vs =>
        simp only [e2] at q
        cases q
        obtain ⟨a, xs, rfl, ha, ta⟩ := b2.lstAt
        obtain ⟨rfl, f2⟩ := flatDs_v ta e2
        exact ⟨a, xs, rfl, .inl (SqL.of ha), f1, f2, k' _ S H k .refl (.bl _)⟩
    | tup ds =>
      cases e2 : flatDs ds with
      | none => simp only [e2] at q; cases q
      | some vs =>
        simp only [e2] at q
        cases q
        obtain ⟨a, xs, rfl, ha, ta, _⟩ := b2.tupAt
        obtain ⟨rfl, f2⟩ := flatDs_v ta e2
        exact ⟨a, xs, rfl, .inr ha, f1, f2, k' _ S H k .refl (.bl _)⟩
    | _ => cases q
/-- a sign in a text -/
def inStr (neg : Bool) : D → D → Option D := SS fun a b => some (.bl (xor neg (!(Builtin.Str.occurrences b a 0 b.length 1).isEmpty)))
theorem od_in {X : Cx} : OpD X (compareOp .In) (fun d e => (inSeq false d e).orElse fun _ => inStr false d e) :=
  OpD.or ⟨_, op_in_seq, inSeq_ok false⟩ ⟨_, op_in_str, fun N ι M S H own x y d e r Q k b1 b2 q k' => by
    obtain ⟨a, b, rfl, rfl, q2⟩ := SS.get q
    cases q2
    have e1 := b1.strAt
    have e2 := b2.strAt
    subst e1 e2
    refine ⟨a, b, rfl, rfl, k' _ S H k .refl ?_⟩
    rw [Bool.false_xor]
    exact .bl _⟩
theorem od_notin {X : Cx} : OpD X (compareOp .NotIn) (fun d e => (inSeq true d e).orElse fun _ => inStr true d e) :=
  OpD.or ⟨_, op_notIn_seq, inSeq_ok true⟩ ⟨_, op_notin_str, fun N ι M S H own x y d e r Q k b1 b2 q k' => by
    obtain ⟨a, b, rfl, rfl, q2⟩ := SS.get q
    cases q2
    have e1 := b1.strAt
    have e2 := b2.strAt
    subst e1 e2
    refine ⟨a, b, rfl, rfl, k' _ S H k .refl ?_⟩
    rw [Bool.true_xor]
    exact .bl _⟩
abbrev inA (neg : Bool) : D → D → Option D := fun d e => (inSeq neg d e).orElse fun _ => inStr neg d e

/-! ### dict displays with written keys -/
theorem mergeK_app : ∀ (l acc : List (Key × V)), ((acc ++ l).map (·.1)).Nodup → mergeK acc l = acc ++ l
  | [], acc, _ => by rw [List.append_nil]; rfl
  | (k, v) :: l, acc, h => by
    have hn : (acc.any fun kv => decide (kv.1 = k)) = false := by
      rw [Bool.eq_false_iff]
      intro z
      obtain ⟨kv, h1, h2⟩ := List.any_eq_true.mp z
      have h2 := of_decide_eq_true h2
      rw [List.map_append, List.nodup_append] at h
      exact h.2.2 kv.1 (List.mem_map.mpr ⟨kv, h1, rfl⟩) k (by simp) h2
    show mergeK (L2.putK acc k v) l = _
    have e : L2.putK acc k v = acc ++ [(k, v)] := by
      unfold L2.putK
      rw [hn]
      exact if_neg Bool.false_ne_true
    rw [e, mergeK_app l (acc ++ [(k, v)]) (by rw [List.append_assoc]; exact h), List.append_assoc]
    rfl
def dDct (ks : List Key) (a : TDA) : TDE := aBind a fun ds => dOut (if ds.length = ks.length ∧ ks.length ≤ 15 ∧ ks.Nodup then some (.dct ks ds) else none)
structure DP (X : Cx) (N : En) (W : WX) (pos : Pos) (keys : List (Option Expr)) (values : List Expr) (ks : List Key) (t : TDA) : Prop where
  ex : ∃ trs, PPs X pos keys values trs ∧ ∀ σ H (Q : List (V × V) → Hp → Prop), tA X.K X.mg N W t σ H (fun vs H' => vs.length = ks.length → Q ((ks.zip vs).map fun kv => (kV kv.1, kv.2)) H') → tPairs trs σ H Q
section
variable {X : Cx} {N : En} {W : WX} {pos : Pos}
theorem dp_nil : DP X N W pos [] [] [] aNil := ⟨[], pps_nil, fun σ H Q h => by
  obtain ⟨ι, S, own, ρ, M, c, q⟩ := h
  exact q [] ι S H own c .refl .nil rfl⟩
theorem dp_cons {k v : Expr} {key : Key} {keys : List (Option Expr)} {values : List Expr} {ks : List Key} {a : TDE} {r : TDA} (hk : PE X k (tC (kV key))) (hv : DE X N W v a) (hr : DP X N W pos keys values ks r) : DP X N W pos (some k :: keys) (v :: values) (key :: ks) (aCons a r) := by
  obtain ⟨trs, h1, h2⟩ := hr.ex
  refine ⟨_, pps_cons hk hv h1, fun σ H Q h => ?_⟩
  obtain ⟨ι, S, own, ρ, M, c, q⟩ := h
  refine ⟨ι, S, own, ρ, M, c, ?_⟩
  unfold aCons at q
  cases e1 : a ρ M with
  | none => rw [e1] at q; exact q
  | some o1 =>
    rw [e1] at q
    cases o1 with
    | ex x ρ' M' => exact q
    | ok d ρ1 M1 =>
      intro y ι1 S1 H1 own1 c1 x1 dy
      refine h2 σ H1 _ ⟨ι1, S1, own1, ρ1, M1, c1, ?_⟩
      simp only at q
      cases e2 : r ρ1 M1 with
      | none => rw [e2] at q; exact q
      | some o2 =>
        rw [e2] at q
        cases o2 with
        | ex x ρ' M' => exact XPost.later x1.ext q
        | ok ds ρ2 M2 =>
          intro vs ι2 S2 H2 own2 c2 x2 dvs hl
          exact q (y :: vs) ι2 S2 H2 own2 c2 (x1.trans c.ok x2) (.cons (dy.ext x2.ext) dvs) (by rw [List.length_cons, List.length_cons, hl])
theorem kV_int {i : Int} {j : Nat} {p : Pos} : PE X (.Constant (.int i) j p) (tC (kV (.inl i))) := pe_int
theorem kV_str {x : Str} {j : Nat} {p : Pos} : PE X (.Constant (.str x) j p) (tC (kV (.inr x))) := pe_str
theorem de_dct {keys : List (Option Expr)} {values : List Expr} {ks : List Key} {a : TDA} (h : DP X N W pos keys values ks a) (hall : keys.all (·.isSome) = true := by rfl) (hl : keys.length = values.length := by rfl) (h0 : keys ≠ [] := by exact List.cons_ne_nil _ _) (h15 : keys.length ≤ 15 := by decide) :
    DE X N W (.Dict keys values pos) (dDct ks a) := by
  obtain ⟨trs, h1, h2⟩ := h.ex
  refine pe_imp (pe_disp h1 hall hl h0 h15) fun σ H Q q => ?_
  intro p hp
  obtain ⟨ι, S, own, ρ, M, c, q⟩ := q
  obtain ⟨n, hn⟩ := c.ok.ofin
  obtain ⟨i0, hi0, hib⟩ : ∃ i0, own i0 = none ∧ slotsB ≤ i0 := ⟨max n slotsB, hn _ (by omega), by omega⟩
  have k2 : Ok X.K X.mg N ι M S (upd H p (.dK [])) (setO own i0 (some p)) := c.ok.track i0 hp
  have x0 : Ext S ι H S ι (upd H p (.dK [])) := upd_ext hp
  have c2 : Cur X.K X.mg N ι S (upd H p (.dK [])) (setO own i0 (some p)) σ ρ M := by
    have h1 := c.env.ext x0 fun i a e => c.ok.hown hp i a e
    refine ⟨k2, h1.len, h1.big, fun j a1 a2 => (by unfold setO; rw [if_neg (by omega)]; exact h1.gap j a1 a2), fun j x qq => ?_, fun j qq => ?_⟩
    · have hj : j ≠ i0 := fun z => by
        have := (List.getElem?_eq_some_iff.mp qq).1
        have := h1.big
        omega
      obtain ⟨v, a1, a2⟩ := h1.at_ j x qq
      refine ⟨v, a1, ?_⟩
      unfold setO; rw [if_neg hj]; exact a2
    · have hj : j ≠ i0 := fun z => by
        have := (List.getElem?_eq_some_iff.mp qq).1
        have := h1.big
        omega
      unfold setO; rw [if_neg hj]; exact h1.nown j qq
  refine h2 σ _ _ ⟨ι, S, _, ρ, M, c2, ?_⟩
  unfold dDct aBind at q
  cases e1 : a ρ M with
  | none => rw [e1] at q; exact q
  | some o1 =>
    rw [e1] at q
    cases o1 with
    | ex x ρ' M' =>
      intro cls dd ι' S' H' own' c' x' ex
      exact q cls dd ι' S' H' own' c' (x0.trans x') ex
    | ok ds ρ1 M1 =>
      intro vs ι1 S1 H1 own1 c1 x1 dvs hl
      simp only at q
      have hpH : H1 p = some (.dK []) ∧ own1 i0 = some p := by
        obtain ⟨w1, w2⟩ := x1.ow i0 p (by unfold setO; rw [if_pos rfl])
        rw [upd_same] at w1
        refine ⟨w1, ?_⟩
        rcases w2 with w2 | ⟨w2, _⟩
        · exact w2
        · omega
      by_cases hk : ds.length = ks.length ∧ ks.length ≤ 15 ∧ ks.Nodup
      case neg => rw [if_neg hk] at q; exact q.elim
      rw [if_pos hk] at q
      have hzl : (ks.zip vs).map (·.1) = ks := by rw [List.map_fst_zip]; omega
      refine ⟨hpH.1, ks.zip vs, rfl, by rw [List.length_zip]; omega, ?_⟩
      rw [mergeK_app (ks.zip vs) [] (by rw [List.nil_append, hzl]; exact hk.2.2), List.nil_append]
      have k3 := c1.ok.writeOwn (o := .dK (ks.zip vs)) hpH.2
      have k4 := k3.freeze hpH.2 upd_same (fun _ z => nomatch z)
      have e3 : Ext S1 ι1 H1 S1 ι1 (upd H1 p (.dK (ks.zip vs))) := c1.ok.writeOwn_ext hpH.2
      have neO : ∀ i a, own i = some a → a ≠ p := fun i a e z => c.ok.ohn e (by rw [z]; exact hp)
      have xx : ExtE S ι H own (addS S1 p) ι1 (upd H1 p (.dK (ks.zip vs))) (setO own1 i0 none) := by
        refine ⟨(x0.trans x1.ext).trans (e3.trans addS_ext), fun i b e => ?_⟩
        have hbi : setO own i0 (some p) i = some b := by
          unfold setO
          rw [if_neg (fun z => by rw [z, hi0] at e; cases e)]; exact e
        obtain ⟨w1, w2⟩ := x1.ow i b hbi
        refine ⟨by rw [upd_ne (neO i b e), w1, upd_ne (neO i b e)], ?_⟩
        rcases w2 with w2 | ⟨w2, w3⟩
        · refine .inl ?_
          unfold setO
          rw [if_neg (fun z => by rw [z, hi0] at e; cases e)]; exact w2
        · exact .inr ⟨w2, .inl w3⟩
      have c4 : Cur X.K X.mg N ι1 (addS S1 p) (upd H1 p (.dK (ks.zip vs))) (setO own1 i0 none) σ ρ1 M1 := by
        refine ⟨k4, c1.env.len, c1.env.big, fun j a1 a2 => (by unfold setO; rw [if_neg (by omega)]; exact c1.env.gap j a1 a2), fun j x qq => ?_, fun j qq => ?_⟩
        · have hj : j ≠ i0 := fun z => by
            have := (List.getElem?_eq_some_iff.mp qq).1
            have := c1.env.big
            omega
          obtain ⟨v, a1, a2⟩ := c1.env.at_ j x qq
          refine ⟨v, a1, ?_⟩
          unfold setO; rw [if_neg hj]
          refine a2.ext (e3.trans addS_ext) fun b eb => upd_ne fun z => hj ?_
          exact c1.ok.oinj j i0 p (by rw [eb, z]) hpH.2
        · unfold setO
          split
          · rfl
          · exact c1.env.nown j qq
      exact q (.ref p) ι1 _ _ _ c4 xx (.dct (.inr rfl) upd_same (by rw [hl]) (dvs.ext (e3.trans addS_ext)))
/-- {} -/
theorem de_dct0 : DE X N W (.Dict [] [] pos) (dC (.dct [] [])) := pe_imp pe_dnewK fun σ H Q q => by
  obtain ⟨ι, S, own, ρ, M, c, q⟩ := q
  intro p hp
  exact q (.ref p) ι (addS S p) (upd H p (.dK [])) own (c.alloc hp) ⟨c.ok.alloc_ext hp, fun i a h => ⟨c.ok.hown hp i a h, .inl h⟩⟩ (.dct (ks := []) (xs := []) (.inr rfl) upd_same rfl .nil)
end
end DL
set_option maxHeartbeats 4000000
namespace DL
open PySem PySem.Spec PyProof.Rows L2

theorem Fk.cast {P : Program} {w : World} {K : PySem.W.Frag} {mg : Str → Option Value} {base : Heap} {T T' : List (Addr × Str)} {x : Str} {k : Nat} {f : Addr} {fd : FuncData} {ps : List Str} {φ : DF} (F : Fk P w K mg base T x k f fd ps φ) (h : T' = T) : Fk P w K mg base T' x k f fd ps φ := h ▸ F
theorem Fi.cast {P : Program} {w : World} {K : PySem.W.Frag} {mg : Str → Option Value} {base : Heap} {T T' : List (Addr × Str)} {cn : Str} {k : Nat} {C f : Addr} {fd : FuncData} {ps : List Str} {φ : DFI} (F : Fi P w K mg base T cn k C f fd ps φ) (h : T' = T) : Fi P w K mg base T' cn k C f fd ps φ := h ▸ F
/-! ### a law's makers -/
abbrev MkD : Type := He.Defn × Str
def mkCs (K : PySem.W.Frag) (tf : List MkD) : Mk3 := tf.map fun p => (He.cT K p.1, p.2)
def mkNd (K : PySem.W.Frag) (tf : List MkD) : Bool := decide ((tf.map fun p => (He.cT K p.1).2).Nodup)
theorem nodup_same {α β : Type} {f : α → β} : ∀ {l : List α}, (l.map f).Nodup → ∀ {a b : α}, a ∈ l → b ∈ l → f a = f b → a = b
  | [], _, _, _, h, _, _ => nomatch h
  | x :: l, nd, a, b, ha, hb, e => by
    rw [List.map_cons, List.nodup_cons] at nd
    rcases List.mem_cons.mp ha with ha | ha
    · rcases List.mem_cons.mp hb with hb | hb
      · rw [ha, hb]
      · exact absurd (List.mem_map.mpr ⟨b, hb, by rw [← e, ha]⟩) nd.1
    · rcases List.mem_cons.mp hb with hb | hb
      · exact absurd (List.mem_map.mpr ⟨a, ha, by rw [e, hb]⟩) nd.1
      · exact nodup_same nd.2 ha hb e
theorem codeAt_of {K : PySem.W.Frag} {p : He.Defn} {x qual : Str} {params : Arguments} {body : List Stmt} {scope : Scope} {dvs : List V} {kws : List (Str × V)} {f : Addr} {fd : FuncData} (F : FunD K x qual params body scope dvs kws f fd) (hf : f = He.fAd K p := by rfl) : CodeAt K f (He.cT K p).1 := by
  obtain ⟨oc, od, dV, kV, doc, pm, an, cdv, ct, osl, rfl, lk, hcd, _, _⟩ := F.ex
  obtain ⟨c, rfl⟩ := He.codeIn_ref hcd
  subst hf
  intro o fd e1 e2
  rw [lk] at e1
  cases e1
  cases e2
  show Value.ref c = .ref (He.codeOf K p)
  rw [He.codeOf_eq lk rfl]
theorem mkl_of {K : PySem.W.Frag} {mg : Str → Option Value} {base : Heap} {tf : List MkD} {f : Addr} {p : MkD} (hp : p ∈ tf) (nd : mkNd K tf = true) (F : CodeAt K f (He.cT K p.1).1) (TB : ∀ q ∈ mkCs K tf, LamX.TabB base mg q.1.1 q.1.2) : MkL K mg base (tbT (mkCs K tf)) f p.2 := by
  have hm : (He.cT K p.1, p.2) ∈ mkCs K tf := List.mem_map.mpr ⟨p, hp, rfl⟩
  refine ⟨_, (He.cT K p.1).2, F, TB _ hm, List.mem_map.mpr ⟨_, hm, rfl⟩, fun q hq e => ?_⟩
  obtain ⟨r, hr, rfl⟩ := List.mem_map.mp hq
  obtain ⟨z, hz, rfl⟩ := List.mem_map.mp hr
  have := nodup_same (f := fun p : MkD => (He.cT K p.1).2) (of_decide_eq_true nd) hz hp e
  rw [this]
theorem SaysY.mkT {file : Str} {fa : List He.Fa} {fn : List He.DefD} {tf : List MkD} {xd : List XDef} {ex : PySem.W.Frag → Bool} {w : World} {h : Heap} {K : PySem.W.Frag} (c : SaysY file fa fn (tf.map (·.1)) xd ex w h K) : ∀ p ∈ mkCs K tf, h.get? p.1.2 = some { cls := .none, data := .fields #[] } ∧ K.lookup p.1.2 = none ∧ PySem.W.codeHdIn K p.1.1 p.1.2 = true := fun p hp => by
  obtain ⟨q, hq, rfl⟩ := List.mem_map.mp hp
  have hm : q.1 ∈ tf.map (·.1) := List.mem_map.mpr ⟨q, hq, rfl⟩
  exact ⟨c.empty _ hm, c.out _ hm, c.hd _ hm⟩
end DL
set_option maxHeartbeats 4000000
set_option exponentiation.threshold 4000
namespace DL
open PySem PySem.Spec PyProof.Rows L2

/-! ### data that is shown and compared: by its form -/
mutual
theorem eqv_self : ∀ p : PyData, p.canLay0 = true → PyData.eqv p p = true
  | .none, _ => by simp only [PyData.eqv]
  | .bool a, _ => by simp [PyData.eqv]
  | .int a, _ => by simp [PyData.eqv]
  | .str a, _ => by simp [PyData.eqv]
  | .list xs, h => by simp only [PyData.eqv]; exact eqvAll_self xs (by simpa [PyData.canLay0] using h)
  | .tuple xs, h => by simp only [PyData.eqv]; exact eqvAll_self xs (by simpa [PyData.canLay0] using h)
  | .dict kvs, h => by simp [PyData.canLay0] at h
theorem eqvAll_self : ∀ ps : List PyData, PyData.canLayAll0 ps = true → PyData.eqvAll ps ps = true
  | [], _ => by simp only [PyData.eqvAll]
  | p :: ps, h => by
    simp only [PyData.canLayAll0, Bool.and_eq_true] at h
    simp only [PyData.eqvAll, Bool.and_eq_true]
    exact ⟨eqv_self p h.1, eqvAll_self ps h.2⟩
end
structure Sh (d : D) (dep bk : Nat) : Prop where
  ex : ∃ p, toPy d = some p ∧ p.showable = true ∧ p.canLay0 = true ∧ p.depth ≤ dep ∧ p.leavesShort 1921 = true ∧ p.bulk ≤ bk
structure ShL (ds : List D) (dep bk : Nat) : Prop where
  ex : ∃ ps, toPys ds = some ps ∧ PyData.showableAll ps = true ∧ PyData.canLayAll0 ps = true ∧ PyData.depthAll ps ≤ dep ∧ PyData.leavesShortAll 1921 ps = true ∧ PyData.bulkAll ps ≤ bk
theorem Sh.int {i : Int} (h : i.natAbs < 2 ^ 1900) : Sh (.int i) 0 0 := by
  have k : i.natAbs.log2 < 1920 := by
    by_cases z : i.natAbs = 0
    · rw [z]; decide
    · exact Nat.lt_trans ((Nat.log2_lt z).mpr h) (by decide)
  exact ⟨.int i, rfl, by simpa [PyData.showable] using k, by simp [PyData.canLay0], by simp [PyData.depth], leafI k, by simp [PyData.bulk]⟩
theorem Sh.bl {b : Bool} : Sh (.bl b) 0 0 := ⟨.bool b, rfl, by simp [PyData.showable], by simp [PyData.canLay0], by simp [PyData.depth], by simp [PyData.leavesShort], by simp [PyData.bulk]⟩
theorem Sh.non : Sh .non 0 0 := ⟨.none, rfl, by simp [PyData.showable], by simp [PyData.canLay0], by simp [PyData.depth], by simp [PyData.leavesShort], by simp [PyData.bulk]⟩
theorem Sh.str {x : Str} {n : Nat} (h1 : PyData.strOk x = true) (h2 : (x.cps.toList.all fun c => decide (c < 16 ^ 8)) = true) (h3 : x.cps.size ≤ n) : Sh (.str x) 0 n := ⟨.str x, rfl, by simp [PyData.showable], by simpa [PyData.canLay0] using h1, by simp [PyData.depth], by simpa [PyData.leavesShort] using h2, by simpa [PyData.bulk] using h3⟩
theorem ShL.nil : ShL [] 0 0 := ⟨[], rfl, by simp [PyData.showableAll], by simp [PyData.canLayAll0], by simp [PyData.depthAll], by simp [PyData.leavesShortAll], by simp [PyData.bulkAll]⟩
theorem ShL.cons {d : D} {ds : List D} {a b a' b' : Nat} (h : Sh d a b) (r : ShL ds a' b') : ShL (d :: ds) (max a a') (b + 1 + b') := by
  obtain ⟨p, e, h1, h2, h3, h4, h5⟩ := h.ex
  obtain ⟨ps, f, k1, k2, k3, k4, k5⟩ := r.ex
  refine ⟨p :: ps, ?_, ?_, ?_, ?_, ?_, ?_⟩
  · show (toPy d).bind (fun p => (toPys ds).map fun ps => p :: ps) = _
    rw [e, f]; rfl
  · simp only [PyData.showableAll, h1, k1, Bool.and_self]
  · simp only [PyData.canLayAll0, h2, k2, Bool.and_self]
  · simp only [PyData.depthAll]; omega
  · simp only [PyData.leavesShortAll, h4, k4, Bool.and_self]
  · simp only [PyData.bulkAll]; omega
theorem Sh.tup {ds : List D} {a b : Nat} (h : ShL ds a b) : Sh (.tup ds) (a + 1) b := by
  obtain ⟨ps, f, k1, k2, k3, k4, k5⟩ := h.ex
  refine ⟨.tuple ps, ?_, by simpa [PyData.showable] using k1, by simpa [PyData.canLay0] using k2, by simp only [PyData.depth]; omega, by simpa [PyData.leavesShort] using k4, by simpa [PyData.bulk] using k5⟩
  show (toPys ds).map PyData.tuple = _
  rw [f]; rfl
theorem Sh.lst {ds : List D} {a b : Nat} (h : ShL ds a b) : Sh (.lst ds) (a + 1) b := by
  obtain ⟨ps, f, k1, k2, k3, k4, k5⟩ := h.ex
  refine ⟨.list ps, ?_, by simpa [PyData.showable] using k1, by simpa [PyData.canLay0] using k2, by simp only [PyData.depth]; omega, by simpa [PyData.leavesShort] using k4, by simpa [PyData.bulk] using k5⟩
  show (toPys ds).map PyData.list = _
  rw [f]; rfl
theorem Sh.mono {d : D} {a b a' b' : Nat} (h : Sh d a b) (h1 : a ≤ a') (h2 : b ≤ b') : Sh d a' b' :=
  let ⟨p, e, x1, x2, x3, x4, x5⟩ := h.ex
  ⟨p, e, x1, x2, by omega, x4, by omega⟩
theorem ShL.mono {ds : List D} {a b a' b' : Nat} (h : ShL ds a b) (h1 : a ≤ a') (h2 : b ≤ b') : ShL ds a' b' :=
  let ⟨p, e, x1, x2, x3, x4, x5⟩ := h.ex
  ⟨p, e, x1, x2, by omega, x4, by omega⟩
theorem eq_nilL {ds : List D} {a b : Nat} {n : Bool} (h : ShL ds a b) (ha : a ≤ 60) : eqA n (.lst ds) (.lst []) = some (.bl (xor n ds.isEmpty)) := by
  obtain ⟨ps, f, k1, k2, k3, k4, k5⟩ := h.ex
  have e : toPy (.lst ds) = some (.list ps) := by
    show (toPys ds).map PyData.list = _
    rw [f]; rfl
  have s1 : SeqAt.shaped (.list ps) = true := by
    show (PyData.canLayAll0 ps && decide (PyData.depthAll ps + 1 ≤ 64)) = true
    rw [k2, decide_eq_true (show PyData.depthAll ps + 1 ≤ 64 by omega)]; rfl
  rw [eqA_lst]
  refine eqD_of e (show toPy (.lst []) = some (.list []) from rfl) s1 rfl ?_
  cases ds with
  | nil => cases f; rfl
  | cons d r =>
    have f' : ((toPy d).bind fun p => (toPys r).map fun ps => p :: ps) = some ps := f
    cases e1 : toPy d with
    | none => rw [e1] at f'; cases f'
    | some p =>
      rw [e1] at f'
      cases e2 : toPys r with
      | none => rw [e2] at f'; cases f'
      | some qs => rw [e2] at f'; cases f'; rfl
/-- its text -/
def reprS (d : D) : Str := match reprD d with
  | some (.str s) => s
  | _ => ⟨#[]⟩
theorem Sh.repr {d : D} {a b : Nat} (h : Sh d a b) (ha : a ≤ 60) (hb : b ≤ 8000) : reprD d = some (.str (reprS d)) := by
  obtain ⟨p, e, h1, h2, h3, h4, h5⟩ := h.ex
  have q : reprD d = some (.str p.shown) := repr_of e (shw_of h1 (PyData.hasDict_of_canLay p h2) (by omega) h4 (by omega))
  unfold reprS
  rw [q]
theorem Sh.eqD {d : D} {a b : Nat} {n : Bool} (h : Sh d a b) (ha : a ≤ 64) : eqD n d d = some (.bl (xor n true)) := by
  obtain ⟨p, e, h1, h2, h3, h4, h5⟩ := h.ex
  have s : SeqAt.shaped p = true := by
    unfold SeqAt.shaped
    rw [h2, decide_eq_true (show p.depth ≤ 64 by omega)]; rfl
  exact eqD_of e e s s (eqv_self p h2)
theorem eqA_refl_str {n : Bool} {x : Str} : eqA n (.str x) (.str x) = some (.bl (xor n true)) := by rw [eqA_str, decide_eq_true rfl]
theorem le6 : (6 ≤ sizeLine) = True := by rw [sizeLine_eq]; decide
theorem le7 : (7 ≤ sizeLine) = True := by rw [sizeLine_eq]; decide
theorem le10 : (10 ≤ sizeLine) = True := by rw [sizeLine_eq]; decide
theorem le11 : (11 ≤ sizeLine) = True := by rw [sizeLine_eq]; decide
theorem le12 : (12 ≤ sizeLine) = True := by rw [sizeLine_eq]; decide
theorem le13 : (13 ≤ sizeLine) = True := by rw [sizeLine_eq]; decide
theorem le14 : (14 ≤ sizeLine) = True := by rw [sizeLine_eq]; decide
theorem le15 : (15 ≤ sizeLine) = True := by rw [sizeLine_eq]; decide
theorem le16 : (16 ≤ sizeLine) = True := by rw [sizeLine_eq]; decide
theorem le17 : (17 ≤ sizeLine) = True := by rw [sizeLine_eq]; decide
theorem le18 : (18 ≤ sizeLine) = True := by rw [sizeLine_eq]; decide
theorem le19 : (19 ≤ sizeLine) = True := by rw [sizeLine_eq]; decide
theorem le20 : (20 ≤ sizeLine) = True := by rw [sizeLine_eq]; decide
theorem le21 : (21 ≤ sizeLine) = True := by rw [sizeLine_eq]; decide
theorem le22 : (22 ≤ sizeLine) = True := by rw [sizeLine_eq]; decide
theorem le23 : (23 ≤ sizeLine) = True := by rw [sizeLine_eq]; decide
theorem le24 : (24 ≤ sizeLine) = True := by rw [sizeLine_eq]; decide
theorem le25 : (25 ≤ sizeLine) = True := by rw [sizeLine_eq]; decide
theorem le26 : (26 ≤ sizeLine) = True := by rw [sizeLine_eq]; decide
theorem le27 : (27 ≤ sizeLine) = True := by rw [sizeLine_eq]; decide
theorem le28 : (28 ≤ sizeLine) = True := by rw [sizeLine_eq]; decide
theorem le29 : (29 ≤ sizeLine) = True := by rw [sizeLine_eq]; decide
theorem le30 : (30 ≤ sizeLine) = True := by rw [sizeLine_eq]; decide
theorem le31 : (31 ≤ sizeLine) = True := by rw [sizeLine_eq]; decide
theorem le32 : (32 ≤ sizeLine) = True := by rw [sizeLine_eq]; decide
theorem le33 : (33 ≤ sizeLine) = True := by rw [sizeLine_eq]; decide
theorem le34 : (34 ≤ sizeLine) = True := by rw [sizeLine_eq]; decide
theorem le35 : (35 ≤ sizeLine) = True := by rw [sizeLine_eq]; decide
theorem le36 : (36 ≤ sizeLine) = True := by rw [sizeLine_eq]; decide
theorem le37 : (37 ≤ sizeLine) = True := by rw [sizeLine_eq]; decide
theorem le38 : (38 ≤ sizeLine) = True := by rw [sizeLine_eq]; decide
theorem le39 : (39 ≤ sizeLine) = True := by rw [sizeLine_eq]; decide
theorem le40 : (40 ≤ sizeLine) = True := by rw [sizeLine_eq]; decide
theorem lt0 : (0 < sizeLine) = True := by rw [sizeLine_eq]; decide
theorem lt1 : (1 < sizeLine) = True := by rw [sizeLine_eq]; decide
theorem lt2 : (2 < sizeLine) = True := by rw [sizeLine_eq]; decide
theorem lt3 : (3 < sizeLine) = True := by rw [sizeLine_eq]; decide
theorem lt4 : (4 < sizeLine) = True := by rw [sizeLine_eq]; decide
theorem lt5 : (5 < sizeLine) = True := by rw [sizeLine_eq]; decide
theorem lt6 : (6 < sizeLine) = True := by rw [sizeLine_eq]; decide
theorem lt7 : (7 < sizeLine) = True := by rw [sizeLine_eq]; decide
theorem lt8 : (8 < sizeLine) = True := by rw [sizeLine_eq]; decide
theorem lt9 : (9 < sizeLine) = True := by rw [sizeLine_eq]; decide
theorem lt10 : (10 < sizeLine) = True := by rw [sizeLine_eq]; decide
theorem lt11 : (11 < sizeLine) = True := by rw [sizeLine_eq]; decide
theorem lt12 : (12 < sizeLine) = True := by rw [sizeLine_eq]; decide
theorem lt13 : (13 < sizeLine) = True := by rw [sizeLine_eq]; decide
theorem lt14 : (14 < sizeLine) = True := by rw [sizeLine_eq]; decide
theorem lt15 : (15 < sizeLine) = True := by rw [sizeLine_eq]; decide
theorem lt16 : (16 < sizeLine) = True := by rw [sizeLine_eq]; decide
theorem lt17 : (17 < sizeLine) = True := by rw [sizeLine_eq]; decide
theorem lt18 : (18 < sizeLine) = True := by rw [sizeLine_eq]; decide
theorem lt19 : (19 < sizeLine) = True := by rw [sizeLine_eq]; decide
theorem lt20 : (20 < sizeLine) = True := by rw [sizeLine_eq]; decide
theorem lt21 : (21 < sizeLine) = True := by rw [sizeLine_eq]; decide
theorem lt22 : (22 < sizeLine) = True := by rw [sizeLine_eq]; decide
theorem lt23 : (23 < sizeLine) = True := by rw [sizeLine_eq]; decide
theorem lt24 : (24 < sizeLine) = True := by rw [sizeLine_eq]; decide
theorem lt25 : (25 < sizeLine) = True := by rw [sizeLine_eq]; decide
theorem lt26 : (26 < sizeLine) = True := by rw [sizeLine_eq]; decide
theorem lt27 : (27 < sizeLine) = True := by rw [sizeLine_eq]; decide
theorem lt28 : (28 < sizeLine) = True := by rw [sizeLine_eq]; decide
theorem lt29 : (29 < sizeLine) = True := by rw [sizeLine_eq]; decide
theorem lt30 : (30 < sizeLine) = True := by rw [sizeLine_eq]; decide
theorem lt31 : (31 < sizeLine) = True := by rw [sizeLine_eq]; decide
theorem lt32 : (32 < sizeLine) = True := by rw [sizeLine_eq]; decide
theorem lt33 : (33 < sizeLine) = True := by rw [sizeLine_eq]; decide
theorem lt34 : (34 < sizeLine) = True := by rw [sizeLine_eq]; decide
theorem lt35 : (35 < sizeLine) = True := by rw [sizeLine_eq]; decide
theorem lt36 : (36 < sizeLine) = True := by rw [sizeLine_eq]; decide
theorem lt37 : (37 < sizeLine) = True := by rw [sizeLine_eq]; decide
theorem lt38 : (38 < sizeLine) = True := by rw [sizeLine_eq]; decide
theorem lt39 : (39 < sizeLine) = True := by rw [sizeLine_eq]; decide
theorem lt40 : (40 < sizeLine) = True := by rw [sizeLine_eq]; decide
theorem nc0 : ((0 : Nat) : Int) = 0 := rfl
theorem nc1 : ((1 : Nat) : Int) = 1 := rfl
theorem nc2 : ((2 : Nat) : Int) = 2 := rfl
theorem nc3 : ((3 : Nat) : Int) = 3 := rfl
theorem nc4 : ((4 : Nat) : Int) = 4 := rfl
theorem nc5 : ((5 : Nat) : Int) = 5 := rfl
theorem nc6 : ((6 : Nat) : Int) = 6 := rfl
theorem nc7 : ((7 : Nat) : Int) = 7 := rfl
theorem nc8 : ((8 : Nat) : Int) = 8 := rfl
theorem nc9 : ((9 : Nat) : Int) = 9 := rfl
theorem nc10 : ((10 : Nat) : Int) = 10 := rfl
theorem nc11 : ((11 : Nat) : Int) = 11 := rfl
theorem nc12 : ((12 : Nat) : Int) = 12 := rfl
theorem nc13 : ((13 : Nat) : Int) = 13 := rfl
theorem nc14 : ((14 : Nat) : Int) = 14 := rfl
theorem nc15 : ((15 : Nat) : Int) = 15 := rfl
theorem nc16 : ((16 : Nat) : Int) = 16 := rfl
theorem nc17 : ((17 : Nat) : Int) = 17 := rfl
theorem nc18 : ((18 : Nat) : Int) = 18 := rfl
theorem nc19 : ((19 : Nat) : Int) = 19 := rfl
theorem nc20 : ((20 : Nat) : Int) = 20 := rfl
def reprOkB (d : D) : Bool := match reprD d with
  | some (.str s) => PyData.strOk s && ((s.cps.toList.all fun c => decide (c < 16 ^ 8)) && decide (s.cps.size ≤ 64))
  | _ => false
theorem reprOkB_get {d : D} (h : reprOkB d = true) : ∃ s, reprD d = some (.str s) ∧ Sh (.str s) 0 64 := by
  unfold reprOkB at h
  cases e : reprD d with
  | none => rw [e] at h; cases h
  | some v =>
    rw [e] at h
    cases v with
    | str s =>
      simp only [Bool.and_eq_true] at h
      exact ⟨s, rfl, Sh.str h.1 h.2.1 (of_decide_eq_true h.2.2)⟩
    | _ => cases h
def reprIsB (d : D) (s : Str) : Bool := match reprD d with
  | some (.str t) => decide (t = s)
  | _ => false
theorem reprIsB_get {d : D} {s : Str} (h : reprIsB d s = true) : reprD d = some (.str s) := by
  unfold reprIsB at h
  cases e : reprD d with
  | none => rw [e] at h; cases h
  | some v =>
    rw [e] at h
    cases v with
    | str t => rw [show t = s from of_decide_eq_true h]
    | _ => cases h
/-! ### texts -/
def okT (x : Str) : Prop := ∀ c ∈ x.cps.toList, c < 0x110000
theorem okT_of (s : String) : okT (Str.ofString s) := fun c hc => by
  rw [Str.ofString_eq_toList] at hc
  obtain ⟨ch, _, rfl⟩ := List.mem_map.mp (by simpa using hc)
  have v := ch.valid
  show ch.val.toNat < _
  rcases v with v | v
  · have : ch.val.toNat < 0xd800 := v
    omega
  · exact v.2
theorem okT_app {a b : Str} (h1 : okT a) (h2 : okT b) : okT (a ++ b) := fun c hc => by
  rw [Str.cps_append, Array.toList_append, List.mem_append] at hc
  rcases hc with hc | hc
  · exact h1 c hc
  · exact h2 c hc
theorem Sh.text {x : Str} {n : Nat} (h : okT x) (hl : x.length ≤ n) : Sh (.str x) 0 n := by
  refine Sh.str ?_ ?_ hl
  · unfold PyData.strOk
    rw [← Array.all_toList, List.all_eq_true]
    exact fun c hc => decide_eq_true (h c hc)
  · rw [List.all_eq_true]
    exact fun c hc => decide_eq_true (Nat.lt_trans (h c hc) (by decide))
theorem log_lt {i : Int} (h : i.natAbs < 2 ^ 1900) : i.natAbs.log2 < 1920 := by
  by_cases z : i.natAbs = 0
  · rw [z]; decide
  · exact Nat.lt_trans ((Nat.log2_lt z).mpr h) (by decide)
theorem strA_int {i : Int} (h : i.natAbs < 2 ^ 1900) : strA (.int i) = some (.str (Str.ofString (toString i))) := by
  unfold strA strI
  simp only [if_pos (log_lt h)]
  rfl
theorem len_int {i : Int} {k : Nat} (hk : 0 < k) (h : i.natAbs < 2 ^ k) : (Str.ofString (toString i)).length ≤ k + 1 := by
  rw [PySem.ofString_length]
  refine PySem.int_text_length_le hk ?_
  by_cases z : i.natAbs = 0
  · rw [z]; simpa using hk
  · exact (Nat.log2_lt z).mpr h
theorem addD_str {a b : Str} (h : a.length + b.length ≤ sizeLine) : addD (.str a) (.str b) = some (.str (a ++ b)) := by
  show (addS' a b).orElse _ = _
  unfold addS'
  rw [if_pos h]
  rfl
end DL
set_option maxHeartbeats 4000000
namespace DL
open PySem PySem.Spec PyProof.Rows L2

/-! ### repr of data with dicts -/
/-- the table of modules stands in K, as a dict -/
def smB (K : PySem.W.Frag) : Bool := match K.lookup sysModules with
  | some ⟨_, _, .dict _ _, _⟩ => true
  | _ => false
theorem smB_get {K : PySem.W.Frag} (h : smB K = true) : ∃ o es n, K.lookup sysModules = some o ∧ o.data = .dict es n := by
  unfold smB at h
  cases e : K.lookup sysModules with
  | none => rw [e] at h; cases h
  | some o =>
    rw [e] at h
    obtain ⟨oc, od, dt, sl⟩ := o
    cases dt <;> first | exact ⟨_, _, _, rfl, rfl⟩ | cases h
def keyP : Key → PyData
  | .inl i => .int i
  | .inr x => .str x
mutual
def toPyX : D → Option PyData
  | .non => some .none
  | .bl b => some (.bool b)
  | .int i => some (.int i)
  | .str x => some (.str x)
  | .lst ds => (toPysX ds).map .list
  | .tup ds => (toPysX ds).map .tuple
  | .dct ks ds => (toPysX ds).map fun ps => .dict ((ks.map keyP).zip ps)
  | _ => none
def toPysX : List D → Option (List PyData)
  | [] => some []
  | d :: ds => (toPyX d).bind fun p => (toPysX ds).map fun ps => p :: ps
end
section
variable {X : Cx} {pins : List (Addr × Obj)} {σ : L2.St} {H : Hp} {s : Shared} {S : AP} {ι : List Addr}
theorem Paired.map2 {vs : List (Key × Value)} {kvs : List (Key × V)} (r : KV kvs vs) : Vals (kvs.map (·.2)) (vs.map (·.2)) ∧ kvs.map (·.1) = vs.map (·.1) := by
  induction r with
  | nil => exact ⟨.nil, rfl⟩
  | cons h _ ih => exact ⟨.cons h.2 ih.1, by simp only [List.map_cons, h.1, ih.2]⟩
theorem keys_read {h : Heap} {knd : PySem.KeyKind P w Key} (hk : ∀ k v, knd.is k v = true → keyIs k v = true) : ∀ {es : List DictEntry} {vs : List (Key × Value)}, Pairs knd es vs → (∃ as, ReadsAll h (es.map (·.key)) ((vs.map (·.1)).map keyP) as ∧ as = []) ∧ es.map (·.val) = vs.map (·.2)
  | _, _, .nil => ⟨⟨_, .nil, rfl⟩, rfl⟩
  | _, _, .cons (e := e) (kv := kv) h1 h2 r => by
    obtain ⟨⟨as, q, rfl⟩, q2⟩ := keys_read hk r
    refine ⟨?_, by simp only [List.map_cons, h2, q2]⟩
    rcases keyIs_shape (hk _ _ h1) with ⟨i, t, e1, e2⟩ | ⟨x, t, e1, e2⟩
    · refine ⟨_, ?_, rfl⟩
      have z := ReadsAll.cons (Reads.int (h := h) i t) q
      simp only [List.map_cons, e1, e2]
      exact z
    · refine ⟨_, ?_, rfl⟩
      have z := ReadsAll.cons (Reads.str (h := h) x t) q
      simp only [List.map_cons, e1, e2]
      exact z
theorem toPysX_len : ∀ {ds : List D} {ps : List PyData}, toPysX ds = some ps → ps.length = ds.length
  | [], _, e => by cases e; rfl
  | d :: ds, _, e => by
    have e' : ((toPyX d).bind fun p => (toPysX ds).map fun ps => p :: ps) = some _ := e
    cases e1 : toPyX d with
    | none => rw [e1] at e'; cases e'
    | some p =>
      rw [e1] at e'
      cases e2 : toPysX ds with
      | none => rw [e2] at e'; cases e'
      | some qs => rw [e2] at e'; cases e'; simp [toPysX_len e2]
theorem zip_map1 {α β γ : Type} (f : α → γ) : ∀ (ks : List α) (xs : List β), ks.length = xs.length → (ks.zip xs).map (·.1) = ks ∧ (ks.zip xs).map (·.2) = xs
  | [], [], _ => ⟨rfl, rfl⟩
  | k :: ks, x :: xs, h => by
    obtain ⟨h1, h2⟩ := zip_map1 f ks xs (by simpa using h)
    exact ⟨by simp [h1], by simp [h2]⟩
  | [], _ :: _, h => nomatch h
  | _ :: _, [], h => nomatch h
variable (I : Inv X pins σ H s) (sm : smB X.K = true)
include I sm
theorem sm_ne {a : Addr} {o : Obj} {vs : Array Value} {n : Nat} (e : s.heap.get? a = some o) (hd : o.data = .seq vs n) : a ≠ sysModules := fun z => by
  obtain ⟨o2, es, n2, h1, h2⟩ := smB_get sm
  have := I.kIn _ _ h1
  rw [← z, e] at this
  cases this
  rw [hd] at h2
  cases h2
mutual
theorem Dn.rd : ∀ {v : V} {d : D} {p : PyData} {u : Value}, Dn X.K X.mg S ι H v d → toPyX d = some p → RelV v u → ∃ as, Reads s.heap u p as ∧ sysModules ∉ as
  | _, _, _, _, .non, e, r => by cases e; cases r; exact ⟨_, .none, by simp⟩
  | _, _, _, _, .bl b, e, r => by cases e; cases r; exact ⟨_, .bool b, by simp⟩
  | _, _, _, _, .int i, e, r => by cases e; obtain ⟨t, rfl⟩ := r; exact ⟨_, .int i t, by simp⟩
  | _, _, _, _, .str x, e, r => by cases e; obtain ⟨t, rfl⟩ := r; exact ⟨_, .str x t, by simp⟩
  | _, _, _, _, .ty n, e, r => by cases e
  | _, _, _, _, .lst (ds := ds) h t, e, r => by
    have e' : (toPysX ds).map PyData.list = some _ := e
    cases e2 : toPysX ds with
    | none => rw [e2] at e'; cases e'
    | some ps =>
      rw [e2] at e'; cases e'; cases r
      obtain ⟨its, rv, ⟨o, n, ho, hc, _, hd⟩, _⟩ := I.list h.sq
      obtain ⟨as, hr, hs⟩ := Dns.rd t e2 rv
      exact ⟨_, .list ho hc hd hr, by
        simp only [List.mem_cons, not_or]
        exact ⟨fun z => sm_ne I sm ho hd z.symm, hs⟩⟩
  | _, _, _, _, .tup (ds := ds) h t, e, r => by
    have e' : (toPysX ds).map PyData.tuple = some _ := e
    cases e2 : toPysX ds with
    | none => rw [e2] at e'; cases e'
    | some ps =>
      rw [e2] at e'; cases e'; cases r
      obtain ⟨its, rv, ⟨o, ho, hc, n, hd⟩, _⟩ := I.tuple h.sq
      obtain ⟨as, hr, hs⟩ := Dns.rd t e2 rv
      exact ⟨_, .tuple ho hc hd hr, hs⟩
  | _, _, _, _, .dct (ks := ks) (xs := xs) (ds := ds) s0 h l t, e, r => by
    have e' : (toPysX ds).map (fun ps => PyData.dict ((ks.map keyP).zip ps)) = some _ := e
    cases e2 : toPysX ds with
    | none => rw [e2] at e'; cases e'
    | some ps =>
      rw [e2] at e'; cases e'; cases r
      obtain ⟨hz, hne, vs, kv, o, es, ep, ho, hx, hd, hko, hp, hnd⟩ := dk_of I.hok h
      obtain ⟨v1, v2⟩ := Paired.map2 kv
      obtain ⟨z1, z2⟩ := zip_map1 keyP ks xs l.symm
      rw [z2] at v1
      rw [z1] at v2
      obtain ⟨⟨as0, hk, rfl⟩, hv⟩ := keys_read (h := s.heap) (fun _ _ q => q) hp
      obtain ⟨bs, hr, hs⟩ := Dns.rd t e2 v1
      have lp : (ks.map keyP).length = ps.length := by
        rw [List.length_map, toPysX_len e2, ← t.length, l]
      obtain ⟨y1, y2⟩ := zip_map1 id (ks.map keyP) ps lp
      refine ⟨_, .dict (as := []) (bs := bs) ho hx.1 hd ?_ ?_, ?_⟩
      · rw [y1, v2]; exact hk
      · rw [y2, hv]; exact hr
      · simp only [List.append_nil, List.cons_append, List.nil_append, List.mem_cons, not_or]
        exact ⟨fun z => by rw [z] at hne; simp at hne, hs⟩
  | _, _, _, _, .ins s h l m t, e, r => by cases e
  | _, _, _, _, .exn s h sd hd l m t, e, r => by cases e
  | _, _, _, _, .exn0 s h m, e, r => by cases e
  | _, _, _, _, .gl m q, e, r => by cases e
  | _, _, _, _, .obj h, e, r => by cases e
  | _, _, _, _, .scr h t, e, r => by cases e
theorem Dns.rd : ∀ {vs : List V} {ds : List D} {ps : List PyData} {us : List Value}, Dns X.K X.mg S ι H vs ds → toPysX ds = some ps → Vals vs us → ∃ as, ReadsAll s.heap us ps as ∧ sysModules ∉ as
  | _, _, _, _, .nil, e, r => by cases e; cases r; exact ⟨_, .nil, by simp⟩
  | _, _, _, _, .cons (d := d) (ds := ds) h t, e, r => by
    have e' : ((toPyX d).bind fun p => (toPysX ds).map fun ps => p :: ps) = some _ := e
    cases e1 : toPyX d with
    | none => rw [e1] at e'; cases e'
    | some p =>
      rw [e1] at e'
      cases e2 : toPysX ds with
      | none => rw [e2] at e'; cases e'
      | some ps =>
        rw [e2] at e'; cases e'
        cases r with
        | cons r1 r2 =>
          obtain ⟨as, q1, n1⟩ := Dn.rd h e1 r1
          obtain ⟨bs, q2, n2⟩ := Dns.rd t e2 r2
          exact ⟨_, .cons q1 q2, by simp only [List.mem_append, not_or]; exact ⟨n1, n2⟩⟩
end
end
def shwX (p : PyData) : Prop := p.showable = true ∧ p.depth ≤ 60 ∧ p.shown.length ≤ sizeLine
instance (p : PyData) : Decidable (shwX p) := by unfold shwX; infer_instance
def reprX : D → Option D := fun d => match toPyX d with
  | some p => if shwX p then some (.str p.shown) else none
  | none => none
section
variable {X : Cx} {N : En} {W : WX}
theorem Bn.rd {pins : List (Addr × Obj)} {σ : L2.St} {H : Hp} {s : Shared} {S : AP} {ι : List Addr} (I : Inv X pins σ H s) (sm : smB X.K = true) {v : V} {d : D} {p : PyData} {u : Value} (b : Bn X.K X.mg S ι H v d) (e : toPyX d = some p) (r : RelV v u) : ∃ as, Reads s.heap u p as ∧ sysModules ∉ as := by
  cases b with
  | dn h => exact Dn.rd I sm h e r
  | lst h t =>
    rename_i ds
    have e' : (toPysX ds).map PyData.list = some _ := e
    cases e2 : toPysX ds with
    | none => rw [e2] at e'; cases e'
    | some ps =>
      rw [e2] at e'; cases e'; cases r
      obtain ⟨its, rv, ⟨o, n, ho, hc, _, hd⟩, _⟩ := I.list (SqL.of h)
      obtain ⟨as, hr, hs⟩ := Dns.rd I sm t e2 rv
      exact ⟨_, .list ho hc hd hr, by
        simp only [List.mem_cons, not_or]
        exact ⟨fun z => sm_ne I sm ho hd z.symm, hs⟩⟩
  | dct h l t =>
    rename_i a ks xs ds
    have e' : (toPysX ds).map (fun ps => PyData.dict ((ks.map keyP).zip ps)) = some _ := e
    cases e2 : toPysX ds with
    | none => rw [e2] at e'; cases e'
    | some ps =>
      rw [e2] at e'; cases e'; cases r
      obtain ⟨hz, hne, vs, kv, o, es, ep, ho, hx, hd, hko, hp, hnd⟩ := dk_of I.hok h
      obtain ⟨v1, v2⟩ := Paired.map2 kv
      obtain ⟨z1, z2⟩ := zip_map1 keyP ks xs l.symm
      rw [z2] at v1
      rw [z1] at v2
      obtain ⟨⟨as0, hk, rfl⟩, hv⟩ := keys_read (h := s.heap) (fun _ _ q => q) hp
      obtain ⟨bs, hr, hs⟩ := Dns.rd I sm t e2 v1
      have lp : (ks.map keyP).length = ps.length := by
        rw [List.length_map, toPysX_len e2, ← t.length, l]
      obtain ⟨y1, y2⟩ := zip_map1 id (ks.map keyP) ps lp
      refine ⟨_, .dict (as := []) (bs := bs) ho hx.1 hd ?_ ?_, ?_⟩
      · rw [y1, v2]; exact hk
      · rw [y2, hv]; exact hr
      · simp only [List.append_nil, List.cons_append, List.nil_append, List.mem_cons, not_or]
        exact ⟨fun z => by rw [z] at hne; simp at hne, hs⟩
theorem call_reprX (sm : smB X.K = true) (hu : X.A.units + 64 < cLine) (hg : Calm X.A) : CallR X (.builtin "repr") (fun xs H Q => ∃ v p S ι d, xs = [v] ∧ Bn X.K X.mg S ι H v d ∧ toPyX d = some p ∧ shwX p ∧ Q (.str p.shown) H) := by
  intro pins s σ H xs us Q I r h
  obtain ⟨v, p, S, ι, d, rfl, hd, ep, ⟨h1, h3, h4⟩, q⟩ := h
  obtain ⟨u, rfl, rv⟩ := vals1 r
  obtain ⟨as, rd, ns⟩ := hd.rd I sm ep rv
  cases rd with
  | none => exact PySem.P.repr_of_none ⟨.str "None", H, I.tok _, ⟨_, rfl⟩, q⟩
  | bool b =>
    cases b with
    | true => exact PySem.P.repr_of_bool ⟨.str (PyData.bool true).shown, H, I.tok _, ⟨s.toks, by simp only [PyData.shown]⟩, q⟩
    | false => exact PySem.P.repr_of_bool ⟨.str (PyData.bool false).shown, H, I.tok _, ⟨s.toks, by simp only [PyData.shown]⟩, q⟩
  | int i t => exact PySem.P.repr_of_int (by simpa [PyData.showable] using h1) ⟨.str (toString i), H, I.tok _, ⟨_, rfl⟩, q⟩
  | str x t => exact PySem.P.repr_of_str (hsz := h4) ⟨.str (reprText x), H, I.tok _, ⟨_, rfl⟩, q⟩
  | list a b c e =>
    refine repr_of_reads' (.list a b c e) h1 (fun _ => ns) hg (by omega) (fun _ _ e => e) (fun h' t tk hk => ?_) h4
    exact ⟨.str (PyData.shown _), H, I.kept (h' := h') (t' := tk) hk, ⟨_, rfl⟩, q⟩
  | tuple a b c e =>
    refine repr_of_reads' (.tuple a b c e) h1 (fun _ => ns) hg (by omega) (fun _ _ e => e) (fun h' t tk hk => ?_) h4
    exact ⟨.str (PyData.shown _), H, I.kept (h' := h') (t' := tk) hk, ⟨_, rfl⟩, q⟩
  | dict a b c e f =>
    refine repr_of_reads' (.dict a b c e f) h1 (fun _ => ns) hg (by omega) (fun _ _ e => e) (fun h' t tk hk => ?_) h4
    exact ⟨.str (PyData.shown _), H, I.kept (h' := h') (t' := tk) hk, ⟨_, rfl⟩, q⟩
theorem c_reprX (sm : smB X.K = true) (hu : X.A.units + 64 < cLine) (hg : Calm X.A) : C1 X (.builtin "repr") reprX := ⟨_, call_reprX sm hu hg, fun N ι M S H own x d r Q k b q k' => by
  unfold reprX at q
  cases e : toPyX d with
  | none => rw [e] at q; cases q
  | some p =>
    rw [e] at q
    simp only at q
    split at q
    · cases q
      exact ⟨x, p, S, ι, d, rfl, b, e, by assumption, k' _ S H k .refl (.str _)⟩
    · cases q⟩
end
end DL
set_option maxHeartbeats 4000000
namespace DL
open PySem PySem.Spec PyProof.Rows L2

/-! ### all(list) -/
def boolsOf : List D → Option (List Bool)
  | [] => some []
  | .bl b :: ds => (boolsOf ds).map (b :: ·)
  | _ :: _ => none
theorem boolsOf_eq : ∀ {ds : List D} {bs : List Bool}, boolsOf ds = some bs → ds = bs.map D.bl
  | [], _, h => by cases h; rfl
  | d :: ds, bs, h => by
    cases d with
    | bl b =>
      have h' : (boolsOf ds).map (b :: ·) = some bs := h
      cases e : boolsOf ds with
      | none => rw [e] at h'; cases h'
      | some cs => rw [e] at h'; cases h'; rw [boolsOf_eq e]; rfl
    | _ => cases h
theorem dns_bls {K : PySem.W.Frag} {mg : Str → Option Value} {S : AP} {ι : List Addr} {H : Hp} : ∀ {bs : List Bool} {xs : List V}, Dns K mg S ι H xs (bs.map D.bl) → xs = bs.map V.bl
  | [], _, .nil => rfl
  | b :: bs, _, .cons h t => by
    cases h
    rw [dns_bls t]; rfl
def allD : D → Option D
  | .lst ds => match boolsOf ds with
    | some bs => some (.bl (bs.all id))
    | none => none
  | _ => none
section
variable {X : Cx}
theorem c_all (hc : X.calm = true) : C1 X (.builtin "all") allD := ⟨_, cr_all hc, fun N ι M S H own x d r Q k b q k' => by
  unfold allD at q
  split at q
  · split at q
    · cases q
      rename_i bs hb
      obtain ⟨a, xs, rfl, ha, ta⟩ := b.lstAt
      rw [boolsOf_eq hb] at ta
      rw [dns_bls ta] at ha
      exact ⟨a, bs, rfl, SqL.of ha, k' _ S H k .refl (.bl _)⟩
    · cases q
  · cases q⟩
end
end DL
set_option maxHeartbeats 4000000
namespace DL
open PySem PySem.Spec PyProof.Rows L2

/-! ### t[::-1] of a tuple or a list -/
abbrev RRev (K : PySem.W.Frag) (x : V) (H1 : Hp) (Q : VK) : Prop := (∃ a xs, x = .ref a ∧ SqT K H1 a xs ∧ ∀ p, H1 p = none → Q (.ref p) (upd H1 p (.tup xs.reverse))) ∨ (∃ a xs, x = .ref a ∧ SqL K H1 a xs ∧ ∀ p, H1 p = none → Q (.ref p) (upd H1 p (.lst xs.reverse)))
section
variable {X : Cx} {N : En} {W : WX}
theorem pe_revA {e : Expr} {te : TE} {k : Nat} {p1 p2 p3 pos : Pos} (he : PE X e te) : PE X (.Subscript e (.Slice none none (some (.UnaryOp .USub (.Constant (.int 1) k p1) p2)) p3) pos) (fun σ H Q => te σ H fun x H1 => RRev X.K x H1 Q) := by
  refine ⟨fun pins s σ H Q I h => Subscript_ (thn (he.run pins s σ H _ I h) fun v s1 ⟨x, H1, I1, r1, q1⟩ => ?_)⟩
  have ea : ∃ a, x = .ref a := by
    rcases q1 with ⟨a, _, e, _⟩ | ⟨a, _, e, _⟩ <;> exact ⟨a, e⟩
  obtain ⟨a0, rfl⟩ := ea
  cases r1
  have minus1 : PO X (some (.UnaryOp .USub (.Constant (.int 1) k p1) p2)) (tPart (tUn (rU fun i => .int (-i)) (tC (.int 1)))) := po_some (pe_un un_neg pe_int)
  refine wpAny_Slice (thn (po_none.run pins s1 σ H1 (fun o H2 => o = none ∧ H2 = H1) I1 ⟨rfl, rfl⟩) fun vl s2 ⟨l, H2, I2, pl, el, e2⟩ => ?_)
  cases el
  cases e2
  refine thn (po_none.run pins s2 σ H1 (fun o H3 => o = none ∧ H3 = H1) I2 ⟨rfl, rfl⟩) fun vu s3 ⟨u, H3, I3, pu, eu, e3⟩ => ?_
  cases eu
  cases e3
  refine thn (minus1.run pins s3 σ H1 (fun o H4 => o = some (-1) ∧ H4 = H1) I3 ⟨1, rfl, -1, rfl, rfl, rfl⟩) fun vs s4 ⟨o, H4, I4, ps, eo, e4⟩ => ?_
  cases eo
  cases e4
  have J : Inv X pins σ H1 { s4 with heap := s4.heap.push { cls := .type "slice", data := .fields #[vl, vu, vs] } } := I4.kept (t' := s4.toks) fun b ob q => Heap.get?_push_of_some _ q
  show wpAny (model X.prog X.w) X.A (subscriptTail e (.Slice none none (some (.UnaryOp .USub (.Constant (.int 1) k p1) p2)) p3) (.ref a0) (.ref s4.heap.objs.size)) (EP X pins σ Q) X.xe { s4 with heap := s4.heap.push { cls := .type "slice", data := .fields #[vl, vu, vs] } }
  rcases q1 with ⟨a, xs, ex, hx, q⟩ | ⟨a, xs, ex, hx, q⟩
  · cases ex
    obtain ⟨its, r, ht, hz⟩ := J.tuple hx
    refine tail_any (ops := [.ref a0, .ref s4.heap.objs.size]) ht.typeIs (PyProof.Rows.slot_tuple_getitem.lookup) ?_ (by with_unfolding_all rfl)
    refine getItem_back ht (Heap.IsSliceOf.new _ vl vu vs) pl pu ps ?_ (by rw [← r.length]; exact hz)
    refine ⟨.ref _, _, J.laid (t' := s4.toks) (o := .tup xs.reverse) (fun b ob q => Heap.get?_push_of_some _ q) (Nat.le_refl _) ?_, rfl, q _ (J.hok.fresh (Nat.le_refl _))⟩
    exact ⟨by rw [List.length_reverse]; exact hz, _, r.reverse, IsTup.new _ _⟩
  · cases ex
    obtain ⟨its, rr, ht, hz⟩ := J.list hx
    have same := rr.length
    have small : its.toArray.size ≤ sizeLine := by rw [List.size_toArray]; omega
    have isl := ht.isList
    refine tail_any (ops := [.ref a0, .ref s4.heap.objs.size]) isl.typeIs (PySem.slot_list_getitem.lookup) ?_ (by with_unfolding_all rfl)
    refine wpAny_getItem_list_slice isl (Heap.IsSliceOf.new _ vl vu vs) pl pu ps (by simp) ?_ small
    rw [PySem.W.krv_pick]
    refine ⟨.ref _, _, J.laid (t' := s4.toks) (o := .lst xs.reverse) (fun b ob q0 => Heap.get?_push_of_some _ q0) (Nat.le_refl _) ?fine, rfl, q _ (J.hok.fresh (Nat.le_refl _))⟩
    case fine => exact ⟨by simpa using hz, _, 0, rr.reverse, Heap.get?_push_size _ rfl⟩
def revA : D → Option D
  | .tup ds => some (.tup ds.reverse)
  | .lst ds => some (.lst ds.reverse)
  | _ => none
theorem de_revA {e : Expr} {k : Nat} {p1 p2 p3 pos : Pos} {a : TDE} (ha : DB X N W e a) : DE X N W (.Subscript e (.Slice none none (some (.UnaryOp .USub (.Constant (.int 1) k p1) p2)) p3) pos) (dUn revA a) :=
  pe_imp (pe_revA ha) fun σ H Q q => un_core (R := fun x H Q => RRev X.K x H Q) (fun N ι M S H own x d r Q k b q k' => by
    unfold revA at q
    split at q
    · cases q
      obtain ⟨a, xs, rfl, ha, ta, _⟩ := b.tupAt
      exact .inl ⟨a, xs, rfl, ha, fun p hp => k' _ _ _ (k.alloc hp) ⟨k.alloc_ext hp, fun i a h => ⟨k.hown hp i a h, .inl h⟩⟩ (.tup (.inl ⟨.inr rfl, .inl upd_same⟩) (ta.rev.ext (k.alloc_ext hp)))⟩
    · cases q
      obtain ⟨a, xs, rfl, ha, ta⟩ := b.lstAt
      exact .inr ⟨a, xs, rfl, SqL.of ha, fun p hp => k' _ _ _ (k.alloc hp) ⟨k.alloc_ext hp, fun i a h => ⟨k.hown hp i a h, .inl h⟩⟩ (.lst ⟨.inr rfl, upd_same⟩ (ta.rev.ext (k.alloc_ext hp)))⟩
    · cases q) σ H Q q
end
end DL
set_option maxHeartbeats 2000000
namespace DL
open PySem PySem.Spec PyProof.Rows L2

/-! ### repr of data with wide whole numbers (up to 4300 figures) -/
mutual
def showW : PyData → Bool
  | .int i => decide (i.natAbs.log2 < 12900)
  | .list l => showWs l
  | .tuple l => showWs l
  | .dict _ => false
  | .none => true
  | .bool _ => true
  | .str _ => true
def showWs : List PyData → Bool
  | [] => true
  | p :: l => showW p && showWs l
end
theorem ltW {i : Int} (h : i.natAbs.log2 < 12900) : i.natAbs < 10 ^ 4300 := Nat.lt_of_lt_of_le (lt_of_log2 h) pow_lo

section
variable {P : Program} {w : World} {g0 : Heap}
theorem int_reprW {A : Around} {X : Value → Shared → Prop} {s : Shared} {i : Int} {t : Tok} {Q : Value → Shared → Prop} (nd : s.heap.NoDigits) (lt : i.natAbs < 10 ^ 4300)
    (q : Q (.str (toString i) s.toks) { s with toks := s.toks + 1 }) : wpAny (model P w) A (call (.builtin "int.__repr__") [.int i t]) Q X s := by
  apply wpAny_call_entry F.slot_int_repr (typeIs_int s i t) F.entry_int_repr _ (F.args_int_repr_1 _)
  unfold Builtin.«int.__repr__»; show wpAny _ _ (do let r ← Builtin.overDigitLimit? i; _) _ _ s
  apply wpAny_bind
  apply overDigitLimit_any nd
  · intro _
    exact wpAny_bind (wpAny_mkStr (wpAny_pure ⟨_, rfl, q⟩) (int_text_fits10 lt))
  · intro ge
    exact absurd ge (Nat.not_le.mpr lt)

theorem leafW {i : Int} {t : Tok} {n : Nat} (nd : g0.NoDigits) (lt : i.natAbs < 10 ^ 4300) : ReprK P w [] g0 n (.int i t) (toString i) := by
  intro b hb A g X s Q hg hc hu hk q
  have hb' : b ≤ sizeLine := Nat.le_trans (Nat.le_add_right _ _) hb
  rw [pyReprUnder_leaf (v := .int i t) hb' (by intro _ e; cases e)]
  unfold pyRepr
  apply wpAny_bind
  apply wpAny_pyReprObj_slot (Nat.lt_of_le_of_lt (Nat.le_add_right _ _) hu) (typeIs_int s i t) F.slot_int_repr.toG
  exact int_reprW (nd.keeps hk) lt ⟨_, _, rfl, wpAny_pure (q s.heap _ fun _ _ e => e)⟩

theorem oneW {x : Value} {p : PyData} {t : Str} (e : p.shown = t) (h : ReprIs P w x t) : ∃ bs, ReadAtMost g0 p.depth bs ∧ ReprK P w bs g0 p.depth x p.shown :=
  ⟨[], fun _ m => (nomatch m), e ▸ .of_is h _ _ _⟩

mutual
theorem reprW (nd : g0.NoDigits) : ∀ {x : Value} {p : PyData} {as : List Addr}, Reads g0 x p as → showW p = true → p.shown.length ≤ sizeLine →
    ∃ bs, ReadAtMost g0 p.depth bs ∧ ReprK P w bs g0 p.depth x p.shown
  | _, _, _, .none, _, _ => oneW (by simp only [PyData.shown]) ReprIs.none
  | _, _, _, .bool b, _, _ => oneW (by simp only [PyData.shown]) (ReprIs.bool b)
  | _, _, _, .int i t, hw, _ => ⟨[], fun _ m => (nomatch m), by
      simp only [PyData.shown]
      exact leafW nd (ltW (by simpa [showW] using hw))⟩
  | _, _, _, .str x t, _, hz => oneW rfl (by have e : (PyData.str x).shown = reprText x := by simp only [PyData.shown]
                                             rw [e] at hz ⊢; exact ReprIs.str x t hz)
  | _, _, _, .list (a := a) (vs := vs) (xs := xs) k1 k2 k3 k4, hw, hz => by
    have R : Reads g0 (.ref a) (.list xs) _ := .list k1 k2 k3 k4
    simp only [PyData.shown] at hz
    obtain ⟨bs, hb, hk⟩ := reprWs nd k4 (by simpa only [showW] using hw) (fun t m => Nat.le_trans (listText_mem_le m) hz)
    have out : a ∉ bs := not_mem_of_deeper R (by simp only [PyData.depth]; omega) hb
    refine ⟨a :: bs, ReadAtMost.cons R (by simp only [PyData.depth]; omega) hb, ?_⟩
    simp only [PyData.depth, PyData.shown]
    obtain ⟨l⟩ := vs
    cases l with
    | nil => cases (show ReadsAll g0 [] xs _ from k4); simp only [PyData.shownAll, listText_nil]; exact ReprK.listEmpty k1 k2 k3
    | cons y l => exact ReprK.list k1 k2 k3 out (by simpa using hk.length_eq) (fun j z e => hk.item j z (by simpa using e))
  | _, _, _, .tuple (a := a) (xs := xs) k1 k2 k3 k4, hw, hz => by
    have R : Reads g0 (.ref a) (.tuple xs) _ := .tuple k1 k2 k3 k4
    simp only [PyData.shown] at hz
    obtain ⟨bs, hb, hk⟩ := reprWs nd k4 (by simpa only [showW] using hw) (fun t m => Nat.le_trans (tupleText_mem_le m) hz)
    have out : a ∉ bs := not_mem_of_deeper R (by simp only [PyData.depth]; omega) hb
    refine ⟨a :: bs, ReadAtMost.cons R (by simp only [PyData.depth]; omega) hb, ?_⟩
    simp only [PyData.depth, PyData.shown]
    exact ReprK.tuple k1 k2 k3 out hk
  | _, _, _, .dict _ _ _ _ _, hw, _ => by simp [showW] at hw
theorem reprWs (nd : g0.NoDigits) : ∀ {xs : List Value} {ps : List PyData} {as : List Addr}, ReadsAll g0 xs ps as → showWs ps = true → (∀ t ∈ PyData.shownAll ps, t.length ≤ sizeLine) →
    ∃ bs, ReadAtMost g0 (PyData.depthAll ps) bs ∧ ReprAllK P w bs g0 (PyData.depthAll ps) xs (PyData.shownAll ps)
  | _, _, _, .nil, _, _ => ⟨[], fun _ m => (nomatch m), by simp only [PyData.shownAll]; exact .nil⟩
  | _, _, _, .cons (d := p) (ds := ps) r rs, hw, hz => by
    simp only [showWs, Bool.and_eq_true] at hw
    simp only [PyData.shownAll, List.mem_cons, forall_eq_or_imp] at hz
    obtain ⟨b1, m1, k1⟩ := reprW nd r hw.1 hz.1
    obtain ⟨b2, m2, k2⟩ := reprWs nd rs hw.2 hz.2
    simp only [PyData.depthAll, PyData.shownAll]
    exact ⟨b1 ++ b2, (m1.mono (Nat.le_max_left _ _)).append (m2.mono (Nat.le_max_right _ _)),
      .cons ((k1.more fun b m => List.mem_append_left _ m).level_le (Nat.le_max_left _ _)) (k2.more_le (fun b m => List.mem_append_right _ m) (Nat.le_max_right _ _))⟩
end

theorem repr_refW {a : Addr} {p : PyData} {as : List Addr} {A : Around} {X : Value → Shared → Prop} {s : Shared} {Q : Value → Shared → Prop} (nd : g0.NoDigits) (R : Reads g0 (.ref a) p as) (hw : showW p = true)
    (hg : A.guards = some []) (hu : A.units + (p.depth + 1) < cLine) (hk : ∀ b o, g0.get? b = some o → s.heap.get? b = some o) (hz : p.shown.length ≤ sizeLine)
    (q : ∀ h' u tk, (∀ b o, s.heap.get? b = some o → h'.get? b = some o) → Q (.str p.shown u) { s with heap := h', toks := tk }) : wpAny (model P w) A (call (.builtin "repr") [.ref a]) Q X s := by
  cases R with
  | list k1 k2 k3 k4 =>
    rename_i o vs n xs bs₀
    simp only [PyData.shown] at hz
    obtain ⟨bs, hb, hl⟩ := reprWs (P := P) (w := w) nd k4 (by simpa only [showW] using hw) (fun t m => Nat.le_trans (listText_mem_le m) hz)
    have out : a ∉ bs := not_mem_of_deeper (.list k1 k2 k3 k4) (by simp only [PyData.depth]; omega) hb
    simp only [PyData.depth] at hu
    simp only [PyData.shown] at q
    have ty : s.TypeIs (.ref a) "list" := ⟨o, hk _ _ k1, k2⟩
    apply call_repr_slot (by omega) ty F.slot_list_repr.toG
    obtain ⟨l⟩ := vs
    cases l with
    | nil =>
      cases (show ReadsAll g0 [] xs _ from k4)
      simp only [PyData.shownAll, listText_nil] at q
      exact call_list_repr_empty ⟨o, hk _ _ k1, k2⟩ (hk _ _ k1) k3 ⟨_, _, rfl, q s.heap _ _ fun _ _ e => e⟩
    | cons y l =>
      exact call_list_reprK k1 k2 k3 out (by simpa using hl.length_eq) (fun j z e => hl.item j z (by simpa using e)) hg (fun b _ => Clear.nil b) (by show A.units + 1 + _ < cLine; omega) hk (fun h' u tk kk => ⟨_, _, rfl, q h' u tk kk⟩) hz
  | tuple k1 k2 k3 k4 =>
    rename_i o vs n xs
    simp only [PyData.shown] at hz
    obtain ⟨bs, hb, hl⟩ := reprWs (P := P) (w := w) nd k4 (by simpa only [showW] using hw) (fun t m => Nat.le_trans (tupleText_mem_le m) hz)
    have out : a ∉ bs := not_mem_of_deeper (.tuple k1 k2 k3 k4) (by simp only [PyData.depth]; omega) hb
    simp only [PyData.depth] at hu
    simp only [PyData.shown] at q
    have ty : s.TypeIs (.ref a) "tuple" := ⟨o, hk _ _ k1, k2⟩
    apply call_repr_slot (by omega) ty F.slot_tuple_repr
    exact call_tuple_reprK k1 k2 k3 out hl hg (fun b _ => Clear.nil b) (by show A.units + 1 + _ < cLine; omega) hk (fun h' u tk kk => ⟨_, _, rfl, q h' u tk kk⟩) hz
  | dict _ _ _ _ _ => simp [showW] at hw
end

/-! ### repr, wide -/
def shwW (p : PyData) : Prop := showW p = true ∧ p.depth ≤ 60 ∧ p.shown.length ≤ sizeLine
instance (p : PyData) : Decidable (shwW p) := by unfold shwW; infer_instance
def reprDW : D → Option D := fun d => match toPy d with
  | some p => if shwW p then some (.str p.shown) else none
  | none => none
section
variable {X : Cx} {N : En} {W : WX}
theorem call_reprDW (nd : X.base.NoDigits) (hu : X.A.units + 64 < cLine) (hg : Calm X.A) : CallR X (.builtin "repr") (fun xs H Q => ∃ v d, xs = [v] ∧ Dp X.K H v d ∧ shwW d ∧ Q (.str d.shown) H) := by
  intro pins s σ H xs us Q I r h
  obtain ⟨v, d, rfl, hd, ⟨h1, h3, h4⟩, q⟩ := h
  obtain ⟨u, rfl, rv⟩ := vals1 r
  have ns : s.heap.NoDigits := nd.keeps I.bk
  have deep : ∀ {a : Addr}, u = .ref a → wpAny (model X.prog X.w) X.A (call (.builtin "repr") [u]) (EP X pins σ Q) X.xe s := fun {a} eu => by
    obtain ⟨as, rd⟩ := Dp.reads I d v u hd rv
    subst eu
    refine repr_refW ns rd h1 hg (by omega) (fun _ _ e => e) h4 (fun h' t tk hk => ?_)
    exact ⟨.str d.shown, H, I.kept (h' := h') (t' := tk) hk, ⟨_, rfl⟩, q⟩
  cases hd with
  | non =>
    cases (show u = Value.none from rv)
    exact PySem.P.repr_of_none ⟨.str "None", H, I.tok _, ⟨_, rfl⟩, q⟩
  | bl b =>
    cases (show u = Value.bool b from rv)
    cases b with
    | true => exact PySem.P.repr_of_bool ⟨.str (PyData.bool true).shown, H, I.tok _, ⟨s.toks, by simp only [PyData.shown]⟩, q⟩
    | false => exact PySem.P.repr_of_bool ⟨.str (PyData.bool false).shown, H, I.tok _, ⟨s.toks, by simp only [PyData.shown]⟩, q⟩
  | int i =>
    obtain ⟨t, rfl⟩ := (show ∃ t, u = Value.int i t from rv)
    have lt : i.natAbs < 10 ^ 4300 := ltW (by simpa [showW] using h1)
    exact call_repr_slot (by omega) (typeIs_int s i t) F.slot_int_repr.toG (int_reprW ns lt ⟨_, _, rfl, ⟨.str (toString i), H, I.tok _, ⟨_, rfl⟩, q⟩⟩)
  | str x =>
    obtain ⟨t, rfl⟩ := (show ∃ t, u = Value.str x t from rv)
    exact PySem.P.repr_of_str (hsz := h4) ⟨.str (reprText x), H, I.tok _, ⟨_, rfl⟩, q⟩
  | lst h t => exact deep (show u = Value.ref _ from rv)
  | tup h t => exact deep (show u = Value.ref _ from rv)
theorem c_reprW (nd : X.base.NoDigits) (hu : X.A.units + 64 < cLine) (hg : Calm X.A) : C1 X (.builtin "repr") reprDW := ⟨_, call_reprDW nd hu hg, fun N ι M S H own x d r Q k b q k' => by
  unfold reprDW at q
  cases e : toPy d with
  | none => rw [e] at q; cases q
  | some p =>
    rw [e] at q
    simp only at q
    split at q
    · cases q
      exact ⟨x, p, rfl, b.dp e, by assumption, k' _ S H k .refl (.str _)⟩
    · cases q⟩
end

/-! ### evaluation laws of reprDW -/
theorem leafIW {i : Int} (h : i.natAbs.log2 < 12900) : PyData.leavesShort 12901 (.int i) = true := by
  unfold PyData.leavesShort
  refine decide_eq_true ?_
  have e := PySem.int_text_length_le (a := i) (k := 12900) (by decide) h
  show (Str.ofString (toString i)).length ≤ 12901
  rw [PySem.ofString_length]
  exact e
theorem shw_ofW {p : PyData} (h1 : showW p = true) (h3 : p.depth ≤ 60) (h4 : p.leavesShort 12901 = true) (h5 : p.bulk ≤ 1200) : shwW p := by
  refine ⟨h1, h3, ?_⟩
  have := PyData.shown_le_bulk 12901 (by decide) p h4
  rw [sizeLine_eq]
  omega
theorem repr_ofW {d : D} {p : PyData} (h : toPy d = some p) (s : shwW p) : reprDW d = some (.str p.shown) := by
  unfold reprDW
  rw [h]
  exact if_pos s
/-! ### division by wide whole numbers -/
def divOkW (i j : Int) : Prop := j ≠ 0 ∧ Builtin.divisionGoesByPylong i j = false
instance (i j : Int) : Decidable (divOkW i j) := by unfold divOkW; infer_instance
def divIW : Int → Int → Option D := fun i j => if divOkW i j then some (.int (i.fdiv j)) else none
abbrev divDW : D → D → Option D := II divIW
theorem divOkW_low {i j : Int} (h : divOk j) : divOkW i j := ⟨h.1, PyProof.noPylong_of_log2 h.2⟩
theorem divOkW_near {i j : Int} (h0 : j ≠ 0) (h : i.natAbs.log2 ≤ j.natAbs.log2 + 4400) : divOkW i j := by
  refine ⟨h0, ?_⟩
  unfold Builtin.divisionGoesByPylong
  simp only [Bool.and_eq_false_iff, decide_eq_false_iff_not, beq_iff_eq]
  refine .inr ?_
  rw [if_neg h0]
  split <;> omega
theorem divIW_ok {i j : Int} (h : divOkW i j) : divIW i j = some (.int (i.fdiv j)) := if_pos h
section
variable {X : Cx}
theorem op_divNW : OpR X (binaryOp .FloorDiv) (rI (fun i j => divOkW i j) fun i j => .int (i.fdiv j)) := opI fun i j _ _ _ _ _ hc q =>
  floordiv_int hc.1 q (.inl hc.2)
theorem od_divW : OpD X (binaryOp .FloorDiv) (II divIW) := ⟨_, op_divNW, bi_int fun i j r e => by
  unfold divIW at e
  split at e
  · cases e; exact ⟨by assumption, fun _ _ _ _ _ => .int _⟩
  · cases e⟩
end
end DL
set_option maxHeartbeats 4000000
namespace DL
open PySem PySem.Spec PyProof.Rows L2

/-! ### a def that calls itself: by the number of calls within calls -/
/-- no call is told of -/
def φ0 : DF := fun _ _ => none
theorem Fk.none {P : Program} {w : World} {K : PySem.W.Frag} {mg : Str → Option Value} {base : Heap} {T : List (Addr × Str)} {x : Str} {k : Nat} {f : Addr} {fd : FuncData} {ps : List Str} (hm : mg x = some (.ref f)) (kp : PySem.W.keepIn K (.ref f) = true) : Fk P w K mg base T x k f fd ps φ0 := by
  refine ⟨hm, kp, fun vs H Q E h => ?_, fun A outer s H args us vs Q E g hr e0 hb r h => ?_⟩
  · exact h.1
  · obtain ⟨_, ι, M, S, ds, _, _, q⟩ := h
    exact q.elim
/-- by induction -/
theorem Fk.recur {P : Program} {w : World} {K : PySem.W.Frag} {mg : Str → Option Value} {base : Heap} {T : List (Addr × Str)} {x : Str} {c : Nat} {f : Addr} {fd : FuncData} {ps : List Str} {φ : Nat → DF} (h0 : φ 0 = φ0) (hm : mg x = some (.ref f)) (kp : PySem.W.keepIn K (.ref f) = true)
    (hs : ∀ n, Fk P w K mg base T x (c + n) f fd ps (φ n) → Fk P w K mg base T x (c + n + 1) f fd ps (φ (n + 1))) : ∀ n, Fk P w K mg base T x (c + n) f fd ps (φ n)
  | 0 => by rw [h0]; exact Fk.none hm kp
  | n + 1 => hs n (Fk.recur h0 hm kp hs n)
end DL
set_option maxHeartbeats 4000000
namespace DL
open PySem PySem.Spec PyProof.Rows L2

/-! ### xs[a:b] -/
def dSlB (a tl th : TDE) : TDE := dBind a fun d => dBind tl fun x => match x with
  | .int i => dBind th fun y => dOut (match y with | .int j => slD d (some i) (some j) | _ => none)
  | _ => fun _ _ => none
section
variable {X : Cx} {N : En} {W : WX}
/-- the ends are looked at as they come -/
theorem de_sl11 {e l h : Expr} {pos p2 : Pos} {a tl th : TDE} (ha : DB X N W e a) (hl : DB X N W l tl) (hh : DB X N W h th) : DE X N W (.Subscript e (.Slice (some l) (some h) none p2) pos) (dSlB a tl th) :=
  pe_imp (pe_slice sl_seq3 ha (po_some hl) (po_some hh)) fun σ H Q q => by
    obtain ⟨ι, S, own, ρ, M, c, q⟩ := q
    refine ⟨ι, S, own, ρ, M, c, ?_⟩
    unfold dSlB dBind at q
    cases e1 : a ρ M with
    | none => rw [e1] at q; exact q
    | some o1 =>
      rw [e1] at q
      cases o1 with
      | ex x ρ' M' => exact q
      | ok d ρ1 M1 =>
        intro x ι1 S1 H1 own1 c1 x1 bx
        refine ⟨ι1, S1, own1, ρ1, M1, c1, ?_⟩
        simp only at q
        cases e2 : tl ρ1 M1 with
        | none => rw [e2] at q; exact q
        | some o2 =>
          rw [e2] at q
          cases o2 with
          | ex x' ρ' M' => exact XPost.later x1.ext q
          | ok d2 ρ2 M2 =>
            intro y ι2 S2 H2 own2 c2 x2 hy
            simp only at q
            cases d2 with
            | int i =>
              refine ⟨i, hy.bn.intAt, ι2, S2, own2, ρ2, M2, c2, ?_⟩
              simp only at q
              cases e3 : th ρ2 M2 with
              | none => rw [e3] at q; exact q
              | some o3 =>
                rw [e3] at q
                cases o3 with
                | ex x' ρ' M' => exact XPost.later x2.ext (XPost.later x1.ext q)
                | ok d3 ρ3 M3 =>
                  intro z ι3 S3 H3 own3 c3 x3 hz
                  cases d3 with
                  | int j => exact ⟨j, hz.bn.intAt, sl_go c3 (bx.ext (x2.trans c1.ok x3)) (postD.later c2.ok x3 (postD.later c1.ok x2 (postD.later c.ok x1 q)))⟩
                  | _ => exact q.elim
            | _ => exact q.elim
/-! ### a module's tuple of texts -/
def TupS (K : PySem.W.Frag) (mg : Str → Option Value) (x : Str) (ss : List Str) : Prop := ∃ a, mg x = some (.ref a) ∧ SqT K (fun _ => none) a (ss.map V.str)
theorem str_dns {K : PySem.W.Frag} {mg : Str → Option Value} {S : AP} {ι : List Addr} {H : Hp} : ∀ ss : List Str, Dns K mg S ι H (ss.map V.str) (ss.map D.str)
  | [] => .nil
  | s :: ss => .cons (.str s) (str_dns ss)
theorem de_tupS_glob {x : Str} {ss : List Str} {pos : Pos} (h : TupS X.K X.mg x ss) (hg : Gl X x := by rfl) (hdb : (x == ("__debug__" : Str)) = false := by decide) : DE X N W (.Name x pos) (dC (.tup (ss.map D.str))) :=
  let ⟨a, h1, h2⟩ := h
  de_glob (v := .ref a) h1 rfl (fun _ _ _ => .tup (.inr h2) (str_dns ss)) hg hdb
end
def tupSB (K : PySem.W.Frag) (x : Str) (ss : List Str) : Bool := (He.Fa.glo x).ok K && He.tupB K x (ss.map He.Dv.str)
theorem tupS_ok {K : PySem.W.Frag} {h : Heap} {mg : Str → Option Value} (X : K.In h) (G : h.Ns mainGlobals mg) {x : Str} {ss : List Str} (c : tupSB K x ss = true) : TupS K mg x ss := by
  obtain ⟨c1, c2⟩ := He.ba c
  refine ⟨_, He.glo_ok X G c1, ?_⟩
  have e := He.tupB_ok c2 (fun _ => none)
  rw [List.map_map] at e
  exact e
end DL
set_option maxHeartbeats 4000000
namespace DL
open PySem PySem.Spec PyProof.Rows L2

/-! ### methods of texts -/
/-- x.name() -/
def dM0 (g : Str → Option D) (a : TDE) : TDE := dUn (fun d => match d with | .str s => g s | _ => none) a
/-- x.name(y): x is looked at first -/
def dM1 (g : Str → D → Option D) (a b : TDE) : TDE := dBind a fun d => match d with
  | .str s => dBind b fun e => dOut (g s e)
  | _ => fun _ _ => none
def M0D (X : Cx) (r : V → List V → Hp → VK → Prop) (g : Str → Option D) : Prop := ∀ (N : En) (ι : List Addr) (M : MS) (S : AP) (H : Hp) (own : OwnM) (s : Str) (e : D) (Q : VK), Ok X.K X.mg N ι M S H own → g s = some e →
  (∀ v S' H', Ok X.K X.mg N ι M S' H' own → ExtE S ι H own S' ι H' own → Dn X.K X.mg S' ι H' v e → Q v H') → r (.str s) [] H Q
def M1D (X : Cx) (r : V → List V → Hp → VK → Prop) (g : Str → D → Option D) : Prop := ∀ (N : En) (ι : List Addr) (M : MS) (S : AP) (H : Hp) (own : OwnM) (s : Str) (y : V) (d e : D) (Q : VK), Ok X.K X.mg N ι M S H own → Bn X.K X.mg S ι H y d → g s d = some e →
  (∀ v S' H', Ok X.K X.mg N ι M S' H' own → ExtE S ι H own S' ι H' own → Dn X.K X.mg S' ι H' v e → Q v H') → r (.str s) [y] H Q
structure SM0 (X : Cx) (name : Str) (g : Str → Option D) : Prop where
  ok : ∃ (id : String) (r : V → List V → Hp → VK → Prop), Slot "str" name id ∧ typeOf (.builtin id) = pure (.type "method_descriptor") ∧ MtR X id r ∧ M0D X r g
structure SM1 (X : Cx) (name : Str) (g : Str → D → Option D) : Prop where
  ok : ∃ (id : String) (r : V → List V → Hp → VK → Prop), Slot "str" name id ∧ typeOf (.builtin id) = pure (.type "method_descriptor") ∧ MtR X id r ∧ M1D X r g
section
variable {X : Cx} {N : En} {W : WX}
theorem de_m0 {name : Str} {g : Str → Option D} {o : Expr} {apos pos : Pos} {a : TDE} (h : SM0 X name g) (ha : DB X N W o a) (hbase : attributeBase o name X.env (eval o X.env) = eval o X.env := by rfl) (hline : (apos.endLine == pos.line) = true := by rfl) :
    DE X N W (.Call (.Attribute o name apos) [] [] pos) (dM0 g a) :=
  let ⟨_, r, h1, h2, h3, h4⟩ := h.ok
  pe_imp (pe_m0 h1 h2 h3 ha hbase hline) fun σ H Q q => un_core (R := fun x H Q => (∃ a, x = .str a) ∧ r x [] H Q) (fun N ι M S H own x d e Q k b q k' => by
    cases d with
    | str s =>
      have e0 : x = .str s := b.strAt
      subst e0
      exact ⟨⟨_, rfl⟩, h4 N ι M S H own s e Q k q k'⟩
    | _ => cases q) σ H Q q
theorem de_m1 {name : Str} {g : Str → D → Option D} {o e : Expr} {apos pos : Pos} {a b : TDE} (h : SM1 X name g) (ha : DB X N W o a) (hb : DB X N W e b) (hs : starEach [e] X.env = [(false, eval e X.env)] := by rfl)
    (hbase : attributeBase o name X.env (eval o X.env) = eval o X.env := by rfl) (hline : (apos.endLine == pos.line) = true := by rfl) :
    DE X N W (.Call (.Attribute o name apos) [e] [] pos) (dM1 g a b) :=
  let ⟨_, r, h1, h2, h3, h4⟩ := h.ok
  pe_imp (pe_m1 h1 h2 h3 ha hb hs hbase hline) fun σ H Q q => by
    obtain ⟨ι, S, own, ρ, M, c, q⟩ := q
    refine ⟨ι, S, own, ρ, M, c, ?_⟩
    unfold dM1 dBind at q
    cases e1 : a ρ M with
    | none => rw [e1] at q; exact q
    | some o1 =>
      rw [e1] at q
      cases o1 with
      | ex x ρ' M' => exact q
      | ok d ρ1 M1 =>
        intro x ι1 S1 H1 own1 c1 x1 bx
        simp only at q
        cases d with
        | str s =>
          have e0 : x = .str s := bx.bn.strAt
          subst e0
          refine ⟨⟨_, rfl⟩, ι1, S1, own1, ρ1, M1, c1, ?_⟩
          simp only at q
          cases e2 : b ρ1 M1 with
          | none => rw [e2] at q; exact q
          | some o2 =>
            rw [e2] at q
            cases o2 with
            | ex x' ρ' M' => exact XPost.later x1.ext q
            | ok d2 ρ2 M2 =>
              intro y ι2 S2 H2 own2 c2 x2 hy
              simp only at q
              exact out_go (R := fun Q => r (.str s) [y] H2 Q) c2 (postD.later c1.ok x2 (postD.later c.ok x1 q)) fun g' e k => h4 N ι2 M2 S2 H2 own2 s y d2 g' Q c2.ok hy.bn e k
        | _ => exact q.elim
end

/-! ### the methods -/
def splitD : Str → D → Option D := fun a d => match d with
  | .str b => if (b.length == 0) = false ∧ a.length + 2 ≤ sizeLine then some (.lst ((Txt.split a b).map .str)) else none
  | _ => none
def partD : Str → D → Option D := fun a d => match d with
  | .str b => if (b.length == 0) = false ∧ a.length ≤ sizeLine then some (.tup [.str (Txt.partition a b).1, .str (Txt.partition a b).2.1, .str (Txt.partition a b).2.2]) else none
  | _ => none
def strsD : List D → Option (List Str)
  | [] => some []
  | .str s :: r => (strsD r).map (s :: ·)
  | _ :: _ => none
def joinL (a : Str) (ds : List D) : Option D := match strsD ds with
  | some ys => if (ys.map (·.length)).sum + ys.length * a.length ≤ 16777216 then some (.str (Txt.join a ys)) else none
  | none => none
def joinD : Str → D → Option D := fun a d => match d with
  | .lst ds => joinL a ds
  | .scr ds => joinL a ds
  | .tup ds => joinL a ds
  | _ => none
def upperD : Str → Option D := fun a => if a.length ≤ 5592405 then some (.str (Txt.upper a)) else none
def lowerD : Str → Option D := fun a => if a.length ≤ 5592405 then some (.str (Txt.lower a)) else none
def stripD : Str → Option D := fun a => if a.length ≤ sizeLine then some (.str (Txt.strip a)) else none
def wordsD : Str → Option D := fun a => if a.length + 2 ≤ sizeLine then some (.lst ((Txt.words a).map .str)) else none
def isdigitD : Str → Option D := fun a => some (.bl (Txt.isdigit a))
def startsD : Str → D → Option D := fun a d => match d with | .str b => some (.bl (Txt.startswith a b)) | _ => none
def endsD : Str → D → Option D := fun a d => match d with | .str b => some (.bl (Txt.endswith a b)) | _ => none
def findD : Str → D → Option D := fun a d => match d with | .str b => some (.int (Txt.find a b)) | _ => none
def countD : Str → D → Option D := fun a d => match d with | .str b => some (.int (Txt.count a b)) | _ => none
def sidxD : Str → D → Option D := fun a d => match d with
  | .str b => match Builtin.Str.occurrences a b 0 a.length 1 with
    | i :: _ => some (.int (i : Nat))
    | [] => none
  | _ => none
theorem strsD_v {K : PySem.W.Frag} {mg : Str → Option Value} {S : AP} {ι : List Addr} {H : Hp} : ∀ {ds : List D} {xs : List V} {ys : List Str}, Dns K mg S ι H xs ds → strsD ds = some ys → xs = ys.map V.str := by
  intro ds
  induction ds with
  | nil =>
    intro xs ys h e
    cases h
    cases e
    rfl
  | cons d ds ih =>
    intro xs ys h e
    cases h with
    | cons h1 h2 =>
      cases d with
      | str s =>
        simp only [strsD] at e
        cases e2 : strsD ds with
        | none => rw [e2] at e; cases e
        | some zs =>
          rw [e2] at e
          cases e
          cases h1
          rw [ih h2 e2]
          rfl
      | _ => cases e
section
variable {X : Cx}
theorem new_strs {N : En} {ι : List Addr} {M : MS} {S : AP} {H : Hp} {own : OwnM} {Q : VK} {ys : List Str} (k : Ok X.K X.mg N ι M S H own)
    (k' : ∀ v S' H', Ok X.K X.mg N ι M S' H' own → ExtE S ι H own S' ι H' own → Dn X.K X.mg S' ι H' v (.lst (ys.map .str)) → Q v H') : rNewStrs ys H Q :=
  fun p hp => k' _ _ _ (k.alloc hp) ⟨k.alloc_ext hp, fun i a h => ⟨k.hown hp i a h, .inl h⟩⟩ (.lst ⟨.inr rfl, upd_same⟩ (str_dns ys))
theorem m_split : SM1 X "split" splitD := ⟨_, _, F.slot_str_split, F.type_str_split, mt_split, fun N ι M S H own s y d e Q k b q k' => by
  unfold splitD at q
  split at q
  · have e0 := b.strAt
    subst e0
    split at q
    · rename_i h
      cases q
      exact ⟨_, _, rfl, rfl, h.1, h.2, new_strs k k'⟩
    · cases q
  · cases q⟩
theorem m_part : SM1 X "partition" partD := ⟨_, _, F.slot_str_partition, F.type_str_partition, mt_partition, fun N ι M S H own s y d e Q k b q k' => by
  unfold partD at q
  split at q
  · have e0 := b.strAt
    subst e0
    split at q
    · rename_i h
      cases q
      exact ⟨_, _, rfl, rfl, h.1, h.2, fun p hp => k' _ _ _ (k.alloc hp) ⟨k.alloc_ext hp, fun i a h => ⟨k.hown hp i a h, .inl h⟩⟩ (.tup (.inl ⟨.inr rfl, .inl upd_same⟩) (str_dns [_, _, _]))⟩
    · cases q
  · cases q⟩
theorem m_join : SM1 X "join" joinD := ⟨_, _, F.slot_str_join, F.type_str_join, mt_join, fun N ι M S H own s y d e Q k b q k' => by
  have go : ∀ {a : Addr} {xs : List V} {ds : List D}, y = .ref a → Dns X.K X.mg S ι H xs ds → joinL s ds = some e → (SqL X.K H a xs ∨ SqT X.K H a xs) → 
      ∃ a p, ∃ ys : List Str, V.str s = .str a ∧ [y] = [V.ref p] ∧ (SqL X.K H p (ys.map V.str) ∨ SqT X.K H p (ys.map V.str)) ∧ (ys.map (·.length)).sum + ys.length * a.length ≤ 16777216 ∧ Q (.str (Txt.join a ys)) H := by
    intro a xs ds e0 t q h
    unfold joinL at q
    cases e2 : strsD ds with
    | none => rw [e2] at q; cases q
    | some ys =>
      rw [e2] at q
      simp only at q
      split at q
      · cases q
        have e3 := strsD_v t e2
        subst e3
        exact ⟨s, a, ys, rfl, by rw [e0], h, by assumption, k' _ S H k .refl (.str _)⟩
      · cases q
  unfold joinD at q
  split at q
  · obtain ⟨a, xs, e0, ha, ta⟩ := b.lstAt
    exact go e0 ta q (.inl (SqL.of ha))
  · obtain ⟨a, xs, e0, ha, ta⟩ := b.scrAt
    exact go e0 ta q (.inl ha)
  · obtain ⟨a, xs, e0, ha, ta, _⟩ := b.tupAt
    exact go e0 ta q (.inr ha)
  · cases q⟩
theorem m_upper : SM0 X "upper" upperD := ⟨_, _, F.slot_str_upper, F.type_str_upper, mt_upper, fun N ι M S H own s e Q k q k' => by
  unfold upperD at q
  split at q
  · cases q; exact ⟨_, rfl, rfl, by assumption, k' _ S H k .refl (.str _)⟩
  · cases q⟩
theorem m_lower : SM0 X "lower" lowerD := ⟨_, _, F.slot_str_lower, F.type_str_lower, mt_lower, fun N ι M S H own s e Q k q k' => by
  unfold lowerD at q
  split at q
  · cases q; exact ⟨_, rfl, rfl, by assumption, k' _ S H k .refl (.str _)⟩
  · cases q⟩
theorem m_strip : SM0 X "strip" stripD := ⟨_, _, F.slot_str_strip, F.type_str_strip, mt_strip, fun N ι M S H own s e Q k q k' => by
  unfold stripD at q
  split at q
  · cases q; exact ⟨_, rfl, rfl, by assumption, k' _ S H k .refl (.str _)⟩
  · cases q⟩
theorem m_words : SM0 X "split" wordsD := ⟨_, _, F.slot_str_split, F.type_str_split, mt_words, fun N ι M S H own s e Q k q k' => by
  unfold wordsD at q
  split at q
  · cases q; exact ⟨_, rfl, rfl, by assumption, new_strs k k'⟩
  · cases q⟩
theorem m_isdigit : SM0 X "isdigit" isdigitD := ⟨_, _, F.slot_str_isdigit, F.type_str_isdigit, mt_isdigit, fun N ι M S H own s e Q k q k' => by
  cases q; exact ⟨_, rfl, rfl, trivial, k' _ S H k .refl (.bl _)⟩⟩
theorem m_starts : SM1 X "startswith" startsD := ⟨_, _, F.slot_str_startswith, F.type_str_startswith, mt_startswith, fun N ι M S H own s y d e Q k b q k' => by
  unfold startsD at q
  split at q
  · have e0 := b.strAt
    subst e0
    cases q; exact ⟨_, _, rfl, rfl, k' _ S H k .refl (.bl _)⟩
  · cases q⟩
theorem m_ends : SM1 X "endswith" endsD := ⟨_, _, F.slot_str_endswith, F.type_str_endswith, mt_endswith, fun N ι M S H own s y d e Q k b q k' => by
  unfold endsD at q
  split at q
  · have e0 := b.strAt
    subst e0
    cases q; exact ⟨_, _, rfl, rfl, k' _ S H k .refl (.bl _)⟩
  · cases q⟩
theorem m_find : SM1 X "find" findD := ⟨_, _, F.slot_str_find, F.type_str_find, mt_find, fun N ι M S H own s y d e Q k b q k' => by
  unfold findD at q
  split at q
  · have e0 := b.strAt
    subst e0
    cases q; exact ⟨_, _, rfl, rfl, k' _ S H k .refl (.int _)⟩
  · cases q⟩
theorem m_count : SM1 X "count" countD := ⟨_, _, F.slot_str_count, F.type_str_count, mt_count, fun N ι M S H own s y d e Q k b q k' => by
  unfold countD at q
  split at q
  · have e0 := b.strAt
    subst e0
    cases q; exact ⟨_, _, rfl, rfl, k' _ S H k .refl (.int _)⟩
  · cases q⟩
theorem m_sidx : SM1 X "index" sidxD := ⟨_, _, F.slot_str_index, F.type_str_index, mt_sindex, fun N ι M S H own s y d e Q k b q k' => by
  unfold sidxD at q
  split at q
  · have e0 := b.strAt
    subst e0
    split at q
    · cases q; exact ⟨_, _, _, _, rfl, rfl, by assumption, k' _ S H k .refl (.int _)⟩
    · cases q
  · cases q⟩
end
end DL
set_option maxHeartbeats 4000000
namespace DL
open PySem PySem.Spec PyProof.Rows L2 PySem.NumText

/-! ### int(text) of up to 4300 figures -/
theorem digits_nm {s : Shared} (nd : s.heap.NoDigits) {M : Model} {A : Around} {E : Value → Shared → Prop} {Q : Nat → Shared → Prop} (h : Q 4300 s) : wpAny M A Builtin.intMaxStrDigits Q E s := by
  obtain ⟨mc, hns, hnone⟩ := nd
  delta Builtin.intMaxStrDigits
  refine wpAny_bind (wpAny_nsGet hns ?_)
  rw [hnone]
  exact wpAny_pure h
theorem wp_textW {M : Model} {A : Around} {E : Value → Shared → Prop} {s : Shared} {Q : Value → Shared → Prop} {v : Value} {text : List Nat} {n : Int} (nd : s.heap.NoDigits)
    (hs : ¬ (text.takeWhile (· != 0)).length ≤ 640) (hr : (int_private% "readNumeral") 4300 10 (text.takeWhile (· != 0)) = (int_private% "Numeral.value") n)
    (hfull : ((text.takeWhile (· != 0)).length == text.length) = true) (h : Q (.int n s.toks) { s with toks := s.toks + 1 }) :
    wpAny M A ((int_private% "intFromText") v text 10) Q E s := by -- of up to 4300 figures
  obtain ⟨heap1, gl1, dep1, tok1, out1⟩ := s
  repeat (any_goals (first
    | assumption
    | (with_reducible refine wpAny_ite_false (decide_eq_false hs) ?_)
    | (with_reducible refine wpAny_ite_true (decide_eq_true hfull) ?_)
    | (with_reducible refine digits_nm nd ?_)
    | wp_step))
  all_goals (try rw [hr])
  all_goals (try dsimp only)
  repeat (any_goals (first
    | assumption
    | (with_reducible refine wpAny_ite_true (decide_eq_true hfull) ?_)
    | wp_step))
structure HidW (p : Prop) : Prop where
  out : p
theorem wp_textA {M : Model} {A : Around} {E : Value → Shared → Prop} {s : Shared} {Q : Value → Shared → Prop} {v : Value} {text : List Nat} {n : Int} (nd : s.heap.NoDigits)
    (hr : (int_private% "readNumeral") (if (text.takeWhile (· != 0)).length ≤ 640 then 0 else 4300) 10 (text.takeWhile (· != 0)) = (int_private% "Numeral.value") n)
    (hfull : ((text.takeWhile (· != 0)).length == text.length) = true) (h : Q (.int n s.toks) { s with toks := s.toks + 1 }) :
    wpAny M A ((int_private% "intFromText") v text 10) Q E s := by -- of up to 4300 figures
  by_cases hs : (text.takeWhile (· != 0)).length ≤ 640
  · rw [if_pos hs] at hr
    exact PySem.W.KIN.wp_text hs hr hfull h
  · rw [if_neg hs] at hr
    exact wp_textW nd hs hr hfull h
theorem meets_textW {x : PySem.Str} {u : Tok} {n : Int} (hl : x.length ≤ sizeLine) (hn : PySem.intText? x = some n) : Meets (Builtin.«int.__new__» ⟨[.type "int", .str x u], []⟩)
    (fun _ R s => s.heap.NoDigits ∧ R (.ok (.ret (.int n s.toks))) { s with toks := s.toks + 1 }) := fun prog w A R s h => by
  refine wpAny_mono (Q := fun fin s' => ∃ v, fin = .done (.ret v) ∧ R (.ok (.ret v)) s') (E := fun e s' => R (.error e) s') ?_ (fun fin s' h' => by obtain ⟨v, rfl, hv⟩ := h'; exact hv) fun _ _ x => x
  obtain ⟨nd, h⟩ := h
  obtain ⟨heap1, gl1, dep1, tok1, out1⟩ := s
  generalize A.in1 = A
  generalize (fun (e : Value) s' => R (.error e) s') = E
  have f1 := F.conv_sub_int
  have f2 := F.madeHere_int
  have f3 := PySem.W.KIN.str_int
  have f4 := PySem.W.KIN.str_idx
  have f5 := PySem.W.KIN.str_trunc
  have ft : typeOf (.str x u) = pure (.type "str") := rfl
  have hr : (int_private% "readNumeral") (if (numSeenOf x).length ≤ 640 then 0 else 4300) 10 (numSeenOf x) = (int_private% "Numeral.value") n ∧ ((numSeenOf x).length == (numTextOf x).length) = true := by
    rcases readAny x hl with ⟨m, h1, h2, h3⟩ | ⟨h1, _⟩
    · rw [hn] at h1
      injection h1 with h1
      subst h1
      exact ⟨h3, h2⟩
    · rw [hn] at h1
      cases h1
  have hk := HidW.mk (And.intro nd hr)
  clear hr hl hn nd
  repeat (any_goals (first
    | assumption
    | ((with_reducible show wpAny _ _ ((int_private% "intFromText") _ _ _) _ _ _); refine wp_textA hk.out.1 hk.out.2.1 hk.out.2.2 ?_)
    | wp_step))
  all_goals (first | (exact ⟨_, rfl, h⟩) | skip)
theorem call_textW {prog : Program} {w : World} {A : Around} {E : Value → Shared → Prop} {s : Shared} {Q : Value → Shared → Prop} {x : PySem.Str} {t : Tok} {n : Int} (nd : s.heap.NoDigits)
    (hn : PySem.intText? x = some n) (hl : x.length ≤ sizeLine) (h : Q (.int n s.toks) { s with toks := s.toks + 1 }) : wpAny (model prog w) A (call (.type "int") [.str x t]) Q E s :=
  call_int_1 (meets_textW hl hn) ⟨nd, rfl, h⟩
section
variable {X : Cx}
theorem call_int_strW (nd : X.base.NoDigits) : CallR X (.type "int") (fun xs H Q => ∃ a n, xs = [.str a] ∧ PySem.intText? a = some n ∧ a.length ≤ sizeLine ∧ Q (.int n) H) := by
  intro pins s σ H xs us Q I rs told
  obtain ⟨a, n, rfl, hn, hl, h⟩ := told
  obtain ⟨u, rfl, rv⟩ := vals1 rs
  obtain ⟨t, rfl⟩ := rv
  exact call_textW (nd.keeps I.bk) hn hl ⟨.int n, H, I.tok _, ⟨_, rfl⟩, h⟩
def intSW : D → Option D
  | .str s => if s.length ≤ sizeLine then (PySem.intText? s).map .int else none
  | _ => none
theorem c_intSW (nd : X.base.NoDigits) : C1 X (.type "int") intSW := ⟨_, call_int_strW nd, fun N ι M S H own x d r Q k b q k' => by
  unfold intSW at q
  split at q
  · split at q
    · rename_i s hz
      cases e : PySem.intText? s with
      | none => rw [e] at q; cases q
      | some n =>
        rw [e] at q
        cases q
        exact ⟨s, n, by rw [b.strAt], e, hz, k' _ S H k .refl (.int _)⟩
    · cases q
  · cases q⟩
def intAW : D → Option D := fun d => (intD d).orElse fun _ => intSW d
theorem c_intW (nd : X.base.NoDigits) : C1 X (.type "int") intAW := c_int0.or (c_intSW nd)
end
end DL
set_option maxHeartbeats 4000000
namespace DL
open PySem PySem.Spec PyProof.Rows L2

/-! ### texts are walked, too -/
def signsD (s : Str) : List D := s.cps.toList.map fun c => .str ⟨#[c]⟩
def itemsT : D → Option (List D)
  | .lst ds => some ds
  | .tup ds => some ds
  | .str s => some (signsD s)
  | _ => none
section
variable {X : Cx} {N : En} {W : WX}
theorem di_seqT {tg e : Expr} {a : TDE} (ha : DE X N W e a) : DI X N W tg e (iBind a itemsT) := pi_imp (pi_or2 (di_seq ha) (pi_str ha)) fun σ H R q => by
  obtain ⟨ι, S, own, ρ, M, c, q⟩ := q
  unfold iBind at q
  cases e1 : a ρ M with
  | none => rw [e1] at q; exact q.elim
  | some o1 =>
    rw [e1] at q
    cases o1 with
    | ex x ρ' M' =>
      refine .inl ⟨ι, S, own, ρ, M, c, ?_⟩
      unfold iBind
      rw [e1]; exact q
    | ok d ρ1 M1 =>
      simp only at q
      cases d with
      | lst ds =>
        refine .inl ⟨ι, S, own, ρ, M, c, ?_⟩
        unfold iBind
        rw [e1]; exact q
      | tup ds =>
        refine .inl ⟨ι, S, own, ρ, M, c, ?_⟩
        unfold iBind
        rw [e1]; exact q
      | str s =>
        refine .inr ⟨ι, S, own, ρ, M, c, ?_⟩
        rw [e1]
        intro v ι1 S1 H1 own1 c1 x1 dn
        cases dn
        refine ⟨s, rfl, q _ ι1 S1 H1 own1 c1 x1 (itOk_of walk_str (by unfold signsD; simp) (fun S2 ι2 H2 e => trivial) fun i S2 ι2 H2 x H3 hi e y => ?_)⟩
        obtain ⟨rfl, ch, h1, rfl⟩ := y
        refine ⟨.str ⟨#[ch]⟩, ?_, .inl ⟨rfl, .str _⟩⟩
        unfold signsD
        rw [List.getElem?_map, Array.getElem?_toList, h1]
        rfl
      | _ => exact q.elim
end
end DL
set_option maxHeartbeats 4000000
namespace DL
open PySem PySem.Spec PyProof.Rows L2

/-! ### a text * a number -/
def repS : D → D → Option D
  | .str a, .int n => if 0 ≤ n ∧ n ≤ 10000 ∧ a.length ≤ 1000 then some (.str (Txt.mul a n)) else none
  | _, _ => none
theorem mulOk_s {a : Str} {n : Int} (h0 : 0 ≤ n) (h1 : n ≤ 10000) (h2 : a.length ≤ 1000) : MulOk a n := by
  have hm : a.length * n.toNat ≤ 1000 * 10000 := Nat.mul_le_mul h2 (by omega)
  refine ⟨?_, fun hn _ => ?_, fun _ _ => ?_⟩
  · rw [decide_eq_false (by omega), decide_eq_false (by omega)]; rfl
  · intro hg
    have hp : 0 < n := by omega
    have k : (a.length : Int) ≤ (2 ^ 63 - 1) / n := by
      refine (Int.le_ediv_iff_mul_le hp).mpr ?_
      have e : (n.toNat : Int) = n := by omega
      have : ((a.length * n.toNat : Nat) : Int) = (a.length : Int) * n := by rw [Int.natCast_mul, e]
      omega
    omega
  · exact decide_eq_false (by rw [sizeLine_eq]; omega)
section
variable {X : Cx}
theorem op_repS : OpR X (binaryOp .Mult) (fun x y H Q => ∃ a n, x = .str a ∧ y = .int n ∧ MulOk a n ∧ Q (.str (Txt.mul a n)) H) := by
  intro pins s σ H x y v u Q I rx ry told
  obtain ⟨a, n, rfl, rfl, hk, q⟩ := told
  obtain ⟨t, rfl⟩ := rx
  obtain ⟨t', rfl⟩ := ry
  exact SB.mul hk fun t'' k => ⟨.str (Txt.mul a n), H, I.tok k, ⟨t'', rfl⟩, q⟩
theorem od_repS : OpD X (binaryOp .Mult) repS := ⟨_, op_repS, fun N ι M S H own x y d e r Q k b1 b2 q k' => by
  unfold repS at q
  split at q
  · split at q
    · rename_i h
      cases q
      have e1 := b1.strAt
      subst e1
      exact ⟨_, _, rfl, b2.intAt, mulOk_s h.1 h.2.1 h.2.2, k' _ S H k .refl (.str _)⟩
    · cases q
  · cases q⟩
end
end DL
set_option maxHeartbeats 0
namespace L05
open PySem PySem.Spec PyProof.Rows L2 DL
def top (i : Nat) : Stmt := PySem.Challenge.pw_askednear_k05_texts_of_numbers.main.body.getD i (.Pass ⟨0, 0, 0, 0⟩)
def TT : OwnT := ⟨[], [(.ty "int", .ty "int", true),
  (.ty "int", .ty "bool", false),
  (.ty "int", .ty "str", false),
  (.ty "int", .ty "list", false),
  (.ty "int", .ty "tuple", false),
  (.ty "int", .ty "dict", false),
  (.ty "bool", .ty "int", true),
  (.ty "bool", .ty "bool", true),
  (.ty "bool", .ty "str", false),
  (.ty "bool", .ty "list", false),
  (.ty "bool", .ty "tuple", false),
  (.ty "bool", .ty "dict", false),
  (.ty "str", .ty "int", false),
  (.ty "str", .ty "bool", false),
  (.ty "str", .ty "str", true),
  (.ty "str", .ty "list", false),
  (.ty "str", .ty "tuple", false),
  (.ty "str", .ty "dict", false),
  (.ty "list", .ty "int", false),
  (.ty "list", .ty "bool", false),
  (.ty "list", .ty "str", false),
  (.ty "list", .ty "list", true),
  (.ty "list", .ty "tuple", false),
  (.ty "list", .ty "dict", false),
  (.ty "tuple", .ty "int", false),
  (.ty "tuple", .ty "bool", false),
  (.ty "tuple", .ty "str", false),
  (.ty "tuple", .ty "list", false),
  (.ty "tuple", .ty "tuple", true),
  (.ty "tuple", .ty "dict", false),
  (.ty "dict", .ty "int", false),
  (.ty "dict", .ty "bool", false),
  (.ty "dict", .ty "str", false),
  (.ty "dict", .ty "list", false),
  (.ty "dict", .ty "tuple", false),
  (.ty "dict", .ty "dict", true),
  (.ty "NoneType", .ty "int", false),
  (.ty "NoneType", .ty "bool", false),
  (.ty "NoneType", .ty "str", false),
  (.ty "NoneType", .ty "list", false),
  (.ty "NoneType", .ty "tuple", false),
  (.ty "NoneType", .ty "dict", false)], [], [], []⟩
structure Fx (K : PySem.W.Frag) (mg : Str → Option Value) : Prop where
  own : OwnOk K mg TT
  f_abs : mg "abs" = none
  f_all : mg "all" = none
  f_bool : mg "bool" = none
  f_int : mg "int" = none
  f_isinstance : mg "isinstance" = none
  f_len : mg "len" = none
  f_list : mg "list" = none
  f_range : mg "range" = none
  f_repr : mg "repr" = none
  f_str : mg "str" = none
  f_tuple : mg "tuple" = none
  i_gcd : mg "gcd" = some (.builtin "math.gcd")
  c_FIGURES : ∃ t, mg "FIGURES" = some (.str "0123456789" t)
  c_MOST_SIGNS : ∃ t, mg "MOST_SIGNS" = some (.int 1000 t)
section
variable {P : Program} {w : World} {K : PySem.W.Frag} {mg : Str → Option Value} {base : Heap} {T : List (Addr × Str)}
abbrev s__law_pen : Stmt := top 17
theorem sc__law_pen : FnScope ["script", "cell"] ["script"] (defScope s__law_pen) := ⟨rfl, rfl, rfl, by decide +kernel, rfl, by decide +kernel, by decide +kernel⟩
noncomputable def k0__law_pen : TDE := dComp [1] (iBind (dSl (dPeek 0) none (some (dC (.int 63)))) itemsT) (bName 1) dYes (dUn intA (dPeek 1))
noncomputable def m__law_pen : TDS := (sRetObj (aCons (k0__law_pen) (aCons (dC (.int 0)) (aCons (dC (.int 0)) aNil))))
noncomputable def φ__law_pen : DF := dFn 1 2 m__law_pen
theorem ok__law_pen (E : Fx K mg) (nd : base.NoDigits) (H : DfD K mg "_law_pen" s__law_pen []) : DgD P w K mg base T "_law_pen" s__law_pen 1 ["script"] φ__law_pen [] := by
  obtain ⟨f, fd, F, hm⟩ := H
  refine ⟨f, fd, F, def_of (Ns := ["script", "cell"]) (ps := ["script"]) (t := m__law_pen) hm F sc__law_pen (by decide) (by decide) fun cdv hcd A outer s H E' N hT hc hr tk => ?_⟩
  subst hT
  have sc := sc__law_pen
  exact (dss_one (ds_retObj (ps_ret (pe_lst (da_cons (de_lc (N := N) (own := [("cell", 1)]) rfl sc.nd (di_seqT (de_sl01 (db_var (pe_var (i := 0) rfl (Or.inl rfl))) (de_b (de_int)))) (blkOk_by (own := [("cell", 1)]) (N := ["script", "cell"]) (sc := defScope s__law_pen) (by decide +kernel)) (gok_name (by decide)) (fun _ _ _ _ _ => (pg_name (i := 1) sc.nd rfl (Or.inl rfl))) (fun _ _ _ _ _ => pts_nil) tYes_of (fun _ _ _ _ _ => (de_t1 c_int E.f_int (db_var (pe_var (i := 1) rfl (Or.inl rfl)))))) (da_cons (de_int) (da_cons (de_int) da_nil)))))))
abbrev s__law_draw : Stmt := top 18
theorem sc__law_draw : FnScope ["pen", "many", "rest", "at", "cell", "mixed"] ["pen", "many"] (defScope s__law_draw) := ⟨rfl, rfl, rfl, by decide +kernel, rfl, by decide +kernel, by decide +kernel⟩
noncomputable def m__law_draw : TDS := (sSeq (sIf (dBin gtD (dObjIx 0 (dC (.int 2))) (dC (.int 0))) (sSeq (sSet 2 (dUn intA (dObjIx 0 (dC (.int 2))))) (sSeq (sObjSet 0 (dC (.int 2)) (dBin divD (dPeek 2) (dPeek 1))) (sRet (dBin modD (dUn intA (dPeek 2)) (dPeek 1))))) sNext) (sSeq (sSet 3 (dObjIx 0 (dC (.int 1)))) (sSeq (sObjSet 0 (dC (.int 1)) (dBin addD (dPeek 3) (dC (.int 1)))) (sSeq (sSet 4 (dBin addD (dBin mulD (dC (.int 91097)) (dPeek 3)) (dC (.int 1039)))) (sSeq (sIf (dBin (eqA true) (dObjIx 0 (dC (.int 0))) (dLst aNil)) (sSet 4 (dBin ixD (dObjIx 0 (dC (.int 0))) (dBin modD (dUn intA (dPeek 3)) (dUn lenA (dObjIx 0 (dC (.int 0))))))) sNext) (sSeq (sIf (dAndT (dBin ltD (dPeek 3) (dUn lenA (dObjIx 0 (dC (.int 0))))) (dBin geD (dUn absD (dPeek 4)) (dBin powD (dC (.int 10)) (dC (.int 18))))) (sSeq (sSet 2 (dBin addD (dBin mulD (dC (.int 2)) (dBin subD (dUn absD (dPeek 4)) (dBin powD (dC (.int 10)) (dC (.int 18))))) (dUn intA (dBin ltD (dPeek 4) (dC (.int 0)))))) (sSeq (sObjSet 0 (dC (.int 2)) (dBin divD (dUn intA (dPeek 2)) (dPeek 1))) (sRet (dBin modD (dUn intA (dPeek 2)) (dPeek 1))))) sNext) (sSeq (sSet 5 (dBin modD (dUn intA (dBin powD (dBin addD (dBin addD (dBin modD (dUn intA (dPeek 4)) (dC (.int 2147483549))) (dBin mulD (dC (.int 91097)) (dPeek 3))) (dC (.int 1039))) (dC (.int 5)))) (dC (.int 2147483587)))) (sSeq (sSet 5 (dBin modD (dUn intA (dBin powD (dBin addD (dBin addD (dBin mulD (dPeek 5) (dBin addD (dBin mulD (dC (.int 2)) (dPeek 3)) (dC (.int 269)))) (dBin mulD (dBin mulD (dC (.int 70051)) (dPeek 3)) (dPeek 3))) (dC (.int 1039))) (dC (.int 3)))) (dC (.int 2147483563)))) (sRet (dBin modD (dUn intA (dBin divD (dPeek 5) (dC (.int 32)))) (dPeek 1)))))))))))
noncomputable def φ__law_draw : DF := dFn 2 6 m__law_draw
theorem ok__law_draw (E : Fx K mg) (nd : base.NoDigits) (H : DfD K mg "_law_draw" s__law_draw []) : DgD P w K mg base T "_law_draw" s__law_draw 1 ["pen", "many"] φ__law_draw [] := by
  obtain ⟨f, fd, F, hm⟩ := H
  refine ⟨f, fd, F, def_of (Ns := ["pen", "many", "rest", "at", "cell", "mixed"]) (ps := ["pen", "many"]) (t := m__law_draw) hm F sc__law_draw (by decide) (by decide) fun cdv hcd A outer s H E' N hT hc hr tk => ?_⟩
  subst hT
  have sc := sc__law_draw
  exact (dss_cons (ds_if (dt_cmp od_gt (de_b (de_objix (pe_var (i := 0) rfl (Or.inl rfl)) (de_int))) (de_b (de_int))) (dss_cons (ds_set (ps_set (i := 2) sc.nd rfl (Or.inl rfl) (de_t1 c_int E.f_int (de_b (de_objix (pe_var (i := 0) rfl (Or.inl rfl)) (de_int)))))) (dss_cons (ds_objset (ps_asg (de_bin od_div (db_var (pe_var (i := 2) rfl (Or.inl rfl))) (db_var (pe_var (i := 1) rfl (Or.inl rfl)))) (pg_sub (pe_var (i := 0) rfl (Or.inl rfl)) (de_int) set_list))) (dss_one (ds_ret (de_bin od_mod (de_b (de_t1 c_int E.f_int (db_var (pe_var (i := 2) rfl (Or.inl rfl))))) (db_var (pe_var (i := 1) rfl (Or.inl rfl)))))))) dss_nil) (dss_cons (ds_set (ps_set (i := 3) sc.nd rfl (Or.inl rfl) (de_objix (pe_var (i := 0) rfl (Or.inl rfl)) (de_int)))) (dss_cons (ds_objset (ps_asg (de_bin od_add (db_var (pe_var (i := 3) rfl (Or.inl rfl))) (de_b (de_int))) (pg_sub (pe_var (i := 0) rfl (Or.inl rfl)) (de_int) set_list))) (dss_cons (ds_set (ps_set (i := 4) sc.nd rfl (Or.inl rfl) (de_bin od_add (de_b (de_bin od_mulI (de_b (de_int)) (db_var (pe_var (i := 3) rfl (Or.inl rfl))))) (de_b (de_int))))) (dss_cons (ds_if (dt_cmp (od_neA hr.units) (de_b (de_objix (pe_var (i := 0) rfl (Or.inl rfl)) (de_int))) (de_b (de_lst da_nil))) (dss_one (ds_set (ps_set (i := 4) sc.nd rfl (Or.inl rfl) (de_ix (de_b (de_objix (pe_var (i := 0) rfl (Or.inl rfl)) (de_int))) (de_b (de_bin od_mod (de_b (de_t1 c_int E.f_int (db_var (pe_var (i := 3) rfl (Or.inl rfl))))) (de_b (de_b1 c_len E.f_len (de_b (de_objix (pe_var (i := 0) rfl (Or.inl rfl)) (de_int))))))))))) dss_nil) (dss_cons (ds_if (dw_t (dw_and (dt_cmp od_lt (db_var (pe_var (i := 3) rfl (Or.inl rfl))) (de_b (de_b1 c_len E.f_len (de_b (de_objix (pe_var (i := 0) rfl (Or.inl rfl)) (de_int)))))) (dw_and1 (dt_cmp od_ge (de_b (de_b1 c_abs E.f_abs (db_var (pe_var (i := 4) rfl (Or.inl rfl))))) (de_b (de_bin od_pow (de_b (de_int)) (de_b (de_int)))))))) (dss_cons (ds_set (ps_set (i := 2) sc.nd rfl (Or.inl rfl) (de_bin od_add (de_b (de_bin od_mulI (de_b (de_int)) (de_b (de_bin od_sub (de_b (de_b1 c_abs E.f_abs (db_var (pe_var (i := 4) rfl (Or.inl rfl))))) (de_b (de_bin od_pow (de_b (de_int)) (de_b (de_int)))))))) (de_b (de_t1 c_int E.f_int (de_b (de_cmp od_lt (db_var (pe_var (i := 4) rfl (Or.inl rfl))) (de_b (de_int))))))))) (dss_cons (ds_objset (ps_asg (de_bin od_div (de_b (de_t1 c_int E.f_int (db_var (pe_var (i := 2) rfl (Or.inl rfl))))) (db_var (pe_var (i := 1) rfl (Or.inl rfl)))) (pg_sub (pe_var (i := 0) rfl (Or.inl rfl)) (de_int) set_list))) (dss_one (ds_ret (de_bin od_mod (de_b (de_t1 c_int E.f_int (db_var (pe_var (i := 2) rfl (Or.inl rfl))))) (db_var (pe_var (i := 1) rfl (Or.inl rfl)))))))) dss_nil) (dss_cons (ds_set (ps_set (i := 5) sc.nd rfl (Or.inl rfl) (de_bin od_mod (de_b (de_t1 c_int E.f_int (de_b (de_bin od_pow (de_b (de_bin od_add (de_b (de_bin od_add (de_b (de_bin od_mod (de_b (de_t1 c_int E.f_int (db_var (pe_var (i := 4) rfl (Or.inl rfl))))) (de_b (de_int)))) (de_b (de_bin od_mulI (de_b (de_int)) (db_var (pe_var (i := 3) rfl (Or.inl rfl))))))) (de_b (de_int)))) (de_b (de_int)))))) (de_b (de_int))))) (dss_cons (ds_set (ps_set (i := 5) sc.nd rfl (Or.inl rfl) (de_bin od_mod (de_b (de_t1 c_int E.f_int (de_b (de_bin od_pow (de_b (de_bin od_add (de_b (de_bin od_add (de_b (de_bin od_mulI (db_var (pe_var (i := 5) rfl (Or.inl rfl))) (de_b (de_bin od_add (de_b (de_bin od_mulI (de_b (de_int)) (db_var (pe_var (i := 3) rfl (Or.inl rfl))))) (de_b (de_int)))))) (de_b (de_bin od_mulI (de_b (de_bin od_mulI (de_b (de_int)) (db_var (pe_var (i := 3) rfl (Or.inl rfl))))) (db_var (pe_var (i := 3) rfl (Or.inl rfl))))))) (de_b (de_int)))) (de_b (de_int)))))) (de_b (de_int))))) (dss_one (ds_ret (de_bin od_mod (de_b (de_t1 c_int E.f_int (de_b (de_bin od_div (db_var (pe_var (i := 5) rfl (Or.inl rfl))) (de_b (de_int)))))) (db_var (pe_var (i := 1) rfl (Or.inl rfl))))))))))))))
abbrev s__law_pick : Stmt := top 19
theorem sc__law_pick : FnScope ["pen", "some"] ["pen", "some"] (defScope s__law_pick) := ⟨rfl, rfl, rfl, by decide +kernel, rfl, by decide +kernel, by decide +kernel⟩
noncomputable def m__law_pick : TDS := (sRet (dBin ixD (dPeek 1) (aBind (aCons (dVar 0) (aCons (dUn lenA (dPeek 1)) aNil)) fun ds => fits 2 ds (fits 2 (pick [.p 0, .p 1] ds [] []) (dApp φ__law_draw (pick [.p 0, .p 1] ds [] []))))))
noncomputable def φ__law_pick : DF := dFn 2 2 m__law_pick
theorem ok__law_pick (E : Fx K mg) (nd : base.NoDigits) (H : DfD K mg "_law_pick" s__law_pick []) (H__law_draw : DgD P w K mg base T "_law_draw" s__law_draw 1 ["pen", "many"] φ__law_draw []) : DgD P w K mg base T "_law_pick" s__law_pick 2 ["pen", "some"] φ__law_pick [] := by
  obtain ⟨f, fd, F, hm⟩ := H
  obtain ⟨f__law_draw, fd__law_draw, F__law_draw, k__law_draw⟩ := H__law_draw
  refine ⟨f, fd, F, def_of (Ns := ["pen", "some"]) (ps := ["pen", "some"]) (t := m__law_pick) hm F sc__law_pick (by decide) (by decide) fun cdv hcd A outer s H E' N hT hc hr tk => ?_⟩
  subst hT
  have sc := sc__law_pick
  exact (dss_one (ds_ret (de_ix (db_var (pe_var (i := 1) rfl (Or.inl rfl))) (de_b (de_call (n := 2) (ps := ["pen", "many"]) (sel := [.p 0, .p 1]) (φ := φ__law_draw) (dds := []) k__law_draw  hc (hr.mono (by decide)) tk (cb0 F__law_draw 2 [] _ fun _ _ _ _ _ _ us ws hl hw => match us, ws, hl, hw with | [_, _], [], _, _ => rfl) (fun _ _ _ => .nil) rfl (da_cons (de_var (pe_var (i := 0) rfl (Or.inl rfl))) (da_cons (de_b1 c_len E.f_len (db_var (pe_var (i := 1) rfl (Or.inl rfl)))) da_nil)))))))
abbrev s__law_low : Stmt := top 20
theorem sc__law_low : FnScope ["top", "bottom", "one", "other"] ["top", "bottom"] (defScope s__law_low) := ⟨rfl, rfl, rfl, by decide +kernel, rfl, by decide +kernel, by decide +kernel⟩
noncomputable def c0__law_low : TDE := (dBin gtD (dPeek 3) (dC (.int 0)))
noncomputable def b0__law_low : TDS := (sPar 2 3 (aCons (dVar 3) (aCons (dBin modD (dUn intA (dPeek 2)) (dPeek 3)) aNil)))
noncomputable def m__law_low : TDS := (sSeq (sPar 2 3 (aCons (dUn absD (dPeek 0)) (aCons (dUn absD (dPeek 1)) aNil))) (sSeq (sWhile c0__law_low b0__law_low) (sSeq (sIf (dBin ltD (dPeek 1) (dC (.int 0))) (sSet 2 (dBin subD (dC (.int 0)) (dPeek 2))) sNext) (sRet (dTup (aCons (dBin divD (dPeek 0) (dPeek 2)) (aCons (dBin divD (dPeek 1) (dPeek 2)) aNil)))))))
noncomputable def φ__law_low : DF := dFn 2 4 m__law_low
theorem ok__law_low (E : Fx K mg) (nd : base.NoDigits) (H : DfD K mg "_law_low" s__law_low []) : DgD P w K mg base T "_law_low" s__law_low 1 ["top", "bottom"] φ__law_low [] := by
  obtain ⟨f, fd, F, hm⟩ := H
  refine ⟨f, fd, F, def_of (Ns := ["top", "bottom", "one", "other"]) (ps := ["top", "bottom"]) (t := m__law_low) hm F sc__law_low (by decide) (by decide) fun cdv hcd A outer s H E' N hT hc hr tk => ?_⟩
  subst hT
  have sc := sc__law_low
  exact (dss_cons (ds_par (ps_par (i := 2) (j := 3) rfl sc.nd rfl rfl (by decide) rfl rfl (da_cons (de_b1 c_abs E.f_abs (db_var (pe_var (i := 0) rfl (Or.inl rfl)))) (da_cons (de_b1 c_abs E.f_abs (db_var (pe_var (i := 1) rfl (Or.inl rfl)))) da_nil)) rfl)) (dss_cons (ds_while (passes_of rfl) (dt_cmp od_gt (db_var (pe_var (i := 3) rfl (Or.inl rfl))) (de_b (de_int))) (dss_one (ds_par (ps_par (i := 2) (j := 3) rfl sc.nd rfl rfl (by decide) rfl rfl (da_cons (de_var (pe_var (i := 3) rfl (Or.inl rfl))) (da_cons (de_bin od_mod (de_b (de_t1 c_int E.f_int (db_var (pe_var (i := 2) rfl (Or.inl rfl))))) (db_var (pe_var (i := 3) rfl (Or.inl rfl)))) da_nil)) rfl)))) (dss_cons (ds_if (dt_cmp od_lt (db_var (pe_var (i := 1) rfl (Or.inl rfl))) (de_b (de_int))) (dss_one (ds_set (ps_set (i := 2) sc.nd rfl (Or.inl rfl) (de_bin od_sub (de_b (de_int)) (db_var (pe_var (i := 2) rfl (Or.inl rfl))))))) dss_nil) (dss_one (ds_ret (de_tup (da_cons (de_bin od_div (db_var (pe_var (i := 0) rfl (Or.inl rfl))) (db_var (pe_var (i := 2) rfl (Or.inl rfl)))) (da_cons (de_bin od_div (db_var (pe_var (i := 1) rfl (Or.inl rfl))) (db_var (pe_var (i := 2) rfl (Or.inl rfl)))) da_nil))))))))
abbrev s__law_number : Stmt := top 21
theorem sc__law_number : FnScope ["pen", "top", "bottom", "scale", "due", "raw"] ["pen"] (defScope s__law_number) := ⟨rfl, rfl, rfl, by decide +kernel, rfl, by decide +kernel, by decide +kernel⟩
noncomputable def m__law_number : TDS := (sSeq (sSet 1 (aBind (aCons (dVar 0) (aCons (dLst (aCons (dC (.int 0)) (aCons (dC (.int 1)) (aCons (dUn negD (dC (.int 1))) (aCons (dBin subD (aBind (aCons (dVar 0) (aCons (dC (.int 40)) aNil)) fun ds => fits 2 ds (fits 2 (pick [.p 0, .p 1] ds [] []) (dApp φ__law_draw (pick [.p 0, .p 1] ds [] [])))) (dC (.int 20))) (aCons (dBin subD (aBind (aCons (dVar 0) (aCons (dC (.int 2000)) aNil)) fun ds => fits 2 ds (fits 2 (pick [.p 0, .p 1] ds [] []) (dApp φ__law_draw (pick [.p 0, .p 1] ds [] [])))) (dC (.int 1000))) (aCons (dBin addD (dBin powD (dC (.int 10)) (dC (.int 30))) (aBind (aCons (dVar 0) (aCons (dBin powD (dC (.int 10)) (dC (.int 6))) aNil)) fun ds => fits 2 ds (fits 2 (pick [.p 0, .p 1] ds [] []) (dApp φ__law_draw (pick [.p 0, .p 1] ds [] []))))) aNil))))))) aNil)) fun ds => fits 2 ds (fits 2 (pick [.p 0, .p 1] ds [] []) (dApp φ__law_pick (pick [.p 0, .p 1] ds [] []))))) (sSeq (sSet 2 (aBind (aCons (dVar 0) (aCons (dLst (aCons (dC (.int 1)) (aCons (dC (.int 1)) (aCons (dC (.int 2)) (aCons (dC (.int 3)) (aCons (dBin addD (dC (.int 1)) (aBind (aCons (dVar 0) (aCons (dC (.int 12)) aNil)) fun ds => fits 2 ds (fits 2 (pick [.p 0, .p 1] ds [] []) (dApp φ__law_draw (pick [.p 0, .p 1] ds [] []))))) (aCons (dBin addD (dC (.int 1)) (aBind (aCons (dVar 0) (aCons (dBin powD (dC (.int 10)) (dC (.int 9))) aNil)) fun ds => fits 2 ds (fits 2 (pick [.p 0, .p 1] ds [] []) (dApp φ__law_draw (pick [.p 0, .p 1] ds [] []))))) (aCons (dBin powD (dC (.int 10)) (dC (.int 25))) aNil)))))))) aNil)) fun ds => fits 2 ds (fits 2 (pick [.p 0, .p 1] ds [] []) (dApp φ__law_pick (pick [.p 0, .p 1] ds [] []))))) (sSeq (sSet 3 (dBin addD (dC (.int 1)) (aBind (aCons (dVar 0) (aCons (dC (.int 4)) aNil)) fun ds => fits 2 ds (fits 2 (pick [.p 0, .p 1] ds [] []) (dApp φ__law_draw (pick [.p 0, .p 1] ds [] [])))))) (sSeq (sSet 4 (aBind (aCons (dVar 1) (aCons (dVar 2) aNil)) fun ds => fits 2 ds (fits 2 (pick [.p 0, .p 1] ds [] []) (dApp φ__law_low (pick [.p 0, .p 1] ds [] []))))) (sSeq (sIf (dAndT (dBin (eqA false) (dPeek 2) (dC (.int 1))) (dBin (eqA false) (aBind (aCons (dVar 0) (aCons (dC (.int 2)) aNil)) fun ds => fits 2 ds (fits 2 (pick [.p 0, .p 1] ds [] []) (dApp φ__law_draw (pick [.p 0, .p 1] ds [] [])))) (dC (.int 0)))) (sRet (dTup (aCons (dVar 1) (aCons (dVar 4) aNil)))) sNext) (sSeq (sSet 5 (dLst (aCons (dBin mulD (dPeek 1) (dPeek 3)) (aCons (dBin mulD (dPeek 2) (dPeek 3)) aNil)))) (sRet (dTup (aCons (dIfE (dBin (eqA false) (aBind (aCons (dVar 0) (aCons (dC (.int 2)) aNil)) fun ds => fits 2 ds (fits 2 (pick [.p 0, .p 1] ds [] []) (dApp φ__law_draw (pick [.p 0, .p 1] ds [] [])))) (dC (.int 0))) (dUn tupleD (dPeek 5)) (dVar 5)) (aCons (dVar 4) aNil))))))))))
noncomputable def φ__law_number : DF := dFn 1 6 m__law_number
theorem ok__law_number (E : Fx K mg) (nd : base.NoDigits) (H : DfD K mg "_law_number" s__law_number []) (H__law_pick : DgD P w K mg base T "_law_pick" s__law_pick 2 ["pen", "some"] φ__law_pick []) (H__law_draw : DgD P w K mg base T "_law_draw" s__law_draw 1 ["pen", "many"] φ__law_draw []) (H__law_low : DgD P w K mg base T "_law_low" s__law_low 1 ["top", "bottom"] φ__law_low []) : DgD P w K mg base T "_law_number" s__law_number 3 ["pen"] φ__law_number [] := by
  obtain ⟨f, fd, F, hm⟩ := H
  obtain ⟨f__law_pick, fd__law_pick, F__law_pick, k__law_pick⟩ := H__law_pick
  obtain ⟨f__law_draw, fd__law_draw, F__law_draw, k__law_draw⟩ := H__law_draw
  obtain ⟨f__law_low, fd__law_low, F__law_low, k__law_low⟩ := H__law_low
  refine ⟨f, fd, F, def_of (Ns := ["pen", "top", "bottom", "scale", "due", "raw"]) (ps := ["pen"]) (t := m__law_number) hm F sc__law_number (by decide) (by decide) fun cdv hcd A outer s H E' N hT hc hr tk => ?_⟩
  subst hT
  have sc := sc__law_number
  exact (dss_cons (ds_set (ps_set (i := 1) sc.nd rfl (Or.inl rfl) (de_call (n := 2) (ps := ["pen", "some"]) (sel := [.p 0, .p 1]) (φ := φ__law_pick) (dds := []) k__law_pick  hc (hr.mono (by decide)) tk (cb0 F__law_pick 2 [] _ fun _ _ _ _ _ _ us ws hl hw => match us, ws, hl, hw with | [_, _], [], _, _ => rfl) (fun _ _ _ => .nil) rfl (da_cons (de_var (pe_var (i := 0) rfl (Or.inl rfl))) (da_cons (de_lst (da_cons (de_int) (da_cons (de_int) (da_cons (de_neg (de_b (de_int))) (da_cons (de_bin od_sub (de_b (de_call (n := 2) (ps := ["pen", "many"]) (sel := [.p 0, .p 1]) (φ := φ__law_draw) (dds := []) k__law_draw  hc (hr.mono (by decide)) tk (cb0 F__law_draw 2 [] _ fun _ _ _ _ _ _ us ws hl hw => match us, ws, hl, hw with | [_, _], [], _, _ => rfl) (fun _ _ _ => .nil) rfl (da_cons (de_var (pe_var (i := 0) rfl (Or.inl rfl))) (da_cons (de_int) da_nil)))) (de_b (de_int))) (da_cons (de_bin od_sub (de_b (de_call (n := 2) (ps := ["pen", "many"]) (sel := [.p 0, .p 1]) (φ := φ__law_draw) (dds := []) k__law_draw  hc (hr.mono (by decide)) tk (cb0 F__law_draw 2 [] _ fun _ _ _ _ _ _ us ws hl hw => match us, ws, hl, hw with | [_, _], [], _, _ => rfl) (fun _ _ _ => .nil) rfl (da_cons (de_var (pe_var (i := 0) rfl (Or.inl rfl))) (da_cons (de_int) da_nil)))) (de_b (de_int))) (da_cons (de_bin od_add (de_b (de_bin od_pow (de_b (de_int)) (de_b (de_int)))) (de_b (de_call (n := 2) (ps := ["pen", "many"]) (sel := [.p 0, .p 1]) (φ := φ__law_draw) (dds := []) k__law_draw  hc (hr.mono (by decide)) tk (cb0 F__law_draw 2 [] _ fun _ _ _ _ _ _ us ws hl hw => match us, ws, hl, hw with | [_, _], [], _, _ => rfl) (fun _ _ _ => .nil) rfl (da_cons (de_var (pe_var (i := 0) rfl (Or.inl rfl))) (da_cons (de_bin od_pow (de_b (de_int)) (de_b (de_int))) da_nil))))) da_nil))))))) da_nil))))) (dss_cons (ds_set (ps_set (i := 2) sc.nd rfl (Or.inl rfl) (de_call (n := 2) (ps := ["pen", "some"]) (sel := [.p 0, .p 1]) (φ := φ__law_pick) (dds := []) k__law_pick  hc (hr.mono (by decide)) tk (cb0 F__law_pick 2 [] _ fun _ _ _ _ _ _ us ws hl hw => match us, ws, hl, hw with | [_, _], [], _, _ => rfl) (fun _ _ _ => .nil) rfl (da_cons (de_var (pe_var (i := 0) rfl (Or.inl rfl))) (da_cons (de_lst (da_cons (de_int) (da_cons (de_int) (da_cons (de_int) (da_cons (de_int) (da_cons (de_bin od_add (de_b (de_int)) (de_b (de_call (n := 2) (ps := ["pen", "many"]) (sel := [.p 0, .p 1]) (φ := φ__law_draw) (dds := []) k__law_draw  hc (hr.mono (by decide)) tk (cb0 F__law_draw 2 [] _ fun _ _ _ _ _ _ us ws hl hw => match us, ws, hl, hw with | [_, _], [], _, _ => rfl) (fun _ _ _ => .nil) rfl (da_cons (de_var (pe_var (i := 0) rfl (Or.inl rfl))) (da_cons (de_int) da_nil))))) (da_cons (de_bin od_add (de_b (de_int)) (de_b (de_call (n := 2) (ps := ["pen", "many"]) (sel := [.p 0, .p 1]) (φ := φ__law_draw) (dds := []) k__law_draw  hc (hr.mono (by decide)) tk (cb0 F__law_draw 2 [] _ fun _ _ _ _ _ _ us ws hl hw => match us, ws, hl, hw with | [_, _], [], _, _ => rfl) (fun _ _ _ => .nil) rfl (da_cons (de_var (pe_var (i := 0) rfl (Or.inl rfl))) (da_cons (de_bin od_pow (de_b (de_int)) (de_b (de_int))) da_nil))))) (da_cons (de_bin od_pow (de_b (de_int)) (de_b (de_int))) da_nil)))))))) da_nil))))) (dss_cons (ds_set (ps_set (i := 3) sc.nd rfl (Or.inl rfl) (de_bin od_add (de_b (de_int)) (de_b (de_call (n := 2) (ps := ["pen", "many"]) (sel := [.p 0, .p 1]) (φ := φ__law_draw) (dds := []) k__law_draw  hc (hr.mono (by decide)) tk (cb0 F__law_draw 2 [] _ fun _ _ _ _ _ _ us ws hl hw => match us, ws, hl, hw with | [_, _], [], _, _ => rfl) (fun _ _ _ => .nil) rfl (da_cons (de_var (pe_var (i := 0) rfl (Or.inl rfl))) (da_cons (de_int) da_nil))))))) (dss_cons (ds_set (ps_set (i := 4) sc.nd rfl (Or.inl rfl) (de_call (n := 2) (ps := ["top", "bottom"]) (sel := [.p 0, .p 1]) (φ := φ__law_low) (dds := []) k__law_low  hc (hr.mono (by decide)) tk (cb0 F__law_low 2 [] _ fun _ _ _ _ _ _ us ws hl hw => match us, ws, hl, hw with | [_, _], [], _, _ => rfl) (fun _ _ _ => .nil) rfl (da_cons (de_var (pe_var (i := 1) rfl (Or.inl rfl))) (da_cons (de_var (pe_var (i := 2) rfl (Or.inl rfl))) da_nil))))) (dss_cons (ds_if (dw_t (dw_and (dt_cmp (od_eqA hr.units) (db_var (pe_var (i := 2) rfl (Or.inl rfl))) (de_b (de_int))) (dw_and1 (dt_cmp (od_eqA hr.units) (de_b (de_call (n := 2) (ps := ["pen", "many"]) (sel := [.p 0, .p 1]) (φ := φ__law_draw) (dds := []) k__law_draw  hc (hr.mono (by decide)) tk (cb0 F__law_draw 2 [] _ fun _ _ _ _ _ _ us ws hl hw => match us, ws, hl, hw with | [_, _], [], _, _ => rfl) (fun _ _ _ => .nil) rfl (da_cons (de_var (pe_var (i := 0) rfl (Or.inl rfl))) (da_cons (de_int) da_nil)))) (de_b (de_int)))))) (dss_one (ds_ret (de_tup (da_cons (de_var (pe_var (i := 1) rfl (Or.inl rfl))) (da_cons (de_var (pe_var (i := 4) rfl (Or.inl rfl))) da_nil))))) dss_nil) (dss_cons (ds_set (ps_set (i := 5) sc.nd rfl (Or.inl rfl) (de_lst (da_cons (de_bin od_mulI (db_var (pe_var (i := 1) rfl (Or.inl rfl))) (db_var (pe_var (i := 3) rfl (Or.inl rfl)))) (da_cons (de_bin od_mulI (db_var (pe_var (i := 2) rfl (Or.inl rfl))) (db_var (pe_var (i := 3) rfl (Or.inl rfl)))) da_nil))))) (dss_one (ds_ret (de_tup (da_cons (de_if (dt_cmp (od_eqA hr.units) (de_b (de_call (n := 2) (ps := ["pen", "many"]) (sel := [.p 0, .p 1]) (φ := φ__law_draw) (dds := []) k__law_draw  hc (hr.mono (by decide)) tk (cb0 F__law_draw 2 [] _ fun _ _ _ _ _ _ us ws hl hw => match us, ws, hl, hw with | [_, _], [], _, _ => rfl) (fun _ _ _ => .nil) rfl (da_cons (de_var (pe_var (i := 0) rfl (Or.inl rfl))) (da_cons (de_int) da_nil)))) (de_b (de_int))) (de_t1 c_tuple E.f_tuple (db_var (pe_var (i := 5) rfl (Or.inl rfl)))) (de_var (pe_var (i := 5) rfl (Or.inl rfl)))) (da_cons (de_var (pe_var (i := 4) rfl (Or.inl rfl))) da_nil)))))))))))
abbrev s_integer_from : Stmt := top 14
theorem sc_integer_from : FnScope ["text", "is_signed", "body", "each"] ["text", "is_signed"] (defScope s_integer_from) := ⟨rfl, rfl, rfl, by decide +kernel, rfl, by decide +kernel, by decide +kernel⟩
noncomputable def k0_integer_from : TDE := dComp [3] (iBind (dVar 2) itemsT) (bName 3) dYes (dBin (inA false) (dPeek 3) (dC (.str "0123456789")))
noncomputable def m_integer_from : TDS := (sSeq (sSet 2 (dIfE (dAndT (dTru (dPeek 1)) (dBin (eqA false) (dSl (dPeek 0) none (some (dC (.int 1)))) (dC (.str "-")))) (dSl (dPeek 0) (some (dC (.int 1))) none) (dVar 0))) (sSeq (sIf (dOrT (dBin (eqA false) (dPeek 2) (dC (.str ""))) (dOrT (dNot (dTru (dUn allD (k0_integer_from)))) (dAndT (dBin (eqA false) (dBin ixD (dPeek 2) (dC (.int 0))) (dC (.str "0"))) (dBin (eqA true) (dPeek 0) (dC (.str "0")))))) (sRet (dC .non)) sNext) (sRet (dUn intAW (dPeek 0)))))
noncomputable def φ_integer_from : DF := dFn 2 4 m_integer_from
theorem ok_integer_from (E : Fx K mg) (nd : base.NoDigits) (H : DfD K mg "integer_from" s_integer_from []) : DgD P w K mg base T "integer_from" s_integer_from 1 ["text", "is_signed"] φ_integer_from [] := by
  obtain ⟨f, fd, F, hm⟩ := H
  refine ⟨f, fd, F, def_of (Ns := ["text", "is_signed", "body", "each"]) (ps := ["text", "is_signed"]) (t := m_integer_from) hm F sc_integer_from (by decide) (by decide) fun cdv hcd A outer s H E' N hT hc hr tk => ?_⟩
  subst hT
  have sc := sc_integer_from
  exact (dss_cons (ds_set (ps_set (i := 2) sc.nd rfl (Or.inl rfl) (de_if (dw_t (dw_and (dt_truth (db_var (pe_var (i := 1) rfl (Or.inl rfl)))) (dw_and1 (dt_cmp (od_eqA hr.units) (de_b (de_sl01 (db_var (pe_var (i := 0) rfl (Or.inl rfl))) (de_b (de_int)))) (de_b (de_str)))))) (de_sl10 (db_var (pe_var (i := 0) rfl (Or.inl rfl))) (de_b (de_int))) (de_var (pe_var (i := 0) rfl (Or.inl rfl)))))) (dss_cons (ds_if (dw_t (dw_or (dt_cmp (od_eqA hr.units) (db_var (pe_var (i := 2) rfl (Or.inl rfl))) (de_b (de_str))) (dw_or (dt_not (dt_truth (de_b (de_b1 (c_all rfl) E.f_all (de_b (de_lc (N := N) (own := [("each", 3)]) rfl sc.nd (di_seqT (de_var (pe_var (i := 2) rfl (Or.inl rfl)))) (blkOk_by (own := [("each", 3)]) (N := ["text", "is_signed", "body", "each"]) (sc := defScope s_integer_from) (by decide +kernel)) (gok_name (by decide)) (fun _ _ _ _ _ => (pg_name (i := 3) sc.nd rfl (Or.inl rfl))) (fun _ _ _ _ _ => pts_nil) tYes_of (fun _ _ _ _ _ => (de_cmp od_in (db_var (pe_var (i := 3) rfl (Or.inl rfl))) (de_b (de_str_glob E.c_FIGURES)))))))))) (dw_or1 (dw_t (dw_and (dt_cmp (od_eqA hr.units) (de_b (de_ix (db_var (pe_var (i := 2) rfl (Or.inl rfl))) (de_b (de_int)))) (de_b (de_str))) (dw_and1 (dt_cmp (od_neA hr.units) (db_var (pe_var (i := 0) rfl (Or.inl rfl))) (de_b (de_str)))))))))) (dss_one (ds_ret (de_non))) dss_nil) (dss_one (ds_ret (de_t1 (c_intW nd) E.f_int (db_var (pe_var (i := 0) rfl (Or.inl rfl))))))))
abbrev s_low : Stmt := top 10
theorem sc_low : FnScope ["top", "bottom", "shared"] ["top", "bottom"] (defScope s_low) := ⟨rfl, rfl, rfl, by decide +kernel, rfl, by decide +kernel, by decide +kernel⟩
noncomputable def m_low : TDS := (sSeq (sSet 2 (dBin (II gcdI) (dPeek 0) (dPeek 1))) (sSeq (sIf (dBin ltD (dPeek 1) (dC (.int 0))) (sSet 2 (dUn negD (dPeek 2))) sNext) (sRet (dTup (aCons (dBin divD (dPeek 0) (dPeek 2)) (aCons (dBin divD (dPeek 1) (dPeek 2)) aNil))))))
noncomputable def φ_low : DF := dFn 2 3 m_low
theorem ok_low (E : Fx K mg) (nd : base.NoDigits) (H : DfD K mg "low" s_low []) : DgD P w K mg base T "low" s_low 1 ["top", "bottom"] φ_low [] := by
  obtain ⟨f, fd, F, hm⟩ := H
  refine ⟨f, fd, F, def_of (Ns := ["top", "bottom", "shared"]) (ps := ["top", "bottom"]) (t := m_low) hm F sc_low (by decide) (by decide) fun cdv hcd A outer s H E' N hT hc hr tk => ?_⟩
  subst hT
  have sc := sc_low
  exact (dss_cons (ds_set (ps_set (i := 2) sc.nd rfl (Or.inl rfl) (de_g2 c_gcd E.i_gcd (db_var (pe_var (i := 0) rfl (Or.inl rfl))) (db_var (pe_var (i := 1) rfl (Or.inl rfl)))))) (dss_cons (ds_if (dt_cmp od_lt (db_var (pe_var (i := 1) rfl (Or.inl rfl))) (de_b (de_int))) (dss_one (ds_set (ps_set (i := 2) sc.nd rfl (Or.inl rfl) (de_neg (db_var (pe_var (i := 2) rfl (Or.inl rfl))))))) dss_nil) (dss_one (ds_ret (de_tup (da_cons (de_bin od_div (db_var (pe_var (i := 0) rfl (Or.inl rfl))) (db_var (pe_var (i := 2) rfl (Or.inl rfl)))) (da_cons (de_bin od_div (db_var (pe_var (i := 1) rfl (Or.inl rfl))) (db_var (pe_var (i := 2) rfl (Or.inl rfl)))) da_nil)))))))
abbrev s_number_from : Stmt := top 15
theorem sc_number_from : FnScope ["text", "parts", "top", "bottom"] ["text"] (defScope s_number_from) := ⟨rfl, rfl, rfl, by decide +kernel, rfl, by decide +kernel, by decide +kernel⟩
noncomputable def m_number_from : TDS := (sSeq (sIf (dOrT (dNot (dTru (dBin (isiD TT) (dPeek 0) (dC (.ty "str"))))) (dBin gtD (dUn lenA (dPeek 0)) (dC (.int 1000)))) (sRet (dC .non)) sNext) (sSeq (sSet 1 (dM1 splitD (dPeek 0) (dC (.str "/")))) (sSeq (sSet 2 (aBind (aCons (dBin ixD (dPeek 1) (dC (.int 0))) (aCons (dC (.bl true)) aNil)) fun ds => fits 2 ds (fits 2 (pick [.p 0, .p 1] ds [] []) (dApp φ_integer_from (pick [.p 0, .p 1] ds [] []))))) (sSeq (sIf (dOrT (dBin (isA false) (dPeek 2) (dC .non)) (dBin gtD (dUn lenA (dPeek 1)) (dC (.int 2)))) (sRet (dC .non)) sNext) (sSeq (sIf (dBin (eqA false) (dUn lenA (dPeek 1)) (dC (.int 1))) (sRet (dTup (aCons (dVar 2) (aCons (dC (.int 1)) aNil)))) sNext) (sSeq (sSet 3 (aBind (aCons (dBin ixD (dPeek 1) (dC (.int 1))) (aCons (dC (.bl false)) aNil)) fun ds => fits 2 ds (fits 2 (pick [.p 0, .p 1] ds [] []) (dApp φ_integer_from (pick [.p 0, .p 1] ds [] []))))) (sRet (dIfE (dOrT (dBin (isA false) (dPeek 3) (dC .non)) (dBin (eqA false) (dPeek 3) (dC (.int 0)))) (dC .non) (aBind (aCons (dVar 2) (aCons (dVar 3) aNil)) fun ds => fits 2 ds (fits 2 (pick [.p 0, .p 1] ds [] []) (dApp φ_low (pick [.p 0, .p 1] ds [] []))))))))))))
noncomputable def φ_number_from : DF := dFn 1 4 m_number_from
theorem ok_number_from (E : Fx K mg) (nd : base.NoDigits) (H : DfD K mg "number_from" s_number_from []) (H_integer_from : DgD P w K mg base T "integer_from" s_integer_from 1 ["text", "is_signed"] φ_integer_from []) (H_low : DgD P w K mg base T "low" s_low 1 ["top", "bottom"] φ_low []) : DgD P w K mg base T "number_from" s_number_from 2 ["text"] φ_number_from [] := by
  obtain ⟨f, fd, F, hm⟩ := H
  obtain ⟨f_integer_from, fd_integer_from, F_integer_from, k_integer_from⟩ := H_integer_from
  obtain ⟨f_low, fd_low, F_low, k_low⟩ := H_low
  refine ⟨f, fd, F, def_of (Ns := ["text", "parts", "top", "bottom"]) (ps := ["text"]) (t := m_number_from) hm F sc_number_from (by decide) (by decide) fun cdv hcd A outer s H E' N hT hc hr tk => ?_⟩
  subst hT
  have sc := sc_number_from
  exact (dss_cons (ds_if (dw_t (dw_or (dt_not (dt_truth (de_b (de_b2 (c_isi E.own) E.f_isinstance (db_var (pe_var (i := 0) rfl (Or.inl rfl))) (de_b (de_tyn E.f_str)))))) (dw_or1 (dt_cmp od_gt (de_b (de_b1 c_len E.f_len (db_var (pe_var (i := 0) rfl (Or.inl rfl))))) (de_b (de_int_glob E.c_MOST_SIGNS)))))) (dss_one (ds_ret (de_non))) dss_nil) (dss_cons (ds_set (ps_set (i := 1) sc.nd rfl (Or.inl rfl) (de_m1 m_split (db_var (pe_var (i := 0) rfl (Or.inl rfl))) (de_b (de_str))))) (dss_cons (ds_set (ps_set (i := 2) sc.nd rfl (Or.inl rfl) (de_call (n := 2) (ps := ["text", "is_signed"]) (sel := [.p 0, .p 1]) (φ := φ_integer_from) (dds := []) k_integer_from  hc (hr.mono (by decide)) tk (cb0 F_integer_from 2 [] _ fun _ _ _ _ _ _ us ws hl hw => match us, ws, hl, hw with | [_, _], [], _, _ => rfl) (fun _ _ _ => .nil) rfl (da_cons (de_ix (db_var (pe_var (i := 1) rfl (Or.inl rfl))) (de_b (de_int))) (da_cons (de_bl) da_nil))))) (dss_cons (ds_if (dw_t (dw_or (dt_cmp od_is (db_var (pe_var (i := 2) rfl (Or.inl rfl))) (de_b (de_non))) (dw_or1 (dt_cmp od_gt (de_b (de_b1 c_len E.f_len (db_var (pe_var (i := 1) rfl (Or.inl rfl))))) (de_b (de_int)))))) (dss_one (ds_ret (de_non))) dss_nil) (dss_cons (ds_if (dt_cmp (od_eqA hr.units) (de_b (de_b1 c_len E.f_len (db_var (pe_var (i := 1) rfl (Or.inl rfl))))) (de_b (de_int))) (dss_one (ds_ret (de_tup (da_cons (de_var (pe_var (i := 2) rfl (Or.inl rfl))) (da_cons (de_int) da_nil))))) dss_nil) (dss_cons (ds_set (ps_set (i := 3) sc.nd rfl (Or.inl rfl) (de_call (n := 2) (ps := ["text", "is_signed"]) (sel := [.p 0, .p 1]) (φ := φ_integer_from) (dds := []) k_integer_from  hc (hr.mono (by decide)) tk (cb0 F_integer_from 2 [] _ fun _ _ _ _ _ _ us ws hl hw => match us, ws, hl, hw with | [_, _], [], _, _ => rfl) (fun _ _ _ => .nil) rfl (da_cons (de_ix (db_var (pe_var (i := 1) rfl (Or.inl rfl))) (de_b (de_int))) (da_cons (de_bl) da_nil))))) (dss_one (ds_ret (de_if (dw_t (dw_or (dt_cmp od_is (db_var (pe_var (i := 3) rfl (Or.inl rfl))) (de_b (de_non))) (dw_or1 (dt_cmp (od_eqA hr.units) (db_var (pe_var (i := 3) rfl (Or.inl rfl))) (de_b (de_int)))))) (de_non) (de_call (n := 2) (ps := ["top", "bottom"]) (sel := [.p 0, .p 1]) (φ := φ_low) (dds := []) k_low  hc (hr.mono (by decide)) tk (cb0 F_low 2 [] _ fun _ _ _ _ _ _ us ws hl hw => match us, ws, hl, hw with | [_, _], [], _, _ => rfl) (fun _ _ _ => .nil) rfl (da_cons (de_var (pe_var (i := 2) rfl (Or.inl rfl))) (da_cons (de_var (pe_var (i := 3) rfl (Or.inl rfl))) da_nil))))))))))))
abbrev s_is_integer : Stmt := top 6
theorem sc_is_integer : FnScope ["value"] ["value"] (defScope s_is_integer) := ⟨rfl, rfl, rfl, by decide +kernel, rfl, by decide +kernel, by decide +kernel⟩
noncomputable def m_is_integer : TDS := (sRet (dAndV (dBin (isiD TT) (dPeek 0) (dC (.ty "int"))) (dNot (dTru (dBin (isiD TT) (dPeek 0) (dC (.ty "bool")))))))
noncomputable def φ_is_integer : DF := dFn 1 1 m_is_integer
theorem ok_is_integer (E : Fx K mg) (nd : base.NoDigits) (H : DfD K mg "is_integer" s_is_integer []) : DgD P w K mg base T "is_integer" s_is_integer 1 ["value"] φ_is_integer [] := by
  obtain ⟨f, fd, F, hm⟩ := H
  refine ⟨f, fd, F, def_of (Ns := ["value"]) (ps := ["value"]) (t := m_is_integer) hm F sc_is_integer (by decide) (by decide) fun cdv hcd A outer s H E' N hT hc hr tk => ?_⟩
  subst hT
  have sc := sc_is_integer
  exact (dss_one (ds_ret (de_and (de_b2 (c_isi E.own) E.f_isinstance (db_var (pe_var (i := 0) rfl (Or.inl rfl))) (de_b (de_tyn E.f_int))) (de_one (de_not (de_b (de_b2 (c_isi E.own) E.f_isinstance (db_var (pe_var (i := 0) rfl (Or.inl rfl))) (de_b (de_tyn E.f_bool)))))))))
abbrev s_is_row : Stmt := top 7
theorem sc_is_row : FnScope ["value"] ["value"] (defScope s_is_row) := ⟨rfl, rfl, rfl, by decide +kernel, rfl, by decide +kernel, by decide +kernel⟩
noncomputable def m_is_row : TDS := (sRet (dBin (isiD TT) (dPeek 0) (dTup (aCons (dC (.ty "list")) (aCons (dC (.ty "tuple")) aNil)))))
noncomputable def φ_is_row : DF := dFn 1 1 m_is_row
theorem ok_is_row (E : Fx K mg) (nd : base.NoDigits) (H : DfD K mg "is_row" s_is_row []) : DgD P w K mg base T "is_row" s_is_row 1 ["value"] φ_is_row [] := by
  obtain ⟨f, fd, F, hm⟩ := H
  refine ⟨f, fd, F, def_of (Ns := ["value"]) (ps := ["value"]) (t := m_is_row) hm F sc_is_row (by decide) (by decide) fun cdv hcd A outer s H E' N hT hc hr tk => ?_⟩
  subst hT
  have sc := sc_is_row
  exact (dss_one (ds_ret (de_b2 (c_isi E.own) E.f_isinstance (db_var (pe_var (i := 0) rfl (Or.inl rfl))) (de_b (de_tup (da_cons (de_tyn E.f_list) (da_cons (de_tyn E.f_tuple) da_nil)))))))
abbrev s_is_number : Stmt := top 11
theorem sc_is_number : FnScope ["value"] ["value"] (defScope s_is_number) := ⟨rfl, rfl, rfl, by decide +kernel, rfl, by decide +kernel, by decide +kernel⟩
noncomputable def m_is_number : TDS := (sSeq (sIf (dTru (aBind (aCons (dVar 0) aNil) fun ds => fits 1 ds (fits 1 (pick [.p 0] ds [] []) (dApp φ_is_integer (pick [.p 0] ds [] []))))) (sRet (dC (.bl true))) sNext) (sRet (dAndV (aBind (aCons (dVar 0) aNil) fun ds => fits 1 ds (fits 1 (pick [.p 0] ds [] []) (dApp φ_is_row (pick [.p 0] ds [] [])))) (dAndV (dBin (eqA false) (dUn lenA (dPeek 0)) (dC (.int 2))) (dAndV (aBind (aCons (dBin ixD (dPeek 0) (dC (.int 0))) aNil) fun ds => fits 1 ds (fits 1 (pick [.p 0] ds [] []) (dApp φ_is_integer (pick [.p 0] ds [] [])))) (dAndV (aBind (aCons (dBin ixD (dPeek 0) (dC (.int 1))) aNil) fun ds => fits 1 ds (fits 1 (pick [.p 0] ds [] []) (dApp φ_is_integer (pick [.p 0] ds [] [])))) (dBin gtD (dBin ixD (dPeek 0) (dC (.int 1))) (dC (.int 0)))))))))
noncomputable def φ_is_number : DF := dFn 1 1 m_is_number
theorem ok_is_number (E : Fx K mg) (nd : base.NoDigits) (H : DfD K mg "is_number" s_is_number []) (H_is_integer : DgD P w K mg base T "is_integer" s_is_integer 1 ["value"] φ_is_integer []) (H_is_row : DgD P w K mg base T "is_row" s_is_row 1 ["value"] φ_is_row []) : DgD P w K mg base T "is_number" s_is_number 2 ["value"] φ_is_number [] := by
  obtain ⟨f, fd, F, hm⟩ := H
  obtain ⟨f_is_integer, fd_is_integer, F_is_integer, k_is_integer⟩ := H_is_integer
  obtain ⟨f_is_row, fd_is_row, F_is_row, k_is_row⟩ := H_is_row
  refine ⟨f, fd, F, def_of (Ns := ["value"]) (ps := ["value"]) (t := m_is_number) hm F sc_is_number (by decide) (by decide) fun cdv hcd A outer s H E' N hT hc hr tk => ?_⟩
  subst hT
  have sc := sc_is_number
  exact (dss_cons (ds_if (dt_truth (de_b (de_call (n := 1) (ps := ["value"]) (sel := [.p 0]) (φ := φ_is_integer) (dds := []) k_is_integer  hc (hr.mono (by decide)) tk (cb0 F_is_integer 1 [] _ fun _ _ _ _ _ _ us ws hl hw => match us, ws, hl, hw with | [_], [], _, _ => rfl) (fun _ _ _ => .nil) rfl (da_cons (de_var (pe_var (i := 0) rfl (Or.inl rfl))) da_nil)))) (dss_one (ds_ret (de_bl))) dss_nil) (dss_one (ds_ret (de_and (de_call (n := 1) (ps := ["value"]) (sel := [.p 0]) (φ := φ_is_row) (dds := []) k_is_row  hc (hr.mono (by decide)) tk (cb0 F_is_row 1 [] _ fun _ _ _ _ _ _ us ws hl hw => match us, ws, hl, hw with | [_], [], _, _ => rfl) (fun _ _ _ => .nil) rfl (da_cons (de_var (pe_var (i := 0) rfl (Or.inl rfl))) da_nil)) (de_and (de_cmp (od_eqA hr.units) (de_b (de_b1 c_len E.f_len (db_var (pe_var (i := 0) rfl (Or.inl rfl))))) (de_b (de_int))) (de_and (de_call (n := 1) (ps := ["value"]) (sel := [.p 0]) (φ := φ_is_integer) (dds := []) k_is_integer  hc (hr.mono (by decide)) tk (cb0 F_is_integer 1 [] _ fun _ _ _ _ _ _ us ws hl hw => match us, ws, hl, hw with | [_], [], _, _ => rfl) (fun _ _ _ => .nil) rfl (da_cons (de_ix (db_var (pe_var (i := 0) rfl (Or.inl rfl))) (de_b (de_int))) da_nil)) (de_and (de_call (n := 1) (ps := ["value"]) (sel := [.p 0]) (φ := φ_is_integer) (dds := []) k_is_integer  hc (hr.mono (by decide)) tk (cb0 F_is_integer 1 [] _ fun _ _ _ _ _ _ us ws hl hw => match us, ws, hl, hw with | [_], [], _, _ => rfl) (fun _ _ _ => .nil) rfl (da_cons (de_ix (db_var (pe_var (i := 0) rfl (Or.inl rfl))) (de_b (de_int))) da_nil)) (de_one (de_cmp od_gt (de_b (de_ix (db_var (pe_var (i := 0) rfl (Or.inl rfl))) (de_b (de_int)))) (de_b (de_int)))))))))))
abbrev s_number_of : Stmt := top 12
theorem sc_number_of : FnScope ["value", "part"] ["value", "part"] (defScope s_number_of) := ⟨rfl, rfl, rfl, by decide +kernel, rfl, by decide +kernel, by decide +kernel⟩
noncomputable def m_number_of : TDS := (sSeq (sIf (dNot (dTru (aBind (aCons (dVar 0) aNil) fun ds => fits 1 ds (fits 1 (pick [.p 0] ds [] []) (dApp φ_is_number (pick [.p 0] ds [] [])))))) (sNever) sNext) (sRet (dIfE (dTru (aBind (aCons (dVar 0) aNil) fun ds => fits 1 ds (fits 1 (pick [.p 0] ds [] []) (dApp φ_is_integer (pick [.p 0] ds [] []))))) (dTup (aCons (dVar 0) (aCons (dC (.int 1)) aNil))) (aBind (aCons (dBin ixD (dPeek 0) (dC (.int 0))) (aCons (dBin ixD (dPeek 0) (dC (.int 1))) aNil)) fun ds => fits 2 ds (fits 2 (pick [.p 0, .p 1] ds [] []) (dApp φ_low (pick [.p 0, .p 1] ds [] [])))))))
noncomputable def φ_number_of : DF := dFn 2 2 m_number_of
theorem ok_number_of (E : Fx K mg) (nd : base.NoDigits) (H : DfD K mg "number_of" s_number_of [.str "number"]) (H_is_number : DgD P w K mg base T "is_number" s_is_number 2 ["value"] φ_is_number []) (H_is_integer : DgD P w K mg base T "is_integer" s_is_integer 1 ["value"] φ_is_integer []) (H_low : DgD P w K mg base T "low" s_low 1 ["top", "bottom"] φ_low []) : DgD P w K mg base T "number_of" s_number_of 3 ["value", "part"] φ_number_of [.str "number"] := by
  obtain ⟨f, fd, F, hm⟩ := H
  obtain ⟨f_is_number, fd_is_number, F_is_number, k_is_number⟩ := H_is_number
  obtain ⟨f_is_integer, fd_is_integer, F_is_integer, k_is_integer⟩ := H_is_integer
  obtain ⟨f_low, fd_low, F_low, k_low⟩ := H_low
  refine ⟨f, fd, F, def_of (Ns := ["value", "part"]) (ps := ["value", "part"]) (t := m_number_of) hm F sc_number_of (by decide) (by decide) fun cdv hcd A outer s H E' N hT hc hr tk => ?_⟩
  subst hT
  have sc := sc_number_of
  exact (dss_cons (ds_if (dt_not (dt_truth (de_b (de_call (n := 1) (ps := ["value"]) (sel := [.p 0]) (φ := φ_is_number) (dds := []) k_is_number  hc (hr.mono (by decide)) tk (cb0 F_is_number 1 [] _ fun _ _ _ _ _ _ us ws hl hw => match us, ws, hl, hw with | [_], [], _, _ => rfl) (fun _ _ _ => .nil) rfl (da_cons (de_var (pe_var (i := 0) rfl (Or.inl rfl))) da_nil))))) (dss_one (ds_never)) dss_nil) (dss_one (ds_ret (de_if (dt_truth (de_b (de_call (n := 1) (ps := ["value"]) (sel := [.p 0]) (φ := φ_is_integer) (dds := []) k_is_integer  hc (hr.mono (by decide)) tk (cb0 F_is_integer 1 [] _ fun _ _ _ _ _ _ us ws hl hw => match us, ws, hl, hw with | [_], [], _, _ => rfl) (fun _ _ _ => .nil) rfl (da_cons (de_var (pe_var (i := 0) rfl (Or.inl rfl))) da_nil)))) (de_tup (da_cons (de_var (pe_var (i := 0) rfl (Or.inl rfl))) (da_cons (de_int) da_nil))) (de_call (n := 2) (ps := ["top", "bottom"]) (sel := [.p 0, .p 1]) (φ := φ_low) (dds := []) k_low  hc (hr.mono (by decide)) tk (cb0 F_low 2 [] _ fun _ _ _ _ _ _ us ws hl hw => match us, ws, hl, hw with | [_, _], [], _, _ => rfl) (fun _ _ _ => .nil) rfl (da_cons (de_ix (db_var (pe_var (i := 0) rfl (Or.inl rfl))) (de_b (de_int))) (da_cons (de_ix (db_var (pe_var (i := 0) rfl (Or.inl rfl))) (de_b (de_int))) da_nil)))))))
abbrev s_text_of_number : Stmt := top 13
theorem sc_text_of_number : FnScope ["number", "pair"] ["number"] (defScope s_text_of_number) := ⟨rfl, rfl, rfl, by decide +kernel, rfl, by decide +kernel, by decide +kernel⟩
noncomputable def m_text_of_number : TDS := (sSeq (sSet 1 (aBind (aCons (dVar 0) aNil) fun ds => fits 1 ds (fits 2 (pick [.p 0, .d 0] ds [.str "number"] []) (dApp φ_number_of (pick [.p 0, .d 0] ds [.str "number"] []))))) (sRet (dIfE (dBin (eqA false) (dBin ixD (dPeek 1) (dC (.int 1))) (dC (.int 1))) (dUn strA (dBin ixD (dPeek 1) (dC (.int 0)))) (dBin addD (dBin addD (dUn strA (dBin ixD (dPeek 1) (dC (.int 0)))) (dC (.str "/"))) (dUn strA (dBin ixD (dPeek 1) (dC (.int 1))))))))
noncomputable def φ_text_of_number : DF := dFn 1 2 m_text_of_number
theorem ok_text_of_number (E : Fx K mg) (nd : base.NoDigits) (H : DfD K mg "text_of_number" s_text_of_number []) (H_number_of : DgD P w K mg base T "number_of" s_number_of 3 ["value", "part"] φ_number_of [.str "number"]) : DgD P w K mg base T "text_of_number" s_text_of_number 4 ["number"] φ_text_of_number [] := by
  obtain ⟨f, fd, F, hm⟩ := H
  obtain ⟨f_number_of, fd_number_of, F_number_of, k_number_of⟩ := H_number_of
  refine ⟨f, fd, F, def_of (Ns := ["number", "pair"]) (ps := ["number"]) (t := m_text_of_number) hm F sc_text_of_number (by decide) (by decide) fun cdv hcd A outer s H E' N hT hc hr tk => ?_⟩
  subst hT
  have sc := sc_text_of_number
  exact (dss_cons (ds_set (ps_set (i := 1) sc.nd rfl (Or.inl rfl) (de_call (n := 1) (ps := ["value", "part"]) (sel := [.p 0, .d 0]) (φ := φ_number_of) (dds := [.str "number"]) k_number_of  hc (hr.mono (by decide)) tk (cbD F_number_of 1 [] _ (by simp) fun T _ _ _ _ _ _ us its ws hl hi hw => match us, its, ws, hl, hi, hw with | [_], [_], [], _, _, _ => ⟨_, rfl, rfl⟩) (fun _ _ _ => (.cons (.str _) .nil)) rfl (da_cons (de_var (pe_var (i := 0) rfl (Or.inl rfl))) da_nil)))) (dss_one (ds_ret (de_if (dt_cmp (od_eqA hr.units) (de_b (de_ix (db_var (pe_var (i := 1) rfl (Or.inl rfl))) (de_b (de_int)))) (de_b (de_int))) (de_t1 c_str E.f_str (de_b (de_ix (db_var (pe_var (i := 1) rfl (Or.inl rfl))) (de_b (de_int))))) (de_bin od_add (de_b (de_bin od_add (de_b (de_t1 c_str E.f_str (de_b (de_ix (db_var (pe_var (i := 1) rfl (Or.inl rfl))) (de_b (de_int)))))) (de_b (de_str)))) (de_b (de_t1 c_str E.f_str (de_b (de_ix (db_var (pe_var (i := 1) rfl (Or.inl rfl))) (de_b (de_int)))))))))))
abbrev s__law_none : Stmt := top 22
theorem sc__law_none : FnScope ["pen", "text", "at", "some"] ["pen", "text"] (defScope s__law_none) := ⟨rfl, rfl, rfl, by decide +kernel, rfl, by decide +kernel, by decide +kernel⟩
noncomputable def m__law_none : TDS := (sSeq (sSet 2 (aBind (aCons (dVar 0) (aCons (dBin addD (dUn lenA (dPeek 1)) (dC (.int 1))) aNil)) fun ds => fits 2 ds (fits 2 (pick [.p 0, .p 1] ds [] []) (dApp φ__law_draw (pick [.p 0, .p 1] ds [] []))))) (sSeq (sSet 3 (dLst (aCons (dC (.str "")) (aCons (dBin addD (dC (.str "0")) (dPeek 1)) (aCons (dBin addD (dC (.str "+")) (dPeek 1)) (aCons (dBin addD (dC (.str " ")) (dPeek 1)) (aCons (dBin addD (dPeek 1) (dC (.str " "))) (aCons (dBin addD (dPeek 1) (dC (.str "/"))) (aCons (dBin addD (dC (.str "/")) (dPeek 1)) (aCons (dBin addD (dPeek 1) (dC (.str "/0"))) (aCons (dBin addD (dC (.str "--")) (dPeek 1)) (aCons (dBin addD (dPeek 1) (dC (.str "/-2"))) (aCons (dBin addD (dPeek 1) (dC (.str "/02"))) aNil))))))))))))) (sSeq (sSet 3 (dBin addD (dPeek 3) (dLst (aCons (dBin addD (dBin addD (dSl (dPeek 1) none (some (dPeek 2))) (aBind (aCons (dVar 0) (aCons (dLst (aCons (dC (.str "_")) (aCons (dC (.str ".")) (aCons (dC (.str "x")) (aCons (dC (.str ",")) (aCons (dC (.str "e")) (aCons (dC (.str "~")) (aCons (dC (.str "//")) aNil)))))))) aNil)) fun ds => fits 2 ds (fits 2 (pick [.p 0, .p 1] ds [] []) (dApp φ__law_pick (pick [.p 0, .p 1] ds [] []))))) (dSl (dPeek 1) (some (dPeek 2)) none)) (aCons (dC (.str "-0")) (aCons (dC (.str "-")) (aCons (dC (.str "00")) (aCons (dC (.str "-0/5")) (aCons (dC (.str "1/2/3")) (aCons (dBin addD (dPeek 1) (dC (.str "/1/1"))) aNil)))))))))) (sRet (aBind (aCons (dVar 0) (aCons (dVar 3) aNil)) fun ds => fits 2 ds (fits 2 (pick [.p 0, .p 1] ds [] []) (dApp φ__law_pick (pick [.p 0, .p 1] ds [] []))))))))
noncomputable def φ__law_none : DF := dFn 2 4 m__law_none
theorem ok__law_none (E : Fx K mg) (nd : base.NoDigits) (H : DfD K mg "_law_none" s__law_none []) (H__law_draw : DgD P w K mg base T "_law_draw" s__law_draw 1 ["pen", "many"] φ__law_draw []) (H__law_pick : DgD P w K mg base T "_law_pick" s__law_pick 2 ["pen", "some"] φ__law_pick []) : DgD P w K mg base T "_law_none" s__law_none 3 ["pen", "text"] φ__law_none [] := by
  obtain ⟨f, fd, F, hm⟩ := H
  obtain ⟨f__law_draw, fd__law_draw, F__law_draw, k__law_draw⟩ := H__law_draw
  obtain ⟨f__law_pick, fd__law_pick, F__law_pick, k__law_pick⟩ := H__law_pick
  refine ⟨f, fd, F, def_of (Ns := ["pen", "text", "at", "some"]) (ps := ["pen", "text"]) (t := m__law_none) hm F sc__law_none (by decide) (by decide) fun cdv hcd A outer s H E' N hT hc hr tk => ?_⟩
  subst hT
  have sc := sc__law_none
  exact (dss_cons (ds_set (ps_set (i := 2) sc.nd rfl (Or.inl rfl) (de_call (n := 2) (ps := ["pen", "many"]) (sel := [.p 0, .p 1]) (φ := φ__law_draw) (dds := []) k__law_draw  hc (hr.mono (by decide)) tk (cb0 F__law_draw 2 [] _ fun _ _ _ _ _ _ us ws hl hw => match us, ws, hl, hw with | [_, _], [], _, _ => rfl) (fun _ _ _ => .nil) rfl (da_cons (de_var (pe_var (i := 0) rfl (Or.inl rfl))) (da_cons (de_bin od_add (de_b (de_b1 c_len E.f_len (db_var (pe_var (i := 1) rfl (Or.inl rfl))))) (de_b (de_int))) da_nil))))) (dss_cons (ds_set (ps_set (i := 3) sc.nd rfl (Or.inl rfl) (de_lst (da_cons (de_str) (da_cons (de_bin od_add (de_b (de_str)) (db_var (pe_var (i := 1) rfl (Or.inl rfl)))) (da_cons (de_bin od_add (de_b (de_str)) (db_var (pe_var (i := 1) rfl (Or.inl rfl)))) (da_cons (de_bin od_add (de_b (de_str)) (db_var (pe_var (i := 1) rfl (Or.inl rfl)))) (da_cons (de_bin od_add (db_var (pe_var (i := 1) rfl (Or.inl rfl))) (de_b (de_str))) (da_cons (de_bin od_add (db_var (pe_var (i := 1) rfl (Or.inl rfl))) (de_b (de_str))) (da_cons (de_bin od_add (de_b (de_str)) (db_var (pe_var (i := 1) rfl (Or.inl rfl)))) (da_cons (de_bin od_add (db_var (pe_var (i := 1) rfl (Or.inl rfl))) (de_b (de_str))) (da_cons (de_bin od_add (de_b (de_str)) (db_var (pe_var (i := 1) rfl (Or.inl rfl)))) (da_cons (de_bin od_add (db_var (pe_var (i := 1) rfl (Or.inl rfl))) (de_b (de_str))) (da_cons (de_bin od_add (db_var (pe_var (i := 1) rfl (Or.inl rfl))) (de_b (de_str))) da_nil)))))))))))))) (dss_cons (ds_set (ps_set (i := 3) sc.nd rfl (Or.inl rfl) (de_bin od_add (db_var (pe_var (i := 3) rfl (Or.inl rfl))) (de_b (de_lst (da_cons (de_bin od_add (de_b (de_bin od_add (de_b (de_sl01 (db_var (pe_var (i := 1) rfl (Or.inl rfl))) (db_var (pe_var (i := 2) rfl (Or.inl rfl))))) (de_b (de_call (n := 2) (ps := ["pen", "some"]) (sel := [.p 0, .p 1]) (φ := φ__law_pick) (dds := []) k__law_pick  hc (hr.mono (by decide)) tk (cb0 F__law_pick 2 [] _ fun _ _ _ _ _ _ us ws hl hw => match us, ws, hl, hw with | [_, _], [], _, _ => rfl) (fun _ _ _ => .nil) rfl (da_cons (de_var (pe_var (i := 0) rfl (Or.inl rfl))) (da_cons (de_lst (da_cons (de_str) (da_cons (de_str) (da_cons (de_str) (da_cons (de_str) (da_cons (de_str) (da_cons (de_str) (da_cons (de_str) da_nil)))))))) da_nil)))))) (de_b (de_sl10 (db_var (pe_var (i := 1) rfl (Or.inl rfl))) (db_var (pe_var (i := 2) rfl (Or.inl rfl)))))) (da_cons (de_str) (da_cons (de_str) (da_cons (de_str) (da_cons (de_str) (da_cons (de_str) (da_cons (de_bin od_add (db_var (pe_var (i := 1) rfl (Or.inl rfl))) (de_b (de_str))) da_nil)))))))))))) (dss_one (ds_ret (de_call (n := 2) (ps := ["pen", "some"]) (sel := [.p 0, .p 1]) (φ := φ__law_pick) (dds := []) k__law_pick  hc (hr.mono (by decide)) tk (cb0 F__law_pick 2 [] _ fun _ _ _ _ _ _ us ws hl hw => match us, ws, hl, hw with | [_, _], [], _, _ => rfl) (fun _ _ _ => .nil) rfl (da_cons (de_var (pe_var (i := 0) rfl (Or.inl rfl))) (da_cons (de_var (pe_var (i := 3) rfl (Or.inl rfl))) da_nil))))))))
abbrev s_law : Stmt := top 23
theorem sc_law : FnScope ["script", "pen", "turn", "raw", "due", "times", "text", "odd", "long", "first", "fit", "over", "parts", "each"] ["script"] (defScope s_law) := ⟨rfl, rfl, rfl, by decide +kernel, rfl, by decide +kernel, by decide +kernel⟩
noncomputable def s0_law : TDA := (iRange1 (dC (.int 8)))
noncomputable def b0_law : TDS := (sSeq (sAsg (aBind (aCons (dVar 1) aNil) fun ds => fits 1 ds (fits 1 (pick [.p 0] ds [] []) (dApp φ__law_number (pick [.p 0] ds [] [])))) (bTup 2 (bCons (bName 3) (bCons (bName 4) bNil)))) (sSeq (sIf (dOrT (dBin (eqA true) (aBind (aCons (aBind (aCons (dVar 3) aNil) fun ds => fits 1 ds (fits 1 (pick [.p 0] ds [] []) (dApp φ_text_of_number (pick [.p 0] ds [] [])))) aNil) fun ds => fits 1 ds (fits 1 (pick [.p 0] ds [] []) (dApp φ_number_from (pick [.p 0] ds [] [])))) (dPeek 4)) (dBin (eqA true) (dUn reprDW (aBind (aCons (aBind (aCons (dVar 4) aNil) fun ds => fits 1 ds (fits 1 (pick [.p 0] ds [] []) (dApp φ_text_of_number (pick [.p 0] ds [] [])))) aNil) fun bs => fits 1 bs (fits 1 (pick [.k 0] [] [] bs) (dApp φ_number_from (pick [.k 0] [] [] bs))))) (dUn reprDW (dPeek 4)))) (sRet (dC (.bl false))) sNext) (sSeq (sSet 5 (dBin addD (dC (.int 1)) (aBind (aCons (dVar 1) (aCons (dC (.int 9)) aNil)) fun ds => fits 2 ds (fits 2 (pick [.p 0, .p 1] ds [] []) (dApp φ__law_draw (pick [.p 0, .p 1] ds [] [])))))) (sSeq (sSet 6 (dBin addD (dBin addD (dUn strA (dBin mulD (dBin ixD (dPeek 4) (dC (.int 0))) (dPeek 5))) (dC (.str "/"))) (dUn strA (dBin mulD (dBin ixD (dPeek 4) (dC (.int 1))) (dPeek 5))))) (sSeq (sIf (dOrT (dBin (eqA true) (dUn reprDW (aBind (aCons (dVar 6) aNil) fun ds => fits 1 ds (fits 1 (pick [.p 0] ds [] []) (dApp φ_number_from (pick [.p 0] ds [] []))))) (dUn reprDW (dPeek 4))) (dBin (eqA true) (aBind (aCons (dBin addD (dUn strA (dBin ixD (dPeek 4) (dC (.int 0)))) (dC (.str "/1"))) aNil) fun ds => fits 1 ds (fits 1 (pick [.p 0] ds [] []) (dApp φ_number_from (pick [.p 0] ds [] [])))) (dTup (aCons (dBin ixD (dPeek 4) (dC (.int 0))) (aCons (dC (.int 1)) aNil))))) (sRet (dC (.bl false))) sNext) (sSeq (sIf (dOrT (dBin (isA true) (aBind (aCons (aBind (aCons (dVar 1) (aCons (aBind (aCons (dVar 3) aNil) fun ds => fits 1 ds (fits 1 (pick [.p 0] ds [] []) (dApp φ_text_of_number (pick [.p 0] ds [] [])))) aNil)) fun ds => fits 2 ds (fits 2 (pick [.p 0, .p 1] ds [] []) (dApp φ__law_none (pick [.p 0, .p 1] ds [] [])))) aNil) fun ds => fits 1 ds (fits 1 (pick [.p 0] ds [] []) (dApp φ_number_from (pick [.p 0] ds [] [])))) (dC .non)) (dBin (isA true) (aBind (aCons (aBind (aCons (dVar 1) (aCons (dUn strA (dBin ixD (dPeek 4) (dC (.int 0)))) aNil)) fun ds => fits 2 ds (fits 2 (pick [.p 0, .p 1] ds [] []) (dApp φ__law_none (pick [.p 0, .p 1] ds [] [])))) aNil) fun ds => fits 1 ds (fits 1 (pick [.p 0] ds [] []) (dApp φ_number_from (pick [.p 0] ds [] [])))) (dC .non))) (sRet (dC (.bl false))) sNext) (sSeq (sSet 7 (aBind (aCons (dVar 1) (aCons (dLst (aCons (dC .non) (aCons (dC (.int 5)) (aCons (dC (.bl true)) (aCons (dTup (aCons (dC (.int 1)) (aCons (dC (.int 2)) aNil))) (aCons (dLst (aCons (dC (.str "1")) aNil)) (aCons (dC (.dct [] [])) (aCons (dTup (aCons (dC (.str "1")) aNil)) (aCons (dTup (aCons (dC (.int 0)) (aCons (dC (.int 1)) aNil))) aNil))))))))) aNil)) fun ds => fits 2 ds (fits 2 (pick [.p 0, .p 1] ds [] []) (dApp φ__law_pick (pick [.p 0, .p 1] ds [] []))))) (sIf (dBin (isA true) (aBind (aCons (dVar 7) aNil) fun ds => fits 1 ds (fits 1 (pick [.p 0] ds [] []) (dApp φ_number_from (pick [.p 0] ds [] [])))) (dC .non)) (sRet (dC (.bl false))) sNext))))))))
noncomputable def k0_law : TDE := dComp [13] (iBind (dVar 11) itemsT) (bName 13) dYes (aBind (aCons (dVar 13) aNil) fun ds => fits 1 ds (fits 1 (pick [.p 0] ds [] []) (dApp φ_number_from (pick [.p 0] ds [] []))))
noncomputable def k1_law : TDE := dComp [13] (iBind (dSl (dPeek 10) none (some (dC (.int 2)))) itemsT) (bName 13) dYes (aBind (aCons (dVar 13) aNil) fun ds => fits 1 ds (fits 1 (pick [.p 0] ds [] []) (dApp φ_number_from (pick [.p 0] ds [] []))))
noncomputable def m_law : TDS := (sSeq (sSet 1 (aBind (aCons (dVar 0) aNil) fun ds => fits 1 ds (fits 1 (pick [.p 0] ds [] []) (dApp φ__law_pen (pick [.p 0] ds [] []))))) (sSeq (sFor s0_law (bName 2) b0_law) (sSeq (sPar 8 9 (aCons (aBind (aCons (dVar 1) (aCons (dC (.int 998)) aNil)) fun ds => fits 2 ds (fits 2 (pick [.p 0, .p 1] ds [] []) (dApp φ__law_draw (pick [.p 0, .p 1] ds [] [])))) (aCons (dUn strA (dBin addD (dC (.int 1)) (aBind (aCons (dVar 1) (aCons (dC (.int 9)) aNil)) fun ds => fits 2 ds (fits 2 (pick [.p 0, .p 1] ds [] []) (dApp φ__law_draw (pick [.p 0, .p 1] ds [] [])))))) aNil))) (sSeq (sSet 10 (dLst (aCons (dBin addD (dPeek 9) (dBin repS (dC (.str "7")) (dC (.int 999)))) (aCons (dBin addD (dBin addD (dC (.str "-")) (dPeek 9)) (dBin repS (dC (.str "3")) (dC (.int 998)))) (aCons (dBin addD (dBin addD (dBin addD (dPeek 9) (dBin repS (dC (.str "2")) (dPeek 8))) (dC (.str "/"))) (dBin repS (dC (.str "9")) (dBin subD (dC (.int 998)) (dPeek 8)))) aNil))))) (sSeq (sSet 11 (dLst (aCons (dBin addD (dPeek 9) (dBin repS (dC (.str "7")) (dC (.int 1000)))) (aCons (dBin addD (dBin addD (dC (.str "-")) (dPeek 9)) (dBin repS (dC (.str "3")) (dC (.int 999)))) (aCons (dBin addD (dBin addD (dBin addD (dPeek 9) (dBin repS (dC (.str "2")) (dPeek 8))) (dC (.str "/"))) (dBin repS (dC (.str "9")) (dBin subD (dC (.int 999)) (dPeek 8)))) aNil))))) (sSeq (sIf (dOrT (dBin (eqA true) (k0_law) (dBin repL (dLst (aCons (dC .non) aNil)) (dC (.int 3)))) (dBin (eqA true) (k1_law) (dLst (aCons (dTup (aCons (dUn intAW (dBin ixD (dPeek 10) (dC (.int 0)))) (aCons (dC (.int 1)) aNil))) (aCons (dTup (aCons (dUn intAW (dBin ixD (dPeek 10) (dC (.int 1)))) (aCons (dC (.int 1)) aNil))) aNil))))) (sRet (dC (.bl false))) sNext) (sSeq (sSet 12 (dM1 splitD (dBin ixD (dPeek 10) (dC (.int 2))) (dC (.str "/")))) (sRet (dBin (eqA false) (dUn reprDW (aBind (aCons (dBin ixD (dPeek 10) (dC (.int 2))) aNil) fun ds => fits 1 ds (fits 1 (pick [.p 0] ds [] []) (dApp φ_number_from (pick [.p 0] ds [] []))))) (dUn reprDW (aBind (aCons (dUn intAW (dBin ixD (dPeek 12) (dC (.int 0)))) (aCons (dUn intAW (dBin ixD (dPeek 12) (dC (.int 1)))) aNil)) fun ds => fits 2 ds (fits 2 (pick [.p 0, .p 1] ds [] []) (dApp φ__law_low (pick [.p 0, .p 1] ds [] []))))))))))))))
noncomputable def φ_law : DF := dFn 1 14 m_law
theorem ok_law (E : Fx K mg) (nd : base.NoDigits) {f : Addr} {fd : FuncData} (F : FunD K "law" "law" (defArgs s_law) (defBody s_law) (defScope s_law) [] [] f fd) (hm : mg "law" = some (.ref f)) (H__law_pen : DgD P w K mg base T "_law_pen" s__law_pen 1 ["script"] φ__law_pen []) (H__law_number : DgD P w K mg base T "_law_number" s__law_number 3 ["pen"] φ__law_number []) (H_number_from : DgD P w K mg base T "number_from" s_number_from 2 ["text"] φ_number_from []) (H_text_of_number : DgD P w K mg base T "text_of_number" s_text_of_number 4 ["number"] φ_text_of_number []) (H__law_draw : DgD P w K mg base T "_law_draw" s__law_draw 1 ["pen", "many"] φ__law_draw []) (H__law_none : DgD P w K mg base T "_law_none" s__law_none 3 ["pen", "text"] φ__law_none []) (H__law_pick : DgD P w K mg base T "_law_pick" s__law_pick 2 ["pen", "some"] φ__law_pick []) (H__law_low : DgD P w K mg base T "_law_low" s__law_low 1 ["top", "bottom"] φ__law_low []) : Fk P w K mg base T "law" 5 f fd ["script"] φ_law := by
  obtain ⟨f__law_pen, fd__law_pen, F__law_pen, k__law_pen⟩ := H__law_pen
  obtain ⟨f__law_number, fd__law_number, F__law_number, k__law_number⟩ := H__law_number
  obtain ⟨f_number_from, fd_number_from, F_number_from, k_number_from⟩ := H_number_from
  obtain ⟨f_text_of_number, fd_text_of_number, F_text_of_number, k_text_of_number⟩ := H_text_of_number
  obtain ⟨f__law_draw, fd__law_draw, F__law_draw, k__law_draw⟩ := H__law_draw
  obtain ⟨f__law_none, fd__law_none, F__law_none, k__law_none⟩ := H__law_none
  obtain ⟨f__law_pick, fd__law_pick, F__law_pick, k__law_pick⟩ := H__law_pick
  obtain ⟨f__law_low, fd__law_low, F__law_low, k__law_low⟩ := H__law_low
  refine def_of (Ns := ["script", "pen", "turn", "raw", "due", "times", "text", "odd", "long", "first", "fit", "over", "parts", "each"]) (ps := ["script"]) (t := m_law) hm F sc_law (by decide) (by decide) fun cdv hcd A outer s H E' N hT hc hr tk => ?_
  subst hT
  have sc := sc_law
  exact (dss_cons (ds_set (ps_set (i := 1) sc.nd rfl (Or.inl rfl) (de_call (n := 1) (ps := ["script"]) (sel := [.p 0]) (φ := φ__law_pen) (dds := []) k__law_pen  hc (hr.mono (by decide)) tk (cb0 F__law_pen 1 [] _ fun _ _ _ _ _ _ us ws hl hw => match us, ws, hl, hw with | [_], [], _, _ => rfl) (fun _ _ _ => .nil) rfl (da_cons (de_var (pe_var (i := 0) rfl (Or.inl rfl))) da_nil)))) (dss_cons (ds_for (passes_of rfl) rfl (di_range1 E.f_range (de_int)) (dg_name (pg_name (i := 2) sc.nd rfl (Or.inl rfl))) (dss_cons (ds_asg (de_call (n := 1) (ps := ["pen"]) (sel := [.p 0]) (φ := φ__law_number) (dds := []) k__law_number  hc (hr.mono (by decide)) tk (cb0 F__law_number 1 [] _ fun _ _ _ _ _ _ us ws hl hw => match us, ws, hl, hw with | [_], [], _, _ => rfl) (fun _ _ _ => .nil) rfl (da_cons (de_var (pe_var (i := 1) rfl (Or.inl rfl))) da_nil)) (dg_tup rfl (dgs_cons (dg_name (pg_name (i := 3) sc.nd rfl (Or.inl rfl))) (dgs_cons (dg_name (pg_name (i := 4) sc.nd rfl (Or.inl rfl))) dgs_nil)))) (dss_cons (ds_if (dw_t (dw_or (dt_cmp (od_neA hr.units) (de_b (de_call (n := 1) (ps := ["text"]) (sel := [.p 0]) (φ := φ_number_from) (dds := []) k_number_from  hc (hr.mono (by decide)) tk (cb0 F_number_from 1 [] _ fun _ _ _ _ _ _ us ws hl hw => match us, ws, hl, hw with | [_], [], _, _ => rfl) (fun _ _ _ => .nil) rfl (da_cons (de_call (n := 1) (ps := ["number"]) (sel := [.p 0]) (φ := φ_text_of_number) (dds := []) k_text_of_number  hc (hr.mono (by decide)) tk (cb0 F_text_of_number 1 [] _ fun _ _ _ _ _ _ us ws hl hw => match us, ws, hl, hw with | [_], [], _, _ => rfl) (fun _ _ _ => .nil) rfl (da_cons (de_var (pe_var (i := 3) rfl (Or.inl rfl))) da_nil)) da_nil))) (db_var (pe_var (i := 4) rfl (Or.inl rfl)))) (dw_or1 (dt_cmp (od_neA hr.units) (de_b (de_b1 (c_reprW nd hr.units hc) E.f_repr (de_b (de_callK0 (ps := ["text"]) (ks := ["text"]) (sel := [.k 0]) (φ := φ_number_from) (dds := []) k_number_from  hc (hr.mono (by decide)) tk (cb0 F_number_from 0 ["text"] _ fun _ _ _ _ _ _ us ws hl hw => match us, ws, hl, hw with | [], [_], _, _ => rfl) (fun _ _ _ => .nil) (dk_cons (de_call (n := 1) (ps := ["number"]) (sel := [.p 0]) (φ := φ_text_of_number) (dds := []) k_text_of_number  hc (hr.mono (by decide)) tk (cb0 F_text_of_number 1 [] _ fun _ _ _ _ _ _ us ws hl hw => match us, ws, hl, hw with | [_], [], _, _ => rfl) (fun _ _ _ => .nil) rfl (da_cons (de_var (pe_var (i := 4) rfl (Or.inl rfl))) da_nil)) dk_nil))))) (de_b (de_b1 (c_reprW nd hr.units hc) E.f_repr (db_var (pe_var (i := 4) rfl (Or.inl rfl))))))))) (dss_one (ds_ret (de_bl))) dss_nil) (dss_cons (ds_set (ps_set (i := 5) sc.nd rfl (Or.inl rfl) (de_bin od_add (de_b (de_int)) (de_b (de_call (n := 2) (ps := ["pen", "many"]) (sel := [.p 0, .p 1]) (φ := φ__law_draw) (dds := []) k__law_draw  hc (hr.mono (by decide)) tk (cb0 F__law_draw 2 [] _ fun _ _ _ _ _ _ us ws hl hw => match us, ws, hl, hw with | [_, _], [], _, _ => rfl) (fun _ _ _ => .nil) rfl (da_cons (de_var (pe_var (i := 1) rfl (Or.inl rfl))) (da_cons (de_int) da_nil))))))) (dss_cons (ds_set (ps_set (i := 6) sc.nd rfl (Or.inl rfl) (de_bin od_add (de_b (de_bin od_add (de_b (de_t1 c_str E.f_str (de_b (de_bin od_mulI (de_b (de_ix (db_var (pe_var (i := 4) rfl (Or.inl rfl))) (de_b (de_int)))) (db_var (pe_var (i := 5) rfl (Or.inl rfl))))))) (de_b (de_str)))) (de_b (de_t1 c_str E.f_str (de_b (de_bin od_mulI (de_b (de_ix (db_var (pe_var (i := 4) rfl (Or.inl rfl))) (de_b (de_int)))) (db_var (pe_var (i := 5) rfl (Or.inl rfl)))))))))) (dss_cons (ds_if (dw_t (dw_or (dt_cmp (od_neA hr.units) (de_b (de_b1 (c_reprW nd hr.units hc) E.f_repr (de_b (de_call (n := 1) (ps := ["text"]) (sel := [.p 0]) (φ := φ_number_from) (dds := []) k_number_from  hc (hr.mono (by decide)) tk (cb0 F_number_from 1 [] _ fun _ _ _ _ _ _ us ws hl hw => match us, ws, hl, hw with | [_], [], _, _ => rfl) (fun _ _ _ => .nil) rfl (da_cons (de_var (pe_var (i := 6) rfl (Or.inl rfl))) da_nil))))) (de_b (de_b1 (c_reprW nd hr.units hc) E.f_repr (db_var (pe_var (i := 4) rfl (Or.inl rfl)))))) (dw_or1 (dt_cmp (od_neA hr.units) (de_b (de_call (n := 1) (ps := ["text"]) (sel := [.p 0]) (φ := φ_number_from) (dds := []) k_number_from  hc (hr.mono (by decide)) tk (cb0 F_number_from 1 [] _ fun _ _ _ _ _ _ us ws hl hw => match us, ws, hl, hw with | [_], [], _, _ => rfl) (fun _ _ _ => .nil) rfl (da_cons (de_bin od_add (de_b (de_t1 c_str E.f_str (de_b (de_ix (db_var (pe_var (i := 4) rfl (Or.inl rfl))) (de_b (de_int)))))) (de_b (de_str))) da_nil))) (de_b (de_tup (da_cons (de_ix (db_var (pe_var (i := 4) rfl (Or.inl rfl))) (de_b (de_int))) (da_cons (de_int) da_nil)))))))) (dss_one (ds_ret (de_bl))) dss_nil) (dss_cons (ds_if (dw_t (dw_or (dt_cmp od_not (de_b (de_call (n := 1) (ps := ["text"]) (sel := [.p 0]) (φ := φ_number_from) (dds := []) k_number_from  hc (hr.mono (by decide)) tk (cb0 F_number_from 1 [] _ fun _ _ _ _ _ _ us ws hl hw => match us, ws, hl, hw with | [_], [], _, _ => rfl) (fun _ _ _ => .nil) rfl (da_cons (de_call (n := 2) (ps := ["pen", "text"]) (sel := [.p 0, .p 1]) (φ := φ__law_none) (dds := []) k__law_none  hc (hr.mono (by decide)) tk (cb0 F__law_none 2 [] _ fun _ _ _ _ _ _ us ws hl hw => match us, ws, hl, hw with | [_, _], [], _, _ => rfl) (fun _ _ _ => .nil) rfl (da_cons (de_var (pe_var (i := 1) rfl (Or.inl rfl))) (da_cons (de_call (n := 1) (ps := ["number"]) (sel := [.p 0]) (φ := φ_text_of_number) (dds := []) k_text_of_number  hc (hr.mono (by decide)) tk (cb0 F_text_of_number 1 [] _ fun _ _ _ _ _ _ us ws hl hw => match us, ws, hl, hw with | [_], [], _, _ => rfl) (fun _ _ _ => .nil) rfl (da_cons (de_var (pe_var (i := 3) rfl (Or.inl rfl))) da_nil)) da_nil))) da_nil))) (de_b (de_non))) (dw_or1 (dt_cmp od_not (de_b (de_call (n := 1) (ps := ["text"]) (sel := [.p 0]) (φ := φ_number_from) (dds := []) k_number_from  hc (hr.mono (by decide)) tk (cb0 F_number_from 1 [] _ fun _ _ _ _ _ _ us ws hl hw => match us, ws, hl, hw with | [_], [], _, _ => rfl) (fun _ _ _ => .nil) rfl (da_cons (de_call (n := 2) (ps := ["pen", "text"]) (sel := [.p 0, .p 1]) (φ := φ__law_none) (dds := []) k__law_none  hc (hr.mono (by decide)) tk (cb0 F__law_none 2 [] _ fun _ _ _ _ _ _ us ws hl hw => match us, ws, hl, hw with | [_, _], [], _, _ => rfl) (fun _ _ _ => .nil) rfl (da_cons (de_var (pe_var (i := 1) rfl (Or.inl rfl))) (da_cons (de_t1 c_str E.f_str (de_b (de_ix (db_var (pe_var (i := 4) rfl (Or.inl rfl))) (de_b (de_int))))) da_nil))) da_nil))) (de_b (de_non)))))) (dss_one (ds_ret (de_bl))) dss_nil) (dss_cons (ds_set (ps_set (i := 7) sc.nd rfl (Or.inl rfl) (de_call (n := 2) (ps := ["pen", "some"]) (sel := [.p 0, .p 1]) (φ := φ__law_pick) (dds := []) k__law_pick  hc (hr.mono (by decide)) tk (cb0 F__law_pick 2 [] _ fun _ _ _ _ _ _ us ws hl hw => match us, ws, hl, hw with | [_, _], [], _, _ => rfl) (fun _ _ _ => .nil) rfl (da_cons (de_var (pe_var (i := 1) rfl (Or.inl rfl))) (da_cons (de_lst (da_cons (de_non) (da_cons (de_int) (da_cons (de_bl) (da_cons (de_tup (da_cons (de_int) (da_cons (de_int) da_nil))) (da_cons (de_lst (da_cons (de_str) da_nil)) (da_cons (de_dct0) (da_cons (de_tup (da_cons (de_str) da_nil)) (da_cons (de_tup (da_cons (de_int) (da_cons (de_int) da_nil))) da_nil))))))))) da_nil))))) (dss_one (ds_if (dt_cmp od_not (de_b (de_call (n := 1) (ps := ["text"]) (sel := [.p 0]) (φ := φ_number_from) (dds := []) k_number_from  hc (hr.mono (by decide)) tk (cb0 F_number_from 1 [] _ fun _ _ _ _ _ _ us ws hl hw => match us, ws, hl, hw with | [_], [], _, _ => rfl) (fun _ _ _ => .nil) rfl (da_cons (de_var (pe_var (i := 7) rfl (Or.inl rfl))) da_nil))) (de_b (de_non))) (dss_one (ds_ret (de_bl))) dss_nil)))))))))) (dss_cons (ds_par (ps_par (i := 8) (j := 9) rfl sc.nd rfl rfl (by decide) rfl rfl (da_cons (de_call (n := 2) (ps := ["pen", "many"]) (sel := [.p 0, .p 1]) (φ := φ__law_draw) (dds := []) k__law_draw  hc (hr.mono (by decide)) tk (cb0 F__law_draw 2 [] _ fun _ _ _ _ _ _ us ws hl hw => match us, ws, hl, hw with | [_, _], [], _, _ => rfl) (fun _ _ _ => .nil) rfl (da_cons (de_var (pe_var (i := 1) rfl (Or.inl rfl))) (da_cons (de_int) da_nil))) (da_cons (de_t1 c_str E.f_str (de_b (de_bin od_add (de_b (de_int)) (de_b (de_call (n := 2) (ps := ["pen", "many"]) (sel := [.p 0, .p 1]) (φ := φ__law_draw) (dds := []) k__law_draw  hc (hr.mono (by decide)) tk (cb0 F__law_draw 2 [] _ fun _ _ _ _ _ _ us ws hl hw => match us, ws, hl, hw with | [_, _], [], _, _ => rfl) (fun _ _ _ => .nil) rfl (da_cons (de_var (pe_var (i := 1) rfl (Or.inl rfl))) (da_cons (de_int) da_nil))))))) da_nil)) rfl)) (dss_cons (ds_set (ps_set (i := 10) sc.nd rfl (Or.inl rfl) (de_lst (da_cons (de_bin od_add (db_var (pe_var (i := 9) rfl (Or.inl rfl))) (de_b (de_bin od_repS (de_b (de_str)) (de_b (de_int))))) (da_cons (de_bin od_add (de_b (de_bin od_add (de_b (de_str)) (db_var (pe_var (i := 9) rfl (Or.inl rfl))))) (de_b (de_bin od_repS (de_b (de_str)) (de_b (de_int))))) (da_cons (de_bin od_add (de_b (de_bin od_add (de_b (de_bin od_add (db_var (pe_var (i := 9) rfl (Or.inl rfl))) (de_b (de_bin od_repS (de_b (de_str)) (db_var (pe_var (i := 8) rfl (Or.inl rfl))))))) (de_b (de_str)))) (de_b (de_bin od_repS (de_b (de_str)) (de_b (de_bin od_sub (de_b (de_int)) (db_var (pe_var (i := 8) rfl (Or.inl rfl)))))))) da_nil)))))) (dss_cons (ds_set (ps_set (i := 11) sc.nd rfl (Or.inl rfl) (de_lst (da_cons (de_bin od_add (db_var (pe_var (i := 9) rfl (Or.inl rfl))) (de_b (de_bin od_repS (de_b (de_str)) (de_b (de_int))))) (da_cons (de_bin od_add (de_b (de_bin od_add (de_b (de_str)) (db_var (pe_var (i := 9) rfl (Or.inl rfl))))) (de_b (de_bin od_repS (de_b (de_str)) (de_b (de_int))))) (da_cons (de_bin od_add (de_b (de_bin od_add (de_b (de_bin od_add (db_var (pe_var (i := 9) rfl (Or.inl rfl))) (de_b (de_bin od_repS (de_b (de_str)) (db_var (pe_var (i := 8) rfl (Or.inl rfl))))))) (de_b (de_str)))) (de_b (de_bin od_repS (de_b (de_str)) (de_b (de_bin od_sub (de_b (de_int)) (db_var (pe_var (i := 8) rfl (Or.inl rfl)))))))) da_nil)))))) (dss_cons (ds_if (dw_t (dw_or (dt_cmp (od_neA hr.units) (de_b (de_lc (N := N) (own := [("each", 13)]) rfl sc.nd (di_seqT (de_var (pe_var (i := 11) rfl (Or.inl rfl)))) (blkOk_by (own := [("each", 13)]) (N := ["script", "pen", "turn", "raw", "due", "times", "text", "odd", "long", "first", "fit", "over", "parts", "each"]) (sc := defScope s_law) (by decide +kernel)) (gok_name (by decide)) (fun _ _ _ _ _ => (pg_name (i := 13) sc.nd rfl (Or.inl rfl))) (fun _ _ _ _ _ => pts_nil) tYes_of (fun _ _ _ _ _ => (de_call (n := 1) (ps := ["text"]) (sel := [.p 0]) (φ := φ_number_from) (dds := []) k_number_from  hc (hr.mono (by decide)) tk0 (cb0 F_number_from 1 [] _ fun _ _ _ _ _ _ us ws hl hw => match us, ws, hl, hw with | [_], [], _, _ => rfl) (fun _ _ _ => .nil) rfl (da_cons (de_var (pe_var (i := 13) rfl (Or.inl rfl))) da_nil))))) (de_b (de_bin od_repL (de_b (de_lst (da_cons (de_non) da_nil))) (de_b (de_int))))) (dw_or1 (dt_cmp (od_neA hr.units) (de_b (de_lc (N := N) (own := [("each", 13)]) rfl sc.nd (di_seqT (de_sl01 (db_var (pe_var (i := 10) rfl (Or.inl rfl))) (de_b (de_int)))) (blkOk_by (own := [("each", 13)]) (N := ["script", "pen", "turn", "raw", "due", "times", "text", "odd", "long", "first", "fit", "over", "parts", "each"]) (sc := defScope s_law) (by decide +kernel)) (gok_name (by decide)) (fun _ _ _ _ _ => (pg_name (i := 13) sc.nd rfl (Or.inl rfl))) (fun _ _ _ _ _ => pts_nil) tYes_of (fun _ _ _ _ _ => (de_call (n := 1) (ps := ["text"]) (sel := [.p 0]) (φ := φ_number_from) (dds := []) k_number_from  hc (hr.mono (by decide)) tk0 (cb0 F_number_from 1 [] _ fun _ _ _ _ _ _ us ws hl hw => match us, ws, hl, hw with | [_], [], _, _ => rfl) (fun _ _ _ => .nil) rfl (da_cons (de_var (pe_var (i := 13) rfl (Or.inl rfl))) da_nil))))) (de_b (de_lst (da_cons (de_tup (da_cons (de_t1 (c_intW nd) E.f_int (de_b (de_ix (db_var (pe_var (i := 10) rfl (Or.inl rfl))) (de_b (de_int))))) (da_cons (de_int) da_nil))) (da_cons (de_tup (da_cons (de_t1 (c_intW nd) E.f_int (de_b (de_ix (db_var (pe_var (i := 10) rfl (Or.inl rfl))) (de_b (de_int))))) (da_cons (de_int) da_nil))) da_nil)))))))) (dss_one (ds_ret (de_bl))) dss_nil) (dss_cons (ds_set (ps_set (i := 12) sc.nd rfl (Or.inl rfl) (de_m1 m_split (de_b (de_ix (db_var (pe_var (i := 10) rfl (Or.inl rfl))) (de_b (de_int)))) (de_b (de_str))))) (dss_one (ds_ret (de_cmp (od_eqA hr.units) (de_b (de_b1 (c_reprW nd hr.units hc) E.f_repr (de_b (de_call (n := 1) (ps := ["text"]) (sel := [.p 0]) (φ := φ_number_from) (dds := []) k_number_from  hc (hr.mono (by decide)) tk (cb0 F_number_from 1 [] _ fun _ _ _ _ _ _ us ws hl hw => match us, ws, hl, hw with | [_], [], _, _ => rfl) (fun _ _ _ => .nil) rfl (da_cons (de_ix (db_var (pe_var (i := 10) rfl (Or.inl rfl))) (de_b (de_int))) da_nil))))) (de_b (de_b1 (c_reprW nd hr.units hc) E.f_repr (de_b (de_call (n := 2) (ps := ["top", "bottom"]) (sel := [.p 0, .p 1]) (φ := φ__law_low) (dds := []) k__law_low  hc (hr.mono (by decide)) tk (cb0 F__law_low 2 [] _ fun _ _ _ _ _ _ us ws hl hw => match us, ws, hl, hw with | [_, _], [], _, _ => rfl) (fun _ _ _ => .nil) rfl (da_cons (de_t1 (c_intW nd) E.f_int (de_b (de_ix (db_var (pe_var (i := 12) rfl (Or.inl rfl))) (de_b (de_int))))) (da_cons (de_t1 (c_intW nd) E.f_int (de_b (de_ix (db_var (pe_var (i := 12) rfl (Or.inl rfl))) (de_b (de_int))))) da_nil))))))))))))))))
end
end L05
namespace PA
/-! ### plain arithmetic: numbers as pairs in lowest terms; factors and exponents -/
theorem nn (a b : Int) : (a * b).natAbs = a.natAbs * b.natAbs := Int.natAbs_mul a b
/-- a pair in lowest terms -/
def lowP (t u : Int) : Int × Int := (t / ((Nat.gcd t.natAbs u.natAbs : Nat) : Int), u / ((Nat.gcd t.natAbs u.natAbs : Nat) : Int))
theorem g_pos {t u : Int} (hu : 0 < u) : 0 < Nat.gcd t.natAbs u.natAbs := Nat.gcd_pos_of_pos_right _ (by omega)
theorem low_mul {t u : Int} : (lowP t u).1 * ((Nat.gcd t.natAbs u.natAbs : Nat) : Int) = t ∧ (lowP t u).2 * ((Nat.gcd t.natAbs u.natAbs : Nat) : Int) = u :=
  ⟨Int.ediv_mul_cancel (Int.ofNat_dvd_left.mpr (Nat.gcd_dvd_left _ _)), Int.ediv_mul_cancel (Int.ofNat_dvd_left.mpr (Nat.gcd_dvd_right _ _))⟩
theorem low_pos {t u : Int} (hu : 0 < u) : 0 < (lowP t u).2 := by
  have h := (low_mul (t := t) (u := u)).2
  have g := g_pos (t := t) hu
  rcases Int.lt_trichotomy 0 (lowP t u).2 with h1 | h1 | h1
  · exact h1
  · rw [← h1] at h; omega
  · have := Int.mul_neg_of_neg_of_pos h1 (show (0 : Int) < ((Nat.gcd t.natAbs u.natAbs : Nat) : Int) by omega)
    omega
theorem low_co {t u : Int} (hu : 0 < u) : Nat.Coprime (lowP t u).1.natAbs (lowP t u).2.natAbs := by
  have e1 : (lowP t u).1.natAbs = t.natAbs / Nat.gcd t.natAbs u.natAbs := by
    unfold lowP
    show (t / ((Nat.gcd t.natAbs u.natAbs : Nat) : Int)).natAbs = _
    rw [Int.natAbs_ediv_of_dvd (Int.ofNat_dvd_left.mpr (Nat.gcd_dvd_left _ _)), Int.natAbs_natCast]
  have e2 : (lowP t u).2.natAbs = u.natAbs / Nat.gcd t.natAbs u.natAbs := by
    unfold lowP
    show (u / ((Nat.gcd t.natAbs u.natAbs : Nat) : Int)).natAbs = _
    rw [Int.natAbs_ediv_of_dvd (Int.ofNat_dvd_left.mpr (Nat.gcd_dvd_right _ _)), Int.natAbs_natCast]
  rw [e1, e2]
  exact Nat.coprime_div_gcd_div_gcd (g_pos hu)
/-- two reduced pairs of one worth are one -/
theorem co_unique {a b c d : Int} (hb : 0 < b) (hd : 0 < d) (h1 : Nat.Coprime a.natAbs b.natAbs) (h2 : Nat.Coprime c.natAbs d.natAbs) (h : a * d = c * b) : a = c ∧ b = d := by
  have e := congrArg Int.natAbs h
  rw [nn, nn] at e
  have d1 : b.natAbs ∣ d.natAbs := h1.symm.dvd_of_dvd_mul_left (by rw [e]; exact Nat.dvd_mul_left _ _)
  have d2 : d.natAbs ∣ b.natAbs := h2.symm.dvd_of_dvd_mul_left (by rw [← e]; exact Nat.dvd_mul_left _ _)
  have e2 := Nat.dvd_antisymm d1 d2
  have e3 : b = d := by omega
  subst e3
  exact ⟨Int.eq_of_mul_eq_mul_right (by omega) h, rfl⟩
theorem low_eq {x u y v : Int} (hu : 0 < u) (hv : 0 < v) (h : x * v = y * u) : lowP x u = lowP y v := by
  obtain ⟨a1, a2⟩ := low_mul (t := x) (u := u)
  obtain ⟨b1, b2⟩ := low_mul (t := y) (u := v)
  have g1 := g_pos (t := x) hu
  have g2 := g_pos (t := y) hv
  have k : (lowP x u).1 * (lowP y v).2 = (lowP y v).1 * (lowP x u).2 := by
    generalize hg : ((Nat.gcd x.natAbs u.natAbs : Nat) : Int) = g at a1 a2
    generalize hk : ((Nat.gcd y.natAbs v.natAbs : Nat) : Int) = k at b1 b2
    have hg0 : g ≠ 0 := by omega
    have hk0 : k ≠ 0 := by omega
    have e : (lowP x u).1 * (lowP y v).2 * (g * k) = (lowP y v).1 * (lowP x u).2 * (g * k) := by
      have e1 : (lowP x u).1 * (lowP y v).2 * (g * k) = ((lowP x u).1 * g) * ((lowP y v).2 * k) := by
        rw [Int.mul_assoc, Int.mul_assoc]; congr 1
        rw [Int.mul_left_comm]
      have e2 : (lowP y v).1 * (lowP x u).2 * (g * k) = ((lowP y v).1 * k) * ((lowP x u).2 * g) := by
        rw [Int.mul_assoc, Int.mul_assoc]; congr 1
        rw [Int.mul_comm g k, Int.mul_left_comm]
      rw [e1, e2, a1, b2, b1, a2, h]
    exact Int.eq_of_mul_eq_mul_right (Int.mul_ne_zero hg0 hk0) e
  obtain ⟨q1, q2⟩ := co_unique (low_pos hu) (low_pos hv) (low_co hu) (low_co hv) k
  exact Prod.ext q1 q2
/-- what is reduced stays -/
theorem low_self {a b : Int} (hb : 0 < b) (h : Nat.Coprime a.natAbs b.natAbs) : lowP a b = (a, b) := by
  unfold lowP
  rw [show Nat.gcd a.natAbs b.natAbs = 1 from h]
  simp
theorem low_low {t u : Int} (hu : 0 < u) : lowP (lowP t u).1 (lowP t u).2 = lowP t u := by
  rw [low_self (low_pos hu) (low_co hu)]
/-- cross products of a reduced pair -/
theorem low_cross {t u : Int} : (lowP t u).1 * u = t * (lowP t u).2 := by
  obtain ⟨a1, a2⟩ := low_mul (t := t) (u := u)
  generalize ((Nat.gcd t.natAbs u.natAbs : Nat) : Int) = g at a1 a2
  calc (lowP t u).1 * u = (lowP t u).1 * ((lowP t u).2 * g) := by rw [a2]
    _ = ((lowP t u).1 * g) * (lowP t u).2 := by rw [Int.mul_comm (lowP t u).2 g, Int.mul_assoc]
    _ = t * (lowP t u).2 := by rw [a1]
theorem low_neg {t u : Int} : lowP (-t) u = (-(lowP t u).1, (lowP t u).2) := by
  unfold lowP
  rw [Int.natAbs_neg, Int.neg_ediv_of_dvd (Int.ofNat_dvd_left.mpr (Nat.gcd_dvd_left _ _))]
/-! ### exponents -/
def up (b : Nat) (e : Int) : Nat := b ^ e.toNat
def dn (b : Nat) (e : Int) : Nat := b ^ (-e).toNat
theorem up_pos {b : Nat} (hb : 2 ≤ b) (e : Int) : 0 < up b e := Nat.pow_pos (by omega)
theorem dn_pos {b : Nat} (hb : 2 ≤ b) (e : Int) : 0 < dn b e := Nat.pow_pos (by omega)
/-- b^k = b^(k-e) b^e, crosswise -/
theorem up_dn {b : Nat} {e k : Int} (h : e ≤ k) : up b k * dn b e = b ^ (k - e).toNat * (up b e * dn b k) := by
  unfold up dn
  rw [← Nat.pow_add, ← Nat.pow_add, ← Nat.pow_add]
  congr 1
  omega
theorem up_add {b : Nat} (e c : Int) : up b (e + c) * (dn b e * dn b c) = up b e * up b c * dn b (e + c) := by
  unfold up dn
  rw [← Nat.pow_add, ← Nat.pow_add, ← Nat.pow_add, ← Nat.pow_add]
  congr 1
  omega
/-- T / U lies below b^e -/
def Und (b T U : Nat) (e : Int) : Prop := T * dn b e < U * up b e
theorem und_mono {b T U : Nat} {e k : Int} (hb : 2 ≤ b) (h : e ≤ k) (hu : Und b T U e) : Und b T U k := by
  unfold Und at *
  have e1 := up_dn (b := b) h
  have p1 := dn_pos hb e
  have p2 := dn_pos hb k
  have p3 : 0 < b ^ (k - e).toNat := Nat.pow_pos (by omega)
  -- multiply by dn e
  refine Nat.lt_of_mul_lt_mul_right (a := dn b e) ?_
  calc T * dn b k * dn b e = (T * dn b e) * dn b k := by rw [Nat.mul_assoc, Nat.mul_comm (dn b k), Nat.mul_assoc]
    _ < (U * up b e) * dn b k := Nat.mul_lt_mul_of_pos_right hu p2
    _ ≤ b ^ (k - e).toNat * ((U * up b e) * dn b k) := Nat.le_mul_of_pos_left _ p3
    _ = U * (b ^ (k - e).toNat * (up b e * dn b k)) := by rw [Nat.mul_assoc U, Nat.mul_left_comm]
    _ = U * (up b k * dn b e) := by rw [e1]
    _ = U * up b k * dn b e := by rw [Nat.mul_assoc]
/-- the exponent: what lies below b^g, not below b^(g-1) -/
def Ex (b T U : Nat) (g : Int) : Prop := Und b T U g ∧ ¬ Und b T U (g - 1)
theorem ex_unique {b T U : Nat} {g k : Int} (hb : 2 ≤ b) (h : Ex b T U g) (h' : Ex b T U k) : g = k := by
  rcases Int.lt_trichotomy g k with q | q | q
  · exact absurd (und_mono hb (by omega) h.1) h'.2
  · exact q
  · exact absurd (und_mono hb (by omega) h'.1) h.2
theorem und_iff {b T U : Nat} (hb : 2 ≤ b) (e : Int) (n : Nat) : Und b T U (e + n) ↔ T * dn b e < b ^ n * (U * up b e) := by
  have k := up_dn (b := b) (e := e) (k := e + n) (by omega)
  rw [show (e + (n : Int) - e).toNat = n by omega] at k
  have p1 := dn_pos hb e
  have p2 := dn_pos hb (e + n)
  unfold Und
  have q : U * up b (e + n) * dn b e = b ^ n * (U * up b e) * dn b (e + n) := by
    calc U * up b (e + n) * dn b e = U * (up b (e + n) * dn b e) := Nat.mul_assoc _ _ _
      _ = U * (b ^ n * (up b e * dn b (e + n))) := by rw [k]
      _ = b ^ n * (U * up b e) * dn b (e + n) := by rw [Nat.mul_left_comm, Nat.mul_assoc, Nat.mul_assoc]
  constructor
  · intro h
    refine Nat.lt_of_mul_lt_mul_right (a := dn b (e + n)) ?_
    rw [← q]
    calc T * dn b e * dn b (e + n) = T * dn b (e + n) * dn b e := by rw [Nat.mul_assoc, Nat.mul_comm (dn b e), Nat.mul_assoc]
      _ < U * up b (e + n) * dn b e := Nat.mul_lt_mul_of_pos_right h p1
  · intro h
    refine Nat.lt_of_mul_lt_mul_right (a := dn b e) ?_
    rw [q]
    calc T * dn b (e + n) * dn b e = T * dn b e * dn b (e + n) := by rw [Nat.mul_assoc, Nat.mul_comm (dn b (e + n)), Nat.mul_assoc]
      _ < b ^ n * (U * up b e) * dn b (e + n) := Nat.mul_lt_mul_of_pos_right h p2
/-- the whole part by the exponent -/
def whole (b T U : Nat) (e : Int) : Nat := T * dn b e / (U * up b e)
def inside (b T U : Nat) (e : Int) : Bool := T * dn b e % (U * up b e) == 0
theorem ex_bounds {b T U d : Nat} {e : Int} (hb : 2 ≤ b) (hd : 1 ≤ d) (h : Ex b T U (e + d)) : T * dn b e < b ^ d * (U * up b e) ∧ b ^ (d - 1) * (U * up b e) ≤ T * dn b e := by
  refine ⟨(und_iff hb e d).mp h.1, ?_⟩
  have h2 := h.2
  rw [show e + (d : Int) - 1 = e + ((d - 1 : Nat) : Int) by omega, und_iff hb] at h2
  omega
theorem ex_of {b T U d : Nat} {e : Int} (hb : 2 ≤ b) (hd : 1 ≤ d) (h1 : T * dn b e < b ^ d * (U * up b e)) (h2 : b ^ (d - 1) * (U * up b e) ≤ T * dn b e) : Ex b T U (e + d) := by
  refine ⟨(und_iff hb e d).mpr h1, fun h => ?_⟩
  rw [show e + (d : Int) - 1 = e + ((d - 1 : Nat) : Int) by omega, und_iff hb] at h
  omega
theorem whole_bounds {b T U d : Nat} {e : Int} (hb : 2 ≤ b) (hd : 1 ≤ d) (hU : 0 < U) (h : Ex b T U (e + d)) : b ^ (d - 1) ≤ whole b T U e ∧ whole b T U e < b ^ d := by
  obtain ⟨h1, h2⟩ := ex_bounds hb hd h
  have p : 0 < U * up b e := Nat.mul_pos hU (up_pos hb e)
  unfold whole
  exact ⟨(Nat.le_div_iff_mul_le p).mpr h2, (Nat.div_lt_iff_lt_mul p).mpr h1⟩
theorem inside_iff {b T U : Nat} {e : Int} : inside b T U e = true ↔ T * dn b e = whole b T U e * (U * up b e) := by
  unfold inside whole
  rw [beq_iff_eq]
  constructor
  · intro h
    have := Nat.div_add_mod (T * dn b e) (U * up b e)
    rw [h, Nat.add_zero, Nat.mul_comm] at this
    exact this.symm
  · intro h
    rw [h]
    exact Nat.mul_mod_left _ _
/-- m b^k is a number of the format -/
theorem in1 {b T U d m : Nat} {e k : Int} (hb : 2 ≤ b) (hd : 1 ≤ d) (hU : 0 < U) (h : Ex b T U (e + d)) (hm : m < b ^ d) (he : T * dn b k = m * (U * up b k)) : e ≤ k ∧ T * dn b e = m * b ^ (k - e).toNat * (U * up b e) := by
  have hk : e ≤ k := by
    by_cases q : e ≤ k
    case neg =>
      refine absurd (und_mono hb (show k + (d : Int) ≤ e + d - 1 by omega) ((und_iff hb k d).mpr ?_)) h.2
      rw [he]
      exact Nat.mul_lt_mul_of_pos_right hm (Nat.mul_pos hU (up_pos hb k))
    case pos => exact q
  refine ⟨hk, Nat.eq_of_mul_eq_mul_right (dn_pos hb k) ?_⟩
  have q := up_dn (b := b) hk
  calc T * dn b e * dn b k = T * dn b k * dn b e := by rw [Nat.mul_assoc, Nat.mul_comm (dn b e), Nat.mul_assoc]
    _ = m * (U * up b k) * dn b e := by rw [he]
    _ = m * U * (up b k * dn b e) := by rw [← Nat.mul_assoc, Nat.mul_assoc (m * U)]
    _ = m * U * (b ^ (k - e).toNat * (up b e * dn b k)) := by rw [q]
    _ = m * b ^ (k - e).toNat * (U * up b e) * dn b k := by simp only [Nat.mul_assoc, Nat.mul_left_comm]
theorem in_full {b T U d m : Nat} {e k : Int} (hb : 2 ≤ b) (hd : 1 ≤ d) (hU : 0 < U) (h : Ex b T U (e + d)) (hm : m ≤ b ^ d) (he : T * dn b k = m * (U * up b k)) : inside b T U e = true := by
  have fin : ∀ n : Nat, T * dn b e = n * (U * up b e) → inside b T U e = true := fun n hn => by
    unfold inside
    rw [hn, Nat.mul_mod_left]; rfl
  rcases Nat.lt_or_ge m (b ^ d) with q | q
  · exact fin _ (in1 hb hd hU h q he).2
  · have hm2 : m = b ^ d := by omega
    have h1 : 1 < b ^ d := Nat.one_lt_pow (by omega) (by omega)
    refine fin _ (in1 (m := 1) (k := k + d) hb hd hU h h1 (Nat.eq_of_mul_eq_mul_right (dn_pos hb k) ?_)).2
    have q2 := up_dn (b := b) (e := k) (k := k + d) (by omega)
    rw [show (k + (d : Int) - k).toNat = d by omega] at q2
    calc T * dn b (k + d) * dn b k = T * dn b k * dn b (k + d) := by rw [Nat.mul_assoc, Nat.mul_comm (dn b (k + d)), Nat.mul_assoc]
      _ = b ^ d * (U * up b k) * dn b (k + d) := by rw [he, hm2]
      _ = U * (b ^ d * (up b k * dn b (k + d))) := by simp only [Nat.mul_assoc, Nat.mul_left_comm]
      _ = U * (up b (k + d) * dn b k) := by rw [q2]
      _ = 1 * (U * up b (k + d)) * dn b k := by rw [Nat.one_mul, Nat.mul_assoc]
/-! ### equal fractions -/
theorem fr_lt {p q p' q' : Nat} (hq : 0 < q) (hq' : 0 < q') (h : p' * q = p * q') : p < q ↔ p' < q' := by
  constructor
  · intro z
    refine Nat.lt_of_mul_lt_mul_right (a := q) ?_
    rw [h, Nat.mul_comm q' q]
    exact Nat.mul_lt_mul_of_pos_right z hq'
  · intro z
    refine Nat.lt_of_mul_lt_mul_right (a := q') ?_
    rw [← h, Nat.mul_comm q q']
    exact Nat.mul_lt_mul_of_pos_right z hq
theorem fr_div {p q p' q' : Nat} (hq : 0 < q) (hq' : 0 < q') (h : p' * q = p * q') : p' / q' = p / q := by
  rw [← Nat.mul_div_mul_right p' q' hq, h, Nat.mul_comm q' q, Nat.mul_div_mul_right p q hq']
theorem fr_mod {p q p' q' : Nat} (hq : 0 < q) (hq' : 0 < q') (h : p' * q = p * q') : (p' % q' == 0) = (p % q == 0) := by
  have e : p' % q' * q = p % q * q' := by
    rw [← Nat.mul_mod_mul_right q p' q', ← Nat.mul_mod_mul_right q' p q, h, Nat.mul_comm q' q]
  by_cases z : p % q = 0
  · rw [z, Nat.zero_mul] at e
    have : p' % q' = 0 := by
      rcases Nat.mul_eq_zero.mp e with y | y
      · exact y
      · omega
    rw [z, this]
  · have : p' % q' ≠ 0 := fun y => by
      rw [y, Nat.zero_mul] at e
      rcases Nat.mul_eq_zero.mp e.symm with x | x
      · exact z x
      · omega
    rw [beq_eq_false_iff_ne.mpr z, beq_eq_false_iff_ne.mpr this]
/-- T' / U' = T / U b^c -/
theorem shift {b T U T' U' : Nat} {c : Int} (hb : 2 ≤ b) (h : T' * (U * dn b c) = T * up b c * U') (e : Int) : T' * dn b (e + c) * (U * up b e) = T * dn b e * (U' * up b (e + c)) := by
  refine Nat.eq_of_mul_eq_mul_right (dn_pos hb c) ?_
  have q := up_add (b := b) e c
  calc T' * dn b (e + c) * (U * up b e) * dn b c = T' * (U * dn b c) * (dn b (e + c) * up b e) := by simp only [Nat.mul_assoc, Nat.mul_left_comm, Nat.mul_comm]
    _ = T * up b c * U' * (dn b (e + c) * up b e) := by rw [h]
    _ = T * U' * (up b e * up b c * dn b (e + c)) := by simp only [Nat.mul_assoc, Nat.mul_left_comm, Nat.mul_comm]
    _ = T * U' * (up b (e + c) * (dn b e * dn b c)) := by rw [q]
    _ = T * dn b e * (U' * up b (e + c)) * dn b c := by simp only [Nat.mul_assoc, Nat.mul_left_comm, Nat.mul_comm]
theorem ex_shift {b T U T' U' : Nat} {c g : Int} (hb : 2 ≤ b) (hU : 0 < U) (hU' : 0 < U') (h : T' * (U * dn b c) = T * up b c * U') (x : Ex b T U g) : Ex b T' U' (g + c) := by
  have k : ∀ e : Int, Und b T U e ↔ Und b T' U' (e + c) := fun e => fr_lt (Nat.mul_pos hU (up_pos hb e)) (Nat.mul_pos hU' (up_pos hb _)) (shift hb h e)
  exact ⟨(k g).mp x.1, fun z => x.2 ((k (g - 1)).mpr (by rw [show g - 1 + c = g + c - 1 by omega]; exact z))⟩
theorem whole_shift {b T U T' U' : Nat} {c : Int} (hb : 2 ≤ b) (hU : 0 < U) (hU' : 0 < U') (h : T' * (U * dn b c) = T * up b c * U') (e : Int) : whole b T' U' (e + c) = whole b T U e ∧ inside b T' U' (e + c) = inside b T U e :=
  ⟨fr_div (Nat.mul_pos hU (up_pos hb e)) (Nat.mul_pos hU' (up_pos hb _)) (shift hb h e), fr_mod (Nat.mul_pos hU (up_pos hb e)) (Nat.mul_pos hU' (up_pos hb _)) (shift hb h e)⟩
/-! ### an exponent there is -/
theorem up_nat {b : Nat} (n : Nat) : up b (n : Int) = b ^ n ∧ dn b (n : Int) = 1 := by
  unfold up dn
  rw [show (n : Int).toNat = n by omega, show (-(n : Int)).toNat = 0 by omega]
  exact ⟨rfl, rfl⟩
theorem dn_nat {b : Nat} (n : Nat) : up b (-(n : Int)) = 1 ∧ dn b (-(n : Int)) = b ^ n := by
  unfold up dn
  rw [show (-(n : Int)).toNat = 0 by omega, show (- -(n : Int)).toNat = n by omega]
  exact ⟨rfl, rfl⟩
theorem und_far {b T U : Nat} (hb : 2 ≤ b) (hU : 0 < U) {n : Nat} (h : T < 2 ^ n) : Und b T U n := by
  unfold Und
  rw [(up_nat n).1, (up_nat n).2, Nat.mul_one]
  calc T < 2 ^ n := h
    _ ≤ b ^ n := Nat.pow_le_pow_left hb n
    _ ≤ U * b ^ n := Nat.le_mul_of_pos_left _ hU
theorem not_und_far {b T U : Nat} (hb : 2 ≤ b) (hT : 0 < T) {n : Nat} (h : U < 2 ^ n) : ¬ Und b T U (-(n : Int)) := by
  unfold Und
  rw [(dn_nat n).1, (dn_nat n).2, Nat.mul_one]
  have : U < T * b ^ n := calc U < 2 ^ n := h
    _ ≤ b ^ n := Nat.pow_le_pow_left hb n
    _ ≤ T * b ^ n := Nat.le_mul_of_pos_left _ hT
  omega
end PA
set_option maxHeartbeats 2000000
set_option exponentiation.threshold 4000
namespace L05
open PySem PySem.Spec PyProof.Rows L2 DL PA
abbrev I (n : Nat) : D := .int (n : Int)
theorem nat_lt {n k : Nat} (h : n < k) : ((n : Int)).natAbs < k := by rw [Int.natAbs_natCast]; exact h
theorem p2lt {x n m : Nat} (h : x < 2 ^ n) (k : n ≤ m) : x < 2 ^ m := Nat.lt_of_lt_of_le h (Nat.pow_le_pow_right (by omega) k)
theorem small {x : Int} {k n : Nat} (h : x.natAbs < 2 ^ k) (hk : k ≤ n) : x.natAbs < 2 ^ n := p2lt h hk
/-! ### reducing -/
abbrev P2 (p : Int × Int) : D := .tup [.int p.1, .int p.2]
theorem gcd_lt {t u : Int} (hu : 0 < u) : Nat.gcd t.natAbs u.natAbs ≤ u.natAbs := Nat.le_of_dvd (by omega) (Nat.gcd_dvd_right _ _)
theorem fdiv_g {x g : Int} (h : 0 ≤ g) : Int.fdiv x g = x / g := Int.fdiv_eq_ediv_of_nonneg _ h
theorem r_low (t u : Int) (hu : 0 < u) (hs : u.natAbs < 2 ^ 8000) (M : MS) : φ_low [.int t, .int u] M = some (.ret (P2 (lowP t u)) M) := by
  have g0 := g_pos (t := t) hu
  have dk : divOk ((Nat.gcd t.natAbs u.natAbs : Nat) : Int) := divOk_of (n := 8000) (by omega) (nat_lt (Nat.lt_of_le_of_lt (gcd_lt hu) hs))
  unfold φ_low m_low
  simp only [gcdI, decide_eq_false (show ¬ (u < 0) by omega), divI_ok dk, fdiv_g (show (0 : Int) ≤ ((Nat.gcd t.natAbs u.natAbs : Nat) : Int) by omega), line2, DL.dFn, DL.dFi, DL.sSeq, DL.sSet, DL.sIf, DL.sRet, DL.sRetN, DL.sDrop, DL.sBind, DL.sAsg, DL.sPar, DL.sPar3, DL.sNext, DL.dC, DL.dVar, DL.dPeek, DL.dBind, DL.dOut, DL.dUn, DL.dBin, DL.dTru, DL.dNot, DL.dAndT, DL.dOrT, DL.dAndV, DL.dOrV, DL.dIfE, DL.aNil, DL.aCons, DL.aBind, DL.fits, DL.dApp, DL.dRet, DL.dTup, DL.dLst, DL.truD, DL.bName, DL.bTup, DL.bCons, DL.bNil, DL.pick_eq, DL.Src.get, List.filterMap_cons, List.filterMap_nil, List.getElem?_cons_zero, List.getElem?_cons_succ, List.length_cons, List.length_nil, List.set_cons_zero, List.set_cons_succ, List.map_cons, List.map_nil, List.cons_append, List.nil_append, List.append_nil, List.append_assoc, List.reduceReplicate, Nat.reduceAdd, Nat.reduceSub, Nat.reduceLeDiff, Nat.reduceEqDiff, ↓reduceIte, DL.subD, DL.mulD, DL.divD, DL.modD, DL.powD, DL.ltD, DL.leD, DL.gtD, DL.geD, DL.II, DL.subI, DL.cmpI, DL.negD, DL.addD_int, DL.ix_t0, DL.ix_t1, DL.ix_t2, DL.eqA_int, DL.eqA_pair, DL.intD_int, DL.intA_int, DL.intA_bl, DL.absD, DL.le1, DL.le2, DL.le3, DL.le4, DL.le5, DL.le8, DL.le9, Nat.zero_le, Bool.not_true, Bool.not_false, Bool.false_eq_true, DL.eqA_bl, eq_self, Int.reduceEq, Int.reduceLT, Int.reduceNeg, Bool.false_xor, Bool.true_xor, decide_true, decide_false, decide_eq_true_eq, and_self, DL.sRaise, DL.sApp, DL.sNew, DL.sTryE, DL.dAct, DL.dMkX, DL.dCallV, DL.nc0, DL.nc1, DL.nc2, DL.nc3, DL.nc4, DL.nc5, DL.nc6, DL.nc7, DL.nc8, DL.nc9, DL.nc10, DL.nc11, DL.nc12, DL.nc13, DL.nc14, DL.nc15, DL.nc16, DL.nc17, DL.nc18, DL.nc19, DL.nc20, Nat.reduceLT, DL.le6, DL.le7, DL.le10, DL.le11, DL.le12, DL.le13, DL.le14, DL.le15, DL.le16, DL.le17, DL.le18, DL.le19, DL.le20, DL.le21, DL.le22, DL.le23, DL.le24, DL.le25, DL.le26, DL.le27, DL.le28, DL.le29, DL.le30, DL.le31, DL.le32, DL.le33, DL.le34, DL.le35, DL.le36, DL.le37, DL.le38, DL.le39, DL.le40, DL.lt0, DL.lt1, DL.lt2, DL.lt3, DL.lt4, DL.lt5, DL.lt6, DL.lt7, DL.lt8, DL.lt9, DL.lt10, DL.lt11, DL.lt12, DL.lt13, DL.lt14, DL.lt15, DL.lt16, DL.lt17, DL.lt18, DL.lt19, DL.lt20, DL.lt21, DL.lt22, DL.lt23, DL.lt24, DL.lt25, DL.lt26, DL.lt27, DL.lt28, DL.lt29, DL.lt30, DL.lt31, DL.lt32, DL.lt33, DL.lt34, DL.lt35, DL.lt36, DL.lt37, DL.lt38, DL.lt39, DL.lt40]
  rfl
/-- the law's own: by rests -/
theorem w_law_low (t u : Int) (M : MS) : ∀ k a c : Nat, c ≤ k → ∃ l, sWhile c0__law_low b0__law_low [some (SV.t (.int t)), some (SV.t (.int u)), some (SV.t (I a)), some (SV.t (I c))] M = some (.nx [some (.t (.int t)), some (.t (.int u)), some (.t (I (Nat.gcd a c))), l] M) := by
  intro k
  induction k with
  | zero =>
    intro a c hc
    have : c = 0 := by omega
    subst this
    rw [Nat.gcd_zero_right]
    exact ⟨some (.t (I 0)), while_f (by unfold c0__law_low; simp only [decide_eq_false (show ¬ ((0 : Int) < ((0 : Nat) : Int)) by omega), DL.dFn, DL.dFi, DL.sSeq, DL.sSet, DL.sIf, DL.sRet, DL.sRetN, DL.sDrop, DL.sBind, DL.sAsg, DL.sPar, DL.sPar3, DL.sNext, DL.dC, DL.dVar, DL.dPeek, DL.dBind, DL.dOut, DL.dUn, DL.dBin, DL.dTru, DL.dNot, DL.dAndT, DL.dOrT, DL.dAndV, DL.dOrV, DL.dIfE, DL.aNil, DL.aCons, DL.aBind, DL.fits, DL.dApp, DL.dRet, DL.dTup, DL.dLst, DL.truD, DL.bName, DL.bTup, DL.bCons, DL.bNil, DL.pick_eq, DL.Src.get, List.filterMap_cons, List.filterMap_nil, List.getElem?_cons_zero, List.getElem?_cons_succ, List.length_cons, List.length_nil, List.set_cons_zero, List.set_cons_succ, List.map_cons, List.map_nil, List.cons_append, List.nil_append, List.append_nil, List.append_assoc, List.reduceReplicate, Nat.reduceAdd, Nat.reduceSub, Nat.reduceLeDiff, Nat.reduceEqDiff, ↓reduceIte, DL.subD, DL.mulD, DL.divD, DL.modD, DL.powD, DL.ltD, DL.leD, DL.gtD, DL.geD, DL.II, DL.subI, DL.cmpI, DL.negD, DL.addD_int, DL.ix_t0, DL.ix_t1, DL.ix_t2, DL.eqA_int, DL.eqA_pair, DL.intD_int, DL.intA_int, DL.intA_bl, DL.absD, DL.le1, DL.le2, DL.le3, DL.le4, DL.le5, DL.le8, DL.le9, Nat.zero_le, Bool.not_true, Bool.not_false, Bool.false_eq_true, DL.eqA_bl, eq_self, Int.reduceEq, Int.reduceLT, Int.reduceNeg, Bool.false_xor, Bool.true_xor, decide_true, decide_false, decide_eq_true_eq, and_self, DL.sRaise, DL.sApp, DL.sNew, DL.sTryE, DL.dAct, DL.dMkX, DL.dCallV, DL.nc0, DL.nc1, DL.nc2, DL.nc3, DL.nc4, DL.nc5, DL.nc6, DL.nc7, DL.nc8, DL.nc9, DL.nc10, DL.nc11, DL.nc12, DL.nc13, DL.nc14, DL.nc15, DL.nc16, DL.nc17, DL.nc18, DL.nc19, DL.nc20, Nat.reduceLT, DL.le6, DL.le7, DL.le10, DL.le11, DL.le12, DL.le13, DL.le14, DL.le15, DL.le16, DL.le17, DL.le18, DL.le19, DL.le20, DL.le21, DL.le22, DL.le23, DL.le24, DL.le25, DL.le26, DL.le27, DL.le28, DL.le29, DL.le30, DL.le31, DL.le32, DL.le33, DL.le34, DL.le35, DL.le36, DL.le37, DL.le38, DL.le39, DL.le40, DL.lt0, DL.lt1, DL.lt2, DL.lt3, DL.lt4, DL.lt5, DL.lt6, DL.lt7, DL.lt8, DL.lt9, DL.lt10, DL.lt11, DL.lt12, DL.lt13, DL.lt14, DL.lt15, DL.lt16, DL.lt17, DL.lt18, DL.lt19, DL.lt20, DL.lt21, DL.lt22, DL.lt23, DL.lt24, DL.lt25, DL.lt26, DL.lt27, DL.lt28, DL.lt29, DL.lt30, DL.lt31, DL.lt32, DL.lt33, DL.lt34, DL.lt35, DL.lt36, DL.lt37, DL.lt38, DL.lt39, DL.lt40])⟩
  | succ k ih =>
    intro a c hc
    by_cases h0 : c = 0
    · subst h0
      rw [Nat.gcd_zero_right]
      exact ⟨some (.t (I 0)), while_f (by unfold c0__law_low; simp only [decide_eq_false (show ¬ ((0 : Int) < ((0 : Nat) : Int)) by omega), DL.dFn, DL.dFi, DL.sSeq, DL.sSet, DL.sIf, DL.sRet, DL.sRetN, DL.sDrop, DL.sBind, DL.sAsg, DL.sPar, DL.sPar3, DL.sNext, DL.dC, DL.dVar, DL.dPeek, DL.dBind, DL.dOut, DL.dUn, DL.dBin, DL.dTru, DL.dNot, DL.dAndT, DL.dOrT, DL.dAndV, DL.dOrV, DL.dIfE, DL.aNil, DL.aCons, DL.aBind, DL.fits, DL.dApp, DL.dRet, DL.dTup, DL.dLst, DL.truD, DL.bName, DL.bTup, DL.bCons, DL.bNil, DL.pick_eq, DL.Src.get, List.filterMap_cons, List.filterMap_nil, List.getElem?_cons_zero, List.getElem?_cons_succ, List.length_cons, List.length_nil, List.set_cons_zero, List.set_cons_succ, List.map_cons, List.map_nil, List.cons_append, List.nil_append, List.append_nil, List.append_assoc, List.reduceReplicate, Nat.reduceAdd, Nat.reduceSub, Nat.reduceLeDiff, Nat.reduceEqDiff, ↓reduceIte, DL.subD, DL.mulD, DL.divD, DL.modD, DL.powD, DL.ltD, DL.leD, DL.gtD, DL.geD, DL.II, DL.subI, DL.cmpI, DL.negD, DL.addD_int, DL.ix_t0, DL.ix_t1, DL.ix_t2, DL.eqA_int, DL.eqA_pair, DL.intD_int, DL.intA_int, DL.intA_bl, DL.absD, DL.le1, DL.le2, DL.le3, DL.le4, DL.le5, DL.le8, DL.le9, Nat.zero_le, Bool.not_true, Bool.not_false, Bool.false_eq_true, DL.eqA_bl, eq_self, Int.reduceEq, Int.reduceLT, Int.reduceNeg, Bool.false_xor, Bool.true_xor, decide_true, decide_false, decide_eq_true_eq, and_self, DL.sRaise, DL.sApp, DL.sNew, DL.sTryE, DL.dAct, DL.dMkX, DL.dCallV, DL.nc0, DL.nc1, DL.nc2, DL.nc3, DL.nc4, DL.nc5, DL.nc6, DL.nc7, DL.nc8, DL.nc9, DL.nc10, DL.nc11, DL.nc12, DL.nc13, DL.nc14, DL.nc15, DL.nc16, DL.nc17, DL.nc18, DL.nc19, DL.nc20, Nat.reduceLT, DL.le6, DL.le7, DL.le10, DL.le11, DL.le12, DL.le13, DL.le14, DL.le15, DL.le16, DL.le17, DL.le18, DL.le19, DL.le20, DL.le21, DL.le22, DL.le23, DL.le24, DL.le25, DL.le26, DL.le27, DL.le28, DL.le29, DL.le30, DL.le31, DL.le32, DL.le33, DL.le34, DL.le35, DL.le36, DL.le37, DL.le38, DL.le39, DL.le40, DL.lt0, DL.lt1, DL.lt2, DL.lt3, DL.lt4, DL.lt5, DL.lt6, DL.lt7, DL.lt8, DL.lt9, DL.lt10, DL.lt11, DL.lt12, DL.lt13, DL.lt14, DL.lt15, DL.lt16, DL.lt17, DL.lt18, DL.lt19, DL.lt20, DL.lt21, DL.lt22, DL.lt23, DL.lt24, DL.lt25, DL.lt26, DL.lt27, DL.lt28, DL.lt29, DL.lt30, DL.lt31, DL.lt32, DL.lt33, DL.lt34, DL.lt35, DL.lt36, DL.lt37, DL.lt38, DL.lt39, DL.lt40])⟩
    · obtain ⟨l, q⟩ := ih c (a % c) (by have := Nat.mod_lt a (show c > 0 by omega); omega)
      have e : Nat.gcd a c = Nat.gcd c (a % c) := by rw [Nat.gcd_comm a c, Nat.gcd_rec c a, Nat.gcd_comm]
      rw [e]
      refine ⟨l, while_t (ρ1 := [some (SV.t (.int t)), some (SV.t (.int u)), some (SV.t (I a)), some (SV.t (I c))]) (M1 := M) (by unfold c0__law_low; simp only [decide_eq_true (show ((0 : Int) < (c : Int)) by omega), DL.dFn, DL.dFi, DL.sSeq, DL.sSet, DL.sIf, DL.sRet, DL.sRetN, DL.sDrop, DL.sBind, DL.sAsg, DL.sPar, DL.sPar3, DL.sNext, DL.dC, DL.dVar, DL.dPeek, DL.dBind, DL.dOut, DL.dUn, DL.dBin, DL.dTru, DL.dNot, DL.dAndT, DL.dOrT, DL.dAndV, DL.dOrV, DL.dIfE, DL.aNil, DL.aCons, DL.aBind, DL.fits, DL.dApp, DL.dRet, DL.dTup, DL.dLst, DL.truD, DL.bName, DL.bTup, DL.bCons, DL.bNil, DL.pick_eq, DL.Src.get, List.filterMap_cons, List.filterMap_nil, List.getElem?_cons_zero, List.getElem?_cons_succ, List.length_cons, List.length_nil, List.set_cons_zero, List.set_cons_succ, List.map_cons, List.map_nil, List.cons_append, List.nil_append, List.append_nil, List.append_assoc, List.reduceReplicate, Nat.reduceAdd, Nat.reduceSub, Nat.reduceLeDiff, Nat.reduceEqDiff, ↓reduceIte, DL.subD, DL.mulD, DL.divD, DL.modD, DL.powD, DL.ltD, DL.leD, DL.gtD, DL.geD, DL.II, DL.subI, DL.cmpI, DL.negD, DL.addD_int, DL.ix_t0, DL.ix_t1, DL.ix_t2, DL.eqA_int, DL.eqA_pair, DL.intD_int, DL.intA_int, DL.intA_bl, DL.absD, DL.le1, DL.le2, DL.le3, DL.le4, DL.le5, DL.le8, DL.le9, Nat.zero_le, Bool.not_true, Bool.not_false, Bool.false_eq_true, DL.eqA_bl, eq_self, Int.reduceEq, Int.reduceLT, Int.reduceNeg, Bool.false_xor, Bool.true_xor, decide_true, decide_false, decide_eq_true_eq, and_self, DL.sRaise, DL.sApp, DL.sNew, DL.sTryE, DL.dAct, DL.dMkX, DL.dCallV, DL.nc0, DL.nc1, DL.nc2, DL.nc3, DL.nc4, DL.nc5, DL.nc6, DL.nc7, DL.nc8, DL.nc9, DL.nc10, DL.nc11, DL.nc12, DL.nc13, DL.nc14, DL.nc15, DL.nc16, DL.nc17, DL.nc18, DL.nc19, DL.nc20, Nat.reduceLT, DL.le6, DL.le7, DL.le10, DL.le11, DL.le12, DL.le13, DL.le14, DL.le15, DL.le16, DL.le17, DL.le18, DL.le19, DL.le20, DL.le21, DL.le22, DL.le23, DL.le24, DL.le25, DL.le26, DL.le27, DL.le28, DL.le29, DL.le30, DL.le31, DL.le32, DL.le33, DL.le34, DL.le35, DL.le36, DL.le37, DL.le38, DL.le39, DL.le40, DL.lt0, DL.lt1, DL.lt2, DL.lt3, DL.lt4, DL.lt5, DL.lt6, DL.lt7, DL.lt8, DL.lt9, DL.lt10, DL.lt11, DL.lt12, DL.lt13, DL.lt14, DL.lt15, DL.lt16, DL.lt17, DL.lt18, DL.lt19, DL.lt20, DL.lt21, DL.lt22, DL.lt23, DL.lt24, DL.lt25, DL.lt26, DL.lt27, DL.lt28, DL.lt29, DL.lt30, DL.lt31, DL.lt32, DL.lt33, DL.lt34, DL.lt35, DL.lt36, DL.lt37, DL.lt38, DL.lt39, DL.lt40]) ?_ q⟩
      have f2 : Int.fmod (a : Int) (c : Int) = ((a % c : Nat) : Int) := by rw [Int.fmod_eq_emod_of_nonneg _ (by omega)]; omega
      unfold b0__law_low
      simp only [modI_ok (show (c : Int) ≠ 0 by omega), f2, DL.dFn, DL.dFi, DL.sSeq, DL.sSet, DL.sIf, DL.sRet, DL.sRetN, DL.sDrop, DL.sBind, DL.sAsg, DL.sPar, DL.sPar3, DL.sNext, DL.dC, DL.dVar, DL.dPeek, DL.dBind, DL.dOut, DL.dUn, DL.dBin, DL.dTru, DL.dNot, DL.dAndT, DL.dOrT, DL.dAndV, DL.dOrV, DL.dIfE, DL.aNil, DL.aCons, DL.aBind, DL.fits, DL.dApp, DL.dRet, DL.dTup, DL.dLst, DL.truD, DL.bName, DL.bTup, DL.bCons, DL.bNil, DL.pick_eq, DL.Src.get, List.filterMap_cons, List.filterMap_nil, List.getElem?_cons_zero, List.getElem?_cons_succ, List.length_cons, List.length_nil, List.set_cons_zero, List.set_cons_succ, List.map_cons, List.map_nil, List.cons_append, List.nil_append, List.append_nil, List.append_assoc, List.reduceReplicate, Nat.reduceAdd, Nat.reduceSub, Nat.reduceLeDiff, Nat.reduceEqDiff, ↓reduceIte, DL.subD, DL.mulD, DL.divD, DL.modD, DL.powD, DL.ltD, DL.leD, DL.gtD, DL.geD, DL.II, DL.subI, DL.cmpI, DL.negD, DL.addD_int, DL.ix_t0, DL.ix_t1, DL.ix_t2, DL.eqA_int, DL.eqA_pair, DL.intD_int, DL.intA_int, DL.intA_bl, DL.absD, DL.le1, DL.le2, DL.le3, DL.le4, DL.le5, DL.le8, DL.le9, Nat.zero_le, Bool.not_true, Bool.not_false, Bool.false_eq_true, DL.eqA_bl, eq_self, Int.reduceEq, Int.reduceLT, Int.reduceNeg, Bool.false_xor, Bool.true_xor, decide_true, decide_false, decide_eq_true_eq, and_self, DL.sRaise, DL.sApp, DL.sNew, DL.sTryE, DL.dAct, DL.dMkX, DL.dCallV, DL.nc0, DL.nc1, DL.nc2, DL.nc3, DL.nc4, DL.nc5, DL.nc6, DL.nc7, DL.nc8, DL.nc9, DL.nc10, DL.nc11, DL.nc12, DL.nc13, DL.nc14, DL.nc15, DL.nc16, DL.nc17, DL.nc18, DL.nc19, DL.nc20, Nat.reduceLT, DL.le6, DL.le7, DL.le10, DL.le11, DL.le12, DL.le13, DL.le14, DL.le15, DL.le16, DL.le17, DL.le18, DL.le19, DL.le20, DL.le21, DL.le22, DL.le23, DL.le24, DL.le25, DL.le26, DL.le27, DL.le28, DL.le29, DL.le30, DL.le31, DL.le32, DL.le33, DL.le34, DL.le35, DL.le36, DL.le37, DL.le38, DL.le39, DL.le40, DL.lt0, DL.lt1, DL.lt2, DL.lt3, DL.lt4, DL.lt5, DL.lt6, DL.lt7, DL.lt8, DL.lt9, DL.lt10, DL.lt11, DL.lt12, DL.lt13, DL.lt14, DL.lt15, DL.lt16, DL.lt17, DL.lt18, DL.lt19, DL.lt20, DL.lt21, DL.lt22, DL.lt23, DL.lt24, DL.lt25, DL.lt26, DL.lt27, DL.lt28, DL.lt29, DL.lt30, DL.lt31, DL.lt32, DL.lt33, DL.lt34, DL.lt35, DL.lt36, DL.lt37, DL.lt38, DL.lt39, DL.lt40]
theorem abs_nat (t : Int) : (if t < 0 then -t else t) = ((t.natAbs : Nat) : Int) := by split <;> omega
theorem r_law_low (t u : Int) (hu : 0 < u) (hs : u.natAbs < 2 ^ 8000) (M : MS) : φ__law_low [.int t, .int u] M = some (.ret (P2 (lowP t u)) M) := by
  have g0 := g_pos (t := t) hu
  have dk : divOk ((Nat.gcd t.natAbs u.natAbs : Nat) : Int) := divOk_of (n := 8000) (by omega) (nat_lt (Nat.lt_of_le_of_lt (gcd_lt hu) hs))
  obtain ⟨l, q⟩ := w_law_low t u M u.natAbs t.natAbs u.natAbs (Nat.le_refl _)
  unfold φ__law_low m__law_low
  simp only [abs_nat, DL.dFn, DL.dFi, DL.sSeq, DL.sSet, DL.sIf, DL.sRet, DL.sRetN, DL.sDrop, DL.sBind, DL.sAsg, DL.sPar, DL.sPar3, DL.sNext, DL.dC, DL.dVar, DL.dPeek, DL.dBind, DL.dOut, DL.dUn, DL.dBin, DL.dTru, DL.dNot, DL.dAndT, DL.dOrT, DL.dAndV, DL.dOrV, DL.dIfE, DL.aNil, DL.aCons, DL.aBind, DL.fits, DL.dApp, DL.dRet, DL.dTup, DL.dLst, DL.truD, DL.bName, DL.bTup, DL.bCons, DL.bNil, DL.pick_eq, DL.Src.get, List.filterMap_cons, List.filterMap_nil, List.getElem?_cons_zero, List.getElem?_cons_succ, List.length_cons, List.length_nil, List.set_cons_zero, List.set_cons_succ, List.map_cons, List.map_nil, List.cons_append, List.nil_append, List.append_nil, List.append_assoc, List.reduceReplicate, Nat.reduceAdd, Nat.reduceSub, Nat.reduceLeDiff, Nat.reduceEqDiff, ↓reduceIte, DL.subD, DL.mulD, DL.divD, DL.modD, DL.powD, DL.ltD, DL.leD, DL.gtD, DL.geD, DL.II, DL.subI, DL.cmpI, DL.negD, DL.addD_int, DL.ix_t0, DL.ix_t1, DL.ix_t2, DL.eqA_int, DL.eqA_pair, DL.intD_int, DL.intA_int, DL.intA_bl, DL.absD, DL.le1, DL.le2, DL.le3, DL.le4, DL.le5, DL.le8, DL.le9, Nat.zero_le, Bool.not_true, Bool.not_false, Bool.false_eq_true, DL.eqA_bl, eq_self, Int.reduceEq, Int.reduceLT, Int.reduceNeg, Bool.false_xor, Bool.true_xor, decide_true, decide_false, decide_eq_true_eq, and_self, DL.sRaise, DL.sApp, DL.sNew, DL.sTryE, DL.dAct, DL.dMkX, DL.dCallV, DL.nc0, DL.nc1, DL.nc2, DL.nc3, DL.nc4, DL.nc5, DL.nc6, DL.nc7, DL.nc8, DL.nc9, DL.nc10, DL.nc11, DL.nc12, DL.nc13, DL.nc14, DL.nc15, DL.nc16, DL.nc17, DL.nc18, DL.nc19, DL.nc20, Nat.reduceLT, DL.le6, DL.le7, DL.le10, DL.le11, DL.le12, DL.le13, DL.le14, DL.le15, DL.le16, DL.le17, DL.le18, DL.le19, DL.le20, DL.le21, DL.le22, DL.le23, DL.le24, DL.le25, DL.le26, DL.le27, DL.le28, DL.le29, DL.le30, DL.le31, DL.le32, DL.le33, DL.le34, DL.le35, DL.le36, DL.le37, DL.le38, DL.le39, DL.le40, DL.lt0, DL.lt1, DL.lt2, DL.lt3, DL.lt4, DL.lt5, DL.lt6, DL.lt7, DL.lt8, DL.lt9, DL.lt10, DL.lt11, DL.lt12, DL.lt13, DL.lt14, DL.lt15, DL.lt16, DL.lt17, DL.lt18, DL.lt19, DL.lt20, DL.lt21, DL.lt22, DL.lt23, DL.lt24, DL.lt25, DL.lt26, DL.lt27, DL.lt28, DL.lt29, DL.lt30, DL.lt31, DL.lt32, DL.lt33, DL.lt34, DL.lt35, DL.lt36, DL.lt37, DL.lt38, DL.lt39, DL.lt40]
  rw [q]
  simp only [decide_eq_false (show ¬ (u < 0) by omega), divI_ok dk, fdiv_g (show (0 : Int) ≤ ((Nat.gcd t.natAbs u.natAbs : Nat) : Int) by omega), line2, DL.dFn, DL.dFi, DL.sSeq, DL.sSet, DL.sIf, DL.sRet, DL.sRetN, DL.sDrop, DL.sBind, DL.sAsg, DL.sPar, DL.sPar3, DL.sNext, DL.dC, DL.dVar, DL.dPeek, DL.dBind, DL.dOut, DL.dUn, DL.dBin, DL.dTru, DL.dNot, DL.dAndT, DL.dOrT, DL.dAndV, DL.dOrV, DL.dIfE, DL.aNil, DL.aCons, DL.aBind, DL.fits, DL.dApp, DL.dRet, DL.dTup, DL.dLst, DL.truD, DL.bName, DL.bTup, DL.bCons, DL.bNil, DL.pick_eq, DL.Src.get, List.filterMap_cons, List.filterMap_nil, List.getElem?_cons_zero, List.getElem?_cons_succ, List.length_cons, List.length_nil, List.set_cons_zero, List.set_cons_succ, List.map_cons, List.map_nil, List.cons_append, List.nil_append, List.append_nil, List.append_assoc, List.reduceReplicate, Nat.reduceAdd, Nat.reduceSub, Nat.reduceLeDiff, Nat.reduceEqDiff, ↓reduceIte, DL.subD, DL.mulD, DL.divD, DL.modD, DL.powD, DL.ltD, DL.leD, DL.gtD, DL.geD, DL.II, DL.subI, DL.cmpI, DL.negD, DL.addD_int, DL.ix_t0, DL.ix_t1, DL.ix_t2, DL.eqA_int, DL.eqA_pair, DL.intD_int, DL.intA_int, DL.intA_bl, DL.absD, DL.le1, DL.le2, DL.le3, DL.le4, DL.le5, DL.le8, DL.le9, Nat.zero_le, Bool.not_true, Bool.not_false, Bool.false_eq_true, DL.eqA_bl, eq_self, Int.reduceEq, Int.reduceLT, Int.reduceNeg, Bool.false_xor, Bool.true_xor, decide_true, decide_false, decide_eq_true_eq, and_self, DL.sRaise, DL.sApp, DL.sNew, DL.sTryE, DL.dAct, DL.dMkX, DL.dCallV, DL.nc0, DL.nc1, DL.nc2, DL.nc3, DL.nc4, DL.nc5, DL.nc6, DL.nc7, DL.nc8, DL.nc9, DL.nc10, DL.nc11, DL.nc12, DL.nc13, DL.nc14, DL.nc15, DL.nc16, DL.nc17, DL.nc18, DL.nc19, DL.nc20, Nat.reduceLT, DL.le6, DL.le7, DL.le10, DL.le11, DL.le12, DL.le13, DL.le14, DL.le15, DL.le16, DL.le17, DL.le18, DL.le19, DL.le20, DL.le21, DL.le22, DL.le23, DL.le24, DL.le25, DL.le26, DL.le27, DL.le28, DL.le29, DL.le30, DL.le31, DL.le32, DL.le33, DL.le34, DL.le35, DL.le36, DL.le37, DL.le38, DL.le39, DL.le40, DL.lt0, DL.lt1, DL.lt2, DL.lt3, DL.lt4, DL.lt5, DL.lt6, DL.lt7, DL.lt8, DL.lt9, DL.lt10, DL.lt11, DL.lt12, DL.lt13, DL.lt14, DL.lt15, DL.lt16, DL.lt17, DL.lt18, DL.lt19, DL.lt20, DL.lt21, DL.lt22, DL.lt23, DL.lt24, DL.lt25, DL.lt26, DL.lt27, DL.lt28, DL.lt29, DL.lt30, DL.lt31, DL.lt32, DL.lt33, DL.lt34, DL.lt35, DL.lt36, DL.lt37, DL.lt38, DL.lt39, DL.lt40]
  rfl
theorem isi_int (i : Int) : isiD TT (.int i) (.ty "int") = some (.bl true) := rfl
theorem isi_intb (i : Int) : isiD TT (.int i) (.ty "bool") = some (.bl false) := rfl
theorem isi_tupi (ds : List D) : isiD TT (.tup ds) (.ty "int") = some (.bl false) := rfl
theorem isi_lsti (ds : List D) : isiD TT (.lst ds) (.ty "int") = some (.bl false) := rfl
theorem isi_row_t (ds : List D) : isiD TT (.tup ds) (.tup [.ty "list", .ty "tuple"]) = some (.bl true) := rfl
theorem isi_row_l (ds : List D) : isiD TT (.lst ds) (.tup [.ty "list", .ty "tuple"]) = some (.bl true) := rfl
theorem r_is_integer (i : Int) (M : MS) : φ_is_integer [.int i] M = some (.ret (.bl true) M) := by
  unfold φ_is_integer m_is_integer
  simp only [isi_int, isi_intb, DL.dFn, DL.dFi, DL.sSeq, DL.sSet, DL.sIf, DL.sRet, DL.sRetN, DL.sDrop, DL.sBind, DL.sAsg, DL.sPar, DL.sPar3, DL.sNext, DL.dC, DL.dVar, DL.dPeek, DL.dBind, DL.dOut, DL.dUn, DL.dBin, DL.dTru, DL.dNot, DL.dAndT, DL.dOrT, DL.dAndV, DL.dOrV, DL.dIfE, DL.aNil, DL.aCons, DL.aBind, DL.fits, DL.dApp, DL.dRet, DL.dTup, DL.dLst, DL.truD, DL.bName, DL.bTup, DL.bCons, DL.bNil, DL.pick_eq, DL.Src.get, List.filterMap_cons, List.filterMap_nil, List.getElem?_cons_zero, List.getElem?_cons_succ, List.length_cons, List.length_nil, List.set_cons_zero, List.set_cons_succ, List.map_cons, List.map_nil, List.cons_append, List.nil_append, List.append_nil, List.append_assoc, List.reduceReplicate, Nat.reduceAdd, Nat.reduceSub, Nat.reduceLeDiff, Nat.reduceEqDiff, ↓reduceIte, DL.subD, DL.mulD, DL.divD, DL.modD, DL.powD, DL.ltD, DL.leD, DL.gtD, DL.geD, DL.II, DL.subI, DL.cmpI, DL.negD, DL.addD_int, DL.ix_t0, DL.ix_t1, DL.ix_t2, DL.eqA_int, DL.eqA_pair, DL.intD_int, DL.intA_int, DL.intA_bl, DL.absD, DL.le1, DL.le2, DL.le3, DL.le4, DL.le5, DL.le8, DL.le9, Nat.zero_le, Bool.not_true, Bool.not_false, Bool.false_eq_true, DL.eqA_bl, eq_self, Int.reduceEq, Int.reduceLT, Int.reduceNeg, Bool.false_xor, Bool.true_xor, decide_true, decide_false, decide_eq_true_eq, and_self, DL.sRaise, DL.sApp, DL.sNew, DL.sTryE, DL.dAct, DL.dMkX, DL.dCallV, DL.nc0, DL.nc1, DL.nc2, DL.nc3, DL.nc4, DL.nc5, DL.nc6, DL.nc7, DL.nc8, DL.nc9, DL.nc10, DL.nc11, DL.nc12, DL.nc13, DL.nc14, DL.nc15, DL.nc16, DL.nc17, DL.nc18, DL.nc19, DL.nc20, Nat.reduceLT, DL.le6, DL.le7, DL.le10, DL.le11, DL.le12, DL.le13, DL.le14, DL.le15, DL.le16, DL.le17, DL.le18, DL.le19, DL.le20, DL.le21, DL.le22, DL.le23, DL.le24, DL.le25, DL.le26, DL.le27, DL.le28, DL.le29, DL.le30, DL.le31, DL.le32, DL.le33, DL.le34, DL.le35, DL.le36, DL.le37, DL.le38, DL.le39, DL.le40, DL.lt0, DL.lt1, DL.lt2, DL.lt3, DL.lt4, DL.lt5, DL.lt6, DL.lt7, DL.lt8, DL.lt9, DL.lt10, DL.lt11, DL.lt12, DL.lt13, DL.lt14, DL.lt15, DL.lt16, DL.lt17, DL.lt18, DL.lt19, DL.lt20, DL.lt21, DL.lt22, DL.lt23, DL.lt24, DL.lt25, DL.lt26, DL.lt27, DL.lt28, DL.lt29, DL.lt30, DL.lt31, DL.lt32, DL.lt33, DL.lt34, DL.lt35, DL.lt36, DL.lt37, DL.lt38, DL.lt39, DL.lt40]
theorem r_is_integer_t (ds : List D) (M : MS) : φ_is_integer [.tup ds] M = some (.ret (.bl false) M) := by
  unfold φ_is_integer m_is_integer
  simp only [isi_tupi, DL.dFn, DL.dFi, DL.sSeq, DL.sSet, DL.sIf, DL.sRet, DL.sRetN, DL.sDrop, DL.sBind, DL.sAsg, DL.sPar, DL.sPar3, DL.sNext, DL.dC, DL.dVar, DL.dPeek, DL.dBind, DL.dOut, DL.dUn, DL.dBin, DL.dTru, DL.dNot, DL.dAndT, DL.dOrT, DL.dAndV, DL.dOrV, DL.dIfE, DL.aNil, DL.aCons, DL.aBind, DL.fits, DL.dApp, DL.dRet, DL.dTup, DL.dLst, DL.truD, DL.bName, DL.bTup, DL.bCons, DL.bNil, DL.pick_eq, DL.Src.get, List.filterMap_cons, List.filterMap_nil, List.getElem?_cons_zero, List.getElem?_cons_succ, List.length_cons, List.length_nil, List.set_cons_zero, List.set_cons_succ, List.map_cons, List.map_nil, List.cons_append, List.nil_append, List.append_nil, List.append_assoc, List.reduceReplicate, Nat.reduceAdd, Nat.reduceSub, Nat.reduceLeDiff, Nat.reduceEqDiff, ↓reduceIte, DL.subD, DL.mulD, DL.divD, DL.modD, DL.powD, DL.ltD, DL.leD, DL.gtD, DL.geD, DL.II, DL.subI, DL.cmpI, DL.negD, DL.addD_int, DL.ix_t0, DL.ix_t1, DL.ix_t2, DL.eqA_int, DL.eqA_pair, DL.intD_int, DL.intA_int, DL.intA_bl, DL.absD, DL.le1, DL.le2, DL.le3, DL.le4, DL.le5, DL.le8, DL.le9, Nat.zero_le, Bool.not_true, Bool.not_false, Bool.false_eq_true, DL.eqA_bl, eq_self, Int.reduceEq, Int.reduceLT, Int.reduceNeg, Bool.false_xor, Bool.true_xor, decide_true, decide_false, decide_eq_true_eq, and_self, DL.sRaise, DL.sApp, DL.sNew, DL.sTryE, DL.dAct, DL.dMkX, DL.dCallV, DL.nc0, DL.nc1, DL.nc2, DL.nc3, DL.nc4, DL.nc5, DL.nc6, DL.nc7, DL.nc8, DL.nc9, DL.nc10, DL.nc11, DL.nc12, DL.nc13, DL.nc14, DL.nc15, DL.nc16, DL.nc17, DL.nc18, DL.nc19, DL.nc20, Nat.reduceLT, DL.le6, DL.le7, DL.le10, DL.le11, DL.le12, DL.le13, DL.le14, DL.le15, DL.le16, DL.le17, DL.le18, DL.le19, DL.le20, DL.le21, DL.le22, DL.le23, DL.le24, DL.le25, DL.le26, DL.le27, DL.le28, DL.le29, DL.le30, DL.le31, DL.le32, DL.le33, DL.le34, DL.le35, DL.le36, DL.le37, DL.le38, DL.le39, DL.le40, DL.lt0, DL.lt1, DL.lt2, DL.lt3, DL.lt4, DL.lt5, DL.lt6, DL.lt7, DL.lt8, DL.lt9, DL.lt10, DL.lt11, DL.lt12, DL.lt13, DL.lt14, DL.lt15, DL.lt16, DL.lt17, DL.lt18, DL.lt19, DL.lt20, DL.lt21, DL.lt22, DL.lt23, DL.lt24, DL.lt25, DL.lt26, DL.lt27, DL.lt28, DL.lt29, DL.lt30, DL.lt31, DL.lt32, DL.lt33, DL.lt34, DL.lt35, DL.lt36, DL.lt37, DL.lt38, DL.lt39, DL.lt40]
theorem r_is_integer_l (ds : List D) (M : MS) : φ_is_integer [.lst ds] M = some (.ret (.bl false) M) := by
  unfold φ_is_integer m_is_integer
  simp only [isi_lsti, DL.dFn, DL.dFi, DL.sSeq, DL.sSet, DL.sIf, DL.sRet, DL.sRetN, DL.sDrop, DL.sBind, DL.sAsg, DL.sPar, DL.sPar3, DL.sNext, DL.dC, DL.dVar, DL.dPeek, DL.dBind, DL.dOut, DL.dUn, DL.dBin, DL.dTru, DL.dNot, DL.dAndT, DL.dOrT, DL.dAndV, DL.dOrV, DL.dIfE, DL.aNil, DL.aCons, DL.aBind, DL.fits, DL.dApp, DL.dRet, DL.dTup, DL.dLst, DL.truD, DL.bName, DL.bTup, DL.bCons, DL.bNil, DL.pick_eq, DL.Src.get, List.filterMap_cons, List.filterMap_nil, List.getElem?_cons_zero, List.getElem?_cons_succ, List.length_cons, List.length_nil, List.set_cons_zero, List.set_cons_succ, List.map_cons, List.map_nil, List.cons_append, List.nil_append, List.append_nil, List.append_assoc, List.reduceReplicate, Nat.reduceAdd, Nat.reduceSub, Nat.reduceLeDiff, Nat.reduceEqDiff, ↓reduceIte, DL.subD, DL.mulD, DL.divD, DL.modD, DL.powD, DL.ltD, DL.leD, DL.gtD, DL.geD, DL.II, DL.subI, DL.cmpI, DL.negD, DL.addD_int, DL.ix_t0, DL.ix_t1, DL.ix_t2, DL.eqA_int, DL.eqA_pair, DL.intD_int, DL.intA_int, DL.intA_bl, DL.absD, DL.le1, DL.le2, DL.le3, DL.le4, DL.le5, DL.le8, DL.le9, Nat.zero_le, Bool.not_true, Bool.not_false, Bool.false_eq_true, DL.eqA_bl, eq_self, Int.reduceEq, Int.reduceLT, Int.reduceNeg, Bool.false_xor, Bool.true_xor, decide_true, decide_false, decide_eq_true_eq, and_self, DL.sRaise, DL.sApp, DL.sNew, DL.sTryE, DL.dAct, DL.dMkX, DL.dCallV, DL.nc0, DL.nc1, DL.nc2, DL.nc3, DL.nc4, DL.nc5, DL.nc6, DL.nc7, DL.nc8, DL.nc9, DL.nc10, DL.nc11, DL.nc12, DL.nc13, DL.nc14, DL.nc15, DL.nc16, DL.nc17, DL.nc18, DL.nc19, DL.nc20, Nat.reduceLT, DL.le6, DL.le7, DL.le10, DL.le11, DL.le12, DL.le13, DL.le14, DL.le15, DL.le16, DL.le17, DL.le18, DL.le19, DL.le20, DL.le21, DL.le22, DL.le23, DL.le24, DL.le25, DL.le26, DL.le27, DL.le28, DL.le29, DL.le30, DL.le31, DL.le32, DL.le33, DL.le34, DL.le35, DL.le36, DL.le37, DL.le38, DL.le39, DL.le40, DL.lt0, DL.lt1, DL.lt2, DL.lt3, DL.lt4, DL.lt5, DL.lt6, DL.lt7, DL.lt8, DL.lt9, DL.lt10, DL.lt11, DL.lt12, DL.lt13, DL.lt14, DL.lt15, DL.lt16, DL.lt17, DL.lt18, DL.lt19, DL.lt20, DL.lt21, DL.lt22, DL.lt23, DL.lt24, DL.lt25, DL.lt26, DL.lt27, DL.lt28, DL.lt29, DL.lt30, DL.lt31, DL.lt32, DL.lt33, DL.lt34, DL.lt35, DL.lt36, DL.lt37, DL.lt38, DL.lt39, DL.lt40]
theorem r_is_row (ds : List D) (M : MS) : φ_is_row [.tup ds] M = some (.ret (.bl true) M) := by
  unfold φ_is_row m_is_row
  simp only [isi_row_t, DL.dFn, DL.dFi, DL.sSeq, DL.sSet, DL.sIf, DL.sRet, DL.sRetN, DL.sDrop, DL.sBind, DL.sAsg, DL.sPar, DL.sPar3, DL.sNext, DL.dC, DL.dVar, DL.dPeek, DL.dBind, DL.dOut, DL.dUn, DL.dBin, DL.dTru, DL.dNot, DL.dAndT, DL.dOrT, DL.dAndV, DL.dOrV, DL.dIfE, DL.aNil, DL.aCons, DL.aBind, DL.fits, DL.dApp, DL.dRet, DL.dTup, DL.dLst, DL.truD, DL.bName, DL.bTup, DL.bCons, DL.bNil, DL.pick_eq, DL.Src.get, List.filterMap_cons, List.filterMap_nil, List.getElem?_cons_zero, List.getElem?_cons_succ, List.length_cons, List.length_nil, List.set_cons_zero, List.set_cons_succ, List.map_cons, List.map_nil, List.cons_append, List.nil_append, List.append_nil, List.append_assoc, List.reduceReplicate, Nat.reduceAdd, Nat.reduceSub, Nat.reduceLeDiff, Nat.reduceEqDiff, ↓reduceIte, DL.subD, DL.mulD, DL.divD, DL.modD, DL.powD, DL.ltD, DL.leD, DL.gtD, DL.geD, DL.II, DL.subI, DL.cmpI, DL.negD, DL.addD_int, DL.ix_t0, DL.ix_t1, DL.ix_t2, DL.eqA_int, DL.eqA_pair, DL.intD_int, DL.intA_int, DL.intA_bl, DL.absD, DL.le1, DL.le2, DL.le3, DL.le4, DL.le5, DL.le8, DL.le9, Nat.zero_le, Bool.not_true, Bool.not_false, Bool.false_eq_true, DL.eqA_bl, eq_self, Int.reduceEq, Int.reduceLT, Int.reduceNeg, Bool.false_xor, Bool.true_xor, decide_true, decide_false, decide_eq_true_eq, and_self, DL.sRaise, DL.sApp, DL.sNew, DL.sTryE, DL.dAct, DL.dMkX, DL.dCallV, DL.nc0, DL.nc1, DL.nc2, DL.nc3, DL.nc4, DL.nc5, DL.nc6, DL.nc7, DL.nc8, DL.nc9, DL.nc10, DL.nc11, DL.nc12, DL.nc13, DL.nc14, DL.nc15, DL.nc16, DL.nc17, DL.nc18, DL.nc19, DL.nc20, Nat.reduceLT, DL.le6, DL.le7, DL.le10, DL.le11, DL.le12, DL.le13, DL.le14, DL.le15, DL.le16, DL.le17, DL.le18, DL.le19, DL.le20, DL.le21, DL.le22, DL.le23, DL.le24, DL.le25, DL.le26, DL.le27, DL.le28, DL.le29, DL.le30, DL.le31, DL.le32, DL.le33, DL.le34, DL.le35, DL.le36, DL.le37, DL.le38, DL.le39, DL.le40, DL.lt0, DL.lt1, DL.lt2, DL.lt3, DL.lt4, DL.lt5, DL.lt6, DL.lt7, DL.lt8, DL.lt9, DL.lt10, DL.lt11, DL.lt12, DL.lt13, DL.lt14, DL.lt15, DL.lt16, DL.lt17, DL.lt18, DL.lt19, DL.lt20, DL.lt21, DL.lt22, DL.lt23, DL.lt24, DL.lt25, DL.lt26, DL.lt27, DL.lt28, DL.lt29, DL.lt30, DL.lt31, DL.lt32, DL.lt33, DL.lt34, DL.lt35, DL.lt36, DL.lt37, DL.lt38, DL.lt39, DL.lt40]
theorem r_is_row_l (ds : List D) (M : MS) : φ_is_row [.lst ds] M = some (.ret (.bl true) M) := by
  unfold φ_is_row m_is_row
  simp only [isi_row_l, DL.dFn, DL.dFi, DL.sSeq, DL.sSet, DL.sIf, DL.sRet, DL.sRetN, DL.sDrop, DL.sBind, DL.sAsg, DL.sPar, DL.sPar3, DL.sNext, DL.dC, DL.dVar, DL.dPeek, DL.dBind, DL.dOut, DL.dUn, DL.dBin, DL.dTru, DL.dNot, DL.dAndT, DL.dOrT, DL.dAndV, DL.dOrV, DL.dIfE, DL.aNil, DL.aCons, DL.aBind, DL.fits, DL.dApp, DL.dRet, DL.dTup, DL.dLst, DL.truD, DL.bName, DL.bTup, DL.bCons, DL.bNil, DL.pick_eq, DL.Src.get, List.filterMap_cons, List.filterMap_nil, List.getElem?_cons_zero, List.getElem?_cons_succ, List.length_cons, List.length_nil, List.set_cons_zero, List.set_cons_succ, List.map_cons, List.map_nil, List.cons_append, List.nil_append, List.append_nil, List.append_assoc, List.reduceReplicate, Nat.reduceAdd, Nat.reduceSub, Nat.reduceLeDiff, Nat.reduceEqDiff, ↓reduceIte, DL.subD, DL.mulD, DL.divD, DL.modD, DL.powD, DL.ltD, DL.leD, DL.gtD, DL.geD, DL.II, DL.subI, DL.cmpI, DL.negD, DL.addD_int, DL.ix_t0, DL.ix_t1, DL.ix_t2, DL.eqA_int, DL.eqA_pair, DL.intD_int, DL.intA_int, DL.intA_bl, DL.absD, DL.le1, DL.le2, DL.le3, DL.le4, DL.le5, DL.le8, DL.le9, Nat.zero_le, Bool.not_true, Bool.not_false, Bool.false_eq_true, DL.eqA_bl, eq_self, Int.reduceEq, Int.reduceLT, Int.reduceNeg, Bool.false_xor, Bool.true_xor, decide_true, decide_false, decide_eq_true_eq, and_self, DL.sRaise, DL.sApp, DL.sNew, DL.sTryE, DL.dAct, DL.dMkX, DL.dCallV, DL.nc0, DL.nc1, DL.nc2, DL.nc3, DL.nc4, DL.nc5, DL.nc6, DL.nc7, DL.nc8, DL.nc9, DL.nc10, DL.nc11, DL.nc12, DL.nc13, DL.nc14, DL.nc15, DL.nc16, DL.nc17, DL.nc18, DL.nc19, DL.nc20, Nat.reduceLT, DL.le6, DL.le7, DL.le10, DL.le11, DL.le12, DL.le13, DL.le14, DL.le15, DL.le16, DL.le17, DL.le18, DL.le19, DL.le20, DL.le21, DL.le22, DL.le23, DL.le24, DL.le25, DL.le26, DL.le27, DL.le28, DL.le29, DL.le30, DL.le31, DL.le32, DL.le33, DL.le34, DL.le35, DL.le36, DL.le37, DL.le38, DL.le39, DL.le40, DL.lt0, DL.lt1, DL.lt2, DL.lt3, DL.lt4, DL.lt5, DL.lt6, DL.lt7, DL.lt8, DL.lt9, DL.lt10, DL.lt11, DL.lt12, DL.lt13, DL.lt14, DL.lt15, DL.lt16, DL.lt17, DL.lt18, DL.lt19, DL.lt20, DL.lt21, DL.lt22, DL.lt23, DL.lt24, DL.lt25, DL.lt26, DL.lt27, DL.lt28, DL.lt29, DL.lt30, DL.lt31, DL.lt32, DL.lt33, DL.lt34, DL.lt35, DL.lt36, DL.lt37, DL.lt38, DL.lt39, DL.lt40]
theorem r_is_number_i (i : Int) (M : MS) : φ_is_number [.int i] M = some (.ret (.bl true) M) := by
  unfold φ_is_number m_is_number
  simp only [r_is_integer, DL.dFn, DL.dFi, DL.sSeq, DL.sSet, DL.sIf, DL.sRet, DL.sRetN, DL.sDrop, DL.sBind, DL.sAsg, DL.sPar, DL.sPar3, DL.sNext, DL.dC, DL.dVar, DL.dPeek, DL.dBind, DL.dOut, DL.dUn, DL.dBin, DL.dTru, DL.dNot, DL.dAndT, DL.dOrT, DL.dAndV, DL.dOrV, DL.dIfE, DL.aNil, DL.aCons, DL.aBind, DL.fits, DL.dApp, DL.dRet, DL.dTup, DL.dLst, DL.truD, DL.bName, DL.bTup, DL.bCons, DL.bNil, DL.pick_eq, DL.Src.get, List.filterMap_cons, List.filterMap_nil, List.getElem?_cons_zero, List.getElem?_cons_succ, List.length_cons, List.length_nil, List.set_cons_zero, List.set_cons_succ, List.map_cons, List.map_nil, List.cons_append, List.nil_append, List.append_nil, List.append_assoc, List.reduceReplicate, Nat.reduceAdd, Nat.reduceSub, Nat.reduceLeDiff, Nat.reduceEqDiff, ↓reduceIte, DL.subD, DL.mulD, DL.divD, DL.modD, DL.powD, DL.ltD, DL.leD, DL.gtD, DL.geD, DL.II, DL.subI, DL.cmpI, DL.negD, DL.addD_int, DL.ix_t0, DL.ix_t1, DL.ix_t2, DL.eqA_int, DL.eqA_pair, DL.intD_int, DL.intA_int, DL.intA_bl, DL.absD, DL.le1, DL.le2, DL.le3, DL.le4, DL.le5, DL.le8, DL.le9, Nat.zero_le, Bool.not_true, Bool.not_false, Bool.false_eq_true, DL.eqA_bl, eq_self, Int.reduceEq, Int.reduceLT, Int.reduceNeg, Bool.false_xor, Bool.true_xor, decide_true, decide_false, decide_eq_true_eq, and_self, DL.sRaise, DL.sApp, DL.sNew, DL.sTryE, DL.dAct, DL.dMkX, DL.dCallV, DL.nc0, DL.nc1, DL.nc2, DL.nc3, DL.nc4, DL.nc5, DL.nc6, DL.nc7, DL.nc8, DL.nc9, DL.nc10, DL.nc11, DL.nc12, DL.nc13, DL.nc14, DL.nc15, DL.nc16, DL.nc17, DL.nc18, DL.nc19, DL.nc20, Nat.reduceLT, DL.le6, DL.le7, DL.le10, DL.le11, DL.le12, DL.le13, DL.le14, DL.le15, DL.le16, DL.le17, DL.le18, DL.le19, DL.le20, DL.le21, DL.le22, DL.le23, DL.le24, DL.le25, DL.le26, DL.le27, DL.le28, DL.le29, DL.le30, DL.le31, DL.le32, DL.le33, DL.le34, DL.le35, DL.le36, DL.le37, DL.le38, DL.le39, DL.le40, DL.lt0, DL.lt1, DL.lt2, DL.lt3, DL.lt4, DL.lt5, DL.lt6, DL.lt7, DL.lt8, DL.lt9, DL.lt10, DL.lt11, DL.lt12, DL.lt13, DL.lt14, DL.lt15, DL.lt16, DL.lt17, DL.lt18, DL.lt19, DL.lt20, DL.lt21, DL.lt22, DL.lt23, DL.lt24, DL.lt25, DL.lt26, DL.lt27, DL.lt28, DL.lt29, DL.lt30, DL.lt31, DL.lt32, DL.lt33, DL.lt34, DL.lt35, DL.lt36, DL.lt37, DL.lt38, DL.lt39, DL.lt40]
theorem r_is_number (t u : Int) (hu : 0 < u) (M : MS) : φ_is_number [.tup [.int t, .int u]] M = some (.ret (.bl true) M) := by
  unfold φ_is_number m_is_number
  simp only [r_is_integer, r_is_integer_t, r_is_row, len_tup, decide_eq_true hu, DL.dFn, DL.dFi, DL.sSeq, DL.sSet, DL.sIf, DL.sRet, DL.sRetN, DL.sDrop, DL.sBind, DL.sAsg, DL.sPar, DL.sPar3, DL.sNext, DL.dC, DL.dVar, DL.dPeek, DL.dBind, DL.dOut, DL.dUn, DL.dBin, DL.dTru, DL.dNot, DL.dAndT, DL.dOrT, DL.dAndV, DL.dOrV, DL.dIfE, DL.aNil, DL.aCons, DL.aBind, DL.fits, DL.dApp, DL.dRet, DL.dTup, DL.dLst, DL.truD, DL.bName, DL.bTup, DL.bCons, DL.bNil, DL.pick_eq, DL.Src.get, List.filterMap_cons, List.filterMap_nil, List.getElem?_cons_zero, List.getElem?_cons_succ, List.length_cons, List.length_nil, List.set_cons_zero, List.set_cons_succ, List.map_cons, List.map_nil, List.cons_append, List.nil_append, List.append_nil, List.append_assoc, List.reduceReplicate, Nat.reduceAdd, Nat.reduceSub, Nat.reduceLeDiff, Nat.reduceEqDiff, ↓reduceIte, DL.subD, DL.mulD, DL.divD, DL.modD, DL.powD, DL.ltD, DL.leD, DL.gtD, DL.geD, DL.II, DL.subI, DL.cmpI, DL.negD, DL.addD_int, DL.ix_t0, DL.ix_t1, DL.ix_t2, DL.eqA_int, DL.eqA_pair, DL.intD_int, DL.intA_int, DL.intA_bl, DL.absD, DL.le1, DL.le2, DL.le3, DL.le4, DL.le5, DL.le8, DL.le9, Nat.zero_le, Bool.not_true, Bool.not_false, Bool.false_eq_true, DL.eqA_bl, eq_self, Int.reduceEq, Int.reduceLT, Int.reduceNeg, Bool.false_xor, Bool.true_xor, decide_true, decide_false, decide_eq_true_eq, and_self, DL.sRaise, DL.sApp, DL.sNew, DL.sTryE, DL.dAct, DL.dMkX, DL.dCallV, DL.nc0, DL.nc1, DL.nc2, DL.nc3, DL.nc4, DL.nc5, DL.nc6, DL.nc7, DL.nc8, DL.nc9, DL.nc10, DL.nc11, DL.nc12, DL.nc13, DL.nc14, DL.nc15, DL.nc16, DL.nc17, DL.nc18, DL.nc19, DL.nc20, Nat.reduceLT, DL.le6, DL.le7, DL.le10, DL.le11, DL.le12, DL.le13, DL.le14, DL.le15, DL.le16, DL.le17, DL.le18, DL.le19, DL.le20, DL.le21, DL.le22, DL.le23, DL.le24, DL.le25, DL.le26, DL.le27, DL.le28, DL.le29, DL.le30, DL.le31, DL.le32, DL.le33, DL.le34, DL.le35, DL.le36, DL.le37, DL.le38, DL.le39, DL.le40, DL.lt0, DL.lt1, DL.lt2, DL.lt3, DL.lt4, DL.lt5, DL.lt6, DL.lt7, DL.lt8, DL.lt9, DL.lt10, DL.lt11, DL.lt12, DL.lt13, DL.lt14, DL.lt15, DL.lt16, DL.lt17, DL.lt18, DL.lt19, DL.lt20, DL.lt21, DL.lt22, DL.lt23, DL.lt24, DL.lt25, DL.lt26, DL.lt27, DL.lt28, DL.lt29, DL.lt30, DL.lt31, DL.lt32, DL.lt33, DL.lt34, DL.lt35, DL.lt36, DL.lt37, DL.lt38, DL.lt39, DL.lt40]
theorem r_is_number_l (t u : Int) (hu : 0 < u) (M : MS) : φ_is_number [.lst [.int t, .int u]] M = some (.ret (.bl true) M) := by
  unfold φ_is_number m_is_number
  simp only [r_is_integer, r_is_integer_l, r_is_row_l, len_lst, decide_eq_true hu, ix_l0, ix_l1, DL.dFn, DL.dFi, DL.sSeq, DL.sSet, DL.sIf, DL.sRet, DL.sRetN, DL.sDrop, DL.sBind, DL.sAsg, DL.sPar, DL.sPar3, DL.sNext, DL.dC, DL.dVar, DL.dPeek, DL.dBind, DL.dOut, DL.dUn, DL.dBin, DL.dTru, DL.dNot, DL.dAndT, DL.dOrT, DL.dAndV, DL.dOrV, DL.dIfE, DL.aNil, DL.aCons, DL.aBind, DL.fits, DL.dApp, DL.dRet, DL.dTup, DL.dLst, DL.truD, DL.bName, DL.bTup, DL.bCons, DL.bNil, DL.pick_eq, DL.Src.get, List.filterMap_cons, List.filterMap_nil, List.getElem?_cons_zero, List.getElem?_cons_succ, List.length_cons, List.length_nil, List.set_cons_zero, List.set_cons_succ, List.map_cons, List.map_nil, List.cons_append, List.nil_append, List.append_nil, List.append_assoc, List.reduceReplicate, Nat.reduceAdd, Nat.reduceSub, Nat.reduceLeDiff, Nat.reduceEqDiff, ↓reduceIte, DL.subD, DL.mulD, DL.divD, DL.modD, DL.powD, DL.ltD, DL.leD, DL.gtD, DL.geD, DL.II, DL.subI, DL.cmpI, DL.negD, DL.addD_int, DL.ix_t0, DL.ix_t1, DL.ix_t2, DL.eqA_int, DL.eqA_pair, DL.intD_int, DL.intA_int, DL.intA_bl, DL.absD, DL.le1, DL.le2, DL.le3, DL.le4, DL.le5, DL.le8, DL.le9, Nat.zero_le, Bool.not_true, Bool.not_false, Bool.false_eq_true, DL.eqA_bl, eq_self, Int.reduceEq, Int.reduceLT, Int.reduceNeg, Bool.false_xor, Bool.true_xor, decide_true, decide_false, decide_eq_true_eq, and_self, DL.sRaise, DL.sApp, DL.sNew, DL.sTryE, DL.dAct, DL.dMkX, DL.dCallV, DL.nc0, DL.nc1, DL.nc2, DL.nc3, DL.nc4, DL.nc5, DL.nc6, DL.nc7, DL.nc8, DL.nc9, DL.nc10, DL.nc11, DL.nc12, DL.nc13, DL.nc14, DL.nc15, DL.nc16, DL.nc17, DL.nc18, DL.nc19, DL.nc20, Nat.reduceLT, DL.le6, DL.le7, DL.le10, DL.le11, DL.le12, DL.le13, DL.le14, DL.le15, DL.le16, DL.le17, DL.le18, DL.le19, DL.le20, DL.le21, DL.le22, DL.le23, DL.le24, DL.le25, DL.le26, DL.le27, DL.le28, DL.le29, DL.le30, DL.le31, DL.le32, DL.le33, DL.le34, DL.le35, DL.le36, DL.le37, DL.le38, DL.le39, DL.le40, DL.lt0, DL.lt1, DL.lt2, DL.lt3, DL.lt4, DL.lt5, DL.lt6, DL.lt7, DL.lt8, DL.lt9, DL.lt10, DL.lt11, DL.lt12, DL.lt13, DL.lt14, DL.lt15, DL.lt16, DL.lt17, DL.lt18, DL.lt19, DL.lt20, DL.lt21, DL.lt22, DL.lt23, DL.lt24, DL.lt25, DL.lt26, DL.lt27, DL.lt28, DL.lt29, DL.lt30, DL.lt31, DL.lt32, DL.lt33, DL.lt34, DL.lt35, DL.lt36, DL.lt37, DL.lt38, DL.lt39, DL.lt40]
theorem r_number_i (i : Int) (x : D) (M : MS) : φ_number_of [.int i, x] M = some (.ret (.tup [.int i, .int 1]) M) := by
  unfold φ_number_of m_number_of
  simp only [r_is_integer, r_is_number_i, DL.dFn, DL.dFi, DL.sSeq, DL.sSet, DL.sIf, DL.sRet, DL.sRetN, DL.sDrop, DL.sBind, DL.sAsg, DL.sPar, DL.sPar3, DL.sNext, DL.dC, DL.dVar, DL.dPeek, DL.dBind, DL.dOut, DL.dUn, DL.dBin, DL.dTru, DL.dNot, DL.dAndT, DL.dOrT, DL.dAndV, DL.dOrV, DL.dIfE, DL.aNil, DL.aCons, DL.aBind, DL.fits, DL.dApp, DL.dRet, DL.dTup, DL.dLst, DL.truD, DL.bName, DL.bTup, DL.bCons, DL.bNil, DL.pick_eq, DL.Src.get, List.filterMap_cons, List.filterMap_nil, List.getElem?_cons_zero, List.getElem?_cons_succ, List.length_cons, List.length_nil, List.set_cons_zero, List.set_cons_succ, List.map_cons, List.map_nil, List.cons_append, List.nil_append, List.append_nil, List.append_assoc, List.reduceReplicate, Nat.reduceAdd, Nat.reduceSub, Nat.reduceLeDiff, Nat.reduceEqDiff, ↓reduceIte, DL.subD, DL.mulD, DL.divD, DL.modD, DL.powD, DL.ltD, DL.leD, DL.gtD, DL.geD, DL.II, DL.subI, DL.cmpI, DL.negD, DL.addD_int, DL.ix_t0, DL.ix_t1, DL.ix_t2, DL.eqA_int, DL.eqA_pair, DL.intD_int, DL.intA_int, DL.intA_bl, DL.absD, DL.le1, DL.le2, DL.le3, DL.le4, DL.le5, DL.le8, DL.le9, Nat.zero_le, Bool.not_true, Bool.not_false, Bool.false_eq_true, DL.eqA_bl, eq_self, Int.reduceEq, Int.reduceLT, Int.reduceNeg, Bool.false_xor, Bool.true_xor, decide_true, decide_false, decide_eq_true_eq, and_self, DL.sRaise, DL.sApp, DL.sNew, DL.sTryE, DL.dAct, DL.dMkX, DL.dCallV, DL.nc0, DL.nc1, DL.nc2, DL.nc3, DL.nc4, DL.nc5, DL.nc6, DL.nc7, DL.nc8, DL.nc9, DL.nc10, DL.nc11, DL.nc12, DL.nc13, DL.nc14, DL.nc15, DL.nc16, DL.nc17, DL.nc18, DL.nc19, DL.nc20, Nat.reduceLT, DL.le6, DL.le7, DL.le10, DL.le11, DL.le12, DL.le13, DL.le14, DL.le15, DL.le16, DL.le17, DL.le18, DL.le19, DL.le20, DL.le21, DL.le22, DL.le23, DL.le24, DL.le25, DL.le26, DL.le27, DL.le28, DL.le29, DL.le30, DL.le31, DL.le32, DL.le33, DL.le34, DL.le35, DL.le36, DL.le37, DL.le38, DL.le39, DL.le40, DL.lt0, DL.lt1, DL.lt2, DL.lt3, DL.lt4, DL.lt5, DL.lt6, DL.lt7, DL.lt8, DL.lt9, DL.lt10, DL.lt11, DL.lt12, DL.lt13, DL.lt14, DL.lt15, DL.lt16, DL.lt17, DL.lt18, DL.lt19, DL.lt20, DL.lt21, DL.lt22, DL.lt23, DL.lt24, DL.lt25, DL.lt26, DL.lt27, DL.lt28, DL.lt29, DL.lt30, DL.lt31, DL.lt32, DL.lt33, DL.lt34, DL.lt35, DL.lt36, DL.lt37, DL.lt38, DL.lt39, DL.lt40]
theorem r_number (t u : Int) (hu : 0 < u) (hs : u.natAbs < 2 ^ 8000) (x : D) (M : MS) : φ_number_of [.tup [.int t, .int u], x] M = some (.ret (P2 (lowP t u)) M) := by
  unfold φ_number_of m_number_of
  simp only [r_is_integer_t, r_is_number t u hu, r_low t u hu hs, DL.dFn, DL.dFi, DL.sSeq, DL.sSet, DL.sIf, DL.sRet, DL.sRetN, DL.sDrop, DL.sBind, DL.sAsg, DL.sPar, DL.sPar3, DL.sNext, DL.dC, DL.dVar, DL.dPeek, DL.dBind, DL.dOut, DL.dUn, DL.dBin, DL.dTru, DL.dNot, DL.dAndT, DL.dOrT, DL.dAndV, DL.dOrV, DL.dIfE, DL.aNil, DL.aCons, DL.aBind, DL.fits, DL.dApp, DL.dRet, DL.dTup, DL.dLst, DL.truD, DL.bName, DL.bTup, DL.bCons, DL.bNil, DL.pick_eq, DL.Src.get, List.filterMap_cons, List.filterMap_nil, List.getElem?_cons_zero, List.getElem?_cons_succ, List.length_cons, List.length_nil, List.set_cons_zero, List.set_cons_succ, List.map_cons, List.map_nil, List.cons_append, List.nil_append, List.append_nil, List.append_assoc, List.reduceReplicate, Nat.reduceAdd, Nat.reduceSub, Nat.reduceLeDiff, Nat.reduceEqDiff, ↓reduceIte, DL.subD, DL.mulD, DL.divD, DL.modD, DL.powD, DL.ltD, DL.leD, DL.gtD, DL.geD, DL.II, DL.subI, DL.cmpI, DL.negD, DL.addD_int, DL.ix_t0, DL.ix_t1, DL.ix_t2, DL.eqA_int, DL.eqA_pair, DL.intD_int, DL.intA_int, DL.intA_bl, DL.absD, DL.le1, DL.le2, DL.le3, DL.le4, DL.le5, DL.le8, DL.le9, Nat.zero_le, Bool.not_true, Bool.not_false, Bool.false_eq_true, DL.eqA_bl, eq_self, Int.reduceEq, Int.reduceLT, Int.reduceNeg, Bool.false_xor, Bool.true_xor, decide_true, decide_false, decide_eq_true_eq, and_self, DL.sRaise, DL.sApp, DL.sNew, DL.sTryE, DL.dAct, DL.dMkX, DL.dCallV, DL.nc0, DL.nc1, DL.nc2, DL.nc3, DL.nc4, DL.nc5, DL.nc6, DL.nc7, DL.nc8, DL.nc9, DL.nc10, DL.nc11, DL.nc12, DL.nc13, DL.nc14, DL.nc15, DL.nc16, DL.nc17, DL.nc18, DL.nc19, DL.nc20, Nat.reduceLT, DL.le6, DL.le7, DL.le10, DL.le11, DL.le12, DL.le13, DL.le14, DL.le15, DL.le16, DL.le17, DL.le18, DL.le19, DL.le20, DL.le21, DL.le22, DL.le23, DL.le24, DL.le25, DL.le26, DL.le27, DL.le28, DL.le29, DL.le30, DL.le31, DL.le32, DL.le33, DL.le34, DL.le35, DL.le36, DL.le37, DL.le38, DL.le39, DL.le40, DL.lt0, DL.lt1, DL.lt2, DL.lt3, DL.lt4, DL.lt5, DL.lt6, DL.lt7, DL.lt8, DL.lt9, DL.lt10, DL.lt11, DL.lt12, DL.lt13, DL.lt14, DL.lt15, DL.lt16, DL.lt17, DL.lt18, DL.lt19, DL.lt20, DL.lt21, DL.lt22, DL.lt23, DL.lt24, DL.lt25, DL.lt26, DL.lt27, DL.lt28, DL.lt29, DL.lt30, DL.lt31, DL.lt32, DL.lt33, DL.lt34, DL.lt35, DL.lt36, DL.lt37, DL.lt38, DL.lt39, DL.lt40]
theorem r_number_l (t u : Int) (hu : 0 < u) (hs : u.natAbs < 2 ^ 8000) (x : D) (M : MS) : φ_number_of [.lst [.int t, .int u], x] M = some (.ret (P2 (lowP t u)) M) := by
  unfold φ_number_of m_number_of
  simp only [r_is_integer_l, r_is_number_l t u hu, r_low t u hu hs, ix_l0, ix_l1, DL.dFn, DL.dFi, DL.sSeq, DL.sSet, DL.sIf, DL.sRet, DL.sRetN, DL.sDrop, DL.sBind, DL.sAsg, DL.sPar, DL.sPar3, DL.sNext, DL.dC, DL.dVar, DL.dPeek, DL.dBind, DL.dOut, DL.dUn, DL.dBin, DL.dTru, DL.dNot, DL.dAndT, DL.dOrT, DL.dAndV, DL.dOrV, DL.dIfE, DL.aNil, DL.aCons, DL.aBind, DL.fits, DL.dApp, DL.dRet, DL.dTup, DL.dLst, DL.truD, DL.bName, DL.bTup, DL.bCons, DL.bNil, DL.pick_eq, DL.Src.get, List.filterMap_cons, List.filterMap_nil, List.getElem?_cons_zero, List.getElem?_cons_succ, List.length_cons, List.length_nil, List.set_cons_zero, List.set_cons_succ, List.map_cons, List.map_nil, List.cons_append, List.nil_append, List.append_nil, List.append_assoc, List.reduceReplicate, Nat.reduceAdd, Nat.reduceSub, Nat.reduceLeDiff, Nat.reduceEqDiff, ↓reduceIte, DL.subD, DL.mulD, DL.divD, DL.modD, DL.powD, DL.ltD, DL.leD, DL.gtD, DL.geD, DL.II, DL.subI, DL.cmpI, DL.negD, DL.addD_int, DL.ix_t0, DL.ix_t1, DL.ix_t2, DL.eqA_int, DL.eqA_pair, DL.intD_int, DL.intA_int, DL.intA_bl, DL.absD, DL.le1, DL.le2, DL.le3, DL.le4, DL.le5, DL.le8, DL.le9, Nat.zero_le, Bool.not_true, Bool.not_false, Bool.false_eq_true, DL.eqA_bl, eq_self, Int.reduceEq, Int.reduceLT, Int.reduceNeg, Bool.false_xor, Bool.true_xor, decide_true, decide_false, decide_eq_true_eq, and_self, DL.sRaise, DL.sApp, DL.sNew, DL.sTryE, DL.dAct, DL.dMkX, DL.dCallV, DL.nc0, DL.nc1, DL.nc2, DL.nc3, DL.nc4, DL.nc5, DL.nc6, DL.nc7, DL.nc8, DL.nc9, DL.nc10, DL.nc11, DL.nc12, DL.nc13, DL.nc14, DL.nc15, DL.nc16, DL.nc17, DL.nc18, DL.nc19, DL.nc20, Nat.reduceLT, DL.le6, DL.le7, DL.le10, DL.le11, DL.le12, DL.le13, DL.le14, DL.le15, DL.le16, DL.le17, DL.le18, DL.le19, DL.le20, DL.le21, DL.le22, DL.le23, DL.le24, DL.le25, DL.le26, DL.le27, DL.le28, DL.le29, DL.le30, DL.le31, DL.le32, DL.le33, DL.le34, DL.le35, DL.le36, DL.le37, DL.le38, DL.le39, DL.le40, DL.lt0, DL.lt1, DL.lt2, DL.lt3, DL.lt4, DL.lt5, DL.lt6, DL.lt7, DL.lt8, DL.lt9, DL.lt10, DL.lt11, DL.lt12, DL.lt13, DL.lt14, DL.lt15, DL.lt16, DL.lt17, DL.lt18, DL.lt19, DL.lt20, DL.lt21, DL.lt22, DL.lt23, DL.lt24, DL.lt25, DL.lt26, DL.lt27, DL.lt28, DL.lt29, DL.lt30, DL.lt31, DL.lt32, DL.lt33, DL.lt34, DL.lt35, DL.lt36, DL.lt37, DL.lt38, DL.lt39, DL.lt40]
structure Num (d : D) (p : Int × Int) : Prop where
  isn : ∀ M, φ_is_number [d] M = some (.ret (.bl true) M)
  of : ∀ x M, φ_number_of [d, x] M = some (.ret (P2 p) M)
structure Low (k : Nat) (p : Int × Int) : Prop where
  pos : 0 < p.2
  b1 : p.1.natAbs < 2 ^ k
  b2 : p.2.natAbs < 2 ^ k
  co : Nat.Coprime p.1.natAbs p.2.natAbs
theorem Low.self {k : Nat} {p : Int × Int} (h : Low k p) : lowP p.1 p.2 = p := low_self h.pos h.co
theorem Low.num {k : Nat} {p : Int × Int} (h : Low k p) (hk : k ≤ 8000) : Num (P2 p) p := ⟨fun M => r_is_number _ _ h.pos M, fun x M => by
  have := r_number p.1 p.2 h.pos (small h.b2 hk) x M
  rw [h.self] at this
  exact this⟩
theorem low_le {x u : Int} (hu : 0 < u) : (lowP x u).1.natAbs ≤ x.natAbs ∧ (lowP x u).2.natAbs ≤ u.natAbs := by
  obtain ⟨a1, a2⟩ := low_mul (t := x) (u := u)
  have g := g_pos (t := x) hu
  have k : ∀ {a c : Int} {n : Nat}, 0 < n → a * (n : Int) = c → a.natAbs ≤ c.natAbs := fun {a c n} hn h => by
    rw [← h, Int.natAbs_mul, Int.natAbs_natCast]
    exact Nat.le_mul_of_pos_right _ hn
  exact ⟨k g a1, k g a2⟩
theorem low_low_ok {t u : Int} {k : Nat} (hu : 0 < u) (h1 : t.natAbs < 2 ^ k) (h2 : u.natAbs < 2 ^ k) : Low k (lowP t u) :=
  ⟨low_pos hu, Nat.lt_of_le_of_lt (low_le hu).1 h1, Nat.lt_of_le_of_lt (low_le hu).2 h2, low_co hu⟩
theorem low_one (x : Int) : lowP x 1 = (x, 1) := low_self (by decide) (by show Nat.gcd _ 1 = 1; exact Nat.gcd_one_right _)
theorem num_i (i : Int) : Num (.int i) (lowP i 1) := ⟨r_is_number_i i, fun x M => by rw [low_one]; exact r_number_i i x M⟩
theorem num_t {t u : Int} (hu : 0 < u) (hs : u.natAbs < 2 ^ 8000) : Num (.tup [.int t, .int u]) (lowP t u) := ⟨r_is_number t u hu, fun x M => r_number t u hu hs x M⟩
theorem num_l {t u : Int} (hu : 0 < u) (hs : u.natAbs < 2 ^ 8000) : Num (.lst [.int t, .int u]) (lowP t u) := ⟨r_is_number_l t u hu, fun x M => r_number_l t u hu hs x M⟩
/-! ### the pen -/
def penO (cs : List Int) (at_ rest : Int) : MO := .lst [.lst (cs.map D.int), .int at_, .int rest]
structure PenOk (n : Nat) (M : MS) : Prop where
  ex : ∃ cs a r, M = [penO cs a r] ∧ cs.length ≤ 63 ∧ 0 ≤ a ∧ a ≤ (n : Int) ∧ 0 ≤ r
theorem PenOk.mono {n m : Nat} {M : MS} (h : PenOk n M) (k : n ≤ m) : PenOk m M :=
  let ⟨cs, a, r, e, l, h1, h2, h3⟩ := h.ex
  ⟨cs, a, r, e, l, h1, by omega, h3⟩
theorem at30 {x y z : D} : L2.atI [x, y, z] 0 = some x := rfl
theorem at31 {x y z : D} : L2.atI [x, y, z] 1 = some y := rfl
theorem at32 {x y z : D} : L2.atI [x, y, z] 2 = some z := rfl
theorem ix31 : ixN 3 1 = some 1 := rfl
theorem ix32 : ixN 3 2 = some 2 := rfl
theorem toPys_ints : ∀ cs : List Int, toPys (cs.map D.int) = some (cs.map PyData.int)
  | [] => rfl
  | c :: cs => by
    show (toPy (D.int c)).bind _ = _
    show (some (PyData.int c)).bind (fun p => (toPys (cs.map D.int)).map fun ps => p :: ps) = _
    rw [toPys_ints cs]
    rfl
theorem can_ints : ∀ cs : List Int, PyData.canLayAll0 (cs.map PyData.int) = true
  | [] => rfl
  | c :: cs => by
    show (PyData.canLay0 (PyData.int c) && PyData.canLayAll0 (cs.map PyData.int)) = true
    rw [can_ints cs]; rfl
theorem dep_ints : ∀ cs : List Int, PyData.depthAll (cs.map PyData.int) = 0
  | [] => rfl
  | c :: cs => by
    show max (PyData.depth (PyData.int c)) (PyData.depthAll (cs.map PyData.int)) = 0
    rw [dep_ints cs]; rfl
theorem eq_nil (cs : List Int) : eqA true (.lst (cs.map D.int)) (.lst []) = some (.bl (!cs.isEmpty)) := by
  have e : toPy (.lst (cs.map D.int)) = some (.list (cs.map PyData.int)) := by
    show (toPys (cs.map D.int)).map PyData.list = _
    rw [toPys_ints]; rfl
  have s1 : SeqAt.shaped (.list (cs.map PyData.int)) = true := by
    show (PyData.canLayAll0 (cs.map PyData.int) && decide (PyData.depthAll (cs.map PyData.int) + 1 ≤ 64)) = true
    rw [can_ints, dep_ints]; rfl
  rw [eqA_lst, eqD_of e (show toPy (.lst []) = some (.list []) from rfl) s1 rfl rfl]
  cases cs with
  | nil => rfl
  | cons c cs => rfl
theorem eq_nil0 : eqA true (.lst []) (.lst []) = some (.bl false) := eq_nil []
theorem ix_ints {cs : List Int} {n : Nat} {c : Int} (h : cs[n]? = some c) : ixD (.lst (cs.map D.int)) (.int (n : Int)) = some (.int c) := by
  rw [ix_lnat, List.getElem?_map, h]; rfl
theorem fmod_rng (x : Int) {m : Int} (h : 0 < m) : 0 ≤ Int.fmod x m ∧ Int.fmod x m < m := ⟨Int.fmod_nonneg_of_pos x h, Int.fmod_lt_of_pos x h⟩
theorem fdiv_nn {x m : Int} (h : 0 < m) (hx : 0 ≤ x) : 0 ≤ Int.fdiv x m := by
  rw [Int.fdiv_eq_ediv_of_nonneg _ (by omega)]
  exact Int.ediv_nonneg hx (by omega)
/-- a draw -/
theorem r_draw (n : Nat) (hn : n ≤ 10000) (M : MS) (hM : PenOk n M) (many : Int) (h0 : 0 < many) (hs : many.natAbs < 2 ^ 8000) : ∃ r M', φ__law_draw [.obj 0, .int many] M = some (.ret (.int r) M') ∧ 0 ≤ r ∧ r < many ∧ PenOk (n + 1) M' := by
  obtain ⟨cs, a, r, rfl, hl, h1, h2, h3⟩ := hM.ex
  have dk : divOk many := divOk_of (n := 8000) (by omega) hs
  have hne : many ≠ 0 := by omega
  by_cases hr : 0 < r
  · refine ⟨Int.fmod r many, [penO cs a (Int.fdiv r many)], ?_, (fmod_rng r h0).1, (fmod_rng r h0).2, ⟨cs, a, _, rfl, hl, h1, by omega, fdiv_nn h0 h3⟩⟩
    unfold φ__law_draw m__law_draw penO
    simp only [dObjIx, sObjSet, at32, ix32, decide_eq_true hr, divI_ok dk, modI_ok hne, DL.dFn, DL.dFi, DL.sSeq, DL.sSet, DL.sIf, DL.sRet, DL.sRetN, DL.sDrop, DL.sBind, DL.sAsg, DL.sPar, DL.sPar3, DL.sNext, DL.dC, DL.dVar, DL.dPeek, DL.dBind, DL.dOut, DL.dUn, DL.dBin, DL.dTru, DL.dNot, DL.dAndT, DL.dOrT, DL.dAndV, DL.dOrV, DL.dIfE, DL.aNil, DL.aCons, DL.aBind, DL.fits, DL.dApp, DL.dRet, DL.dTup, DL.dLst, DL.truD, DL.bName, DL.bTup, DL.bCons, DL.bNil, DL.pick_eq, DL.Src.get, List.filterMap_cons, List.filterMap_nil, List.getElem?_cons_zero, List.getElem?_cons_succ, List.length_cons, List.length_nil, List.set_cons_zero, List.set_cons_succ, List.map_cons, List.map_nil, List.cons_append, List.nil_append, List.append_nil, List.append_assoc, List.reduceReplicate, Nat.reduceAdd, Nat.reduceSub, Nat.reduceLeDiff, Nat.reduceEqDiff, ↓reduceIte, DL.subD, DL.mulD, DL.divD, DL.modD, DL.powD, DL.ltD, DL.leD, DL.gtD, DL.geD, DL.II, DL.subI, DL.cmpI, DL.negD, DL.addD_int, DL.ix_t0, DL.ix_t1, DL.ix_t2, DL.eqA_int, DL.eqA_pair, DL.intD_int, DL.intA_int, DL.intA_bl, DL.absD, DL.le1, DL.le2, DL.le3, DL.le4, DL.le5, DL.le8, DL.le9, Nat.zero_le, Bool.not_true, Bool.not_false, Bool.false_eq_true, DL.eqA_bl, eq_self, Int.reduceEq, Int.reduceLT, Int.reduceNeg, Bool.false_xor, Bool.true_xor, decide_true, decide_false, decide_eq_true_eq, and_self, DL.sRaise, DL.sApp, DL.sNew, DL.sTryE, DL.dAct, DL.dMkX, DL.dCallV, DL.nc0, DL.nc1, DL.nc2, DL.nc3, DL.nc4, DL.nc5, DL.nc6, DL.nc7, DL.nc8, DL.nc9, DL.nc10, DL.nc11, DL.nc12, DL.nc13, DL.nc14, DL.nc15, DL.nc16, DL.nc17, DL.nc18, DL.nc19, DL.nc20, Nat.reduceLT, DL.le6, DL.le7, DL.le10, DL.le11, DL.le12, DL.le13, DL.le14, DL.le15, DL.le16, DL.le17, DL.le18, DL.le19, DL.le20, DL.le21, DL.le22, DL.le23, DL.le24, DL.le25, DL.le26, DL.le27, DL.le28, DL.le29, DL.le30, DL.le31, DL.le32, DL.le33, DL.le34, DL.le35, DL.le36, DL.le37, DL.le38, DL.le39, DL.le40, DL.lt0, DL.lt1, DL.lt2, DL.lt3, DL.lt4, DL.lt5, DL.lt6, DL.lt7, DL.lt8, DL.lt9, DL.lt10, DL.lt11, DL.lt12, DL.lt13, DL.lt14, DL.lt15, DL.lt16, DL.lt17, DL.lt18, DL.lt19, DL.lt20, DL.lt21, DL.lt22, DL.lt23, DL.lt24, DL.lt25, DL.lt26, DL.lt27, DL.lt28, DL.lt29, DL.lt30, DL.lt31, DL.lt32, DL.lt33, DL.lt34, DL.lt35, DL.lt36, DL.lt37, DL.lt38, DL.lt39, DL.lt40]
  · have hr0 : r = 0 := by omega
    subst hr0
    -- the cell
    have m1 : mulOk 91097 a := .inl (by decide)
    obtain ⟨cell, hc⟩ : ∃ cell : Int, cell = (if cs.isEmpty = true then 91097 * a + 1039 else (cs[(a.toNat % cs.length)]?).getD 0) := ⟨_, rfl⟩
    have p18 : powOk 10 18 := ⟨by decide, by decide, by decide⟩
    have m2 : ∀ x : Int, mulOk 2 x := fun x => .inl (by decide)
    have key : ∀ X : Int, (∀ M' : MS, M' = [penO cs (a + 1) 0] → True) → True := fun _ _ => trivial
    have hmix : ∀ x : Int, 0 ≤ Int.fmod x 2147483549 ∧ Int.fmod x 2147483549 < 2147483549 := fun x => fmod_rng x (by decide)
    have pw5 : powOk (Int.fmod cell 2147483549 + 91097 * a + 1039) 5 := ⟨by decide, by decide, by
      have := hmix cell
      have : (Int.fmod cell 2147483549 + 91097 * a + 1039).natAbs < 10000000000 := by omega
      exact Nat.lt_trans this (by decide)⟩
    obtain ⟨mx, hmx⟩ : ∃ mx : Int, mx = Int.fmod ((Int.fmod cell 2147483549 + 91097 * a + 1039) ^ (5 : Int).toNat) 2147483587 := ⟨_, rfl⟩
    have hmx2 : 0 ≤ mx ∧ mx < 2147483587 := by rw [hmx]; exact fmod_rng _ (by decide)
    have m3 : mulOk mx (2 * a + 269) := .inl (by
      have : mx.natAbs < 2147483587 := by omega
      exact Nat.lt_trans this (by decide))
    have m4 : mulOk 70051 a := .inl (by decide)
    have m5 : mulOk (70051 * a) a := .inr (.inl (by
      have : a.natAbs < 10001 := by omega
      exact Nat.lt_trans this (by decide)))
    have q1 : mx * (2 * a + 269) ≤ 2147483587 * 20269 := by
      calc mx * (2 * a + 269) ≤ 2147483587 * (2 * a + 269) := Int.mul_le_mul_of_nonneg_right (by omega) (by omega)
        _ ≤ 2147483587 * 20269 := Int.mul_le_mul_of_nonneg_left (by omega) (by decide)
    have q2 : 0 ≤ mx * (2 * a + 269) := Int.mul_nonneg hmx2.1 (by omega)
    have q3 : 70051 * a * a ≤ 70051 * 10000 * 10000 := by
      calc 70051 * a * a ≤ 70051 * 10000 * a := Int.mul_le_mul_of_nonneg_right (by omega) h1
        _ ≤ 70051 * 10000 * 10000 := Int.mul_le_mul_of_nonneg_left (by omega) (by decide)
    have q4 : 0 ≤ 70051 * a * a := Int.mul_nonneg (by omega) h1
    have pw3 : powOk (mx * (2 * a + 269) + 70051 * a * a + 1039) 3 := ⟨by decide, by decide, by
      have : (mx * (2 * a + 269) + 70051 * a * a + 1039).natAbs < 100000000000000 := by omega
      exact Nat.lt_trans this (by decide)⟩
    have dk32 : divOk 32 := divOk_of (n := 6) (by decide) (by decide)
    have n1 : (2147483549 : Int) ≠ 0 := by decide
    have n2 : (2147483587 : Int) ≠ 0 := by decide
    have n3 : (2147483563 : Int) ≠ 0 := by decide
    -- with the cell known, both ends
    have nr : ¬ (0 : Int) < 0 := by decide
    by_cases hA : a < (cs.length : Int) ∧ 10 ^ (18 : Int).toNat ≤ (if cell < 0 then -cell else cell)
    · obtain ⟨w, hw⟩ : ∃ w : Int, w = 2 * ((if cell < 0 then -cell else cell) - 10 ^ (18 : Int).toNat) + (if cell < 0 then 1 else 0) := ⟨_, rfl⟩
      have hw0 : 0 ≤ w := by
        rw [hw]
        have := hA.2
        split <;> omega
      refine ⟨Int.fmod w many, [penO cs (a + 1) (Int.fdiv w many)], ?_, (fmod_rng w h0).1, (fmod_rng w h0).2, ⟨cs, a + 1, _, rfl, hl, by omega, by omega, fdiv_nn h0 hw0⟩⟩
      by_cases he : cs.isEmpty = true
      · exfalso
        have : cs = [] := List.isEmpty_iff.mp he
        subst this
        have := hA.1
        simp at this
        omega
      · have he2 : cs.isEmpty = false := by simpa using he
        rw [he2] at hc
        have hlen : 0 < cs.length := by cases cs with
          | nil => simp at he
          | cons _ _ => simp
        have hix : cs[a.toNat % cs.length]? = some cell := by
          have hlt : a.toNat % cs.length < cs.length := Nat.mod_lt _ hlen
          rw [List.getElem?_eq_getElem hlt] at hc ⊢
          simp at hc
          rw [hc]
        have hm : Int.fmod a (cs.length : Int) = ((a.toNat % cs.length : Nat) : Int) := by
          have ha : ((a.toNat : Nat) : Int) = a := by omega
          calc Int.fmod a (cs.length : Int) = a % (cs.length : Int) := Int.fmod_eq_emod_of_nonneg _ (by omega)
            _ = ((a.toNat : Nat) : Int) % (cs.length : Int) := by rw [ha]
            _ = _ := by omega
        have hl0 : (cs.length : Int) ≠ 0 := by omega
        unfold φ__law_draw m__law_draw penO
        simp only [dObjIx, sObjSet, at30, at31, at32, ix31, ix32, decide_eq_false nr, mulI_ok m1, eq_nil, he2, len_lst, List.length_map, modI_ok hl0, hm, ix_ints hix, decide_eq_true hA.1, powI_ok p18, decide_eq_true hA.2, mulI_ok (m2 _), divI_ok dk, modI_ok hne, DL.dFn, DL.dFi, DL.sSeq, DL.sSet, DL.sIf, DL.sRet, DL.sRetN, DL.sDrop, DL.sBind, DL.sAsg, DL.sPar, DL.sPar3, DL.sNext, DL.dC, DL.dVar, DL.dPeek, DL.dBind, DL.dOut, DL.dUn, DL.dBin, DL.dTru, DL.dNot, DL.dAndT, DL.dOrT, DL.dAndV, DL.dOrV, DL.dIfE, DL.aNil, DL.aCons, DL.aBind, DL.fits, DL.dApp, DL.dRet, DL.dTup, DL.dLst, DL.truD, DL.bName, DL.bTup, DL.bCons, DL.bNil, DL.pick_eq, DL.Src.get, List.filterMap_cons, List.filterMap_nil, List.getElem?_cons_zero, List.getElem?_cons_succ, List.length_cons, List.length_nil, List.set_cons_zero, List.set_cons_succ, List.map_cons, List.map_nil, List.cons_append, List.nil_append, List.append_nil, List.append_assoc, List.reduceReplicate, Nat.reduceAdd, Nat.reduceSub, Nat.reduceLeDiff, Nat.reduceEqDiff, ↓reduceIte, DL.subD, DL.mulD, DL.divD, DL.modD, DL.powD, DL.ltD, DL.leD, DL.gtD, DL.geD, DL.II, DL.subI, DL.cmpI, DL.negD, DL.addD_int, DL.ix_t0, DL.ix_t1, DL.ix_t2, DL.eqA_int, DL.eqA_pair, DL.intD_int, DL.intA_int, DL.intA_bl, DL.absD, DL.le1, DL.le2, DL.le3, DL.le4, DL.le5, DL.le8, DL.le9, Nat.zero_le, Bool.not_true, Bool.not_false, Bool.false_eq_true, DL.eqA_bl, eq_self, Int.reduceEq, Int.reduceLT, Int.reduceNeg, Bool.false_xor, Bool.true_xor, decide_true, decide_false, decide_eq_true_eq, and_self, DL.sRaise, DL.sApp, DL.sNew, DL.sTryE, DL.dAct, DL.dMkX, DL.dCallV, DL.nc0, DL.nc1, DL.nc2, DL.nc3, DL.nc4, DL.nc5, DL.nc6, DL.nc7, DL.nc8, DL.nc9, DL.nc10, DL.nc11, DL.nc12, DL.nc13, DL.nc14, DL.nc15, DL.nc16, DL.nc17, DL.nc18, DL.nc19, DL.nc20, Nat.reduceLT, DL.le6, DL.le7, DL.le10, DL.le11, DL.le12, DL.le13, DL.le14, DL.le15, DL.le16, DL.le17, DL.le18, DL.le19, DL.le20, DL.le21, DL.le22, DL.le23, DL.le24, DL.le25, DL.le26, DL.le27, DL.le28, DL.le29, DL.le30, DL.le31, DL.le32, DL.le33, DL.le34, DL.le35, DL.le36, DL.le37, DL.le38, DL.le39, DL.le40, DL.lt0, DL.lt1, DL.lt2, DL.lt3, DL.lt4, DL.lt5, DL.lt6, DL.lt7, DL.lt8, DL.lt9, DL.lt10, DL.lt11, DL.lt12, DL.lt13, DL.lt14, DL.lt15, DL.lt16, DL.lt17, DL.lt18, DL.lt19, DL.lt20, DL.lt21, DL.lt22, DL.lt23, DL.lt24, DL.lt25, DL.lt26, DL.lt27, DL.lt28, DL.lt29, DL.lt30, DL.lt31, DL.lt32, DL.lt33, DL.lt34, DL.lt35, DL.lt36, DL.lt37, DL.lt38, DL.lt39, DL.lt40]
        rw [← hw]
    · refine ⟨Int.fmod (Int.fdiv (Int.fmod ((mx * (2 * a + 269) + 70051 * a * a + 1039) ^ (3 : Int).toNat) 2147483563) 32) many, [penO cs (a + 1) 0], ?_, (fmod_rng _ h0).1, (fmod_rng _ h0).2, ⟨cs, a + 1, 0, rfl, hl, by omega, by omega, by omega⟩⟩
      have hA' : (decide (a < (cs.length : Int)) && decide (10 ^ (18 : Int).toNat ≤ (if cell < 0 then -cell else cell))) = false := by
        rw [Bool.and_eq_false_iff]
        by_cases z : a < (cs.length : Int)
        · right; exact decide_eq_false fun y => hA ⟨z, y⟩
        · left; exact decide_eq_false z
      by_cases he : cs.isEmpty = true
      · have : cs = [] := List.isEmpty_iff.mp he
        subst this
        rw [if_pos he] at hc
        subst hc
        unfold φ__law_draw m__law_draw penO
        simp only [dObjIx, sObjSet, at30, at31, at32, ix31, ix32, decide_eq_false nr, mulI_ok m1, eq_nil0, len_lst, List.length_map, decide_eq_false (show ¬ (a < (0 : Int)) by omega), modI_ok n1, powI_ok pw5, modI_ok n2, ← hmx, mulI_ok m3, mulI_ok m4, mulI_ok m5, mulI_ok (m2 _), powI_ok pw3, modI_ok n3, divI_ok dk32, modI_ok hne, DL.dFn, DL.dFi, DL.sSeq, DL.sSet, DL.sIf, DL.sRet, DL.sRetN, DL.sDrop, DL.sBind, DL.sAsg, DL.sPar, DL.sPar3, DL.sNext, DL.dC, DL.dVar, DL.dPeek, DL.dBind, DL.dOut, DL.dUn, DL.dBin, DL.dTru, DL.dNot, DL.dAndT, DL.dOrT, DL.dAndV, DL.dOrV, DL.dIfE, DL.aNil, DL.aCons, DL.aBind, DL.fits, DL.dApp, DL.dRet, DL.dTup, DL.dLst, DL.truD, DL.bName, DL.bTup, DL.bCons, DL.bNil, DL.pick_eq, DL.Src.get, List.filterMap_cons, List.filterMap_nil, List.getElem?_cons_zero, List.getElem?_cons_succ, List.length_cons, List.length_nil, List.set_cons_zero, List.set_cons_succ, List.map_cons, List.map_nil, List.cons_append, List.nil_append, List.append_nil, List.append_assoc, List.reduceReplicate, Nat.reduceAdd, Nat.reduceSub, Nat.reduceLeDiff, Nat.reduceEqDiff, ↓reduceIte, DL.subD, DL.mulD, DL.divD, DL.modD, DL.powD, DL.ltD, DL.leD, DL.gtD, DL.geD, DL.II, DL.subI, DL.cmpI, DL.negD, DL.addD_int, DL.ix_t0, DL.ix_t1, DL.ix_t2, DL.eqA_int, DL.eqA_pair, DL.intD_int, DL.intA_int, DL.intA_bl, DL.absD, DL.le1, DL.le2, DL.le3, DL.le4, DL.le5, DL.le8, DL.le9, Nat.zero_le, Bool.not_true, Bool.not_false, Bool.false_eq_true, DL.eqA_bl, eq_self, Int.reduceEq, Int.reduceLT, Int.reduceNeg, Bool.false_xor, Bool.true_xor, decide_true, decide_false, decide_eq_true_eq, and_self, DL.sRaise, DL.sApp, DL.sNew, DL.sTryE, DL.dAct, DL.dMkX, DL.dCallV, DL.nc0, DL.nc1, DL.nc2, DL.nc3, DL.nc4, DL.nc5, DL.nc6, DL.nc7, DL.nc8, DL.nc9, DL.nc10, DL.nc11, DL.nc12, DL.nc13, DL.nc14, DL.nc15, DL.nc16, DL.nc17, DL.nc18, DL.nc19, DL.nc20, Nat.reduceLT, DL.le6, DL.le7, DL.le10, DL.le11, DL.le12, DL.le13, DL.le14, DL.le15, DL.le16, DL.le17, DL.le18, DL.le19, DL.le20, DL.le21, DL.le22, DL.le23, DL.le24, DL.le25, DL.le26, DL.le27, DL.le28, DL.le29, DL.le30, DL.le31, DL.le32, DL.le33, DL.le34, DL.le35, DL.le36, DL.le37, DL.le38, DL.le39, DL.le40, DL.lt0, DL.lt1, DL.lt2, DL.lt3, DL.lt4, DL.lt5, DL.lt6, DL.lt7, DL.lt8, DL.lt9, DL.lt10, DL.lt11, DL.lt12, DL.lt13, DL.lt14, DL.lt15, DL.lt16, DL.lt17, DL.lt18, DL.lt19, DL.lt20, DL.lt21, DL.lt22, DL.lt23, DL.lt24, DL.lt25, DL.lt26, DL.lt27, DL.lt28, DL.lt29, DL.lt30, DL.lt31, DL.lt32, DL.lt33, DL.lt34, DL.lt35, DL.lt36, DL.lt37, DL.lt38, DL.lt39, DL.lt40]
      · have he2 : cs.isEmpty = false := by simpa using he
        rw [he2] at hc
        have hlen : 0 < cs.length := by cases cs with
          | nil => simp at he
          | cons _ _ => simp
        have hix : cs[a.toNat % cs.length]? = some cell := by
          have hlt : a.toNat % cs.length < cs.length := Nat.mod_lt _ hlen
          rw [List.getElem?_eq_getElem hlt] at hc ⊢
          simp at hc
          rw [hc]
        have hm : Int.fmod a (cs.length : Int) = ((a.toNat % cs.length : Nat) : Int) := by
          have ha : ((a.toNat : Nat) : Int) = a := by omega
          calc Int.fmod a (cs.length : Int) = a % (cs.length : Int) := Int.fmod_eq_emod_of_nonneg _ (by omega)
            _ = ((a.toNat : Nat) : Int) % (cs.length : Int) := by rw [ha]
            _ = _ := by omega
        have hl0 : (cs.length : Int) ≠ 0 := by omega
        unfold φ__law_draw m__law_draw penO
        by_cases z : a < (cs.length : Int)
        · simp only [dObjIx, sObjSet, at30, at31, at32, ix31, ix32, decide_eq_false nr, mulI_ok m1, eq_nil, he2, len_lst, List.length_map, modI_ok hl0, hm, ix_ints hix, decide_eq_true z, powI_ok p18, decide_eq_false (fun y => hA ⟨z, y⟩), modI_ok n1, powI_ok pw5, modI_ok n2, ← hmx, mulI_ok m3, mulI_ok m4, mulI_ok m5, mulI_ok (m2 _), powI_ok pw3, modI_ok n3, divI_ok dk32, modI_ok hne, DL.dFn, DL.dFi, DL.sSeq, DL.sSet, DL.sIf, DL.sRet, DL.sRetN, DL.sDrop, DL.sBind, DL.sAsg, DL.sPar, DL.sPar3, DL.sNext, DL.dC, DL.dVar, DL.dPeek, DL.dBind, DL.dOut, DL.dUn, DL.dBin, DL.dTru, DL.dNot, DL.dAndT, DL.dOrT, DL.dAndV, DL.dOrV, DL.dIfE, DL.aNil, DL.aCons, DL.aBind, DL.fits, DL.dApp, DL.dRet, DL.dTup, DL.dLst, DL.truD, DL.bName, DL.bTup, DL.bCons, DL.bNil, DL.pick_eq, DL.Src.get, List.filterMap_cons, List.filterMap_nil, List.getElem?_cons_zero, List.getElem?_cons_succ, List.length_cons, List.length_nil, List.set_cons_zero, List.set_cons_succ, List.map_cons, List.map_nil, List.cons_append, List.nil_append, List.append_nil, List.append_assoc, List.reduceReplicate, Nat.reduceAdd, Nat.reduceSub, Nat.reduceLeDiff, Nat.reduceEqDiff, ↓reduceIte, DL.subD, DL.mulD, DL.divD, DL.modD, DL.powD, DL.ltD, DL.leD, DL.gtD, DL.geD, DL.II, DL.subI, DL.cmpI, DL.negD, DL.addD_int, DL.ix_t0, DL.ix_t1, DL.ix_t2, DL.eqA_int, DL.eqA_pair, DL.intD_int, DL.intA_int, DL.intA_bl, DL.absD, DL.le1, DL.le2, DL.le3, DL.le4, DL.le5, DL.le8, DL.le9, Nat.zero_le, Bool.not_true, Bool.not_false, Bool.false_eq_true, DL.eqA_bl, eq_self, Int.reduceEq, Int.reduceLT, Int.reduceNeg, Bool.false_xor, Bool.true_xor, decide_true, decide_false, decide_eq_true_eq, and_self, DL.sRaise, DL.sApp, DL.sNew, DL.sTryE, DL.dAct, DL.dMkX, DL.dCallV, DL.nc0, DL.nc1, DL.nc2, DL.nc3, DL.nc4, DL.nc5, DL.nc6, DL.nc7, DL.nc8, DL.nc9, DL.nc10, DL.nc11, DL.nc12, DL.nc13, DL.nc14, DL.nc15, DL.nc16, DL.nc17, DL.nc18, DL.nc19, DL.nc20, Nat.reduceLT, DL.le6, DL.le7, DL.le10, DL.le11, DL.le12, DL.le13, DL.le14, DL.le15, DL.le16, DL.le17, DL.le18, DL.le19, DL.le20, DL.le21, DL.le22, DL.le23, DL.le24, DL.le25, DL.le26, DL.le27, DL.le28, DL.le29, DL.le30, DL.le31, DL.le32, DL.le33, DL.le34, DL.le35, DL.le36, DL.le37, DL.le38, DL.le39, DL.le40, DL.lt0, DL.lt1, DL.lt2, DL.lt3, DL.lt4, DL.lt5, DL.lt6, DL.lt7, DL.lt8, DL.lt9, DL.lt10, DL.lt11, DL.lt12, DL.lt13, DL.lt14, DL.lt15, DL.lt16, DL.lt17, DL.lt18, DL.lt19, DL.lt20, DL.lt21, DL.lt22, DL.lt23, DL.lt24, DL.lt25, DL.lt26, DL.lt27, DL.lt28, DL.lt29, DL.lt30, DL.lt31, DL.lt32, DL.lt33, DL.lt34, DL.lt35, DL.lt36, DL.lt37, DL.lt38, DL.lt39, DL.lt40]
        · simp only [dObjIx, sObjSet, at30, at31, at32, ix31, ix32, decide_eq_false nr, mulI_ok m1, eq_nil, he2, len_lst, List.length_map, modI_ok hl0, hm, ix_ints hix, decide_eq_false z, modI_ok n1, powI_ok pw5, modI_ok n2, ← hmx, mulI_ok m3, mulI_ok m4, mulI_ok m5, mulI_ok (m2 _), powI_ok pw3, modI_ok n3, divI_ok dk32, modI_ok hne, DL.dFn, DL.dFi, DL.sSeq, DL.sSet, DL.sIf, DL.sRet, DL.sRetN, DL.sDrop, DL.sBind, DL.sAsg, DL.sPar, DL.sPar3, DL.sNext, DL.dC, DL.dVar, DL.dPeek, DL.dBind, DL.dOut, DL.dUn, DL.dBin, DL.dTru, DL.dNot, DL.dAndT, DL.dOrT, DL.dAndV, DL.dOrV, DL.dIfE, DL.aNil, DL.aCons, DL.aBind, DL.fits, DL.dApp, DL.dRet, DL.dTup, DL.dLst, DL.truD, DL.bName, DL.bTup, DL.bCons, DL.bNil, DL.pick_eq, DL.Src.get, List.filterMap_cons, List.filterMap_nil, List.getElem?_cons_zero, List.getElem?_cons_succ, List.length_cons, List.length_nil, List.set_cons_zero, List.set_cons_succ, List.map_cons, List.map_nil, List.cons_append, List.nil_append, List.append_nil, List.append_assoc, List.reduceReplicate, Nat.reduceAdd, Nat.reduceSub, Nat.reduceLeDiff, Nat.reduceEqDiff, ↓reduceIte, DL.subD, DL.mulD, DL.divD, DL.modD, DL.powD, DL.ltD, DL.leD, DL.gtD, DL.geD, DL.II, DL.subI, DL.cmpI, DL.negD, DL.addD_int, DL.ix_t0, DL.ix_t1, DL.ix_t2, DL.eqA_int, DL.eqA_pair, DL.intD_int, DL.intA_int, DL.intA_bl, DL.absD, DL.le1, DL.le2, DL.le3, DL.le4, DL.le5, DL.le8, DL.le9, Nat.zero_le, Bool.not_true, Bool.not_false, Bool.false_eq_true, DL.eqA_bl, eq_self, Int.reduceEq, Int.reduceLT, Int.reduceNeg, Bool.false_xor, Bool.true_xor, decide_true, decide_false, decide_eq_true_eq, and_self, DL.sRaise, DL.sApp, DL.sNew, DL.sTryE, DL.dAct, DL.dMkX, DL.dCallV, DL.nc0, DL.nc1, DL.nc2, DL.nc3, DL.nc4, DL.nc5, DL.nc6, DL.nc7, DL.nc8, DL.nc9, DL.nc10, DL.nc11, DL.nc12, DL.nc13, DL.nc14, DL.nc15, DL.nc16, DL.nc17, DL.nc18, DL.nc19, DL.nc20, Nat.reduceLT, DL.le6, DL.le7, DL.le10, DL.le11, DL.le12, DL.le13, DL.le14, DL.le15, DL.le16, DL.le17, DL.le18, DL.le19, DL.le20, DL.le21, DL.le22, DL.le23, DL.le24, DL.le25, DL.le26, DL.le27, DL.le28, DL.le29, DL.le30, DL.le31, DL.le32, DL.le33, DL.le34, DL.le35, DL.le36, DL.le37, DL.le38, DL.le39, DL.le40, DL.lt0, DL.lt1, DL.lt2, DL.lt3, DL.lt4, DL.lt5, DL.lt6, DL.lt7, DL.lt8, DL.lt9, DL.lt10, DL.lt11, DL.lt12, DL.lt13, DL.lt14, DL.lt15, DL.lt16, DL.lt17, DL.lt18, DL.lt19, DL.lt20, DL.lt21, DL.lt22, DL.lt23, DL.lt24, DL.lt25, DL.lt26, DL.lt27, DL.lt28, DL.lt29, DL.lt30, DL.lt31, DL.lt32, DL.lt33, DL.lt34, DL.lt35, DL.lt36, DL.lt37, DL.lt38, DL.lt39, DL.lt40]
theorem r_pick (n : Nat) (hn : n ≤ 10000) (M : MS) (hM : PenOk n M) (ds : List D) (h0 : ds ≠ []) (hl : ds.length ≤ 1000) : ∃ d M', φ__law_pick [.obj 0, .lst ds] M = some (.ret d M') ∧ d ∈ ds ∧ PenOk (n + 1) M' := by
  have h1 : 0 < ds.length := by cases ds with
    | nil => exact absurd rfl h0
    | cons _ _ => simp
  obtain ⟨r, M', e, r0, r1, p⟩ := r_draw n hn M hM (ds.length : Int) (by omega) (by
    have : ((ds.length : Int)).natAbs < 2 ^ 10 := by rw [Int.natAbs_natCast]; omega
    exact p2lt this (by omega))
  have hlt : r.toNat < ds.length := by omega
  refine ⟨ds[r.toNat], M', ?_, List.getElem_mem hlt, p⟩
  have ei : ixD (.lst ds) (.int r) = some ds[r.toNat] := by
    have := ix_lnat ds r.toNat
    rw [show ((r.toNat : Nat) : Int) = r by omega, List.getElem?_eq_getElem hlt] at this
    exact this
  unfold φ__law_pick m__law_pick
  simp only [len_lst, e, ei, DL.dFn, DL.dFi, DL.sSeq, DL.sSet, DL.sIf, DL.sRet, DL.sRetN, DL.sDrop, DL.sBind, DL.sAsg, DL.sPar, DL.sPar3, DL.sNext, DL.dC, DL.dVar, DL.dPeek, DL.dBind, DL.dOut, DL.dUn, DL.dBin, DL.dTru, DL.dNot, DL.dAndT, DL.dOrT, DL.dAndV, DL.dOrV, DL.dIfE, DL.aNil, DL.aCons, DL.aBind, DL.fits, DL.dApp, DL.dRet, DL.dTup, DL.dLst, DL.truD, DL.bName, DL.bTup, DL.bCons, DL.bNil, DL.pick_eq, DL.Src.get, List.filterMap_cons, List.filterMap_nil, List.getElem?_cons_zero, List.getElem?_cons_succ, List.length_cons, List.length_nil, List.set_cons_zero, List.set_cons_succ, List.map_cons, List.map_nil, List.cons_append, List.nil_append, List.append_nil, List.append_assoc, List.reduceReplicate, Nat.reduceAdd, Nat.reduceSub, Nat.reduceLeDiff, Nat.reduceEqDiff, ↓reduceIte, DL.subD, DL.mulD, DL.divD, DL.modD, DL.powD, DL.ltD, DL.leD, DL.gtD, DL.geD, DL.II, DL.subI, DL.cmpI, DL.negD, DL.addD_int, DL.ix_t0, DL.ix_t1, DL.ix_t2, DL.eqA_int, DL.eqA_pair, DL.intD_int, DL.intA_int, DL.intA_bl, DL.absD, DL.le1, DL.le2, DL.le3, DL.le4, DL.le5, DL.le8, DL.le9, Nat.zero_le, Bool.not_true, Bool.not_false, Bool.false_eq_true, DL.eqA_bl, eq_self, Int.reduceEq, Int.reduceLT, Int.reduceNeg, Bool.false_xor, Bool.true_xor, decide_true, decide_false, decide_eq_true_eq, and_self, DL.sRaise, DL.sApp, DL.sNew, DL.sTryE, DL.dAct, DL.dMkX, DL.dCallV, DL.nc0, DL.nc1, DL.nc2, DL.nc3, DL.nc4, DL.nc5, DL.nc6, DL.nc7, DL.nc8, DL.nc9, DL.nc10, DL.nc11, DL.nc12, DL.nc13, DL.nc14, DL.nc15, DL.nc16, DL.nc17, DL.nc18, DL.nc19, DL.nc20, Nat.reduceLT, DL.le6, DL.le7, DL.le10, DL.le11, DL.le12, DL.le13, DL.le14, DL.le15, DL.le16, DL.le17, DL.le18, DL.le19, DL.le20, DL.le21, DL.le22, DL.le23, DL.le24, DL.le25, DL.le26, DL.le27, DL.le28, DL.le29, DL.le30, DL.le31, DL.le32, DL.le33, DL.le34, DL.le35, DL.le36, DL.le37, DL.le38, DL.le39, DL.le40, DL.lt0, DL.lt1, DL.lt2, DL.lt3, DL.lt4, DL.lt5, DL.lt6, DL.lt7, DL.lt8, DL.lt9, DL.lt10, DL.lt11, DL.lt12, DL.lt13, DL.lt14, DL.lt15, DL.lt16, DL.lt17, DL.lt18, DL.lt19, DL.lt20, DL.lt21, DL.lt22, DL.lt23, DL.lt24, DL.lt25, DL.lt26, DL.lt27, DL.lt28, DL.lt29, DL.lt30, DL.lt31, DL.lt32, DL.lt33, DL.lt34, DL.lt35, DL.lt36, DL.lt37, DL.lt38, DL.lt39, DL.lt40]
/-! ### a number, drawn -/
theorem r_draw_s (n : Nat) (hn : n ≤ 10000) (M : MS) (hM : PenOk n M) (many : Int) (h0 : 0 < many) (hs : many.natAbs < 2 ^ 100) : ∃ r M', φ__law_draw [.obj 0, .int many] M = some (.ret (.int r) M') ∧ 0 ≤ r ∧ r < many ∧ PenOk (n + 1) M' := r_draw n hn M hM many h0 (small hs (by omega))
theorem r_law_number2 (n : Nat) (hn : n ≤ 9000) (M : MS) (hM : PenOk n M) : ∃ (raw : D) (p : Int × Int) (M' : MS), φ__law_number [.obj 0] M = some (.ret (.tup [raw, P2 p]) M') ∧ Low 105 p ∧ Num raw p ∧ PenOk (n + 10) M' ∧ Sh raw 1 2 := by
  have f6 : powI 10 6 = some (.int 1000000) := powI_ok ⟨by decide, by decide, by decide⟩
  have f9 : powI 10 9 = some (.int 1000000000) := powI_ok ⟨by decide, by decide, by decide⟩
  have f25 : powI 10 25 = some (.int 10000000000000000000000000) := powI_ok ⟨by decide, by decide, by decide⟩
  have f30 : powI 10 30 = some (.int 1000000000000000000000000000000) := powI_ok ⟨by decide, by decide, by decide⟩
  obtain ⟨x1, M1, e1, a1, c1, p1⟩ := r_draw_s n (by omega) M hM 40 (by decide) (by decide)
  obtain ⟨x2, M2, e2, a2, c2, p2⟩ := r_draw_s (n + 1) (by omega) M1 p1 2000 (by decide) (by decide)
  obtain ⟨x3, M3, e3, a3, c3, p3⟩ := r_draw_s (n + 2) (by omega) M2 p2 1000000 (by decide) (by decide)
  obtain ⟨d4, M4, e4, m4, p4⟩ := r_pick (n + 3) (by omega) M3 p3 [.int 0, .int 1, .int (-1), .int (x1 - 20), .int (x2 - 1000), .int (1000000000000000000000000000000 + x3)] (by simp) (by simp)
  obtain ⟨x5, M5, e5, a5, c5, p5⟩ := r_draw_s (n + 4) (by omega) M4 p4 12 (by decide) (by decide)
  obtain ⟨x6, M6, e6, a6, c6, p6⟩ := r_draw_s (n + 5) (by omega) M5 p5 1000000000 (by decide) (by decide)
  obtain ⟨d7, M7, e7, m7, p7⟩ := r_pick (n + 6) (by omega) M6 p6 [.int 1, .int 1, .int 2, .int 3, .int (1 + x5), .int (1 + x6), .int 10000000000000000000000000] (by simp) (by simp)
  obtain ⟨x8, M8, e8, a8, c8, p8⟩ := r_draw_s (n + 7) (by omega) M7 p7 4 (by decide) (by decide)
  obtain ⟨x9, M9, e9, a9, c9, p9⟩ := r_draw_s (n + 8) (by omega) M8 p8 2 (by decide) (by decide)
  obtain ⟨x0, M0, e0, a0, c0, p0⟩ := r_draw_s (n + 9) (by omega) M9 p9 2 (by decide) (by decide)
  have k4 : ∃ t : Int, d4 = .int t ∧ t.natAbs < 2 ^ 101 := by
    simp only [List.mem_cons, List.not_mem_nil, or_false] at m4
    rcases m4 with h | h | h | h | h | h <;> exact ⟨_, h, by omega⟩
  have k7 : ∃ u : Int, d7 = .int u ∧ 0 < u ∧ u.natAbs < 2 ^ 85 := by
    simp only [List.mem_cons, List.not_mem_nil, or_false] at m7
    rcases m7 with h | h | h | h | h | h | h <;> exact ⟨_, h, by omega, by omega⟩
  obtain ⟨t, rfl, ht⟩ := k4
  obtain ⟨u, rfl, hu0, hu⟩ := k7
  have rl := fun M => r_law_low t u hu0 (small hu (by omega)) M
  have lk : Low 105 (lowP t u) := low_low_ok hu0 (small ht (by omega)) (small hu (by omega))
  have mo : ∀ x : Int, x.natAbs < 2 ^ 101 → mulOk x (1 + x8) := fun x h => mulOk_of (n := 101) (m := 10) h (by omega)
  have w0 : 0 < 1 + x8 := by omega
  have us : 0 < u * (1 + x8) := Int.mul_pos hu0 w0
  have ub : (u * (1 + x8)).natAbs < 2 ^ 8000 := by
    have q1 : u * (1 + x8) ≤ u * 4 := Int.mul_le_mul_of_nonneg_left (by omega) (by omega)
    exact small (k := 90) (by omega) (by omega)
  have le : lowP (t * (1 + x8)) (u * (1 + x8)) = lowP t u := low_eq us hu0 (by rw [Int.mul_assoc, Int.mul_comm (1 + x8)])
  have nt := num_t (t := t * (1 + x8)) us ub
  have nl := num_l (t := t * (1 + x8)) us ub
  rw [le] at nt nl
  have tl : ∀ ds : List D, tupleD (.lst ds) = some (.tup ds) := fun _ => rfl
  have m1 := mulI_ok (mo t (by omega))
  have m2 := mulI_ok (mo u (by omega))
  have q1 : u * (1 + x8) ≤ u * 4 := Int.mul_le_mul_of_nonneg_left (by omega) (by omega)
  have ts : (t * (1 + x8)).natAbs < 2 ^ 1900 := by
    rw [Int.natAbs_mul]
    have : t.natAbs * (1 + x8).natAbs < 2 ^ 101 * 2 ^ 3 := Nat.mul_lt_mul_of_lt_of_lt ht (by omega)
    exact Nat.lt_trans this (by decide)
  have us2 : (u * (1 + x8)).natAbs < 2 ^ 1900 := small (k := 90) (by omega) (by omega)
  have si : Sh (.int t) 1 2 := (Sh.int (small ht (by omega))).mono (by omega) (by omega)
  have st : Sh (.tup [.int (t * (1 + x8)), .int (u * (1 + x8))]) 1 2 := Sh.tup (ShL.cons (Sh.int ts) (ShL.cons (Sh.int us2) .nil))
  have sl : Sh (.lst [.int (t * (1 + x8)), .int (u * (1 + x8))]) 1 2 := Sh.lst (ShL.cons (Sh.int ts) (ShL.cons (Sh.int us2) .nil))
  unfold φ__law_number m__law_number
  by_cases hA : u = 1
  · by_cases hB : x9 = 0
    · refine ⟨.int t, lowP t u, M9, ?_, lk, by rw [hA]; exact num_i t, p9.mono (by omega), si⟩
      simp only [e1, e2, e3, e4, e5, e6, e7, e8, e9, f6, f9, f25, f30, rl, decide_eq_true hA, decide_eq_true hB, le6, le7, DL.dFn, DL.dFi, DL.sSeq, DL.sSet, DL.sIf, DL.sRet, DL.sRetN, DL.sDrop, DL.sBind, DL.sAsg, DL.sPar, DL.sPar3, DL.sNext, DL.dC, DL.dVar, DL.dPeek, DL.dBind, DL.dOut, DL.dUn, DL.dBin, DL.dTru, DL.dNot, DL.dAndT, DL.dOrT, DL.dAndV, DL.dOrV, DL.dIfE, DL.aNil, DL.aCons, DL.aBind, DL.fits, DL.dApp, DL.dRet, DL.dTup, DL.dLst, DL.truD, DL.bName, DL.bTup, DL.bCons, DL.bNil, DL.pick_eq, DL.Src.get, List.filterMap_cons, List.filterMap_nil, List.getElem?_cons_zero, List.getElem?_cons_succ, List.length_cons, List.length_nil, List.set_cons_zero, List.set_cons_succ, List.map_cons, List.map_nil, List.cons_append, List.nil_append, List.append_nil, List.append_assoc, List.reduceReplicate, Nat.reduceAdd, Nat.reduceSub, Nat.reduceLeDiff, Nat.reduceEqDiff, ↓reduceIte, DL.subD, DL.mulD, DL.divD, DL.modD, DL.powD, DL.ltD, DL.leD, DL.gtD, DL.geD, DL.II, DL.subI, DL.cmpI, DL.negD, DL.addD_int, DL.ix_t0, DL.ix_t1, DL.ix_t2, DL.eqA_int, DL.eqA_pair, DL.intD_int, DL.intA_int, DL.intA_bl, DL.absD, DL.le1, DL.le2, DL.le3, DL.le4, DL.le5, DL.le8, DL.le9, Nat.zero_le, Bool.not_true, Bool.not_false, Bool.false_eq_true, DL.eqA_bl, eq_self, Int.reduceEq, Int.reduceLT, Int.reduceNeg, Bool.false_xor, Bool.true_xor, decide_true, decide_false, decide_eq_true_eq, and_self, DL.sRaise, DL.sApp, DL.sNew, DL.sTryE, DL.dAct, DL.dMkX, DL.dCallV, DL.nc0, DL.nc1, DL.nc2, DL.nc3, DL.nc4, DL.nc5, DL.nc6, DL.nc7, DL.nc8, DL.nc9, DL.nc10, DL.nc11, DL.nc12, DL.nc13, DL.nc14, DL.nc15, DL.nc16, DL.nc17, DL.nc18, DL.nc19, DL.nc20, Nat.reduceLT, DL.le6, DL.le7, DL.le10, DL.le11, DL.le12, DL.le13, DL.le14, DL.le15, DL.le16, DL.le17, DL.le18, DL.le19, DL.le20, DL.le21, DL.le22, DL.le23, DL.le24, DL.le25, DL.le26, DL.le27, DL.le28, DL.le29, DL.le30, DL.le31, DL.le32, DL.le33, DL.le34, DL.le35, DL.le36, DL.le37, DL.le38, DL.le39, DL.le40, DL.lt0, DL.lt1, DL.lt2, DL.lt3, DL.lt4, DL.lt5, DL.lt6, DL.lt7, DL.lt8, DL.lt9, DL.lt10, DL.lt11, DL.lt12, DL.lt13, DL.lt14, DL.lt15, DL.lt16, DL.lt17, DL.lt18, DL.lt19, DL.lt20, DL.lt21, DL.lt22, DL.lt23, DL.lt24, DL.lt25, DL.lt26, DL.lt27, DL.lt28, DL.lt29, DL.lt30, DL.lt31, DL.lt32, DL.lt33, DL.lt34, DL.lt35, DL.lt36, DL.lt37, DL.lt38, DL.lt39, DL.lt40]
    · by_cases hC : x0 = 0
      · refine ⟨.tup [.int (t * (1 + x8)), .int (u * (1 + x8))], lowP t u, M0, ?_, lk, nt, p0, st⟩
        simp only [e1, e2, e3, e4, e5, e6, e7, e8, e9, e0, f6, f9, f25, f30, rl, decide_eq_true hA, decide_eq_false hB, decide_eq_true hC, m1, m2, tl, le6, le7, DL.dFn, DL.dFi, DL.sSeq, DL.sSet, DL.sIf, DL.sRet, DL.sRetN, DL.sDrop, DL.sBind, DL.sAsg, DL.sPar, DL.sPar3, DL.sNext, DL.dC, DL.dVar, DL.dPeek, DL.dBind, DL.dOut, DL.dUn, DL.dBin, DL.dTru, DL.dNot, DL.dAndT, DL.dOrT, DL.dAndV, DL.dOrV, DL.dIfE, DL.aNil, DL.aCons, DL.aBind, DL.fits, DL.dApp, DL.dRet, DL.dTup, DL.dLst, DL.truD, DL.bName, DL.bTup, DL.bCons, DL.bNil, DL.pick_eq, DL.Src.get, List.filterMap_cons, List.filterMap_nil, List.getElem?_cons_zero, List.getElem?_cons_succ, List.length_cons, List.length_nil, List.set_cons_zero, List.set_cons_succ, List.map_cons, List.map_nil, List.cons_append, List.nil_append, List.append_nil, List.append_assoc, List.reduceReplicate, Nat.reduceAdd, Nat.reduceSub, Nat.reduceLeDiff, Nat.reduceEqDiff, ↓reduceIte, DL.subD, DL.mulD, DL.divD, DL.modD, DL.powD, DL.ltD, DL.leD, DL.gtD, DL.geD, DL.II, DL.subI, DL.cmpI, DL.negD, DL.addD_int, DL.ix_t0, DL.ix_t1, DL.ix_t2, DL.eqA_int, DL.eqA_pair, DL.intD_int, DL.intA_int, DL.intA_bl, DL.absD, DL.le1, DL.le2, DL.le3, DL.le4, DL.le5, DL.le8, DL.le9, Nat.zero_le, Bool.not_true, Bool.not_false, Bool.false_eq_true, DL.eqA_bl, eq_self, Int.reduceEq, Int.reduceLT, Int.reduceNeg, Bool.false_xor, Bool.true_xor, decide_true, decide_false, decide_eq_true_eq, and_self, DL.sRaise, DL.sApp, DL.sNew, DL.sTryE, DL.dAct, DL.dMkX, DL.dCallV, DL.nc0, DL.nc1, DL.nc2, DL.nc3, DL.nc4, DL.nc5, DL.nc6, DL.nc7, DL.nc8, DL.nc9, DL.nc10, DL.nc11, DL.nc12, DL.nc13, DL.nc14, DL.nc15, DL.nc16, DL.nc17, DL.nc18, DL.nc19, DL.nc20, Nat.reduceLT, DL.le6, DL.le7, DL.le10, DL.le11, DL.le12, DL.le13, DL.le14, DL.le15, DL.le16, DL.le17, DL.le18, DL.le19, DL.le20, DL.le21, DL.le22, DL.le23, DL.le24, DL.le25, DL.le26, DL.le27, DL.le28, DL.le29, DL.le30, DL.le31, DL.le32, DL.le33, DL.le34, DL.le35, DL.le36, DL.le37, DL.le38, DL.le39, DL.le40, DL.lt0, DL.lt1, DL.lt2, DL.lt3, DL.lt4, DL.lt5, DL.lt6, DL.lt7, DL.lt8, DL.lt9, DL.lt10, DL.lt11, DL.lt12, DL.lt13, DL.lt14, DL.lt15, DL.lt16, DL.lt17, DL.lt18, DL.lt19, DL.lt20, DL.lt21, DL.lt22, DL.lt23, DL.lt24, DL.lt25, DL.lt26, DL.lt27, DL.lt28, DL.lt29, DL.lt30, DL.lt31, DL.lt32, DL.lt33, DL.lt34, DL.lt35, DL.lt36, DL.lt37, DL.lt38, DL.lt39, DL.lt40]
      · refine ⟨.lst [.int (t * (1 + x8)), .int (u * (1 + x8))], lowP t u, M0, ?_, lk, nl, p0, sl⟩
        simp only [e1, e2, e3, e4, e5, e6, e7, e8, e9, e0, f6, f9, f25, f30, rl, decide_eq_true hA, decide_eq_false hB, decide_eq_false hC, m1, m2, tl, le6, le7, DL.dFn, DL.dFi, DL.sSeq, DL.sSet, DL.sIf, DL.sRet, DL.sRetN, DL.sDrop, DL.sBind, DL.sAsg, DL.sPar, DL.sPar3, DL.sNext, DL.dC, DL.dVar, DL.dPeek, DL.dBind, DL.dOut, DL.dUn, DL.dBin, DL.dTru, DL.dNot, DL.dAndT, DL.dOrT, DL.dAndV, DL.dOrV, DL.dIfE, DL.aNil, DL.aCons, DL.aBind, DL.fits, DL.dApp, DL.dRet, DL.dTup, DL.dLst, DL.truD, DL.bName, DL.bTup, DL.bCons, DL.bNil, DL.pick_eq, DL.Src.get, List.filterMap_cons, List.filterMap_nil, List.getElem?_cons_zero, List.getElem?_cons_succ, List.length_cons, List.length_nil, List.set_cons_zero, List.set_cons_succ, List.map_cons, List.map_nil, List.cons_append, List.nil_append, List.append_nil, List.append_assoc, List.reduceReplicate, Nat.reduceAdd, Nat.reduceSub, Nat.reduceLeDiff, Nat.reduceEqDiff, ↓reduceIte, DL.subD, DL.mulD, DL.divD, DL.modD, DL.powD, DL.ltD, DL.leD, DL.gtD, DL.geD, DL.II, DL.subI, DL.cmpI, DL.negD, DL.addD_int, DL.ix_t0, DL.ix_t1, DL.ix_t2, DL.eqA_int, DL.eqA_pair, DL.intD_int, DL.intA_int, DL.intA_bl, DL.absD, DL.le1, DL.le2, DL.le3, DL.le4, DL.le5, DL.le8, DL.le9, Nat.zero_le, Bool.not_true, Bool.not_false, Bool.false_eq_true, DL.eqA_bl, eq_self, Int.reduceEq, Int.reduceLT, Int.reduceNeg, Bool.false_xor, Bool.true_xor, decide_true, decide_false, decide_eq_true_eq, and_self, DL.sRaise, DL.sApp, DL.sNew, DL.sTryE, DL.dAct, DL.dMkX, DL.dCallV, DL.nc0, DL.nc1, DL.nc2, DL.nc3, DL.nc4, DL.nc5, DL.nc6, DL.nc7, DL.nc8, DL.nc9, DL.nc10, DL.nc11, DL.nc12, DL.nc13, DL.nc14, DL.nc15, DL.nc16, DL.nc17, DL.nc18, DL.nc19, DL.nc20, Nat.reduceLT, DL.le6, DL.le7, DL.le10, DL.le11, DL.le12, DL.le13, DL.le14, DL.le15, DL.le16, DL.le17, DL.le18, DL.le19, DL.le20, DL.le21, DL.le22, DL.le23, DL.le24, DL.le25, DL.le26, DL.le27, DL.le28, DL.le29, DL.le30, DL.le31, DL.le32, DL.le33, DL.le34, DL.le35, DL.le36, DL.le37, DL.le38, DL.le39, DL.le40, DL.lt0, DL.lt1, DL.lt2, DL.lt3, DL.lt4, DL.lt5, DL.lt6, DL.lt7, DL.lt8, DL.lt9, DL.lt10, DL.lt11, DL.lt12, DL.lt13, DL.lt14, DL.lt15, DL.lt16, DL.lt17, DL.lt18, DL.lt19, DL.lt20, DL.lt21, DL.lt22, DL.lt23, DL.lt24, DL.lt25, DL.lt26, DL.lt27, DL.lt28, DL.lt29, DL.lt30, DL.lt31, DL.lt32, DL.lt33, DL.lt34, DL.lt35, DL.lt36, DL.lt37, DL.lt38, DL.lt39, DL.lt40]
  · by_cases hB : x9 = 0
    · refine ⟨.tup [.int (t * (1 + x8)), .int (u * (1 + x8))], lowP t u, M9, ?_, lk, nt, p9.mono (by omega), st⟩
      simp only [e1, e2, e3, e4, e5, e6, e7, e8, e9, f6, f9, f25, f30, rl, decide_eq_false hA, decide_eq_true hB, m1, m2, tl, le6, le7, DL.dFn, DL.dFi, DL.sSeq, DL.sSet, DL.sIf, DL.sRet, DL.sRetN, DL.sDrop, DL.sBind, DL.sAsg, DL.sPar, DL.sPar3, DL.sNext, DL.dC, DL.dVar, DL.dPeek, DL.dBind, DL.dOut, DL.dUn, DL.dBin, DL.dTru, DL.dNot, DL.dAndT, DL.dOrT, DL.dAndV, DL.dOrV, DL.dIfE, DL.aNil, DL.aCons, DL.aBind, DL.fits, DL.dApp, DL.dRet, DL.dTup, DL.dLst, DL.truD, DL.bName, DL.bTup, DL.bCons, DL.bNil, DL.pick_eq, DL.Src.get, List.filterMap_cons, List.filterMap_nil, List.getElem?_cons_zero, List.getElem?_cons_succ, List.length_cons, List.length_nil, List.set_cons_zero, List.set_cons_succ, List.map_cons, List.map_nil, List.cons_append, List.nil_append, List.append_nil, List.append_assoc, List.reduceReplicate, Nat.reduceAdd, Nat.reduceSub, Nat.reduceLeDiff, Nat.reduceEqDiff, ↓reduceIte, DL.subD, DL.mulD, DL.divD, DL.modD, DL.powD, DL.ltD, DL.leD, DL.gtD, DL.geD, DL.II, DL.subI, DL.cmpI, DL.negD, DL.addD_int, DL.ix_t0, DL.ix_t1, DL.ix_t2, DL.eqA_int, DL.eqA_pair, DL.intD_int, DL.intA_int, DL.intA_bl, DL.absD, DL.le1, DL.le2, DL.le3, DL.le4, DL.le5, DL.le8, DL.le9, Nat.zero_le, Bool.not_true, Bool.not_false, Bool.false_eq_true, DL.eqA_bl, eq_self, Int.reduceEq, Int.reduceLT, Int.reduceNeg, Bool.false_xor, Bool.true_xor, decide_true, decide_false, decide_eq_true_eq, and_self, DL.sRaise, DL.sApp, DL.sNew, DL.sTryE, DL.dAct, DL.dMkX, DL.dCallV, DL.nc0, DL.nc1, DL.nc2, DL.nc3, DL.nc4, DL.nc5, DL.nc6, DL.nc7, DL.nc8, DL.nc9, DL.nc10, DL.nc11, DL.nc12, DL.nc13, DL.nc14, DL.nc15, DL.nc16, DL.nc17, DL.nc18, DL.nc19, DL.nc20, Nat.reduceLT, DL.le6, DL.le7, DL.le10, DL.le11, DL.le12, DL.le13, DL.le14, DL.le15, DL.le16, DL.le17, DL.le18, DL.le19, DL.le20, DL.le21, DL.le22, DL.le23, DL.le24, DL.le25, DL.le26, DL.le27, DL.le28, DL.le29, DL.le30, DL.le31, DL.le32, DL.le33, DL.le34, DL.le35, DL.le36, DL.le37, DL.le38, DL.le39, DL.le40, DL.lt0, DL.lt1, DL.lt2, DL.lt3, DL.lt4, DL.lt5, DL.lt6, DL.lt7, DL.lt8, DL.lt9, DL.lt10, DL.lt11, DL.lt12, DL.lt13, DL.lt14, DL.lt15, DL.lt16, DL.lt17, DL.lt18, DL.lt19, DL.lt20, DL.lt21, DL.lt22, DL.lt23, DL.lt24, DL.lt25, DL.lt26, DL.lt27, DL.lt28, DL.lt29, DL.lt30, DL.lt31, DL.lt32, DL.lt33, DL.lt34, DL.lt35, DL.lt36, DL.lt37, DL.lt38, DL.lt39, DL.lt40]
    · refine ⟨.lst [.int (t * (1 + x8)), .int (u * (1 + x8))], lowP t u, M9, ?_, lk, nl, p9.mono (by omega), sl⟩
      simp only [e1, e2, e3, e4, e5, e6, e7, e8, e9, f6, f9, f25, f30, rl, decide_eq_false hA, decide_eq_false hB, m1, m2, tl, le6, le7, DL.dFn, DL.dFi, DL.sSeq, DL.sSet, DL.sIf, DL.sRet, DL.sRetN, DL.sDrop, DL.sBind, DL.sAsg, DL.sPar, DL.sPar3, DL.sNext, DL.dC, DL.dVar, DL.dPeek, DL.dBind, DL.dOut, DL.dUn, DL.dBin, DL.dTru, DL.dNot, DL.dAndT, DL.dOrT, DL.dAndV, DL.dOrV, DL.dIfE, DL.aNil, DL.aCons, DL.aBind, DL.fits, DL.dApp, DL.dRet, DL.dTup, DL.dLst, DL.truD, DL.bName, DL.bTup, DL.bCons, DL.bNil, DL.pick_eq, DL.Src.get, List.filterMap_cons, List.filterMap_nil, List.getElem?_cons_zero, List.getElem?_cons_succ, List.length_cons, List.length_nil, List.set_cons_zero, List.set_cons_succ, List.map_cons, List.map_nil, List.cons_append, List.nil_append, List.append_nil, List.append_assoc, List.reduceReplicate, Nat.reduceAdd, Nat.reduceSub, Nat.reduceLeDiff, Nat.reduceEqDiff, ↓reduceIte, DL.subD, DL.mulD, DL.divD, DL.modD, DL.powD, DL.ltD, DL.leD, DL.gtD, DL.geD, DL.II, DL.subI, DL.cmpI, DL.negD, DL.addD_int, DL.ix_t0, DL.ix_t1, DL.ix_t2, DL.eqA_int, DL.eqA_pair, DL.intD_int, DL.intA_int, DL.intA_bl, DL.absD, DL.le1, DL.le2, DL.le3, DL.le4, DL.le5, DL.le8, DL.le9, Nat.zero_le, Bool.not_true, Bool.not_false, Bool.false_eq_true, DL.eqA_bl, eq_self, Int.reduceEq, Int.reduceLT, Int.reduceNeg, Bool.false_xor, Bool.true_xor, decide_true, decide_false, decide_eq_true_eq, and_self, DL.sRaise, DL.sApp, DL.sNew, DL.sTryE, DL.dAct, DL.dMkX, DL.dCallV, DL.nc0, DL.nc1, DL.nc2, DL.nc3, DL.nc4, DL.nc5, DL.nc6, DL.nc7, DL.nc8, DL.nc9, DL.nc10, DL.nc11, DL.nc12, DL.nc13, DL.nc14, DL.nc15, DL.nc16, DL.nc17, DL.nc18, DL.nc19, DL.nc20, Nat.reduceLT, DL.le6, DL.le7, DL.le10, DL.le11, DL.le12, DL.le13, DL.le14, DL.le15, DL.le16, DL.le17, DL.le18, DL.le19, DL.le20, DL.le21, DL.le22, DL.le23, DL.le24, DL.le25, DL.le26, DL.le27, DL.le28, DL.le29, DL.le30, DL.le31, DL.le32, DL.le33, DL.le34, DL.le35, DL.le36, DL.le37, DL.le38, DL.le39, DL.le40, DL.lt0, DL.lt1, DL.lt2, DL.lt3, DL.lt4, DL.lt5, DL.lt6, DL.lt7, DL.lt8, DL.lt9, DL.lt10, DL.lt11, DL.lt12, DL.lt13, DL.lt14, DL.lt15, DL.lt16, DL.lt17, DL.lt18, DL.lt19, DL.lt20, DL.lt21, DL.lt22, DL.lt23, DL.lt24, DL.lt25, DL.lt26, DL.lt27, DL.lt28, DL.lt29, DL.lt30, DL.lt31, DL.lt32, DL.lt33, DL.lt34, DL.lt35, DL.lt36, DL.lt37, DL.lt38, DL.lt39, DL.lt40]
theorem r_law_number (n : Nat) (hn : n ≤ 9000) (M : MS) (hM : PenOk n M) : ∃ (raw : D) (p : Int × Int) (M' : MS), φ__law_number [.obj 0] M = some (.ret (.tup [raw, P2 p]) M') ∧ Low 105 p ∧ Num raw p ∧ PenOk (n + 10) M' :=
  let ⟨raw, p, M', e, L, N, q, _⟩ := r_law_number2 n hn M hM
  ⟨raw, p, M', e, L, N, q⟩
theorem r_pen (ns : List Int) (hl : ns.length ≤ 63) : ∃ M, φ__law_pen [.scr (ns.map D.int)] [] = some (.ret (.obj 0) M) ∧ PenOk 0 M := by
  obtain ⟨cs, hcs, hlen⟩ : ∃ cs : List Int, DL.cutD (ns.map D.int) none (some 63) = cs.map D.int ∧ cs.length ≤ 63 := by
    refine ⟨(ns.drop (HT.sIx (ns.map D.int).length 0 none)).take (HT.sIx (ns.map D.int).length (ns.map D.int).length (some 63) - HT.sIx (ns.map D.int).length 0 none), ?_, ?_⟩
    · unfold DL.cutD
      rw [List.map_take, List.map_drop]
    · rw [List.length_take, List.length_drop]
      omega
  have k : k0__law_pen [some (.t (.scr (ns.map D.int))), none] [] = some (.ok (.lst (cs.map D.int)) [some (.t (.scr (ns.map D.int))), none] []) := by
    have h := comp_map (vs := [1]) (b := bName 1) (u := dUn intA (dPeek 1)) (M := []) (M1 := []) (ρ := [some (.t (.scr (ns.map D.int))), none]) (ρ1 := [some (.t (.scr (ns.map D.int))), none]) (ds := cs.map D.int)
      (src := iBind (dSl (dPeek 0) none (some (dC (.int 63)))) itemsD) (fun d => d) (seq_eq (d := .lst (cs.map D.int)) (by
        rw [← hcs]
        rfl) rfl) rfl (by decide) (line_nat (by rw [List.length_map]; omega)) (fun x hx => by
        obtain ⟨i, _, rfl⟩ := List.mem_map.mp hx
        exact ⟨_, rfl, rfl⟩)
    rw [List.map_id'] at h
    exact h
  refine ⟨[penO cs 0 0], ?_, ⟨cs, 0, 0, rfl, hlen, by omega, by omega, by omega⟩⟩
  unfold φ__law_pen m__law_pen
  refine dFn_rt rfl ?_
  show sRetObj (aCons k0__law_pen (aCons (dC (.int 0)) (aCons (dC (.int 0)) aNil))) [some (.t (.scr (ns.map D.int))), none] [] = _
  have a : aCons k0__law_pen (aCons (dC (.int 0)) (aCons (dC (.int 0)) aNil)) [some (.t (.scr (ns.map D.int))), none] [] = some (.ok [.lst (cs.map D.int), .int 0, .int 0] [some (.t (.scr (ns.map D.int))), none] []) := by
    unfold aCons
    rw [k]
    rfl
  unfold sRetObj
  rw [a]
  show (if 3 ≤ sizeLine then _ else none) = _
  rw [if_pos (line_nat (by decide))]
  rfl
end L05
set_option maxHeartbeats 2000000
set_option exponentiation.threshold 4000
namespace L05
open PySem PySem.Spec PyProof.Rows L2 DL PA
/-! ### texts by their signs -/
abbrev T (l : List Nat) : D := .str (SX.S l)
def figs (l : List Nat) : Bool := l.all fun c => decide (48 ≤ c) && decide (c ≤ 57)
def bodyL (b : Bool) (l : List Nat) : List Nat := if b = true ∧ l.take 1 = [45] then l.drop 1 else l
def IF (b : Bool) (l : List Nat) : Option Int :=
  if bodyL b l = [] ∨ figs (bodyL b l) = false ∨ ((bodyL b l).head? = some 48 ∧ l ≠ [48]) then none
  else some (if bodyL b l = l then ((NumText.digitsVal l : Nat) : Int) else -((NumText.digitsVal (bodyL b l) : Nat) : Int))
def OI : Option Int → D
  | none => .non
  | some i => .int i
theorem in_fig (c : Nat) : inA false (T [c]) (.str "0123456789") = some (.bl (figs [c])) := by
  show some (D.bl (xor false (!(Builtin.Str.occurrences (SX.S [48, 49, 50, 51, 52, 53, 54, 55, 56, 57]) (SX.S [c]) 0 (SX.S [48, 49, 50, 51, 52, 53, 54, 55, 56, 57]).length 1).isEmpty))) = _
  rw [SX.in_one, Bool.false_xor]
  have e : decide (c ∈ [48, 49, 50, 51, 52, 53, 54, 55, 56, 57]) = figs [c] := by
    unfold figs
    rw [Bool.eq_iff_iff]
    simp only [decide_eq_true_eq, List.mem_cons, List.not_mem_nil, or_false, List.all_cons, List.all_nil, Bool.and_true, Bool.and_eq_true]
    omega
  rw [e]
def figD : D → D
  | .str s => .bl (figs s.cps.toList)
  | _ => .non
theorem bools_fig : ∀ l : List Nat, boolsOf ((l.map fun c => (.str ⟨#[c]⟩ : D)).map figD) = some (l.map fun c => figs [c])
  | [] => rfl
  | c :: r => by
    have ih := bools_fig r
    simp only [List.map_cons] at ih ⊢
    show (match boolsOf _ with | _ => _) = _
    simp only [boolsOf, figD, ih]
    rfl
theorem figs_cons (c : Nat) (r : List Nat) : figs (c :: r) = (figs [c] && figs r) := by
  unfold figs
  simp only [List.all_cons, List.all_nil, Bool.and_true]
theorem figs_all : ∀ l : List Nat, (l.map fun c => figs [c]).all id = figs l
  | [] => rfl
  | c :: r => by
    rw [figs_cons, ← figs_all r]
    rfl
theorem all_fig (l : List Nat) : allD (.lst ((signsD (SX.S l)).map figD)) = some (.bl (figs l)) := by
  unfold allD signsD
  simp only [bools_fig, figs_all]
theorem k_fig (x y : D) (l : List Nat) (hl : l.length ≤ 1000) (M : MS) : k0_integer_from [some (.t x), some (.t y), some (.t (T l)), none] M = some (.ok (.lst ((signsD (SX.S l)).map figD)) [some (.t x), some (.t y), some (.t (T l)), none] M) := by
  unfold k0_integer_from
  refine comp_map figD ?_ rfl (by decide) (line_nat (by unfold signsD; simp; omega)) fun d hd => ?_
  · rfl
  · unfold signsD at hd
    obtain ⟨c, _, rfl⟩ := List.mem_map.mp hd
    refine ⟨_, rfl, ?_⟩
    show (dBin (inA false) (dPeek 3) (dC (.str "0123456789"))) [some (.t x), some (.t y), some (.t (T l)), some (.t (T [c]))] M = _
    have e := in_fig c
    simp only [e, DL.dFn, DL.dFi, DL.sSeq, DL.sSet, DL.sIf, DL.sRet, DL.sRetN, DL.sDrop, DL.sBind, DL.sAsg, DL.sPar, DL.sPar3, DL.sNext, DL.dC, DL.dVar, DL.dPeek, DL.dBind, DL.dOut, DL.dUn, DL.dBin, DL.dTru, DL.dNot, DL.dAndT, DL.dOrT, DL.dAndV, DL.dOrV, DL.dIfE, DL.aNil, DL.aCons, DL.aBind, DL.fits, DL.dApp, DL.dRet, DL.dTup, DL.dLst, DL.truD, DL.bName, DL.bTup, DL.bCons, DL.bNil, DL.pick_eq, DL.Src.get, List.filterMap_cons, List.filterMap_nil, List.getElem?_cons_zero, List.getElem?_cons_succ, List.length_cons, List.length_nil, List.set_cons_zero, List.set_cons_succ, List.map_cons, List.map_nil, List.cons_append, List.nil_append, List.append_nil, List.append_assoc, List.reduceReplicate, Nat.reduceAdd, Nat.reduceSub, Nat.reduceLeDiff, Nat.reduceEqDiff, ↓reduceIte, DL.subD, DL.mulD, DL.divD, DL.modD, DL.powD, DL.ltD, DL.leD, DL.gtD, DL.geD, DL.II, DL.subI, DL.cmpI, DL.negD, DL.addD_int, DL.ix_t0, DL.ix_t1, DL.ix_t2, DL.eqA_int, DL.eqA_pair, DL.intD_int, DL.intA_int, DL.intA_bl, DL.absD, DL.le1, DL.le2, DL.le3, DL.le4, DL.le5, DL.le8, DL.le9, Nat.zero_le, Bool.not_true, Bool.not_false, Bool.false_eq_true, DL.eqA_bl, eq_self, Int.reduceEq, Int.reduceLT, Int.reduceNeg, Bool.false_xor, Bool.true_xor, decide_true, decide_false, decide_eq_true_eq, and_self, DL.sRaise, DL.sApp, DL.sNew, DL.sTryE, DL.dAct, DL.dMkX, DL.dCallV, DL.nc0, DL.nc1, DL.nc2, DL.nc3, DL.nc4, DL.nc5, DL.nc6, DL.nc7, DL.nc8, DL.nc9, DL.nc10, DL.nc11, DL.nc12, DL.nc13, DL.nc14, DL.nc15, DL.nc16, DL.nc17, DL.nc18, DL.nc19, DL.nc20, Nat.reduceLT, DL.le6, DL.le7, DL.le10, DL.le11, DL.le12, DL.le13, DL.le14, DL.le15, DL.le16, DL.le17, DL.le18, DL.le19, DL.le20, DL.le21, DL.le22, DL.le23, DL.le24, DL.le25, DL.le26, DL.le27, DL.le28, DL.le29, DL.le30, DL.le31, DL.le32, DL.le33, DL.le34, DL.le35, DL.le36, DL.le37, DL.le38, DL.le39, DL.le40, DL.lt0, DL.lt1, DL.lt2, DL.lt3, DL.lt4, DL.lt5, DL.lt6, DL.lt7, DL.lt8, DL.lt9, DL.lt10, DL.lt11, DL.lt12, DL.lt13, DL.lt14, DL.lt15, DL.lt16, DL.lt17, DL.lt18, DL.lt19, DL.lt20, DL.lt21, DL.lt22, DL.lt23, DL.lt24, DL.lt25, DL.lt26, DL.lt27, DL.lt28, DL.lt29, DL.lt30, DL.lt31, DL.lt32, DL.lt33, DL.lt34, DL.lt35, DL.lt36, DL.lt37, DL.lt38, DL.lt39, DL.lt40]
    rfl
/-! ### the slices, the signs -/
theorem T_nil : (D.str "" : D) = T [] := rfl
theorem T_minus : (D.str "-" : D) = T [45] := rfl
theorem T_zero : (D.str "0" : D) = T [48] := rfl
theorem T_slash : (D.str "/" : D) = T [47] := rfl
theorem eq_T {n : Bool} {a b : List Nat} : eqA n (T a) (T b) = some (.bl (xor n (decide (a = b)))) := by
  rw [eqA_str]
  by_cases h : a = b
  · subst h
    rw [decide_eq_true rfl, decide_eq_true rfl]
  · rw [decide_eq_false h, decide_eq_false fun e => h (SX.S_inj e)]
theorem sl_to1 {l : List Nat} (hl : l.length ≤ 1000) : slD (T l) none (some 1) = some (T (l.take 1)) := by
  unfold slD
  simp only
  rw [if_pos (by rw [SX.S_len]; exact line_nat (by omega)), C8.cutS_slice, SX.slice_to (by decide)]
  rfl
theorem sl_from1 {l : List Nat} (hl : l.length ≤ 1000) : slD (T l) (some 1) none = some (T (l.drop 1)) := by
  unfold slD
  simp only
  rw [if_pos (by rw [SX.S_len]; exact line_nat (by omega)), C8.cutS_slice, SX.slice_from (by decide)]
  rfl
theorem at0 {c : Nat} {l : List Nat} : L2.atI (c :: l) 0 = some c := by
  unfold L2.atI L2.ixN
  rw [if_pos (by decide), if_pos (by simp only [List.length_cons]; omega)]
  rfl
theorem ix_T0 {c : Nat} {l : List Nat} (hl : (c :: l).length ≤ 1000) : ixD (T (c :: l)) (.int 0) = some (T [c]) := by
  unfold ixD
  simp only
  rw [if_pos (by rw [SX.S_len]; exact line_nat (by omega))]
  show (L2.atI (c :: l) 0).map _ = _
  rw [at0]
  rfl
theorem figs_dig {l : List Nat} (h : figs l = true) : NumText.AllDigits l := fun c hc => by
  have := List.all_eq_true.mp h c hc
  simpa using this
theorem int_T {l : List Nat} (h : figs l = true) (hne : l ≠ []) (hl : l.length ≤ 1000) : intAW (T l) = some (.int ((NumText.digitsVal l : Nat) : Int)) := by
  show ((none : Option D).orElse fun _ => intSW (T l)) = _
  show intSW (T l) = _
  unfold intSW
  simp only
  rw [if_pos (by rw [SX.S_len]; exact line_nat (by omega)), PySem.intText_digits (figs_dig h) hne (by rw [SX.S_len]; omega)]
  rfl
theorem int_Tn {l : List Nat} (h : figs l = true) (hne : l ≠ []) (hl : l.length ≤ 1000) : intAW (T (45 :: l)) = some (.int (-((NumText.digitsVal l : Nat) : Int))) := by
  show intSW (T (45 :: l)) = _
  unfold intSW
  simp only
  rw [if_pos (by rw [SX.S_len]; exact line_nat (by simp; omega)), PySem.intText_neg (cs := l) rfl (figs_dig h) hne (by rw [SX.S_len]; simp; omega)]
  rfl
theorem body_len {b : Bool} {l : List Nat} (hl : l.length ≤ 1000) : (bodyL b l).length ≤ 1000 := by
  unfold bodyL
  split
  · rw [List.length_drop]; omega
  · exact hl
theorem r_integer_from (b : Bool) (l : List Nat) (hl : l.length ≤ 1000) (M : MS) : φ_integer_from [T l, .bl b] M = some (.ret (OI (IF b l)) M) := by
  have k := fun y => k_fig (T l) y (bodyL b l) (body_len hl) M
  have h1 : sSet 2 (dIfE (dAndT (dTru (dPeek 1)) (dBin (eqA false) (dSl (dPeek 0) none (some (dC (.int 1)))) (dC (.str "-")))) (dSl (dPeek 0) (some (dC (.int 1))) none) (dVar 0)) [some (.t (T l)), some (.t (.bl b)), none, none] M = some (.nx [some (.t (T l)), some (.t (.bl b)), some (.t (T (bodyL b l))), none] M) := by
    unfold bodyL
    cases b with
    | false =>
      simp only [Bool.false_eq_true, false_and, if_false]
      simp only [T_minus, DL.dFn, DL.dFi, DL.sSeq, DL.sSet, DL.sIf, DL.sRet, DL.sRetN, DL.sDrop, DL.sBind, DL.sAsg, DL.sPar, DL.sPar3, DL.sNext, DL.dC, DL.dVar, DL.dPeek, DL.dBind, DL.dOut, DL.dUn, DL.dBin, DL.dTru, DL.dNot, DL.dAndT, DL.dOrT, DL.dAndV, DL.dOrV, DL.dIfE, DL.aNil, DL.aCons, DL.aBind, DL.fits, DL.dApp, DL.dRet, DL.dTup, DL.dLst, DL.truD, DL.bName, DL.bTup, DL.bCons, DL.bNil, DL.pick_eq, DL.Src.get, List.filterMap_cons, List.filterMap_nil, List.getElem?_cons_zero, List.getElem?_cons_succ, List.length_cons, List.length_nil, List.set_cons_zero, List.set_cons_succ, List.map_cons, List.map_nil, List.cons_append, List.nil_append, List.append_nil, List.append_assoc, List.reduceReplicate, Nat.reduceAdd, Nat.reduceSub, Nat.reduceLeDiff, Nat.reduceEqDiff, ↓reduceIte, DL.subD, DL.mulD, DL.divD, DL.modD, DL.powD, DL.ltD, DL.leD, DL.gtD, DL.geD, DL.II, DL.subI, DL.cmpI, DL.negD, DL.addD_int, DL.ix_t0, DL.ix_t1, DL.ix_t2, DL.eqA_int, DL.eqA_pair, DL.intD_int, DL.intA_int, DL.intA_bl, DL.absD, DL.le1, DL.le2, DL.le3, DL.le4, DL.le5, DL.le8, DL.le9, Nat.zero_le, Bool.not_true, Bool.not_false, Bool.false_eq_true, DL.eqA_bl, eq_self, Int.reduceEq, Int.reduceLT, Int.reduceNeg, Bool.false_xor, Bool.true_xor, decide_true, decide_false, decide_eq_true_eq, and_self, DL.sRaise, DL.sApp, DL.sNew, DL.sTryE, DL.dAct, DL.dMkX, DL.dCallV, DL.nc0, DL.nc1, DL.nc2, DL.nc3, DL.nc4, DL.nc5, DL.nc6, DL.nc7, DL.nc8, DL.nc9, DL.nc10, DL.nc11, DL.nc12, DL.nc13, DL.nc14, DL.nc15, DL.nc16, DL.nc17, DL.nc18, DL.nc19, DL.nc20, Nat.reduceLT, DL.le6, DL.le7, DL.le10, DL.le11, DL.le12, DL.le13, DL.le14, DL.le15, DL.le16, DL.le17, DL.le18, DL.le19, DL.le20, DL.le21, DL.le22, DL.le23, DL.le24, DL.le25, DL.le26, DL.le27, DL.le28, DL.le29, DL.le30, DL.le31, DL.le32, DL.le33, DL.le34, DL.le35, DL.le36, DL.le37, DL.le38, DL.le39, DL.le40, DL.lt0, DL.lt1, DL.lt2, DL.lt3, DL.lt4, DL.lt5, DL.lt6, DL.lt7, DL.lt8, DL.lt9, DL.lt10, DL.lt11, DL.lt12, DL.lt13, DL.lt14, DL.lt15, DL.lt16, DL.lt17, DL.lt18, DL.lt19, DL.lt20, DL.lt21, DL.lt22, DL.lt23, DL.lt24, DL.lt25, DL.lt26, DL.lt27, DL.lt28, DL.lt29, DL.lt30, DL.lt31, DL.lt32, DL.lt33, DL.lt34, DL.lt35, DL.lt36, DL.lt37, DL.lt38, DL.lt39, DL.lt40]
    | true =>
      by_cases z : l.take 1 = [45]
      · simp only [z, and_self, if_true]
        simp only [dSl, T_minus, sl_to1 hl, sl_from1 hl, eq_T, z, DL.dFn, DL.dFi, DL.sSeq, DL.sSet, DL.sIf, DL.sRet, DL.sRetN, DL.sDrop, DL.sBind, DL.sAsg, DL.sPar, DL.sPar3, DL.sNext, DL.dC, DL.dVar, DL.dPeek, DL.dBind, DL.dOut, DL.dUn, DL.dBin, DL.dTru, DL.dNot, DL.dAndT, DL.dOrT, DL.dAndV, DL.dOrV, DL.dIfE, DL.aNil, DL.aCons, DL.aBind, DL.fits, DL.dApp, DL.dRet, DL.dTup, DL.dLst, DL.truD, DL.bName, DL.bTup, DL.bCons, DL.bNil, DL.pick_eq, DL.Src.get, List.filterMap_cons, List.filterMap_nil, List.getElem?_cons_zero, List.getElem?_cons_succ, List.length_cons, List.length_nil, List.set_cons_zero, List.set_cons_succ, List.map_cons, List.map_nil, List.cons_append, List.nil_append, List.append_nil, List.append_assoc, List.reduceReplicate, Nat.reduceAdd, Nat.reduceSub, Nat.reduceLeDiff, Nat.reduceEqDiff, ↓reduceIte, DL.subD, DL.mulD, DL.divD, DL.modD, DL.powD, DL.ltD, DL.leD, DL.gtD, DL.geD, DL.II, DL.subI, DL.cmpI, DL.negD, DL.addD_int, DL.ix_t0, DL.ix_t1, DL.ix_t2, DL.eqA_int, DL.eqA_pair, DL.intD_int, DL.intA_int, DL.intA_bl, DL.absD, DL.le1, DL.le2, DL.le3, DL.le4, DL.le5, DL.le8, DL.le9, Nat.zero_le, Bool.not_true, Bool.not_false, Bool.false_eq_true, DL.eqA_bl, eq_self, Int.reduceEq, Int.reduceLT, Int.reduceNeg, Bool.false_xor, Bool.true_xor, decide_true, decide_false, decide_eq_true_eq, and_self, DL.sRaise, DL.sApp, DL.sNew, DL.sTryE, DL.dAct, DL.dMkX, DL.dCallV, DL.nc0, DL.nc1, DL.nc2, DL.nc3, DL.nc4, DL.nc5, DL.nc6, DL.nc7, DL.nc8, DL.nc9, DL.nc10, DL.nc11, DL.nc12, DL.nc13, DL.nc14, DL.nc15, DL.nc16, DL.nc17, DL.nc18, DL.nc19, DL.nc20, Nat.reduceLT, DL.le6, DL.le7, DL.le10, DL.le11, DL.le12, DL.le13, DL.le14, DL.le15, DL.le16, DL.le17, DL.le18, DL.le19, DL.le20, DL.le21, DL.le22, DL.le23, DL.le24, DL.le25, DL.le26, DL.le27, DL.le28, DL.le29, DL.le30, DL.le31, DL.le32, DL.le33, DL.le34, DL.le35, DL.le36, DL.le37, DL.le38, DL.le39, DL.le40, DL.lt0, DL.lt1, DL.lt2, DL.lt3, DL.lt4, DL.lt5, DL.lt6, DL.lt7, DL.lt8, DL.lt9, DL.lt10, DL.lt11, DL.lt12, DL.lt13, DL.lt14, DL.lt15, DL.lt16, DL.lt17, DL.lt18, DL.lt19, DL.lt20, DL.lt21, DL.lt22, DL.lt23, DL.lt24, DL.lt25, DL.lt26, DL.lt27, DL.lt28, DL.lt29, DL.lt30, DL.lt31, DL.lt32, DL.lt33, DL.lt34, DL.lt35, DL.lt36, DL.lt37, DL.lt38, DL.lt39, DL.lt40]
      · simp only [z, and_false, if_false]
        simp only [dSl, T_minus, sl_to1 hl, eq_T, z, DL.dFn, DL.dFi, DL.sSeq, DL.sSet, DL.sIf, DL.sRet, DL.sRetN, DL.sDrop, DL.sBind, DL.sAsg, DL.sPar, DL.sPar3, DL.sNext, DL.dC, DL.dVar, DL.dPeek, DL.dBind, DL.dOut, DL.dUn, DL.dBin, DL.dTru, DL.dNot, DL.dAndT, DL.dOrT, DL.dAndV, DL.dOrV, DL.dIfE, DL.aNil, DL.aCons, DL.aBind, DL.fits, DL.dApp, DL.dRet, DL.dTup, DL.dLst, DL.truD, DL.bName, DL.bTup, DL.bCons, DL.bNil, DL.pick_eq, DL.Src.get, List.filterMap_cons, List.filterMap_nil, List.getElem?_cons_zero, List.getElem?_cons_succ, List.length_cons, List.length_nil, List.set_cons_zero, List.set_cons_succ, List.map_cons, List.map_nil, List.cons_append, List.nil_append, List.append_nil, List.append_assoc, List.reduceReplicate, Nat.reduceAdd, Nat.reduceSub, Nat.reduceLeDiff, Nat.reduceEqDiff, ↓reduceIte, DL.subD, DL.mulD, DL.divD, DL.modD, DL.powD, DL.ltD, DL.leD, DL.gtD, DL.geD, DL.II, DL.subI, DL.cmpI, DL.negD, DL.addD_int, DL.ix_t0, DL.ix_t1, DL.ix_t2, DL.eqA_int, DL.eqA_pair, DL.intD_int, DL.intA_int, DL.intA_bl, DL.absD, DL.le1, DL.le2, DL.le3, DL.le4, DL.le5, DL.le8, DL.le9, Nat.zero_le, Bool.not_true, Bool.not_false, Bool.false_eq_true, DL.eqA_bl, eq_self, Int.reduceEq, Int.reduceLT, Int.reduceNeg, Bool.false_xor, Bool.true_xor, decide_true, decide_false, decide_eq_true_eq, and_self, DL.sRaise, DL.sApp, DL.sNew, DL.sTryE, DL.dAct, DL.dMkX, DL.dCallV, DL.nc0, DL.nc1, DL.nc2, DL.nc3, DL.nc4, DL.nc5, DL.nc6, DL.nc7, DL.nc8, DL.nc9, DL.nc10, DL.nc11, DL.nc12, DL.nc13, DL.nc14, DL.nc15, DL.nc16, DL.nc17, DL.nc18, DL.nc19, DL.nc20, Nat.reduceLT, DL.le6, DL.le7, DL.le10, DL.le11, DL.le12, DL.le13, DL.le14, DL.le15, DL.le16, DL.le17, DL.le18, DL.le19, DL.le20, DL.le21, DL.le22, DL.le23, DL.le24, DL.le25, DL.le26, DL.le27, DL.le28, DL.le29, DL.le30, DL.le31, DL.le32, DL.le33, DL.le34, DL.le35, DL.le36, DL.le37, DL.le38, DL.le39, DL.le40, DL.lt0, DL.lt1, DL.lt2, DL.lt3, DL.lt4, DL.lt5, DL.lt6, DL.lt7, DL.lt8, DL.lt9, DL.lt10, DL.lt11, DL.lt12, DL.lt13, DL.lt14, DL.lt15, DL.lt16, DL.lt17, DL.lt18, DL.lt19, DL.lt20, DL.lt21, DL.lt22, DL.lt23, DL.lt24, DL.lt25, DL.lt26, DL.lt27, DL.lt28, DL.lt29, DL.lt30, DL.lt31, DL.lt32, DL.lt33, DL.lt34, DL.lt35, DL.lt36, DL.lt37, DL.lt38, DL.lt39, DL.lt40]
  unfold φ_integer_from m_integer_from
  refine dFn_rt rfl ?_
  refine Eq.trans (seq_nx h1) ?_
  generalize hB : bodyL b l = B at *
  unfold IF
  rw [hB]
  by_cases e0 : B = []
  · rw [if_pos (.inl e0)]
    subst e0
    simp only [T_nil, eq_T, DL.dFn, DL.dFi, DL.sSeq, DL.sSet, DL.sIf, DL.sRet, DL.sRetN, DL.sDrop, DL.sBind, DL.sAsg, DL.sPar, DL.sPar3, DL.sNext, DL.dC, DL.dVar, DL.dPeek, DL.dBind, DL.dOut, DL.dUn, DL.dBin, DL.dTru, DL.dNot, DL.dAndT, DL.dOrT, DL.dAndV, DL.dOrV, DL.dIfE, DL.aNil, DL.aCons, DL.aBind, DL.fits, DL.dApp, DL.dRet, DL.dTup, DL.dLst, DL.truD, DL.bName, DL.bTup, DL.bCons, DL.bNil, DL.pick_eq, DL.Src.get, List.filterMap_cons, List.filterMap_nil, List.getElem?_cons_zero, List.getElem?_cons_succ, List.length_cons, List.length_nil, List.set_cons_zero, List.set_cons_succ, List.map_cons, List.map_nil, List.cons_append, List.nil_append, List.append_nil, List.append_assoc, List.reduceReplicate, Nat.reduceAdd, Nat.reduceSub, Nat.reduceLeDiff, Nat.reduceEqDiff, ↓reduceIte, DL.subD, DL.mulD, DL.divD, DL.modD, DL.powD, DL.ltD, DL.leD, DL.gtD, DL.geD, DL.II, DL.subI, DL.cmpI, DL.negD, DL.addD_int, DL.ix_t0, DL.ix_t1, DL.ix_t2, DL.eqA_int, DL.eqA_pair, DL.intD_int, DL.intA_int, DL.intA_bl, DL.absD, DL.le1, DL.le2, DL.le3, DL.le4, DL.le5, DL.le8, DL.le9, Nat.zero_le, Bool.not_true, Bool.not_false, Bool.false_eq_true, DL.eqA_bl, eq_self, Int.reduceEq, Int.reduceLT, Int.reduceNeg, Bool.false_xor, Bool.true_xor, decide_true, decide_false, decide_eq_true_eq, and_self, DL.sRaise, DL.sApp, DL.sNew, DL.sTryE, DL.dAct, DL.dMkX, DL.dCallV, DL.nc0, DL.nc1, DL.nc2, DL.nc3, DL.nc4, DL.nc5, DL.nc6, DL.nc7, DL.nc8, DL.nc9, DL.nc10, DL.nc11, DL.nc12, DL.nc13, DL.nc14, DL.nc15, DL.nc16, DL.nc17, DL.nc18, DL.nc19, DL.nc20, Nat.reduceLT, DL.le6, DL.le7, DL.le10, DL.le11, DL.le12, DL.le13, DL.le14, DL.le15, DL.le16, DL.le17, DL.le18, DL.le19, DL.le20, DL.le21, DL.le22, DL.le23, DL.le24, DL.le25, DL.le26, DL.le27, DL.le28, DL.le29, DL.le30, DL.le31, DL.le32, DL.le33, DL.le34, DL.le35, DL.le36, DL.le37, DL.le38, DL.le39, DL.le40, DL.lt0, DL.lt1, DL.lt2, DL.lt3, DL.lt4, DL.lt5, DL.lt6, DL.lt7, DL.lt8, DL.lt9, DL.lt10, DL.lt11, DL.lt12, DL.lt13, DL.lt14, DL.lt15, DL.lt16, DL.lt17, DL.lt18, DL.lt19, DL.lt20, DL.lt21, DL.lt22, DL.lt23, DL.lt24, DL.lt25, DL.lt26, DL.lt27, DL.lt28, DL.lt29, DL.lt30, DL.lt31, DL.lt32, DL.lt33, DL.lt34, DL.lt35, DL.lt36, DL.lt37, DL.lt38, DL.lt39, DL.lt40]
    rfl
  · by_cases e1 : figs B = true
    · obtain ⟨c, r, rfl⟩ : ∃ c r, B = c :: r := by
        cases B with
        | nil => exact absurd rfl e0
        | cons c r => exact ⟨c, r, rfl⟩
      have hBl : (c :: r).length ≤ 1000 := by rw [← hB]; exact body_len hl
      have hI : intAW (T l) = some (.int (if (c :: r) = l then ((NumText.digitsVal l : Nat) : Int) else -((NumText.digitsVal (c :: r) : Nat) : Int))) := by
        by_cases z : (c :: r) = l
        · rw [if_pos z]
          rw [z] at e1 e0
          exact int_T e1 e0 hl
        · rw [if_neg z]
          have : l = 45 :: (c :: r) := by
            unfold bodyL at hB
            split at hB
            · rename_i h
              cases l with
              | nil => simp at hB
              | cons d l =>
                simp only [List.take_succ_cons, List.take_zero, List.cons.injEq, and_true] at h
                rw [h.2]
                simp only [List.drop_succ_cons, List.drop_zero] at hB
                rw [hB]
            · exact absurd hB.symm z
          rw [this]
          exact int_Tn e1 e0 hBl
      by_cases e2 : c = 48 ∧ l ≠ [48]
      · rw [if_pos (.inr (.inr ⟨by rw [e2.1]; rfl, e2.2⟩))]
        obtain ⟨rfl, e3⟩ := e2
        simp only [T_nil, T_zero, eq_T, k, all_fig, e1, ix_T0 hBl, decide_eq_false e0, decide_eq_false e3, DL.dFn, DL.dFi, DL.sSeq, DL.sSet, DL.sIf, DL.sRet, DL.sRetN, DL.sDrop, DL.sBind, DL.sAsg, DL.sPar, DL.sPar3, DL.sNext, DL.dC, DL.dVar, DL.dPeek, DL.dBind, DL.dOut, DL.dUn, DL.dBin, DL.dTru, DL.dNot, DL.dAndT, DL.dOrT, DL.dAndV, DL.dOrV, DL.dIfE, DL.aNil, DL.aCons, DL.aBind, DL.fits, DL.dApp, DL.dRet, DL.dTup, DL.dLst, DL.truD, DL.bName, DL.bTup, DL.bCons, DL.bNil, DL.pick_eq, DL.Src.get, List.filterMap_cons, List.filterMap_nil, List.getElem?_cons_zero, List.getElem?_cons_succ, List.length_cons, List.length_nil, List.set_cons_zero, List.set_cons_succ, List.map_cons, List.map_nil, List.cons_append, List.nil_append, List.append_nil, List.append_assoc, List.reduceReplicate, Nat.reduceAdd, Nat.reduceSub, Nat.reduceLeDiff, Nat.reduceEqDiff, ↓reduceIte, DL.subD, DL.mulD, DL.divD, DL.modD, DL.powD, DL.ltD, DL.leD, DL.gtD, DL.geD, DL.II, DL.subI, DL.cmpI, DL.negD, DL.addD_int, DL.ix_t0, DL.ix_t1, DL.ix_t2, DL.eqA_int, DL.eqA_pair, DL.intD_int, DL.intA_int, DL.intA_bl, DL.absD, DL.le1, DL.le2, DL.le3, DL.le4, DL.le5, DL.le8, DL.le9, Nat.zero_le, Bool.not_true, Bool.not_false, Bool.false_eq_true, DL.eqA_bl, eq_self, Int.reduceEq, Int.reduceLT, Int.reduceNeg, Bool.false_xor, Bool.true_xor, decide_true, decide_false, decide_eq_true_eq, and_self, DL.sRaise, DL.sApp, DL.sNew, DL.sTryE, DL.dAct, DL.dMkX, DL.dCallV, DL.nc0, DL.nc1, DL.nc2, DL.nc3, DL.nc4, DL.nc5, DL.nc6, DL.nc7, DL.nc8, DL.nc9, DL.nc10, DL.nc11, DL.nc12, DL.nc13, DL.nc14, DL.nc15, DL.nc16, DL.nc17, DL.nc18, DL.nc19, DL.nc20, Nat.reduceLT, DL.le6, DL.le7, DL.le10, DL.le11, DL.le12, DL.le13, DL.le14, DL.le15, DL.le16, DL.le17, DL.le18, DL.le19, DL.le20, DL.le21, DL.le22, DL.le23, DL.le24, DL.le25, DL.le26, DL.le27, DL.le28, DL.le29, DL.le30, DL.le31, DL.le32, DL.le33, DL.le34, DL.le35, DL.le36, DL.le37, DL.le38, DL.le39, DL.le40, DL.lt0, DL.lt1, DL.lt2, DL.lt3, DL.lt4, DL.lt5, DL.lt6, DL.lt7, DL.lt8, DL.lt9, DL.lt10, DL.lt11, DL.lt12, DL.lt13, DL.lt14, DL.lt15, DL.lt16, DL.lt17, DL.lt18, DL.lt19, DL.lt20, DL.lt21, DL.lt22, DL.lt23, DL.lt24, DL.lt25, DL.lt26, DL.lt27, DL.lt28, DL.lt29, DL.lt30, DL.lt31, DL.lt32, DL.lt33, DL.lt34, DL.lt35, DL.lt36, DL.lt37, DL.lt38, DL.lt39, DL.lt40]
        rfl
      · rw [if_neg (by
          intro h
          rcases h with h | h | h
          · exact e0 h
          · rw [e1] at h; cases h
          · exact e2 ⟨by simpa using h.1, h.2⟩)]
        by_cases e4 : c = 48
        · have e5 : l = [48] := Classical.byContradiction fun z => e2 ⟨e4, z⟩
          subst e4
          simp only [T_nil, T_zero, eq_T, k, all_fig, e1, ix_T0 hBl, decide_eq_false e0, decide_eq_true e5, hI, DL.dFn, DL.dFi, DL.sSeq, DL.sSet, DL.sIf, DL.sRet, DL.sRetN, DL.sDrop, DL.sBind, DL.sAsg, DL.sPar, DL.sPar3, DL.sNext, DL.dC, DL.dVar, DL.dPeek, DL.dBind, DL.dOut, DL.dUn, DL.dBin, DL.dTru, DL.dNot, DL.dAndT, DL.dOrT, DL.dAndV, DL.dOrV, DL.dIfE, DL.aNil, DL.aCons, DL.aBind, DL.fits, DL.dApp, DL.dRet, DL.dTup, DL.dLst, DL.truD, DL.bName, DL.bTup, DL.bCons, DL.bNil, DL.pick_eq, DL.Src.get, List.filterMap_cons, List.filterMap_nil, List.getElem?_cons_zero, List.getElem?_cons_succ, List.length_cons, List.length_nil, List.set_cons_zero, List.set_cons_succ, List.map_cons, List.map_nil, List.cons_append, List.nil_append, List.append_nil, List.append_assoc, List.reduceReplicate, Nat.reduceAdd, Nat.reduceSub, Nat.reduceLeDiff, Nat.reduceEqDiff, ↓reduceIte, DL.subD, DL.mulD, DL.divD, DL.modD, DL.powD, DL.ltD, DL.leD, DL.gtD, DL.geD, DL.II, DL.subI, DL.cmpI, DL.negD, DL.addD_int, DL.ix_t0, DL.ix_t1, DL.ix_t2, DL.eqA_int, DL.eqA_pair, DL.intD_int, DL.intA_int, DL.intA_bl, DL.absD, DL.le1, DL.le2, DL.le3, DL.le4, DL.le5, DL.le8, DL.le9, Nat.zero_le, Bool.not_true, Bool.not_false, Bool.false_eq_true, DL.eqA_bl, eq_self, Int.reduceEq, Int.reduceLT, Int.reduceNeg, Bool.false_xor, Bool.true_xor, decide_true, decide_false, decide_eq_true_eq, and_self, DL.sRaise, DL.sApp, DL.sNew, DL.sTryE, DL.dAct, DL.dMkX, DL.dCallV, DL.nc0, DL.nc1, DL.nc2, DL.nc3, DL.nc4, DL.nc5, DL.nc6, DL.nc7, DL.nc8, DL.nc9, DL.nc10, DL.nc11, DL.nc12, DL.nc13, DL.nc14, DL.nc15, DL.nc16, DL.nc17, DL.nc18, DL.nc19, DL.nc20, Nat.reduceLT, DL.le6, DL.le7, DL.le10, DL.le11, DL.le12, DL.le13, DL.le14, DL.le15, DL.le16, DL.le17, DL.le18, DL.le19, DL.le20, DL.le21, DL.le22, DL.le23, DL.le24, DL.le25, DL.le26, DL.le27, DL.le28, DL.le29, DL.le30, DL.le31, DL.le32, DL.le33, DL.le34, DL.le35, DL.le36, DL.le37, DL.le38, DL.le39, DL.le40, DL.lt0, DL.lt1, DL.lt2, DL.lt3, DL.lt4, DL.lt5, DL.lt6, DL.lt7, DL.lt8, DL.lt9, DL.lt10, DL.lt11, DL.lt12, DL.lt13, DL.lt14, DL.lt15, DL.lt16, DL.lt17, DL.lt18, DL.lt19, DL.lt20, DL.lt21, DL.lt22, DL.lt23, DL.lt24, DL.lt25, DL.lt26, DL.lt27, DL.lt28, DL.lt29, DL.lt30, DL.lt31, DL.lt32, DL.lt33, DL.lt34, DL.lt35, DL.lt36, DL.lt37, DL.lt38, DL.lt39, DL.lt40]
          rfl
        · have e6 : ¬ ([c] = [48]) := by simpa using e4
          simp only [T_nil, T_zero, eq_T, k, all_fig, e1, ix_T0 hBl, decide_eq_false e0, decide_eq_false e6, hI, DL.dFn, DL.dFi, DL.sSeq, DL.sSet, DL.sIf, DL.sRet, DL.sRetN, DL.sDrop, DL.sBind, DL.sAsg, DL.sPar, DL.sPar3, DL.sNext, DL.dC, DL.dVar, DL.dPeek, DL.dBind, DL.dOut, DL.dUn, DL.dBin, DL.dTru, DL.dNot, DL.dAndT, DL.dOrT, DL.dAndV, DL.dOrV, DL.dIfE, DL.aNil, DL.aCons, DL.aBind, DL.fits, DL.dApp, DL.dRet, DL.dTup, DL.dLst, DL.truD, DL.bName, DL.bTup, DL.bCons, DL.bNil, DL.pick_eq, DL.Src.get, List.filterMap_cons, List.filterMap_nil, List.getElem?_cons_zero, List.getElem?_cons_succ, List.length_cons, List.length_nil, List.set_cons_zero, List.set_cons_succ, List.map_cons, List.map_nil, List.cons_append, List.nil_append, List.append_nil, List.append_assoc, List.reduceReplicate, Nat.reduceAdd, Nat.reduceSub, Nat.reduceLeDiff, Nat.reduceEqDiff, ↓reduceIte, DL.subD, DL.mulD, DL.divD, DL.modD, DL.powD, DL.ltD, DL.leD, DL.gtD, DL.geD, DL.II, DL.subI, DL.cmpI, DL.negD, DL.addD_int, DL.ix_t0, DL.ix_t1, DL.ix_t2, DL.eqA_int, DL.eqA_pair, DL.intD_int, DL.intA_int, DL.intA_bl, DL.absD, DL.le1, DL.le2, DL.le3, DL.le4, DL.le5, DL.le8, DL.le9, Nat.zero_le, Bool.not_true, Bool.not_false, Bool.false_eq_true, DL.eqA_bl, eq_self, Int.reduceEq, Int.reduceLT, Int.reduceNeg, Bool.false_xor, Bool.true_xor, decide_true, decide_false, decide_eq_true_eq, and_self, DL.sRaise, DL.sApp, DL.sNew, DL.sTryE, DL.dAct, DL.dMkX, DL.dCallV, DL.nc0, DL.nc1, DL.nc2, DL.nc3, DL.nc4, DL.nc5, DL.nc6, DL.nc7, DL.nc8, DL.nc9, DL.nc10, DL.nc11, DL.nc12, DL.nc13, DL.nc14, DL.nc15, DL.nc16, DL.nc17, DL.nc18, DL.nc19, DL.nc20, Nat.reduceLT, DL.le6, DL.le7, DL.le10, DL.le11, DL.le12, DL.le13, DL.le14, DL.le15, DL.le16, DL.le17, DL.le18, DL.le19, DL.le20, DL.le21, DL.le22, DL.le23, DL.le24, DL.le25, DL.le26, DL.le27, DL.le28, DL.le29, DL.le30, DL.le31, DL.le32, DL.le33, DL.le34, DL.le35, DL.le36, DL.le37, DL.le38, DL.le39, DL.le40, DL.lt0, DL.lt1, DL.lt2, DL.lt3, DL.lt4, DL.lt5, DL.lt6, DL.lt7, DL.lt8, DL.lt9, DL.lt10, DL.lt11, DL.lt12, DL.lt13, DL.lt14, DL.lt15, DL.lt16, DL.lt17, DL.lt18, DL.lt19, DL.lt20, DL.lt21, DL.lt22, DL.lt23, DL.lt24, DL.lt25, DL.lt26, DL.lt27, DL.lt28, DL.lt29, DL.lt30, DL.lt31, DL.lt32, DL.lt33, DL.lt34, DL.lt35, DL.lt36, DL.lt37, DL.lt38, DL.lt39, DL.lt40]
          rfl
    · have e1 : figs B = false := by simpa using e1
      rw [if_pos (.inr (.inl e1))]
      simp only [T_nil, T_zero, eq_T, k, all_fig, e1, decide_eq_false e0, DL.dFn, DL.dFi, DL.sSeq, DL.sSet, DL.sIf, DL.sRet, DL.sRetN, DL.sDrop, DL.sBind, DL.sAsg, DL.sPar, DL.sPar3, DL.sNext, DL.dC, DL.dVar, DL.dPeek, DL.dBind, DL.dOut, DL.dUn, DL.dBin, DL.dTru, DL.dNot, DL.dAndT, DL.dOrT, DL.dAndV, DL.dOrV, DL.dIfE, DL.aNil, DL.aCons, DL.aBind, DL.fits, DL.dApp, DL.dRet, DL.dTup, DL.dLst, DL.truD, DL.bName, DL.bTup, DL.bCons, DL.bNil, DL.pick_eq, DL.Src.get, List.filterMap_cons, List.filterMap_nil, List.getElem?_cons_zero, List.getElem?_cons_succ, List.length_cons, List.length_nil, List.set_cons_zero, List.set_cons_succ, List.map_cons, List.map_nil, List.cons_append, List.nil_append, List.append_nil, List.append_assoc, List.reduceReplicate, Nat.reduceAdd, Nat.reduceSub, Nat.reduceLeDiff, Nat.reduceEqDiff, ↓reduceIte, DL.subD, DL.mulD, DL.divD, DL.modD, DL.powD, DL.ltD, DL.leD, DL.gtD, DL.geD, DL.II, DL.subI, DL.cmpI, DL.negD, DL.addD_int, DL.ix_t0, DL.ix_t1, DL.ix_t2, DL.eqA_int, DL.eqA_pair, DL.intD_int, DL.intA_int, DL.intA_bl, DL.absD, DL.le1, DL.le2, DL.le3, DL.le4, DL.le5, DL.le8, DL.le9, Nat.zero_le, Bool.not_true, Bool.not_false, Bool.false_eq_true, DL.eqA_bl, eq_self, Int.reduceEq, Int.reduceLT, Int.reduceNeg, Bool.false_xor, Bool.true_xor, decide_true, decide_false, decide_eq_true_eq, and_self, DL.sRaise, DL.sApp, DL.sNew, DL.sTryE, DL.dAct, DL.dMkX, DL.dCallV, DL.nc0, DL.nc1, DL.nc2, DL.nc3, DL.nc4, DL.nc5, DL.nc6, DL.nc7, DL.nc8, DL.nc9, DL.nc10, DL.nc11, DL.nc12, DL.nc13, DL.nc14, DL.nc15, DL.nc16, DL.nc17, DL.nc18, DL.nc19, DL.nc20, Nat.reduceLT, DL.le6, DL.le7, DL.le10, DL.le11, DL.le12, DL.le13, DL.le14, DL.le15, DL.le16, DL.le17, DL.le18, DL.le19, DL.le20, DL.le21, DL.le22, DL.le23, DL.le24, DL.le25, DL.le26, DL.le27, DL.le28, DL.le29, DL.le30, DL.le31, DL.le32, DL.le33, DL.le34, DL.le35, DL.le36, DL.le37, DL.le38, DL.le39, DL.le40, DL.lt0, DL.lt1, DL.lt2, DL.lt3, DL.lt4, DL.lt5, DL.lt6, DL.lt7, DL.lt8, DL.lt9, DL.lt10, DL.lt11, DL.lt12, DL.lt13, DL.lt14, DL.lt15, DL.lt16, DL.lt17, DL.lt18, DL.lt19, DL.lt20, DL.lt21, DL.lt22, DL.lt23, DL.lt24, DL.lt25, DL.lt26, DL.lt27, DL.lt28, DL.lt29, DL.lt30, DL.lt31, DL.lt32, DL.lt33, DL.lt34, DL.lt35, DL.lt36, DL.lt37, DL.lt38, DL.lt39, DL.lt40]
      rfl
end L05
set_option maxHeartbeats 2000000
set_option exponentiation.threshold 10000
namespace L05
open PySem PySem.Spec PyProof.Rows L2 DL PA
/-! ### the parts between strokes -/
def cut (l : List Nat) : List (List Nat) := TL.spl [47] 0 [] l
theorem cut_one {l : List Nat} (h : 47 ∉ l) : cut l = [l] := TL.spl_last1 h
theorem cut_app {p : List Nat} (r : List Nat) (h : 47 ∉ p) : cut (p ++ 47 :: r) = p :: cut r := TL.spl_part1 (acc := []) (rest := r) (S := []) h
theorem cut_cases : ∀ l : List Nat, (47 ∉ l ∧ cut l = [l]) ∨ ∃ p r, 47 ∉ p ∧ l = p ++ 47 :: r ∧ cut l = p :: cut r := by
  have ex : ∀ l : List Nat, 47 ∉ l ∨ ∃ p r, 47 ∉ p ∧ l = p ++ 47 :: r := by
    intro l
    induction l with
    | nil => exact .inl (by simp)
    | cons c l ih =>
      by_cases hc : c = 47
      · subst hc
        exact .inr ⟨[], l, by simp, rfl⟩
      · rcases ih with h | ⟨p, r, h, e⟩
        · refine .inl fun m => ?_
          rcases List.mem_cons.mp m with m | m
          · exact hc m.symm
          · exact h m
        · refine .inr ⟨c :: p, r, fun m => ?_, by rw [e]; rfl⟩
          rcases List.mem_cons.mp m with m | m
          · exact hc m.symm
          · exact h m
  intro l
  rcases ex l with h | ⟨p, r, h, e⟩
  · exact .inl ⟨h, cut_one h⟩
  · refine .inr ⟨p, r, h, e, ?_⟩
    rw [e]
    exact cut_app r h
theorem cut_ne (l : List Nat) : cut l ≠ [] := by
  rcases cut_cases l with ⟨_, e⟩ | ⟨p, r, _, _, e⟩ <;> rw [e] <;> simp
theorem cut_len : ∀ (n : Nat) (l : List Nat), l.length ≤ n → ∀ p ∈ cut l, p.length ≤ l.length := by
  intro n
  induction n with
  | zero =>
    intro l hl p hp
    have : l = [] := List.length_eq_zero_iff.mp (by omega)
    subst this
    rw [cut_one (by simp)] at hp
    rw [List.mem_singleton.mp hp]
    exact Nat.le_refl _
  | succ n ih =>
    intro l hl p hp
    rcases cut_cases l with ⟨_, e⟩ | ⟨q, r, _, e1, e⟩
    · rw [e] at hp
      rw [List.mem_singleton.mp hp]
      exact Nat.le_refl _
    · rw [e] at hp
      have hL : l.length = q.length + (r.length + 1) := by rw [e1, List.length_append, List.length_cons]
      rcases List.mem_cons.mp hp with hp | hp
      · rw [hp]; omega
      · have := ih r (by omega) p hp
        omega
theorem cut_parts {l : List Nat} (hl : l.length ≤ 1000) : splitD (SX.S l) (.str "/") = some (.lst ((cut l).map T)) := by
  show (if (("/" : Str).length == 0) = false ∧ (SX.S l).length + 2 ≤ sizeLine then some (D.lst ((Txt.split (SX.S l) (SX.S [47])).map .str)) else none) = _
  rw [if_pos ⟨by decide, by rw [SX.S_len]; exact line_nat (by omega)⟩, SX.split_S (by simp) (by decide), List.map_map]
  rfl
/-! ### the number of a text -/
def NF2 : Option Int → Option Int → Option (Int × Int)
  | some t, some u => if u = 0 then none else some (lowP t u)
  | _, _ => none
def NF (l : List Nat) : Option (Int × Int) := match cut l with
  | [a] => (IF true a).map fun t => (t, 1)
  | [a, b] => NF2 (IF true a) (IF false b)
  | _ => none
def ON : Option (Int × Int) → D
  | none => .non
  | some p => P2 p
theorem digits_lt : ∀ (l : List Nat) (a : Nat), figs l = true → l.foldl (fun acc c => acc * 10 + (c - 48)) a < (a + 1) * 10 ^ l.length
  | [], a, _ => by simp
  | c :: r, a, h => by
    rw [figs_cons, Bool.and_eq_true] at h
    have hc : 48 ≤ c ∧ c ≤ 57 := by simpa [figs] using h.1
    have ih := digits_lt r (a * 10 + (c - 48)) h.2
    rw [List.foldl_cons]
    refine Nat.lt_of_lt_of_le ih ?_
    rw [List.length_cons, Nat.pow_succ, Nat.mul_comm (10 ^ r.length) 10, ← Nat.mul_assoc]
    exact Nat.mul_le_mul_right (k := 10 ^ r.length) (by omega)
theorem val_lt {l : List Nat} (h : figs l = true) (hl : l.length ≤ 1000) : NumText.digitsVal l < 2 ^ 3400 := by
  have a : NumText.digitsVal l < (0 + 1) * 10 ^ l.length := digits_lt l 0 h
  rw [Nat.zero_add, Nat.one_mul] at a
  exact Nat.lt_of_lt_of_le a (Nat.le_trans (Nat.pow_le_pow_right (by decide) hl) (by decide +kernel))
theorem IF_u {l : List Nat} {u : Int} (h : IF false l = some u) (hl : l.length ≤ 1000) : 0 ≤ u ∧ u.natAbs < 2 ^ 8000 := by
  have hb : bodyL false l = l := by
    unfold bodyL
    rw [if_neg (by simp)]
  unfold IF at h
  rw [hb] at h
  split at h
  · cases h
  · rename_i g
    rw [if_pos rfl] at h
    cases h
    have hf : figs l = true := by
      cases z : figs l with
      | true => rfl
      | false => exact absurd (.inr (.inl z)) g
    refine ⟨by omega, ?_⟩
    rw [Int.natAbs_natCast]
    exact p2lt (val_lt hf hl) (by omega)
theorem isi_str (x : Str) : isiD TT (.str x) (.ty "str") = some (.bl true) := rfl
theorem len_T {l : List Nat} (hl : l.length ≤ sizeLine) : lenA (T l) = some (.int (l.length : Int)) := by
  have e : (SX.S l).length = l.length := SX.S_len l
  show ((if (SX.S l).length ≤ sizeLine then some (D.int ((SX.S l).length : Int)) else none).orElse fun _ => _) = _
  rw [e, if_pos hl]
  rfl
theorem r_number_long (l : List Nat) (hl : 1000 < l.length) (hz : l.length ≤ sizeLine) (M : MS) : φ_number_from [T l] M = some (.ret .non M) := by
  unfold φ_number_from m_number_from
  simp only [isi_str, len_T hz, decide_eq_true (show ((l.length : Int) > 1000) by omega), decide_eq_true (show ((1000 : Int) < (l.length : Int)) by omega), DL.dFn, DL.dFi, DL.sSeq, DL.sSet, DL.sIf, DL.sRet, DL.sRetN, DL.sDrop, DL.sBind, DL.sAsg, DL.sPar, DL.sPar3, DL.sNext, DL.dC, DL.dVar, DL.dPeek, DL.dBind, DL.dOut, DL.dUn, DL.dBin, DL.dTru, DL.dNot, DL.dAndT, DL.dOrT, DL.dAndV, DL.dOrV, DL.dIfE, DL.aNil, DL.aCons, DL.aBind, DL.fits, DL.dApp, DL.dRet, DL.dTup, DL.dLst, DL.truD, DL.bName, DL.bTup, DL.bCons, DL.bNil, DL.pick_eq, DL.Src.get, List.filterMap_cons, List.filterMap_nil, List.getElem?_cons_zero, List.getElem?_cons_succ, List.length_cons, List.length_nil, List.set_cons_zero, List.set_cons_succ, List.map_cons, List.map_nil, List.cons_append, List.nil_append, List.append_nil, List.append_assoc, List.reduceReplicate, Nat.reduceAdd, Nat.reduceSub, Nat.reduceLeDiff, Nat.reduceEqDiff, ↓reduceIte, DL.subD, DL.mulD, DL.divD, DL.modD, DL.powD, DL.ltD, DL.leD, DL.gtD, DL.geD, DL.II, DL.subI, DL.cmpI, DL.negD, DL.addD_int, DL.ix_t0, DL.ix_t1, DL.ix_t2, DL.eqA_int, DL.eqA_pair, DL.intD_int, DL.intA_int, DL.intA_bl, DL.absD, DL.le1, DL.le2, DL.le3, DL.le4, DL.le5, DL.le8, DL.le9, Nat.zero_le, Bool.not_true, Bool.not_false, Bool.false_eq_true, DL.eqA_bl, eq_self, Int.reduceEq, Int.reduceLT, Int.reduceNeg, Bool.false_xor, Bool.true_xor, decide_true, decide_false, decide_eq_true_eq, and_self, DL.sRaise, DL.sApp, DL.sNew, DL.sTryE, DL.dAct, DL.dMkX, DL.dCallV, DL.nc0, DL.nc1, DL.nc2, DL.nc3, DL.nc4, DL.nc5, DL.nc6, DL.nc7, DL.nc8, DL.nc9, DL.nc10, DL.nc11, DL.nc12, DL.nc13, DL.nc14, DL.nc15, DL.nc16, DL.nc17, DL.nc18, DL.nc19, DL.nc20, Nat.reduceLT, DL.le6, DL.le7, DL.le10, DL.le11, DL.le12, DL.le13, DL.le14, DL.le15, DL.le16, DL.le17, DL.le18, DL.le19, DL.le20, DL.le21, DL.le22, DL.le23, DL.le24, DL.le25, DL.le26, DL.le27, DL.le28, DL.le29, DL.le30, DL.le31, DL.le32, DL.le33, DL.le34, DL.le35, DL.le36, DL.le37, DL.le38, DL.le39, DL.le40, DL.lt0, DL.lt1, DL.lt2, DL.lt3, DL.lt4, DL.lt5, DL.lt6, DL.lt7, DL.lt8, DL.lt9, DL.lt10, DL.lt11, DL.lt12, DL.lt13, DL.lt14, DL.lt15, DL.lt16, DL.lt17, DL.lt18, DL.lt19, DL.lt20, DL.lt21, DL.lt22, DL.lt23, DL.lt24, DL.lt25, DL.lt26, DL.lt27, DL.lt28, DL.lt29, DL.lt30, DL.lt31, DL.lt32, DL.lt33, DL.lt34, DL.lt35, DL.lt36, DL.lt37, DL.lt38, DL.lt39, DL.lt40]
theorem isn_i (t : Int) : isA false (.int t) .non = some (.bl false) := rfl
theorem isn_n : isA false .non .non = some (.bl true) := rfl
theorem r_number_from (l : List Nat) (hl : l.length ≤ 1000) (M : MS) : φ_number_from [T l] M = some (.ret (ON (NF l)) M) := by
  have hz : l.length ≤ sizeLine := line_nat (by omega)
  have hp := cut_len _ l (Nat.le_refl _)
  have hc := cut_parts hl
  have hn := cut_ne l
  unfold NF
  generalize cut l = C at *
  have h0 : ¬ ((1000 : Int) < (l.length : Int)) := by omega
  have dm : ∀ ρ M, dM1 splitD (dPeek 0) (dC (.str "/")) ((some (.t (T l))) :: ρ) M = some (.ok (.lst (C.map T)) ((some (.t (T l))) :: ρ) M) := by
    intro ρ M
    unfold dM1
    simp only [hc, DL.dFn, DL.dFi, DL.sSeq, DL.sSet, DL.sIf, DL.sRet, DL.sRetN, DL.sDrop, DL.sBind, DL.sAsg, DL.sPar, DL.sPar3, DL.sNext, DL.dC, DL.dVar, DL.dPeek, DL.dBind, DL.dOut, DL.dUn, DL.dBin, DL.dTru, DL.dNot, DL.dAndT, DL.dOrT, DL.dAndV, DL.dOrV, DL.dIfE, DL.aNil, DL.aCons, DL.aBind, DL.fits, DL.dApp, DL.dRet, DL.dTup, DL.dLst, DL.truD, DL.bName, DL.bTup, DL.bCons, DL.bNil, DL.pick_eq, DL.Src.get, List.filterMap_cons, List.filterMap_nil, List.getElem?_cons_zero, List.getElem?_cons_succ, List.length_cons, List.length_nil, List.set_cons_zero, List.set_cons_succ, List.map_cons, List.map_nil, List.cons_append, List.nil_append, List.append_nil, List.append_assoc, List.reduceReplicate, Nat.reduceAdd, Nat.reduceSub, Nat.reduceLeDiff, Nat.reduceEqDiff, ↓reduceIte, DL.subD, DL.mulD, DL.divD, DL.modD, DL.powD, DL.ltD, DL.leD, DL.gtD, DL.geD, DL.II, DL.subI, DL.cmpI, DL.negD, DL.addD_int, DL.ix_t0, DL.ix_t1, DL.ix_t2, DL.eqA_int, DL.eqA_pair, DL.intD_int, DL.intA_int, DL.intA_bl, DL.absD, DL.le1, DL.le2, DL.le3, DL.le4, DL.le5, DL.le8, DL.le9, Nat.zero_le, Bool.not_true, Bool.not_false, Bool.false_eq_true, DL.eqA_bl, eq_self, Int.reduceEq, Int.reduceLT, Int.reduceNeg, Bool.false_xor, Bool.true_xor, decide_true, decide_false, decide_eq_true_eq, and_self, DL.sRaise, DL.sApp, DL.sNew, DL.sTryE, DL.dAct, DL.dMkX, DL.dCallV, DL.nc0, DL.nc1, DL.nc2, DL.nc3, DL.nc4, DL.nc5, DL.nc6, DL.nc7, DL.nc8, DL.nc9, DL.nc10, DL.nc11, DL.nc12, DL.nc13, DL.nc14, DL.nc15, DL.nc16, DL.nc17, DL.nc18, DL.nc19, DL.nc20, Nat.reduceLT, DL.le6, DL.le7, DL.le10, DL.le11, DL.le12, DL.le13, DL.le14, DL.le15, DL.le16, DL.le17, DL.le18, DL.le19, DL.le20, DL.le21, DL.le22, DL.le23, DL.le24, DL.le25, DL.le26, DL.le27, DL.le28, DL.le29, DL.le30, DL.le31, DL.le32, DL.le33, DL.le34, DL.le35, DL.le36, DL.le37, DL.le38, DL.le39, DL.le40, DL.lt0, DL.lt1, DL.lt2, DL.lt3, DL.lt4, DL.lt5, DL.lt6, DL.lt7, DL.lt8, DL.lt9, DL.lt10, DL.lt11, DL.lt12, DL.lt13, DL.lt14, DL.lt15, DL.lt16, DL.lt17, DL.lt18, DL.lt19, DL.lt20, DL.lt21, DL.lt22, DL.lt23, DL.lt24, DL.lt25, DL.lt26, DL.lt27, DL.lt28, DL.lt29, DL.lt30, DL.lt31, DL.lt32, DL.lt33, DL.lt34, DL.lt35, DL.lt36, DL.lt37, DL.lt38, DL.lt39, DL.lt40]
  cases C with
  | nil => exact absurd rfl hn
  | cons a C =>
    have ra := r_integer_from true a (Nat.le_trans (hp a (List.mem_cons_self ..)) hl)
    cases C with
    | nil =>
      unfold φ_number_from m_number_from
      cases ea : IF true a with
      | none =>
        simp only [isi_str, len_T hz, decide_eq_false h0, dm, ix_l0, ra, ea, OI, isn_i, isn_n, len_lst, DL.dFn, DL.dFi, DL.sSeq, DL.sSet, DL.sIf, DL.sRet, DL.sRetN, DL.sDrop, DL.sBind, DL.sAsg, DL.sPar, DL.sPar3, DL.sNext, DL.dC, DL.dVar, DL.dPeek, DL.dBind, DL.dOut, DL.dUn, DL.dBin, DL.dTru, DL.dNot, DL.dAndT, DL.dOrT, DL.dAndV, DL.dOrV, DL.dIfE, DL.aNil, DL.aCons, DL.aBind, DL.fits, DL.dApp, DL.dRet, DL.dTup, DL.dLst, DL.truD, DL.bName, DL.bTup, DL.bCons, DL.bNil, DL.pick_eq, DL.Src.get, List.filterMap_cons, List.filterMap_nil, List.getElem?_cons_zero, List.getElem?_cons_succ, List.length_cons, List.length_nil, List.set_cons_zero, List.set_cons_succ, List.map_cons, List.map_nil, List.cons_append, List.nil_append, List.append_nil, List.append_assoc, List.reduceReplicate, Nat.reduceAdd, Nat.reduceSub, Nat.reduceLeDiff, Nat.reduceEqDiff, ↓reduceIte, DL.subD, DL.mulD, DL.divD, DL.modD, DL.powD, DL.ltD, DL.leD, DL.gtD, DL.geD, DL.II, DL.subI, DL.cmpI, DL.negD, DL.addD_int, DL.ix_t0, DL.ix_t1, DL.ix_t2, DL.eqA_int, DL.eqA_pair, DL.intD_int, DL.intA_int, DL.intA_bl, DL.absD, DL.le1, DL.le2, DL.le3, DL.le4, DL.le5, DL.le8, DL.le9, Nat.zero_le, Bool.not_true, Bool.not_false, Bool.false_eq_true, DL.eqA_bl, eq_self, Int.reduceEq, Int.reduceLT, Int.reduceNeg, Bool.false_xor, Bool.true_xor, decide_true, decide_false, decide_eq_true_eq, and_self, DL.sRaise, DL.sApp, DL.sNew, DL.sTryE, DL.dAct, DL.dMkX, DL.dCallV, DL.nc0, DL.nc1, DL.nc2, DL.nc3, DL.nc4, DL.nc5, DL.nc6, DL.nc7, DL.nc8, DL.nc9, DL.nc10, DL.nc11, DL.nc12, DL.nc13, DL.nc14, DL.nc15, DL.nc16, DL.nc17, DL.nc18, DL.nc19, DL.nc20, Nat.reduceLT, DL.le6, DL.le7, DL.le10, DL.le11, DL.le12, DL.le13, DL.le14, DL.le15, DL.le16, DL.le17, DL.le18, DL.le19, DL.le20, DL.le21, DL.le22, DL.le23, DL.le24, DL.le25, DL.le26, DL.le27, DL.le28, DL.le29, DL.le30, DL.le31, DL.le32, DL.le33, DL.le34, DL.le35, DL.le36, DL.le37, DL.le38, DL.le39, DL.le40, DL.lt0, DL.lt1, DL.lt2, DL.lt3, DL.lt4, DL.lt5, DL.lt6, DL.lt7, DL.lt8, DL.lt9, DL.lt10, DL.lt11, DL.lt12, DL.lt13, DL.lt14, DL.lt15, DL.lt16, DL.lt17, DL.lt18, DL.lt19, DL.lt20, DL.lt21, DL.lt22, DL.lt23, DL.lt24, DL.lt25, DL.lt26, DL.lt27, DL.lt28, DL.lt29, DL.lt30, DL.lt31, DL.lt32, DL.lt33, DL.lt34, DL.lt35, DL.lt36, DL.lt37, DL.lt38, DL.lt39, DL.lt40]
        rfl
      | some t =>
        simp only [isi_str, len_T hz, decide_eq_false h0, dm, ix_l0, ra, ea, OI, isn_i, isn_n, len_lst, DL.dFn, DL.dFi, DL.sSeq, DL.sSet, DL.sIf, DL.sRet, DL.sRetN, DL.sDrop, DL.sBind, DL.sAsg, DL.sPar, DL.sPar3, DL.sNext, DL.dC, DL.dVar, DL.dPeek, DL.dBind, DL.dOut, DL.dUn, DL.dBin, DL.dTru, DL.dNot, DL.dAndT, DL.dOrT, DL.dAndV, DL.dOrV, DL.dIfE, DL.aNil, DL.aCons, DL.aBind, DL.fits, DL.dApp, DL.dRet, DL.dTup, DL.dLst, DL.truD, DL.bName, DL.bTup, DL.bCons, DL.bNil, DL.pick_eq, DL.Src.get, List.filterMap_cons, List.filterMap_nil, List.getElem?_cons_zero, List.getElem?_cons_succ, List.length_cons, List.length_nil, List.set_cons_zero, List.set_cons_succ, List.map_cons, List.map_nil, List.cons_append, List.nil_append, List.append_nil, List.append_assoc, List.reduceReplicate, Nat.reduceAdd, Nat.reduceSub, Nat.reduceLeDiff, Nat.reduceEqDiff, ↓reduceIte, DL.subD, DL.mulD, DL.divD, DL.modD, DL.powD, DL.ltD, DL.leD, DL.gtD, DL.geD, DL.II, DL.subI, DL.cmpI, DL.negD, DL.addD_int, DL.ix_t0, DL.ix_t1, DL.ix_t2, DL.eqA_int, DL.eqA_pair, DL.intD_int, DL.intA_int, DL.intA_bl, DL.absD, DL.le1, DL.le2, DL.le3, DL.le4, DL.le5, DL.le8, DL.le9, Nat.zero_le, Bool.not_true, Bool.not_false, Bool.false_eq_true, DL.eqA_bl, eq_self, Int.reduceEq, Int.reduceLT, Int.reduceNeg, Bool.false_xor, Bool.true_xor, decide_true, decide_false, decide_eq_true_eq, and_self, DL.sRaise, DL.sApp, DL.sNew, DL.sTryE, DL.dAct, DL.dMkX, DL.dCallV, DL.nc0, DL.nc1, DL.nc2, DL.nc3, DL.nc4, DL.nc5, DL.nc6, DL.nc7, DL.nc8, DL.nc9, DL.nc10, DL.nc11, DL.nc12, DL.nc13, DL.nc14, DL.nc15, DL.nc16, DL.nc17, DL.nc18, DL.nc19, DL.nc20, Nat.reduceLT, DL.le6, DL.le7, DL.le10, DL.le11, DL.le12, DL.le13, DL.le14, DL.le15, DL.le16, DL.le17, DL.le18, DL.le19, DL.le20, DL.le21, DL.le22, DL.le23, DL.le24, DL.le25, DL.le26, DL.le27, DL.le28, DL.le29, DL.le30, DL.le31, DL.le32, DL.le33, DL.le34, DL.le35, DL.le36, DL.le37, DL.le38, DL.le39, DL.le40, DL.lt0, DL.lt1, DL.lt2, DL.lt3, DL.lt4, DL.lt5, DL.lt6, DL.lt7, DL.lt8, DL.lt9, DL.lt10, DL.lt11, DL.lt12, DL.lt13, DL.lt14, DL.lt15, DL.lt16, DL.lt17, DL.lt18, DL.lt19, DL.lt20, DL.lt21, DL.lt22, DL.lt23, DL.lt24, DL.lt25, DL.lt26, DL.lt27, DL.lt28, DL.lt29, DL.lt30, DL.lt31, DL.lt32, DL.lt33, DL.lt34, DL.lt35, DL.lt36, DL.lt37, DL.lt38, DL.lt39, DL.lt40]
        rfl
    | cons b C =>
      have rb := r_integer_from false b (Nat.le_trans (hp b (List.mem_cons_of_mem _ (List.mem_cons_self ..))) hl)
      cases C with
      | nil =>
        unfold φ_number_from m_number_from
        cases ea : IF true a with
        | none =>
          simp only [isi_str, len_T hz, decide_eq_false h0, dm, ix_l0, ra, ea, OI, isn_i, isn_n, len_lst, DL.dFn, DL.dFi, DL.sSeq, DL.sSet, DL.sIf, DL.sRet, DL.sRetN, DL.sDrop, DL.sBind, DL.sAsg, DL.sPar, DL.sPar3, DL.sNext, DL.dC, DL.dVar, DL.dPeek, DL.dBind, DL.dOut, DL.dUn, DL.dBin, DL.dTru, DL.dNot, DL.dAndT, DL.dOrT, DL.dAndV, DL.dOrV, DL.dIfE, DL.aNil, DL.aCons, DL.aBind, DL.fits, DL.dApp, DL.dRet, DL.dTup, DL.dLst, DL.truD, DL.bName, DL.bTup, DL.bCons, DL.bNil, DL.pick_eq, DL.Src.get, List.filterMap_cons, List.filterMap_nil, List.getElem?_cons_zero, List.getElem?_cons_succ, List.length_cons, List.length_nil, List.set_cons_zero, List.set_cons_succ, List.map_cons, List.map_nil, List.cons_append, List.nil_append, List.append_nil, List.append_assoc, List.reduceReplicate, Nat.reduceAdd, Nat.reduceSub, Nat.reduceLeDiff, Nat.reduceEqDiff, ↓reduceIte, DL.subD, DL.mulD, DL.divD, DL.modD, DL.powD, DL.ltD, DL.leD, DL.gtD, DL.geD, DL.II, DL.subI, DL.cmpI, DL.negD, DL.addD_int, DL.ix_t0, DL.ix_t1, DL.ix_t2, DL.eqA_int, DL.eqA_pair, DL.intD_int, DL.intA_int, DL.intA_bl, DL.absD, DL.le1, DL.le2, DL.le3, DL.le4, DL.le5, DL.le8, DL.le9, Nat.zero_le, Bool.not_true, Bool.not_false, Bool.false_eq_true, DL.eqA_bl, eq_self, Int.reduceEq, Int.reduceLT, Int.reduceNeg, Bool.false_xor, Bool.true_xor, decide_true, decide_false, decide_eq_true_eq, and_self, DL.sRaise, DL.sApp, DL.sNew, DL.sTryE, DL.dAct, DL.dMkX, DL.dCallV, DL.nc0, DL.nc1, DL.nc2, DL.nc3, DL.nc4, DL.nc5, DL.nc6, DL.nc7, DL.nc8, DL.nc9, DL.nc10, DL.nc11, DL.nc12, DL.nc13, DL.nc14, DL.nc15, DL.nc16, DL.nc17, DL.nc18, DL.nc19, DL.nc20, Nat.reduceLT, DL.le6, DL.le7, DL.le10, DL.le11, DL.le12, DL.le13, DL.le14, DL.le15, DL.le16, DL.le17, DL.le18, DL.le19, DL.le20, DL.le21, DL.le22, DL.le23, DL.le24, DL.le25, DL.le26, DL.le27, DL.le28, DL.le29, DL.le30, DL.le31, DL.le32, DL.le33, DL.le34, DL.le35, DL.le36, DL.le37, DL.le38, DL.le39, DL.le40, DL.lt0, DL.lt1, DL.lt2, DL.lt3, DL.lt4, DL.lt5, DL.lt6, DL.lt7, DL.lt8, DL.lt9, DL.lt10, DL.lt11, DL.lt12, DL.lt13, DL.lt14, DL.lt15, DL.lt16, DL.lt17, DL.lt18, DL.lt19, DL.lt20, DL.lt21, DL.lt22, DL.lt23, DL.lt24, DL.lt25, DL.lt26, DL.lt27, DL.lt28, DL.lt29, DL.lt30, DL.lt31, DL.lt32, DL.lt33, DL.lt34, DL.lt35, DL.lt36, DL.lt37, DL.lt38, DL.lt39, DL.lt40]
          rfl
        | some t =>
          cases eb : IF false b with
          | none =>
            simp only [isi_str, len_T hz, decide_eq_false h0, dm, ix_l0, ix_l1, ra, ea, rb, eb, OI, isn_i, isn_n, len_lst, DL.dFn, DL.dFi, DL.sSeq, DL.sSet, DL.sIf, DL.sRet, DL.sRetN, DL.sDrop, DL.sBind, DL.sAsg, DL.sPar, DL.sPar3, DL.sNext, DL.dC, DL.dVar, DL.dPeek, DL.dBind, DL.dOut, DL.dUn, DL.dBin, DL.dTru, DL.dNot, DL.dAndT, DL.dOrT, DL.dAndV, DL.dOrV, DL.dIfE, DL.aNil, DL.aCons, DL.aBind, DL.fits, DL.dApp, DL.dRet, DL.dTup, DL.dLst, DL.truD, DL.bName, DL.bTup, DL.bCons, DL.bNil, DL.pick_eq, DL.Src.get, List.filterMap_cons, List.filterMap_nil, List.getElem?_cons_zero, List.getElem?_cons_succ, List.length_cons, List.length_nil, List.set_cons_zero, List.set_cons_succ, List.map_cons, List.map_nil, List.cons_append, List.nil_append, List.append_nil, List.append_assoc, List.reduceReplicate, Nat.reduceAdd, Nat.reduceSub, Nat.reduceLeDiff, Nat.reduceEqDiff, ↓reduceIte, DL.subD, DL.mulD, DL.divD, DL.modD, DL.powD, DL.ltD, DL.leD, DL.gtD, DL.geD, DL.II, DL.subI, DL.cmpI, DL.negD, DL.addD_int, DL.ix_t0, DL.ix_t1, DL.ix_t2, DL.eqA_int, DL.eqA_pair, DL.intD_int, DL.intA_int, DL.intA_bl, DL.absD, DL.le1, DL.le2, DL.le3, DL.le4, DL.le5, DL.le8, DL.le9, Nat.zero_le, Bool.not_true, Bool.not_false, Bool.false_eq_true, DL.eqA_bl, eq_self, Int.reduceEq, Int.reduceLT, Int.reduceNeg, Bool.false_xor, Bool.true_xor, decide_true, decide_false, decide_eq_true_eq, and_self, DL.sRaise, DL.sApp, DL.sNew, DL.sTryE, DL.dAct, DL.dMkX, DL.dCallV, DL.nc0, DL.nc1, DL.nc2, DL.nc3, DL.nc4, DL.nc5, DL.nc6, DL.nc7, DL.nc8, DL.nc9, DL.nc10, DL.nc11, DL.nc12, DL.nc13, DL.nc14, DL.nc15, DL.nc16, DL.nc17, DL.nc18, DL.nc19, DL.nc20, Nat.reduceLT, DL.le6, DL.le7, DL.le10, DL.le11, DL.le12, DL.le13, DL.le14, DL.le15, DL.le16, DL.le17, DL.le18, DL.le19, DL.le20, DL.le21, DL.le22, DL.le23, DL.le24, DL.le25, DL.le26, DL.le27, DL.le28, DL.le29, DL.le30, DL.le31, DL.le32, DL.le33, DL.le34, DL.le35, DL.le36, DL.le37, DL.le38, DL.le39, DL.le40, DL.lt0, DL.lt1, DL.lt2, DL.lt3, DL.lt4, DL.lt5, DL.lt6, DL.lt7, DL.lt8, DL.lt9, DL.lt10, DL.lt11, DL.lt12, DL.lt13, DL.lt14, DL.lt15, DL.lt16, DL.lt17, DL.lt18, DL.lt19, DL.lt20, DL.lt21, DL.lt22, DL.lt23, DL.lt24, DL.lt25, DL.lt26, DL.lt27, DL.lt28, DL.lt29, DL.lt30, DL.lt31, DL.lt32, DL.lt33, DL.lt34, DL.lt35, DL.lt36, DL.lt37, DL.lt38, DL.lt39, DL.lt40]
            rfl
          | some u =>
            obtain ⟨u0, u1⟩ := IF_u eb (Nat.le_trans (hp b (List.mem_cons_of_mem _ (List.mem_cons_self ..))) hl)
            by_cases hu : u = 0
            · subst hu
              simp only [isi_str, len_T hz, decide_eq_false h0, dm, ix_l0, ix_l1, ra, ea, rb, eb, OI, isn_i, isn_n, len_lst, DL.dFn, DL.dFi, DL.sSeq, DL.sSet, DL.sIf, DL.sRet, DL.sRetN, DL.sDrop, DL.sBind, DL.sAsg, DL.sPar, DL.sPar3, DL.sNext, DL.dC, DL.dVar, DL.dPeek, DL.dBind, DL.dOut, DL.dUn, DL.dBin, DL.dTru, DL.dNot, DL.dAndT, DL.dOrT, DL.dAndV, DL.dOrV, DL.dIfE, DL.aNil, DL.aCons, DL.aBind, DL.fits, DL.dApp, DL.dRet, DL.dTup, DL.dLst, DL.truD, DL.bName, DL.bTup, DL.bCons, DL.bNil, DL.pick_eq, DL.Src.get, List.filterMap_cons, List.filterMap_nil, List.getElem?_cons_zero, List.getElem?_cons_succ, List.length_cons, List.length_nil, List.set_cons_zero, List.set_cons_succ, List.map_cons, List.map_nil, List.cons_append, List.nil_append, List.append_nil, List.append_assoc, List.reduceReplicate, Nat.reduceAdd, Nat.reduceSub, Nat.reduceLeDiff, Nat.reduceEqDiff, ↓reduceIte, DL.subD, DL.mulD, DL.divD, DL.modD, DL.powD, DL.ltD, DL.leD, DL.gtD, DL.geD, DL.II, DL.subI, DL.cmpI, DL.negD, DL.addD_int, DL.ix_t0, DL.ix_t1, DL.ix_t2, DL.eqA_int, DL.eqA_pair, DL.intD_int, DL.intA_int, DL.intA_bl, DL.absD, DL.le1, DL.le2, DL.le3, DL.le4, DL.le5, DL.le8, DL.le9, Nat.zero_le, Bool.not_true, Bool.not_false, Bool.false_eq_true, DL.eqA_bl, eq_self, Int.reduceEq, Int.reduceLT, Int.reduceNeg, Bool.false_xor, Bool.true_xor, decide_true, decide_false, decide_eq_true_eq, and_self, DL.sRaise, DL.sApp, DL.sNew, DL.sTryE, DL.dAct, DL.dMkX, DL.dCallV, DL.nc0, DL.nc1, DL.nc2, DL.nc3, DL.nc4, DL.nc5, DL.nc6, DL.nc7, DL.nc8, DL.nc9, DL.nc10, DL.nc11, DL.nc12, DL.nc13, DL.nc14, DL.nc15, DL.nc16, DL.nc17, DL.nc18, DL.nc19, DL.nc20, Nat.reduceLT, DL.le6, DL.le7, DL.le10, DL.le11, DL.le12, DL.le13, DL.le14, DL.le15, DL.le16, DL.le17, DL.le18, DL.le19, DL.le20, DL.le21, DL.le22, DL.le23, DL.le24, DL.le25, DL.le26, DL.le27, DL.le28, DL.le29, DL.le30, DL.le31, DL.le32, DL.le33, DL.le34, DL.le35, DL.le36, DL.le37, DL.le38, DL.le39, DL.le40, DL.lt0, DL.lt1, DL.lt2, DL.lt3, DL.lt4, DL.lt5, DL.lt6, DL.lt7, DL.lt8, DL.lt9, DL.lt10, DL.lt11, DL.lt12, DL.lt13, DL.lt14, DL.lt15, DL.lt16, DL.lt17, DL.lt18, DL.lt19, DL.lt20, DL.lt21, DL.lt22, DL.lt23, DL.lt24, DL.lt25, DL.lt26, DL.lt27, DL.lt28, DL.lt29, DL.lt30, DL.lt31, DL.lt32, DL.lt33, DL.lt34, DL.lt35, DL.lt36, DL.lt37, DL.lt38, DL.lt39, DL.lt40]
              rfl
            · have rl := r_low t u (by omega) u1
              show _ = some (FO.ret (ON (NF2 (IF true a) (IF false b))) M)
              rw [ea, eb]
              show _ = some (FO.ret (ON (if u = 0 then none else some (lowP t u))) M)
              rw [if_neg hu]
              simp only [isi_str, len_T hz, decide_eq_false h0, dm, ix_l0, ix_l1, ra, ea, rb, eb, OI, isn_i, isn_n, len_lst, decide_eq_false hu, rl, DL.dFn, DL.dFi, DL.sSeq, DL.sSet, DL.sIf, DL.sRet, DL.sRetN, DL.sDrop, DL.sBind, DL.sAsg, DL.sPar, DL.sPar3, DL.sNext, DL.dC, DL.dVar, DL.dPeek, DL.dBind, DL.dOut, DL.dUn, DL.dBin, DL.dTru, DL.dNot, DL.dAndT, DL.dOrT, DL.dAndV, DL.dOrV, DL.dIfE, DL.aNil, DL.aCons, DL.aBind, DL.fits, DL.dApp, DL.dRet, DL.dTup, DL.dLst, DL.truD, DL.bName, DL.bTup, DL.bCons, DL.bNil, DL.pick_eq, DL.Src.get, List.filterMap_cons, List.filterMap_nil, List.getElem?_cons_zero, List.getElem?_cons_succ, List.length_cons, List.length_nil, List.set_cons_zero, List.set_cons_succ, List.map_cons, List.map_nil, List.cons_append, List.nil_append, List.append_nil, List.append_assoc, List.reduceReplicate, Nat.reduceAdd, Nat.reduceSub, Nat.reduceLeDiff, Nat.reduceEqDiff, ↓reduceIte, DL.subD, DL.mulD, DL.divD, DL.modD, DL.powD, DL.ltD, DL.leD, DL.gtD, DL.geD, DL.II, DL.subI, DL.cmpI, DL.negD, DL.addD_int, DL.ix_t0, DL.ix_t1, DL.ix_t2, DL.eqA_int, DL.eqA_pair, DL.intD_int, DL.intA_int, DL.intA_bl, DL.absD, DL.le1, DL.le2, DL.le3, DL.le4, DL.le5, DL.le8, DL.le9, Nat.zero_le, Bool.not_true, Bool.not_false, Bool.false_eq_true, DL.eqA_bl, eq_self, Int.reduceEq, Int.reduceLT, Int.reduceNeg, Bool.false_xor, Bool.true_xor, decide_true, decide_false, decide_eq_true_eq, and_self, DL.sRaise, DL.sApp, DL.sNew, DL.sTryE, DL.dAct, DL.dMkX, DL.dCallV, DL.nc0, DL.nc1, DL.nc2, DL.nc3, DL.nc4, DL.nc5, DL.nc6, DL.nc7, DL.nc8, DL.nc9, DL.nc10, DL.nc11, DL.nc12, DL.nc13, DL.nc14, DL.nc15, DL.nc16, DL.nc17, DL.nc18, DL.nc19, DL.nc20, Nat.reduceLT, DL.le6, DL.le7, DL.le10, DL.le11, DL.le12, DL.le13, DL.le14, DL.le15, DL.le16, DL.le17, DL.le18, DL.le19, DL.le20, DL.le21, DL.le22, DL.le23, DL.le24, DL.le25, DL.le26, DL.le27, DL.le28, DL.le29, DL.le30, DL.le31, DL.le32, DL.le33, DL.le34, DL.le35, DL.le36, DL.le37, DL.le38, DL.le39, DL.le40, DL.lt0, DL.lt1, DL.lt2, DL.lt3, DL.lt4, DL.lt5, DL.lt6, DL.lt7, DL.lt8, DL.lt9, DL.lt10, DL.lt11, DL.lt12, DL.lt13, DL.lt14, DL.lt15, DL.lt16, DL.lt17, DL.lt18, DL.lt19, DL.lt20, DL.lt21, DL.lt22, DL.lt23, DL.lt24, DL.lt25, DL.lt26, DL.lt27, DL.lt28, DL.lt29, DL.lt30, DL.lt31, DL.lt32, DL.lt33, DL.lt34, DL.lt35, DL.lt36, DL.lt37, DL.lt38, DL.lt39, DL.lt40]
              rfl
      | cons c C =>
        unfold φ_number_from m_number_from
        have h3 : (2 : Int) < ((C.map T).length + 1 + 1 + 1 : Nat) := by omega
        cases ea : IF true a with
        | none =>
          simp only [isi_str, len_T hz, decide_eq_false h0, dm, ix_l0, ra, ea, OI, isn_i, isn_n, len_lst, DL.dFn, DL.dFi, DL.sSeq, DL.sSet, DL.sIf, DL.sRet, DL.sRetN, DL.sDrop, DL.sBind, DL.sAsg, DL.sPar, DL.sPar3, DL.sNext, DL.dC, DL.dVar, DL.dPeek, DL.dBind, DL.dOut, DL.dUn, DL.dBin, DL.dTru, DL.dNot, DL.dAndT, DL.dOrT, DL.dAndV, DL.dOrV, DL.dIfE, DL.aNil, DL.aCons, DL.aBind, DL.fits, DL.dApp, DL.dRet, DL.dTup, DL.dLst, DL.truD, DL.bName, DL.bTup, DL.bCons, DL.bNil, DL.pick_eq, DL.Src.get, List.filterMap_cons, List.filterMap_nil, List.getElem?_cons_zero, List.getElem?_cons_succ, List.length_cons, List.length_nil, List.set_cons_zero, List.set_cons_succ, List.map_cons, List.map_nil, List.cons_append, List.nil_append, List.append_nil, List.append_assoc, List.reduceReplicate, Nat.reduceAdd, Nat.reduceSub, Nat.reduceLeDiff, Nat.reduceEqDiff, ↓reduceIte, DL.subD, DL.mulD, DL.divD, DL.modD, DL.powD, DL.ltD, DL.leD, DL.gtD, DL.geD, DL.II, DL.subI, DL.cmpI, DL.negD, DL.addD_int, DL.ix_t0, DL.ix_t1, DL.ix_t2, DL.eqA_int, DL.eqA_pair, DL.intD_int, DL.intA_int, DL.intA_bl, DL.absD, DL.le1, DL.le2, DL.le3, DL.le4, DL.le5, DL.le8, DL.le9, Nat.zero_le, Bool.not_true, Bool.not_false, Bool.false_eq_true, DL.eqA_bl, eq_self, Int.reduceEq, Int.reduceLT, Int.reduceNeg, Bool.false_xor, Bool.true_xor, decide_true, decide_false, decide_eq_true_eq, and_self, DL.sRaise, DL.sApp, DL.sNew, DL.sTryE, DL.dAct, DL.dMkX, DL.dCallV, DL.nc0, DL.nc1, DL.nc2, DL.nc3, DL.nc4, DL.nc5, DL.nc6, DL.nc7, DL.nc8, DL.nc9, DL.nc10, DL.nc11, DL.nc12, DL.nc13, DL.nc14, DL.nc15, DL.nc16, DL.nc17, DL.nc18, DL.nc19, DL.nc20, Nat.reduceLT, DL.le6, DL.le7, DL.le10, DL.le11, DL.le12, DL.le13, DL.le14, DL.le15, DL.le16, DL.le17, DL.le18, DL.le19, DL.le20, DL.le21, DL.le22, DL.le23, DL.le24, DL.le25, DL.le26, DL.le27, DL.le28, DL.le29, DL.le30, DL.le31, DL.le32, DL.le33, DL.le34, DL.le35, DL.le36, DL.le37, DL.le38, DL.le39, DL.le40, DL.lt0, DL.lt1, DL.lt2, DL.lt3, DL.lt4, DL.lt5, DL.lt6, DL.lt7, DL.lt8, DL.lt9, DL.lt10, DL.lt11, DL.lt12, DL.lt13, DL.lt14, DL.lt15, DL.lt16, DL.lt17, DL.lt18, DL.lt19, DL.lt20, DL.lt21, DL.lt22, DL.lt23, DL.lt24, DL.lt25, DL.lt26, DL.lt27, DL.lt28, DL.lt29, DL.lt30, DL.lt31, DL.lt32, DL.lt33, DL.lt34, DL.lt35, DL.lt36, DL.lt37, DL.lt38, DL.lt39, DL.lt40]
          rfl
        | some t =>
          simp only [isi_str, len_T hz, decide_eq_false h0, dm, ix_l0, ra, ea, OI, isn_i, isn_n, len_lst, decide_eq_true h3, DL.dFn, DL.dFi, DL.sSeq, DL.sSet, DL.sIf, DL.sRet, DL.sRetN, DL.sDrop, DL.sBind, DL.sAsg, DL.sPar, DL.sPar3, DL.sNext, DL.dC, DL.dVar, DL.dPeek, DL.dBind, DL.dOut, DL.dUn, DL.dBin, DL.dTru, DL.dNot, DL.dAndT, DL.dOrT, DL.dAndV, DL.dOrV, DL.dIfE, DL.aNil, DL.aCons, DL.aBind, DL.fits, DL.dApp, DL.dRet, DL.dTup, DL.dLst, DL.truD, DL.bName, DL.bTup, DL.bCons, DL.bNil, DL.pick_eq, DL.Src.get, List.filterMap_cons, List.filterMap_nil, List.getElem?_cons_zero, List.getElem?_cons_succ, List.length_cons, List.length_nil, List.set_cons_zero, List.set_cons_succ, List.map_cons, List.map_nil, List.cons_append, List.nil_append, List.append_nil, List.append_assoc, List.reduceReplicate, Nat.reduceAdd, Nat.reduceSub, Nat.reduceLeDiff, Nat.reduceEqDiff, ↓reduceIte, DL.subD, DL.mulD, DL.divD, DL.modD, DL.powD, DL.ltD, DL.leD, DL.gtD, DL.geD, DL.II, DL.subI, DL.cmpI, DL.negD, DL.addD_int, DL.ix_t0, DL.ix_t1, DL.ix_t2, DL.eqA_int, DL.eqA_pair, DL.intD_int, DL.intA_int, DL.intA_bl, DL.absD, DL.le1, DL.le2, DL.le3, DL.le4, DL.le5, DL.le8, DL.le9, Nat.zero_le, Bool.not_true, Bool.not_false, Bool.false_eq_true, DL.eqA_bl, eq_self, Int.reduceEq, Int.reduceLT, Int.reduceNeg, Bool.false_xor, Bool.true_xor, decide_true, decide_false, decide_eq_true_eq, and_self, DL.sRaise, DL.sApp, DL.sNew, DL.sTryE, DL.dAct, DL.dMkX, DL.dCallV, DL.nc0, DL.nc1, DL.nc2, DL.nc3, DL.nc4, DL.nc5, DL.nc6, DL.nc7, DL.nc8, DL.nc9, DL.nc10, DL.nc11, DL.nc12, DL.nc13, DL.nc14, DL.nc15, DL.nc16, DL.nc17, DL.nc18, DL.nc19, DL.nc20, Nat.reduceLT, DL.le6, DL.le7, DL.le10, DL.le11, DL.le12, DL.le13, DL.le14, DL.le15, DL.le16, DL.le17, DL.le18, DL.le19, DL.le20, DL.le21, DL.le22, DL.le23, DL.le24, DL.le25, DL.le26, DL.le27, DL.le28, DL.le29, DL.le30, DL.le31, DL.le32, DL.le33, DL.le34, DL.le35, DL.le36, DL.le37, DL.le38, DL.le39, DL.le40, DL.lt0, DL.lt1, DL.lt2, DL.lt3, DL.lt4, DL.lt5, DL.lt6, DL.lt7, DL.lt8, DL.lt9, DL.lt10, DL.lt11, DL.lt12, DL.lt13, DL.lt14, DL.lt15, DL.lt16, DL.lt17, DL.lt18, DL.lt19, DL.lt20, DL.lt21, DL.lt22, DL.lt23, DL.lt24, DL.lt25, DL.lt26, DL.lt27, DL.lt28, DL.lt29, DL.lt30, DL.lt31, DL.lt32, DL.lt33, DL.lt34, DL.lt35, DL.lt36, DL.lt37, DL.lt38, DL.lt39, DL.lt40]
          rfl
end L05
set_option maxHeartbeats 2000000
set_option exponentiation.threshold 10000
namespace L05
open PySem PySem.Spec PyProof.Rows L2 DL PA
/-! ### the texts of numbers -/
def numZ (i : Int) : List Nat := if i < 0 then 45 :: TL.numL i.natAbs else TL.numL i.natAbs
theorem num_T : ∀ i : Int, (D.str (Str.ofString (toString i))) = T (numZ i)
  | .ofNat n => by
    have e : numZ (.ofNat n) = TL.numL n := by
      unfold numZ
      rw [if_neg (by simp)]
      rfl
    rw [e]
    exact congrArg D.str (SX.num_S n)
  | .negSucc n => by
    have e : numZ (.negSucc n) = 45 :: TL.numL (n + 1) := by
      unfold numZ
      rw [if_pos (by omega)]
      rfl
    rw [e]
    refine congrArg D.str (TL.ext_tl ?_)
    rw [TL.tl_ofString]
    show ("-" ++ Nat.repr (n + 1)).toList.map Char.toNat = 45 :: TL.numL (n + 1)
    rw [String.toList_append, List.map_append, Nat.toList_repr]
    rfl
theorem figs_num (n : Nat) : figs (TL.numL n) = true := by
  unfold figs
  refine List.all_eq_true.mpr fun c hc => ?_
  have := TL.numL_digits n c hc
  simpa using this
theorem head_num (n : Nat) : (TL.numL n).head? = some 48 → n = 0 := by
  refine n.strongRecOn fun n ih h => ?_
  · by_cases z : n < 10
    · rw [TL.numL_lt z] at h
      simp at h
      exact h
    · rw [TL.numL_step (by omega)] at h
      have hne := TL.numL_ne (n / 10)
      have : (TL.numL (n / 10)).head? = some 48 := by
        cases e : TL.numL (n / 10) with
        | nil => exact absurd e hne
        | cons c r => rw [e] at h; simpa using h
      have := ih (n / 10) (by omega) this
      omega
theorem take_num (n : Nat) : (TL.numL n).take 1 ≠ [45] := by
  have h := figs_num n
  cases e : TL.numL n with
  | nil => simp
  | cons c r =>
    rw [e, figs_cons, Bool.and_eq_true] at h
    intro g
    simp only [List.take_succ_cons, List.take_zero, List.cons.injEq, and_true] at g
    rw [g] at h
    exact absurd h.1 (by decide)
theorem IF_num (b : Bool) (n : Nat) : IF b (TL.numL n) = some (n : Int) := by
  have hb : bodyL b (TL.numL n) = TL.numL n := by
    unfold bodyL
    rw [if_neg fun h => take_num n h.2]
  unfold IF
  rw [hb, if_neg, if_pos rfl, TL.numL_val]
  rintro (h | h | ⟨h, g⟩)
  · exact TL.numL_ne n h
  · rw [figs_num] at h; cases h
  · have := head_num n h
    subst this
    exact g rfl
theorem IF_neg {n : Nat} (hn : 0 < n) : IF true (45 :: TL.numL n) = some (-(n : Int)) := by
  have hb : bodyL true (45 :: TL.numL n) = TL.numL n := by
    unfold bodyL
    rw [if_pos ⟨rfl, rfl⟩]
    rfl
  unfold IF
  rw [hb, if_neg, if_neg, TL.numL_val]
  · intro h
    have hL := congrArg List.length h
    simp at hL
  · rintro (h | h | ⟨h, g⟩)
    · exact TL.numL_ne n h
    · rw [figs_num] at h; cases h
    · have := head_num n h
      omega
theorem IF_numZ (i : Int) : IF true (numZ i) = some i := by
  unfold numZ
  by_cases h : i < 0
  · rw [if_pos h, IF_neg (by omega)]
    congr 1
    omega
  · rw [if_neg h, IF_num]
    congr 1
    omega
theorem IF_numP {i : Int} (h : 0 ≤ i) : IF false (numZ i) = some i := by
  unfold numZ
  rw [if_neg (by omega), IF_num]
  congr 1
  omega
theorem num_free (i : Int) : 47 ∉ numZ i := by
  unfold numZ
  split
  · intro h
    rcases List.mem_cons.mp h with h | h
    · cases h
    · exact TL.numL_free (by omega) h
  · exact TL.numL_free (by omega)
/-- the text of a pair -/
def TN (p : Int × Int) : List Nat := if p.2 = 1 then numZ p.1 else numZ p.1 ++ 47 :: numZ p.2
theorem NF_pair (t u : Int) (hu : 0 < u) : NF (numZ t ++ 47 :: numZ u) = some (lowP t u) := by
  unfold NF
  rw [cut_app _ (num_free t), cut_one (num_free u)]
  show NF2 (IF true (numZ t)) (IF false (numZ u)) = _
  rw [IF_numZ, IF_numP (by omega)]
  exact if_neg (by omega)
theorem NF_one (t : Int) : NF (numZ t) = some (t, 1) := by
  unfold NF
  rw [cut_one (num_free t)]
  show (IF true (numZ t)).map _ = _
  rw [IF_numZ]
  rfl
theorem NF_TN {k : Nat} {p : Int × Int} (h : Low k p) : NF (TN p) = some p := by
  unfold TN
  split
  · rename_i e
    rw [NF_one]
    congr 1
    exact Prod.ext rfl e.symm
  · rw [NF_pair _ _ h.pos, h.self]
theorem numZ_len {i : Int} {k : Nat} (hk : 0 < k) (h : i.natAbs < 2 ^ k) : (numZ i).length ≤ k + 1 := by
  have := len_int hk h
  have e : (Str.ofString (toString i)) = SX.S (numZ i) := by
    have := num_T i
    injection this
  rw [e, SX.S_len] at this
  exact this
theorem TN_len {k : Nat} {p : Int × Int} (h : Low k p) (hk : 0 < k) : (TN p).length ≤ 2 * k + 3 := by
  have a := numZ_len hk h.b1
  have b := numZ_len hk h.b2
  unfold TN
  split
  · omega
  · rw [List.length_append, List.length_cons]; omega
theorem add_T {a b : List Nat} (h : a.length + b.length ≤ 100000) : addD (T a) (T b) = some (T (a ++ b)) := by
  rw [addD_str (by rw [SX.S_len, SX.S_len]; exact line_nat (by omega)), SX.S_cat]
theorem str_Z {i : Int} (h : i.natAbs < 2 ^ 1900) : strA (.int i) = some (T (numZ i)) := by rw [strA_int h, num_T]
theorem r_text {k : Nat} {d : D} {p : Int × Int} (h : Low k p) (hk : 0 < k ∧ k ≤ 1000) (N : Num d p) (M : MS) : φ_text_of_number [d] M = some (.ret (T (TN p)) M) := by
  have s1 := str_Z (i := p.1) (small h.b1 (by omega))
  have s2 := str_Z (i := p.2) (small h.b2 (by omega))
  have l1 := numZ_len hk.1 h.b1
  have l2 := numZ_len hk.1 h.b2
  unfold φ_text_of_number m_text_of_number TN
  by_cases e : p.2 = 1
  · rw [if_pos e]
    simp only [N.of, decide_eq_true e, s1, DL.dFn, DL.dFi, DL.sSeq, DL.sSet, DL.sIf, DL.sRet, DL.sRetN, DL.sDrop, DL.sBind, DL.sAsg, DL.sPar, DL.sPar3, DL.sNext, DL.dC, DL.dVar, DL.dPeek, DL.dBind, DL.dOut, DL.dUn, DL.dBin, DL.dTru, DL.dNot, DL.dAndT, DL.dOrT, DL.dAndV, DL.dOrV, DL.dIfE, DL.aNil, DL.aCons, DL.aBind, DL.fits, DL.dApp, DL.dRet, DL.dTup, DL.dLst, DL.truD, DL.bName, DL.bTup, DL.bCons, DL.bNil, DL.pick_eq, DL.Src.get, List.filterMap_cons, List.filterMap_nil, List.getElem?_cons_zero, List.getElem?_cons_succ, List.length_cons, List.length_nil, List.set_cons_zero, List.set_cons_succ, List.map_cons, List.map_nil, List.cons_append, List.nil_append, List.append_nil, List.append_assoc, List.reduceReplicate, Nat.reduceAdd, Nat.reduceSub, Nat.reduceLeDiff, Nat.reduceEqDiff, ↓reduceIte, DL.subD, DL.mulD, DL.divD, DL.modD, DL.powD, DL.ltD, DL.leD, DL.gtD, DL.geD, DL.II, DL.subI, DL.cmpI, DL.negD, DL.addD_int, DL.ix_t0, DL.ix_t1, DL.ix_t2, DL.eqA_int, DL.eqA_pair, DL.intD_int, DL.intA_int, DL.intA_bl, DL.absD, DL.le1, DL.le2, DL.le3, DL.le4, DL.le5, DL.le8, DL.le9, Nat.zero_le, Bool.not_true, Bool.not_false, Bool.false_eq_true, DL.eqA_bl, eq_self, Int.reduceEq, Int.reduceLT, Int.reduceNeg, Bool.false_xor, Bool.true_xor, decide_true, decide_false, decide_eq_true_eq, and_self, DL.sRaise, DL.sApp, DL.sNew, DL.sTryE, DL.dAct, DL.dMkX, DL.dCallV, DL.nc0, DL.nc1, DL.nc2, DL.nc3, DL.nc4, DL.nc5, DL.nc6, DL.nc7, DL.nc8, DL.nc9, DL.nc10, DL.nc11, DL.nc12, DL.nc13, DL.nc14, DL.nc15, DL.nc16, DL.nc17, DL.nc18, DL.nc19, DL.nc20, Nat.reduceLT, DL.le6, DL.le7, DL.le10, DL.le11, DL.le12, DL.le13, DL.le14, DL.le15, DL.le16, DL.le17, DL.le18, DL.le19, DL.le20, DL.le21, DL.le22, DL.le23, DL.le24, DL.le25, DL.le26, DL.le27, DL.le28, DL.le29, DL.le30, DL.le31, DL.le32, DL.le33, DL.le34, DL.le35, DL.le36, DL.le37, DL.le38, DL.le39, DL.le40, DL.lt0, DL.lt1, DL.lt2, DL.lt3, DL.lt4, DL.lt5, DL.lt6, DL.lt7, DL.lt8, DL.lt9, DL.lt10, DL.lt11, DL.lt12, DL.lt13, DL.lt14, DL.lt15, DL.lt16, DL.lt17, DL.lt18, DL.lt19, DL.lt20, DL.lt21, DL.lt22, DL.lt23, DL.lt24, DL.lt25, DL.lt26, DL.lt27, DL.lt28, DL.lt29, DL.lt30, DL.lt31, DL.lt32, DL.lt33, DL.lt34, DL.lt35, DL.lt36, DL.lt37, DL.lt38, DL.lt39, DL.lt40]
  · rw [if_neg e]
    have a1 : addD (T (numZ p.1)) (T [47]) = some (T (numZ p.1 ++ [47])) := add_T (by simp; omega)
    have a2 : addD (T (numZ p.1 ++ [47])) (T (numZ p.2)) = some (T (numZ p.1 ++ [47] ++ numZ p.2)) := add_T (by simp; omega)
    have a3 : numZ p.1 ++ [47] ++ numZ p.2 = numZ p.1 ++ 47 :: numZ p.2 := by rw [List.append_assoc]; rfl
    rw [a3] at a2
    simp only [N.of, decide_eq_false e, s1, s2, T_slash, a1, a2, DL.dFn, DL.dFi, DL.sSeq, DL.sSet, DL.sIf, DL.sRet, DL.sRetN, DL.sDrop, DL.sBind, DL.sAsg, DL.sPar, DL.sPar3, DL.sNext, DL.dC, DL.dVar, DL.dPeek, DL.dBind, DL.dOut, DL.dUn, DL.dBin, DL.dTru, DL.dNot, DL.dAndT, DL.dOrT, DL.dAndV, DL.dOrV, DL.dIfE, DL.aNil, DL.aCons, DL.aBind, DL.fits, DL.dApp, DL.dRet, DL.dTup, DL.dLst, DL.truD, DL.bName, DL.bTup, DL.bCons, DL.bNil, DL.pick_eq, DL.Src.get, List.filterMap_cons, List.filterMap_nil, List.getElem?_cons_zero, List.getElem?_cons_succ, List.length_cons, List.length_nil, List.set_cons_zero, List.set_cons_succ, List.map_cons, List.map_nil, List.cons_append, List.nil_append, List.append_nil, List.append_assoc, List.reduceReplicate, Nat.reduceAdd, Nat.reduceSub, Nat.reduceLeDiff, Nat.reduceEqDiff, ↓reduceIte, DL.subD, DL.mulD, DL.divD, DL.modD, DL.powD, DL.ltD, DL.leD, DL.gtD, DL.geD, DL.II, DL.subI, DL.cmpI, DL.negD, DL.addD_int, DL.ix_t0, DL.ix_t1, DL.ix_t2, DL.eqA_int, DL.eqA_pair, DL.intD_int, DL.intA_int, DL.intA_bl, DL.absD, DL.le1, DL.le2, DL.le3, DL.le4, DL.le5, DL.le8, DL.le9, Nat.zero_le, Bool.not_true, Bool.not_false, Bool.false_eq_true, DL.eqA_bl, eq_self, Int.reduceEq, Int.reduceLT, Int.reduceNeg, Bool.false_xor, Bool.true_xor, decide_true, decide_false, decide_eq_true_eq, and_self, DL.sRaise, DL.sApp, DL.sNew, DL.sTryE, DL.dAct, DL.dMkX, DL.dCallV, DL.nc0, DL.nc1, DL.nc2, DL.nc3, DL.nc4, DL.nc5, DL.nc6, DL.nc7, DL.nc8, DL.nc9, DL.nc10, DL.nc11, DL.nc12, DL.nc13, DL.nc14, DL.nc15, DL.nc16, DL.nc17, DL.nc18, DL.nc19, DL.nc20, Nat.reduceLT, DL.le6, DL.le7, DL.le10, DL.le11, DL.le12, DL.le13, DL.le14, DL.le15, DL.le16, DL.le17, DL.le18, DL.le19, DL.le20, DL.le21, DL.le22, DL.le23, DL.le24, DL.le25, DL.le26, DL.le27, DL.le28, DL.le29, DL.le30, DL.le31, DL.le32, DL.le33, DL.le34, DL.le35, DL.le36, DL.le37, DL.le38, DL.le39, DL.le40, DL.lt0, DL.lt1, DL.lt2, DL.lt3, DL.lt4, DL.lt5, DL.lt6, DL.lt7, DL.lt8, DL.lt9, DL.lt10, DL.lt11, DL.lt12, DL.lt13, DL.lt14, DL.lt15, DL.lt16, DL.lt17, DL.lt18, DL.lt19, DL.lt20, DL.lt21, DL.lt22, DL.lt23, DL.lt24, DL.lt25, DL.lt26, DL.lt27, DL.lt28, DL.lt29, DL.lt30, DL.lt31, DL.lt32, DL.lt33, DL.lt34, DL.lt35, DL.lt36, DL.lt37, DL.lt38, DL.lt39, DL.lt40]
/-! ### texts that tell none -/
theorem cut_cat : ∀ (n : Nat) (a r : List Nat), a.length ≤ n → cut (a ++ 47 :: r) = cut a ++ cut r := by
  intro n
  induction n with
  | zero =>
    intro a r h
    have : a = [] := List.length_eq_zero_iff.mp (by omega)
    subst this
    rw [cut_app (p := []) r (by simp), cut_one (l := []) (by simp)]
    rfl
  | succ n ih =>
    intro a r h
    rcases cut_cases a with ⟨f, e⟩ | ⟨p, q, f, e1, e⟩
    · rw [cut_app r f, e]
      rfl
    · have hL : a.length = p.length + (q.length + 1) := by rw [e1, List.length_append, List.length_cons]
      rw [e, e1, List.append_assoc, List.cons_append, cut_app _ f, ih q r (by omega)]
      rfl
theorem cut_sep (a r : List Nat) : cut (a ++ 47 :: r) = cut a ++ cut r := cut_cat _ a r (Nat.le_refl _)
theorem cut_cons {c : Nat} (hc : c ≠ 47) (l : List Nat) : ∃ p C, cut l = p :: C ∧ cut (c :: l) = (c :: p) :: C := by
  rcases cut_cases l with ⟨f, e⟩ | ⟨p, q, f, e1, e⟩
  · refine ⟨l, [], e, cut_one fun h => ?_⟩
    rcases List.mem_cons.mp h with h | h
    · exact hc h.symm
    · exact f h
  · refine ⟨p, cut q, e, ?_⟩
    rw [e1]
    refine cut_app (p := c :: p) q fun h => ?_
    rcases List.mem_cons.mp h with h | h
    · exact hc h.symm
    · exact f h
theorem cut_mem : ∀ (n : Nat) (l : List Nat), l.length ≤ n → ∀ c ∈ l, c ≠ 47 → ∃ p ∈ cut l, c ∈ p := by
  intro n
  induction n with
  | zero =>
    intro l h c hc
    have : l = [] := List.length_eq_zero_iff.mp (by omega)
    subst this
    cases hc
  | succ n ih =>
    intro l h c hc h47
    rcases cut_cases l with ⟨f, e⟩ | ⟨p, q, f, e1, e⟩
    · exact ⟨l, by rw [e]; exact List.mem_singleton.mpr rfl, hc⟩
    · have hL : l.length = p.length + (q.length + 1) := by rw [e1, List.length_append, List.length_cons]
      rw [e1] at hc
      rcases List.mem_append.mp hc with m1 | m2
      · exact ⟨p, by rw [e]; exact List.mem_cons_self .., m1⟩
      · rcases List.mem_cons.mp m2 with m3 | m3
        · exact absurd m3 h47
        · obtain ⟨z, h1, h2⟩ := ih q (by omega) c m3 h47
          exact ⟨z, by rw [e]; exact List.mem_cons_of_mem _ h1, h2⟩
/-- what a told number asks of its parts -/
theorem NF_parts {l : List Nat} (h : NF l ≠ none) : ((∃ a, cut l = [a] ∧ IF true a ≠ none) ∨ ∃ a b, cut l = [a, b] ∧ IF true a ≠ none ∧ IF false b ≠ none ∧ IF false b ≠ some 0) := by
  unfold NF at h
  split at h
  · rename_i a e
    refine .inl ⟨a, e, fun z => ?_⟩
    rw [z] at h
    exact h rfl
  · rename_i a b e
    refine .inr ⟨a, b, e, fun z => ?_, fun z => ?_, fun z => ?_⟩
    · rw [z] at h
      exact h rfl
    · rw [z] at h
      cases y : IF true a <;> rw [y] at h <;> exact h rfl
    · rw [z] at h
      cases y : IF true a <;> rw [y] at h <;> exact h rfl
  · exact absurd rfl h
theorem IF_ne {b : Bool} {l : List Nat} (h : IF b l ≠ none) : bodyL b l ≠ [] ∧ figs (bodyL b l) = true ∧ ((bodyL b l).head? = some 48 → l = [48]) := by
  unfold IF at h
  split at h
  · exact absurd rfl h
  · rename_i g
    refine ⟨fun z => g (.inl z), ?_, fun z => ?_⟩
    · cases z : figs (bodyL b l) with
      | true => rfl
      | false => exact absurd (.inr (.inl z)) g
    · exact Classical.byContradiction fun y => g (.inr (.inr ⟨z, y⟩))
/-- the signs of a told part -/
theorem IF_signs {b : Bool} {l : List Nat} (h : IF b l ≠ none) : l ≠ [] ∧ ∀ c ∈ l, c = 45 ∨ (48 ≤ c ∧ c ≤ 57) := by
  obtain ⟨h1, h2, _⟩ := IF_ne h
  refine ⟨fun z => ?_, fun c hc => ?_⟩
  · subst z
    apply h1
    unfold bodyL
    split <;> rfl
  · unfold bodyL at h2
    split at h2
    · rename_i g
      cases l with
      | nil => cases hc
      | cons d l =>
        have hd : d = 45 := by simpa using g.2
        rcases List.mem_cons.mp hc with hc | hc
        · exact .inl (hc.trans hd)
        · exact .inr (figs_dig h2 c hc)
    · exact .inr (figs_dig h2 c hc)
theorem NF_signs {l : List Nat} (h : NF l ≠ none) : ∀ p ∈ cut l, p ≠ [] ∧ ∀ c ∈ p, c = 45 ∨ (48 ≤ c ∧ c ≤ 57) := by
  rcases NF_parts h with ⟨a, e, h1⟩ | ⟨a, b, e, h1, h2, _⟩
  · intro p hp
    rw [e] at hp
    rw [List.mem_singleton.mp hp]
    exact IF_signs h1
  · intro p hp
    rw [e] at hp
    rcases List.mem_cons.mp hp with hp | hp
    · rw [hp]; exact IF_signs h1
    · rw [List.mem_singleton.mp hp]; exact IF_signs h2
/-- a sign that no number has -/
theorem no_sign {l : List Nat} {c : Nat} (h : c ∈ l) (h1 : c ≠ 47) (h2 : c ≠ 45) (h3 : ¬ (48 ≤ c ∧ c ≤ 57)) : NF l = none := Classical.byContradiction fun z => by
  obtain ⟨p, hp, hc⟩ := cut_mem _ l (Nat.le_refl _) c h h1
  rcases (NF_signs z p hp).2 c hc with g | g
  · exact h2 g
  · exact h3 g
/-- an empty part -/
theorem no_empty {l : List Nat} (h : [] ∈ cut l) : NF l = none := Classical.byContradiction fun z => (NF_signs z [] h).1 rfl
/-- a last part that tells no divisor -/
theorem no_last {l b : List Nat} (hb : 47 ∉ b) (h : IF false b = none ∨ IF false b = some 0) : NF (l ++ 47 :: b) = none := Classical.byContradiction fun z => by
  have e := cut_sep l b
  rw [cut_one hb] at e
  obtain ⟨p, C, e2⟩ : ∃ p C, cut l = p :: C := by
    cases q : cut l with
    | nil => exact absurd q (cut_ne l)
    | cons p C => exact ⟨p, C, rfl⟩
  rw [e2] at e
  rcases NF_parts z with ⟨a, e3, _⟩ | ⟨a, c, e3, _, h2, h3⟩
  · rw [e3] at e
    have := congrArg List.length e
    simp at this
  · rw [e3] at e
    cases C with
    | nil =>
      simp only [List.cons_append, List.nil_append, List.cons.injEq, and_true] at e
      rw [e.2] at h2 h3
      rcases h with h | h
      · exact h2 h
      · exact h3 h
    | cons q C =>
      have := congrArg List.length e
      simp at this
/-- too many parts -/
theorem no_many {l a b : List Nat} : NF (l ++ 47 :: (a ++ 47 :: b)) = none := Classical.byContradiction fun z => by
  have e := cut_sep l (a ++ 47 :: b)
  rw [cut_sep a b] at e
  have n1 := List.length_pos_iff.mpr (cut_ne l)
  have n2 := List.length_pos_iff.mpr (cut_ne a)
  have n3 := List.length_pos_iff.mpr (cut_ne b)
  have := congrArg List.length e
  simp only [List.length_append] at this
  rcases NF_parts z with ⟨a, e3, _⟩ | ⟨a, c, e3, _, h2, h3⟩ <;> (rw [e3] at this; simp at this; omega)
/-- a first part that tells none -/
theorem no_first {l p : List Nat} {C : List (List Nat)} (h : cut l = p :: C) (hp : IF true p = none) : NF l = none := Classical.byContradiction fun z => by
  rcases NF_parts z with ⟨a, e3, h1⟩ | ⟨a, c, e3, h1, _⟩ <;> (rw [e3] at h; injection h with h _; rw [h] at h1; exact h1 hp)
theorem no_zero {l : List Nat} (h : NF l ≠ none) : NF (48 :: l) = none := by
  obtain ⟨p, C, e1, e2⟩ := cut_cons (c := 48) (by decide) l
  refine no_first e2 ?_
  have hp : p ≠ [] := (NF_signs h p (by rw [e1]; exact List.mem_cons_self ..)).1
  refine Classical.byContradiction fun z => ?_
  obtain ⟨_, _, h3⟩ := IF_ne z
  have hb : bodyL true (48 :: p) = 48 :: p := by
    unfold bodyL
    rw [if_neg (by simp)]
  rw [hb] at h3
  have := h3 rfl
  simp at this
  exact hp this
theorem no_minus (l : List Nat) : NF (45 :: 45 :: l) = none := by
  obtain ⟨p, C, e1, e2⟩ := cut_cons (c := 45) (by decide) l
  obtain ⟨q, C', e3, e4⟩ := cut_cons (c := 45) (by decide) (45 :: l)
  rw [e2] at e3
  injection e3 with e3 _
  rw [← e3] at e4
  refine no_first e4 (Classical.byContradiction fun z => ?_)
  obtain ⟨_, h2, _⟩ := IF_ne z
  have hb : bodyL true (45 :: 45 :: p) = 45 :: p := by
    unfold bodyL
    rw [if_pos ⟨rfl, rfl⟩]
    rfl
  rw [hb, figs_cons, Bool.and_eq_true] at h2
  exact absurd h2.1 (by decide)
end L05
set_option maxHeartbeats 2000000
set_option exponentiation.threshold 10000
namespace L05
open PySem PySem.Spec PyProof.Rows L2 DL PA
theorem sl_toN {l : List Nat} (hl : l.length ≤ 1000) {i : Int} (h : 0 ≤ i) : slD (T l) none (some i) = some (T (l.take i.toNat)) := by
  unfold slD
  simp only
  rw [if_pos (by rw [SX.S_len]; exact line_nat (by omega)), C8.cutS_slice, SX.slice_to h]
theorem sl_fromN {l : List Nat} (hl : l.length ≤ 1000) {i : Int} (h : 0 ≤ i) : slD (T l) (some i) none = some (T (l.drop i.toNat)) := by
  unfold slD
  simp only
  rw [if_pos (by rw [SX.S_len]; exact line_nat (by omega)), C8.cutS_slice, SX.slice_from h]
theorem add_L {a b : List D} (h : a.length + b.length ≤ 1000) : addD (.lst a) (.lst b) = some (.lst (a ++ b)) := by
  show (addL (.lst a) (.lst b)).orElse _ = _
  unfold addL
  simp only
  first
    | (rw [if_pos (line_nat (by omega))]; rfl)
    | rfl
theorem q_plus : (D.str "+" : D) = T [43] := rfl
theorem q_blank : (D.str " " : D) = T [32] := rfl
theorem q_s0 : (D.str "/0" : D) = T [47, 48] := rfl
theorem q_mm : (D.str "--" : D) = T [45, 45] := rfl
theorem q_m2 : (D.str "/-2" : D) = T [47, 45, 50] := rfl
theorem q_02 : (D.str "/02" : D) = T [47, 48, 50] := rfl
theorem q_11 : (D.str "/1/1" : D) = T [47, 49, 47, 49] := rfl
theorem q_us : (D.str "_" : D) = T [95] := rfl
theorem q_dot : (D.str "." : D) = T [46] := rfl
theorem q_x : (D.str "x" : D) = T [120] := rfl
theorem q_comma : (D.str "," : D) = T [44] := rfl
theorem q_e : (D.str "e" : D) = T [101] := rfl
theorem q_til : (D.str "~" : D) = T [126] := rfl
theorem q_ss : (D.str "//" : D) = T [47, 47] := rfl
theorem q_m0 : (D.str "-0" : D) = T [45, 48] := rfl
theorem q_00 : (D.str "00" : D) = T [48, 48] := rfl
theorem q_m05 : (D.str "-0/5" : D) = T [45, 48, 47, 53] := rfl
theorem q_123 : (D.str "1/2/3" : D) = T [49, 47, 50, 47, 51] := rfl
theorem r_none (n : Nat) (hn : n ≤ 9000) (M : MS) (hM : PenOk n M) (l : List Nat) (hl : l.length ≤ 300) (h : NF l ≠ none) : ∃ (l' : List Nat) (M' : MS), φ__law_none [.obj 0, T l] M = some (.ret (T l') M') ∧ NF l' = none ∧ l'.length ≤ 1000 ∧ PenOk (n + 3) M' := by
  obtain ⟨i, M1, e1, i0, i1, p1⟩ := r_draw_s n (by omega) M hM ((l.length : Int) + 1) (by omega) (by
    have : ((l.length : Int) + 1).natAbs < 2 ^ 10 := by omega
    exact p2lt this (by omega))
  obtain ⟨d, M2, e2, m2, p2⟩ := r_pick (n + 1) (by omega) M1 p1 [T [95], T [46], T [120], T [44], T [101], T [126], T [47, 47]] (by simp) (by simp)
  obtain ⟨x, hd, hx⟩ : ∃ x : List Nat, d = T x ∧ (x = [47, 47] ∨ ∃ c, x = [c] ∧ c ≠ 47 ∧ c ≠ 45 ∧ ¬ (48 ≤ c ∧ c ≤ 57)) := by
    simp only [List.mem_cons, List.not_mem_nil, or_false] at m2
    rcases m2 with g | g | g | g | g | g | g
    · exact ⟨_, g, .inr ⟨_, rfl, by decide, by decide, by decide⟩⟩
    · exact ⟨_, g, .inr ⟨_, rfl, by decide, by decide, by decide⟩⟩
    · exact ⟨_, g, .inr ⟨_, rfl, by decide, by decide, by decide⟩⟩
    · exact ⟨_, g, .inr ⟨_, rfl, by decide, by decide, by decide⟩⟩
    · exact ⟨_, g, .inr ⟨_, rfl, by decide, by decide, by decide⟩⟩
    · exact ⟨_, g, .inr ⟨_, rfl, by decide, by decide, by decide⟩⟩
    · exact ⟨_, g, .inl rfl⟩
  subst hd
  have hxl : x.length ≤ 2 := by
    rcases hx with rfl | ⟨c, rfl, _⟩ <;> simp
  have ht : (l.take i.toNat).length ≤ 300 := by rw [List.length_take]; omega
  have hd : (l.drop i.toNat).length ≤ 300 := by rw [List.length_drop]; omega
  obtain ⟨r, M3, e3, m3, p3⟩ := r_pick (n + 2) (by omega) M2 p2 [T [], T (48 :: l), T (43 :: l), T (32 :: l), T (l ++ [32]), T (l ++ [47]), T (47 :: l), T (l ++ [47, 48]), T (45 :: 45 :: l), T (l ++ [47, 45, 50]), T (l ++ [47, 48, 50]),
    T (l.take i.toNat ++ (x ++ l.drop i.toNat)), T [45, 48], T [45], T [48, 48], T [45, 48, 47, 53], T [49, 47, 50, 47, 51], T (l ++ [47, 49, 47, 49])] (by simp) (by simp)
  have fin : ∃ l', r = T l' ∧ NF l' = none ∧ l'.length ≤ 1000 := by
    simp only [List.mem_cons, List.not_mem_nil, or_false] at m3
    rcases m3 with g | g | g | g | g | g | g | g | g | g | g | g | g | g | g | g | g | g
    · exact ⟨_, g, no_empty (by rw [cut_one (by simp)]; exact List.mem_singleton.mpr rfl), by simp⟩
    · exact ⟨_, g, no_zero h, by simp; omega⟩
    · exact ⟨_, g, no_sign (List.mem_cons_self ..) (by decide) (by decide) (by decide), by simp; omega⟩
    · exact ⟨_, g, no_sign (List.mem_cons_self ..) (by decide) (by decide) (by decide), by simp; omega⟩
    · exact ⟨_, g, no_sign (c := 32) (by simp) (by decide) (by decide) (by decide), by simp; omega⟩
    · exact ⟨_, g, no_empty (by rw [cut_sep, cut_one (l := []) (by simp)]; simp), by simp; omega⟩
    · refine ⟨_, g, no_empty ?_, by simp; omega⟩
      rw [show (47 :: l) = [] ++ 47 :: l from rfl, cut_sep, cut_one (l := []) (by simp)]
      simp
    · exact ⟨_, g, no_last (b := [48]) (by decide) (.inr rfl), by simp; omega⟩
    · exact ⟨_, g, no_minus l, by simp; omega⟩
    · exact ⟨_, g, no_last (b := [45, 50]) (by decide) (.inl rfl), by simp; omega⟩
    · exact ⟨_, g, no_last (b := [48, 50]) (by decide) (.inl rfl), by simp; omega⟩
    · refine ⟨_, g, ?_, by simp only [List.length_append]; omega⟩
      rcases hx with rfl | ⟨c, rfl, h1, h2, h3⟩
      · refine no_empty ?_
        rw [show l.take i.toNat ++ ([47, 47] ++ l.drop i.toNat) = l.take i.toNat ++ 47 :: ([] ++ 47 :: l.drop i.toNat) from rfl, cut_sep, cut_sep, cut_one (l := []) (by simp)]
        simp
      · exact no_sign (c := c) (by simp) h1 h2 h3
    · exact ⟨_, g, rfl, by simp⟩
    · exact ⟨_, g, rfl, by simp⟩
    · exact ⟨_, g, rfl, by simp⟩
    · exact ⟨_, g, rfl, by simp⟩
    · exact ⟨_, g, rfl, by simp⟩
    · exact ⟨_, g, no_many (a := [49]) (b := [49]), by simp; omega⟩
  obtain ⟨l', rfl, hN, hL⟩ := fin
  refine ⟨l', M3, ?_, hN, hL, p3⟩
  have lz : l.length ≤ sizeLine := line_nat (by omega)
  have a1 : addD (T [48]) (T l) = some (T (48 :: l)) := add_T (by simp; omega)
  have a2 : addD (T [43]) (T l) = some (T (43 :: l)) := add_T (by simp; omega)
  have a3 : addD (T [32]) (T l) = some (T (32 :: l)) := add_T (by simp; omega)
  have a4 : addD (T [47]) (T l) = some (T (47 :: l)) := add_T (by simp; omega)
  have a5 : addD (T [45, 45]) (T l) = some (T (45 :: 45 :: l)) := add_T (by simp; omega)
  have b1 : addD (T l) (T [32]) = some (T (l ++ [32])) := add_T (by simp; omega)
  have b2 : addD (T l) (T [47]) = some (T (l ++ [47])) := add_T (by simp; omega)
  have b3 : addD (T l) (T [47, 48]) = some (T (l ++ [47, 48])) := add_T (by simp; omega)
  have b4 : addD (T l) (T [47, 45, 50]) = some (T (l ++ [47, 45, 50])) := add_T (by simp; omega)
  have b5 : addD (T l) (T [47, 48, 50]) = some (T (l ++ [47, 48, 50])) := add_T (by simp; omega)
  have b6 : addD (T l) (T [47, 49, 47, 49]) = some (T (l ++ [47, 49, 47, 49])) := add_T (by simp; omega)
  have s1 := sl_toN (l := l) (by omega) i0
  have s2 := sl_fromN (l := l) (by omega) i0
  have c1 : addD (T (l.take i.toNat)) (T x) = some (T (l.take i.toNat ++ x)) := add_T (by omega)
  have c2 : addD (T (l.take i.toNat ++ x)) (T (l.drop i.toNat)) = some (T (l.take i.toNat ++ (x ++ l.drop i.toNat))) := by
    rw [add_T (by rw [List.length_append]; omega), List.append_assoc]
  unfold φ__law_none m__law_none
  simp only [dSl, len_T lz, e1, T_nil, T_zero, T_slash, T_minus, q_plus, q_blank, q_s0, q_mm, q_m2, q_02, q_11, q_us, q_dot, q_x, q_comma, q_e, q_til, q_ss, q_m0, q_00, q_m05, q_123, a1, a2, a3, a4, a5, b1, b2, b3, b4, b5, b6, s1, s2, e2, c1, c2, add_L, e3, DL.dFn, DL.dFi, DL.sSeq, DL.sSet, DL.sIf, DL.sRet, DL.sRetN, DL.sDrop, DL.sBind, DL.sAsg, DL.sPar, DL.sPar3, DL.sNext, DL.dC, DL.dVar, DL.dPeek, DL.dBind, DL.dOut, DL.dUn, DL.dBin, DL.dTru, DL.dNot, DL.dAndT, DL.dOrT, DL.dAndV, DL.dOrV, DL.dIfE, DL.aNil, DL.aCons, DL.aBind, DL.fits, DL.dApp, DL.dRet, DL.dTup, DL.dLst, DL.truD, DL.bName, DL.bTup, DL.bCons, DL.bNil, DL.pick_eq, DL.Src.get, List.filterMap_cons, List.filterMap_nil, List.getElem?_cons_zero, List.getElem?_cons_succ, List.length_cons, List.length_nil, List.set_cons_zero, List.set_cons_succ, List.map_cons, List.map_nil, List.cons_append, List.nil_append, List.append_nil, List.append_assoc, List.reduceReplicate, Nat.reduceAdd, Nat.reduceSub, Nat.reduceLeDiff, Nat.reduceEqDiff, ↓reduceIte, DL.subD, DL.mulD, DL.divD, DL.modD, DL.powD, DL.ltD, DL.leD, DL.gtD, DL.geD, DL.II, DL.subI, DL.cmpI, DL.negD, DL.addD_int, DL.ix_t0, DL.ix_t1, DL.ix_t2, DL.eqA_int, DL.eqA_pair, DL.intD_int, DL.intA_int, DL.intA_bl, DL.absD, DL.le1, DL.le2, DL.le3, DL.le4, DL.le5, DL.le8, DL.le9, Nat.zero_le, Bool.not_true, Bool.not_false, Bool.false_eq_true, DL.eqA_bl, eq_self, Int.reduceEq, Int.reduceLT, Int.reduceNeg, Bool.false_xor, Bool.true_xor, decide_true, decide_false, decide_eq_true_eq, and_self, DL.sRaise, DL.sApp, DL.sNew, DL.sTryE, DL.dAct, DL.dMkX, DL.dCallV, DL.nc0, DL.nc1, DL.nc2, DL.nc3, DL.nc4, DL.nc5, DL.nc6, DL.nc7, DL.nc8, DL.nc9, DL.nc10, DL.nc11, DL.nc12, DL.nc13, DL.nc14, DL.nc15, DL.nc16, DL.nc17, DL.nc18, DL.nc19, DL.nc20, Nat.reduceLT, DL.le6, DL.le7, DL.le10, DL.le11, DL.le12, DL.le13, DL.le14, DL.le15, DL.le16, DL.le17, DL.le18, DL.le19, DL.le20, DL.le21, DL.le22, DL.le23, DL.le24, DL.le25, DL.le26, DL.le27, DL.le28, DL.le29, DL.le30, DL.le31, DL.le32, DL.le33, DL.le34, DL.le35, DL.le36, DL.le37, DL.le38, DL.le39, DL.le40, DL.lt0, DL.lt1, DL.lt2, DL.lt3, DL.lt4, DL.lt5, DL.lt6, DL.lt7, DL.lt8, DL.lt9, DL.lt10, DL.lt11, DL.lt12, DL.lt13, DL.lt14, DL.lt15, DL.lt16, DL.lt17, DL.lt18, DL.lt19, DL.lt20, DL.lt21, DL.lt22, DL.lt23, DL.lt24, DL.lt25, DL.lt26, DL.lt27, DL.lt28, DL.lt29, DL.lt30, DL.lt31, DL.lt32, DL.lt33, DL.lt34, DL.lt35, DL.lt36, DL.lt37, DL.lt38, DL.lt39, DL.lt40]
end L05
set_option maxHeartbeats 4000000
set_option exponentiation.threshold 10000
namespace L05
open PySem PySem.Spec PyProof.Rows L2 DL PA
/-! ### a turn -/
theorem log_w {i : Int} (h : i.natAbs < 2 ^ 12000) : i.natAbs.log2 < 12900 := by
  by_cases z : i.natAbs = 0
  · rw [z]; decide
  · exact Nat.lt_trans ((Nat.log2_lt z).mpr h) (by omega)
theorem repr_P (p : Int × Int) (h1 : p.1.natAbs < 2 ^ 12000) (h2 : p.2.natAbs < 2 ^ 12000) : ∃ s, reprDW (P2 p) = some (.str s) := by
  have a := log_w h1
  have b := log_w h2
  refine ⟨_, repr_ofW (p := .tuple [.int p.1, .int p.2]) rfl (shw_ofW ?_ ?_ ?_ ?_)⟩
  · simp only [showW, showWs, decide_eq_true a, decide_eq_true b, Bool.and_self]
  · simp [PyData.depth, PyData.depthAll]
  · simp only [PyData.leavesShort, PyData.leavesShortAll]
    have e1 := leafIW a
    have e2 := leafIW b
    simp only [PyData.leavesShort] at e1 e2
    simp only [e1, e2, Bool.and_self]
  · simp [PyData.bulk, PyData.bulkAll]
theorem r_odd (d : D) (h : d ∈ [D.non, .int 5, .bl true, .tup [.int 1, .int 2], .lst [.str "1"], .dct [] [], .tup [.str "1"], .tup [.int 0, .int 1]]) (M : MS) : φ_number_from [d] M = some (.ret .non M) := by
  simp only [List.mem_cons, List.not_mem_nil, or_false] at h
  rcases h with h | h | h | h | h | h | h | h <;> (subst h; rfl)
theorem eqA_P {n : Bool} (p : Int × Int) : eqA n (P2 p) (P2 p) = some (.bl (xor n true)) := by
  rw [eqA_pair, decide_eq_true ⟨rfl, rfl⟩]
theorem r_num_P {l : List Nat} {p : Int × Int} (hl : l.length ≤ 1000) (h : NF l = some p) (M : MS) : φ_number_from [T l] M = some (.ret (P2 p) M) := by
  rw [r_number_from l hl, h]
  rfl
theorem r_num_N {l : List Nat} (hl : l.length ≤ 1000) (h : NF l = none) (M : MS) : φ_number_from [T l] M = some (.ret .non M) := by
  rw [r_number_from l hl, h]
  rfl
theorem isn_nn : isA true .non .non = some (.bl false) := rfl
theorem q_s1 : (D.str "/1" : D) = T [47, 49] := rfl
theorem l_b0 (n : Nat) (hn : n ≤ 5000) (M : MS) (hM : PenOk n M) (sc l : D) (x3 x4 x5 x6 x7 : Option SV) : ∃ (M' : MS) (z3 z4 z5 z6 z7 : Option SV),
    b0_law [some (SV.t (sc)), some (SV.t (.obj 0)), some (SV.t (l)), x3, x4, x5, x6, x7, none, none, none, none, none, none] M = some (.nx [some (SV.t (sc)), some (SV.t (.obj 0)), some (SV.t (l)), z3, z4, z5, z6, z7, none, none, none, none, none, none] M') ∧ PenOk (n + 20) M' := by
  obtain ⟨raw, p, M1, e1, L, N, p1⟩ := r_law_number n (by omega) M hM
  obtain ⟨w, M2, e2, w0, w1, p2⟩ := r_draw_s (n + 10) (by omega) M1 p1 9 (by decide) (by decide)
  have lT := TN_len L (by decide)
  have tN := NF_TN L
  have lz := numZ_len (k := 105) (by decide) L.b1
  obtain ⟨y1, M3, e3, f3, g3, p3⟩ := r_none (n + 11) (by omega) M2 p2 (TN p) (by omega) (by rw [tN]; simp)
  obtain ⟨y2, M4, e4, f4, g4, p4⟩ := r_none (n + 14) (by omega) M3 p3 (numZ p.1) (by omega) (by rw [NF_one]; simp)
  obtain ⟨d, M5, e5, m5, p5⟩ := r_pick (n + 17) (by omega) M4 p4 [D.non, .int 5, .bl true, .tup [.int 1, .int 2], .lst [.str "1"], .dct [] [], .tup [.str "1"], .tup [.int 0, .int 1]] (by simp) (by simp)
  have t1 := r_text L (by decide) N
  have t2 := r_text L (by decide) (L.num (by decide))
  have n1 := r_num_P (by omega) tN
  obtain ⟨s, rs⟩ := repr_P p (small L.b1 (by omega)) (small L.b2 (by omega))
  have v0 : (0 : Int) < 1 + w := by omega
  have wl : (1 + w).natAbs < 2 ^ 10 := by omega
  have mk : ∀ x : Int, x.natAbs < 2 ^ 105 → mulOk x (1 + w) ∧ (x * (1 + w)).natAbs < 2 ^ 115 := fun x h => ⟨mulOk_of (n := 105) (m := 10) h wl, by
    rw [Int.natAbs_mul]
    exact Nat.lt_of_lt_of_le (Nat.mul_lt_mul_of_lt_of_lt h wl) (by decide)⟩
  obtain ⟨a1, b1⟩ := mk p.1 L.b1
  obtain ⟨a2, b2⟩ := mk p.2 L.b2
  have us : 0 < p.2 * (1 + w) := Int.mul_pos L.pos v0
  have le : lowP (p.1 * (1 + w)) (p.2 * (1 + w)) = p := by
    rw [low_eq us L.pos (by rw [Int.mul_assoc, Int.mul_comm (1 + w)]), L.self]
  have s1 := str_Z (i := p.1 * (1 + w)) (small b1 (by omega))
  have s2 := str_Z (i := p.2 * (1 + w)) (small b2 (by omega))
  have s3 := str_Z (i := p.1) (small L.b1 (by omega))
  have l1 := numZ_len (k := 115) (by decide) b1
  have l2 := numZ_len (k := 115) (by decide) b2
  have c1 : addD (T (numZ (p.1 * (1 + w)))) (T [47]) = some (T (numZ (p.1 * (1 + w)) ++ [47])) := add_T (by simp; omega)
  have c2 : addD (T (numZ (p.1 * (1 + w)) ++ [47])) (T (numZ (p.2 * (1 + w)))) = some (T (numZ (p.1 * (1 + w)) ++ 47 :: numZ (p.2 * (1 + w)))) := by
    rw [add_T (by simp; omega), List.append_assoc]
    rfl
  have c3 : addD (T (numZ p.1)) (T [47, 49]) = some (T (numZ p.1 ++ [47, 49])) := add_T (by simp; omega)
  have n2 := r_num_P (l := numZ (p.1 * (1 + w)) ++ 47 :: numZ (p.2 * (1 + w))) (by rw [List.length_append, List.length_cons]; omega) (NF_pair _ _ us)
  rw [le] at n2
  have n3 := r_num_P (l := numZ p.1 ++ [47, 49]) (p := (p.1, 1)) (by rw [List.length_append]; simp; omega) (by
    have := NF_pair p.1 1 (by decide)
    rw [low_one] at this
    exact this)
  have n4 := r_num_N g3 f3
  have n5 := r_num_N g4 f4
  have n6 := r_odd d m5
  have eP : ∀ b, eqA b (P2 p) (P2 p) = some (.bl (xor b true)) := fun b => eqA_P p
  refine ⟨M5, some (.t raw), some (.t (P2 p)), some (.t (.int (1 + w))), some (.t (T (numZ (p.1 * (1 + w)) ++ 47 :: numZ (p.2 * (1 + w))))), some (.t d), ?_, p5.mono (by omega)⟩
  unfold b0_law
  generalize numZ (p.1 * (1 + w)) ++ 47 :: numZ (p.2 * (1 + w)) = Y at *
  generalize numZ p.1 ++ [47, 49] = Y2 at *
  simp only [e1, t1, t2, n1, rs, e2, mulI_ok a1, mulI_ok a2, s1, s2, s3, T_slash, q_s1, c1, c2, c3, n2, n3, e3, e4, e5, n4, n5, n6, isn_nn, eqA_refl_str, DL.dFn, DL.dFi, DL.sSeq, DL.sSet, DL.sIf, DL.sRet, DL.sRetN, DL.sDrop, DL.sBind, DL.sAsg, DL.sPar, DL.sPar3, DL.sNext, DL.dC, DL.dVar, DL.dPeek, DL.dBind, DL.dOut, DL.dUn, DL.dBin, DL.dTru, DL.dNot, DL.dAndT, DL.dOrT, DL.dAndV, DL.dOrV, DL.dIfE, DL.aNil, DL.aCons, DL.aBind, DL.fits, DL.dApp, DL.dRet, DL.dTup, DL.dLst, DL.truD, DL.bName, DL.bTup, DL.bCons, DL.bNil, DL.pick_eq, DL.Src.get, List.filterMap_cons, List.filterMap_nil, List.getElem?_cons_zero, List.getElem?_cons_succ, List.length_cons, List.length_nil, List.set_cons_zero, List.set_cons_succ, List.map_cons, List.map_nil, List.cons_append, List.nil_append, List.append_nil, List.append_assoc, List.reduceReplicate, Nat.reduceAdd, Nat.reduceSub, Nat.reduceLeDiff, Nat.reduceEqDiff, ↓reduceIte, DL.subD, DL.mulD, DL.divD, DL.modD, DL.powD, DL.ltD, DL.leD, DL.gtD, DL.geD, DL.II, DL.subI, DL.cmpI, DL.negD, DL.addD_int, DL.ix_t0, DL.ix_t1, DL.ix_t2, DL.eqA_int, DL.eqA_pair, DL.intD_int, DL.intA_int, DL.intA_bl, DL.absD, DL.le1, DL.le2, DL.le3, DL.le4, DL.le5, DL.le8, DL.le9, Nat.zero_le, Bool.not_true, Bool.not_false, Bool.false_eq_true, DL.eqA_bl, eq_self, Int.reduceEq, Int.reduceLT, Int.reduceNeg, Bool.false_xor, Bool.true_xor, decide_true, decide_false, decide_eq_true_eq, and_self, DL.sRaise, DL.sApp, DL.sNew, DL.sTryE, DL.dAct, DL.dMkX, DL.dCallV, DL.nc0, DL.nc1, DL.nc2, DL.nc3, DL.nc4, DL.nc5, DL.nc6, DL.nc7, DL.nc8, DL.nc9, DL.nc10, DL.nc11, DL.nc12, DL.nc13, DL.nc14, DL.nc15, DL.nc16, DL.nc17, DL.nc18, DL.nc19, DL.nc20, Nat.reduceLT, DL.le6, DL.le7, DL.le10, DL.le11, DL.le12, DL.le13, DL.le14, DL.le15, DL.le16, DL.le17, DL.le18, DL.le19, DL.le20, DL.le21, DL.le22, DL.le23, DL.le24, DL.le25, DL.le26, DL.le27, DL.le28, DL.le29, DL.le30, DL.le31, DL.le32, DL.le33, DL.le34, DL.le35, DL.le36, DL.le37, DL.le38, DL.le39, DL.le40, DL.lt0, DL.lt1, DL.lt2, DL.lt3, DL.lt4, DL.lt5, DL.lt6, DL.lt7, DL.lt8, DL.lt9, DL.lt10, DL.lt11, DL.lt12, DL.lt13, DL.lt14, DL.lt15, DL.lt16, DL.lt17, DL.lt18, DL.lt19, DL.lt20, DL.lt21, DL.lt22, DL.lt23, DL.lt24, DL.lt25, DL.lt26, DL.lt27, DL.lt28, DL.lt29, DL.lt30, DL.lt31, DL.lt32, DL.lt33, DL.lt34, DL.lt35, DL.lt36, DL.lt37, DL.lt38, DL.lt39, DL.lt40]
end L05
set_option maxHeartbeats 4000000
set_option exponentiation.threshold 10000
namespace L05
open PySem PySem.Spec PyProof.Rows L2 DL PA
theorem l_turns (sc : D) : ∀ (ds : List D) (n : Nat) (hn : n + 20 * ds.length ≤ 5000) (M : MS) (hM : PenOk n M) (x2 x3 x4 x5 x6 x7 : Option SV),
    ∃ (M' : MS) (z2 z3 z4 z5 z6 z7 : Option SV), loopS (bName 2) b0_law ds [some (SV.t (sc)), some (SV.t (.obj 0)), x2, x3, x4, x5, x6, x7, none, none, none, none, none, none] M = some (.nx [some (SV.t (sc)), some (SV.t (.obj 0)), z2, z3, z4, z5, z6, z7, none, none, none, none, none, none] M') ∧ PenOk (n + 20 * ds.length) M'
  | [], n, hn, M, hM, x2, x3, x4, x5, x6, x7 => ⟨M, x2, x3, x4, x5, x6, x7, rfl, hM⟩
  | l :: ds, n, hn, M, hM, x2, x3, x4, x5, x6, x7 => by
    simp only [List.length_cons] at hn
    obtain ⟨M1, z3, z4, z5, z6, z7, e1, p1⟩ := l_b0 n (by omega) M hM sc l x3 x4 x5 x6 x7
    obtain ⟨M2, w2, w3, w4, w5, w6, w7, e2, p2⟩ := l_turns sc ds (n + 20) (by omega) M1 p1 (some (.t l)) z3 z4 z5 z6 z7
    refine ⟨M2, w2, w3, w4, w5, w6, w7, ?_, p2.mono (by simp only [List.length_cons]; omega)⟩
    unfold loopS
    show (match b0_law [some (SV.t (sc)), some (SV.t (.obj 0)), some (SV.t (l)), x3, x4, x5, x6, x7, none, none, none, none, none, none] M with | some (.nx ρ2 M2) => loopS (bName 2) b0_law ds ρ2 M2 | some (.ct ρ2 M2) => loopS (bName 2) b0_law ds ρ2 M2 | some (.bk ρ2 M2) => some (.nx ρ2 M2) | o => o) = _
    rw [e1]
    exact e2
/-! ### the long texts -/
theorem rep_ex (c : Nat) (hc : 48 ≤ c ∧ c ≤ 57) (n : Int) (h0 : 0 ≤ n) (h1 : n ≤ 2000) : ∃ A : List Nat, repS (T [c]) (.int n) = some (T A) ∧ (A.length : Int) = n ∧ figs A = true ∧ (0 < n → ∃ r, A = c :: r) := by
  refine ⟨List.replicate n.toNat c, ?_, ?_, ?_, fun hp => ?_⟩
  · show (if 0 ≤ n ∧ n ≤ 10000 ∧ (SX.S [c]).length ≤ 1000 then some (D.str (Txt.mul (SX.S [c]) n)) else none) = _
    rw [if_pos ⟨h0, by omega, by rw [SX.S_len]; simp⟩]
    refine congrArg (fun x => some (D.str x)) (TL.ext_tl ?_)
    exact mul_one_list c n
  · rw [List.length_replicate]; omega
  · unfold figs
    refine List.all_eq_true.mpr fun d hd => ?_
    rw [(List.mem_replicate.mp hd).2]
    simpa using hc
  · refine ⟨List.replicate (n.toNat - 1) c, ?_⟩
    rw [← List.replicate_succ]
    congr 1
    omega
theorem IF_figs {b : Bool} {c : Nat} {l : List Nat} (h : figs (c :: l) = true) (hc : 49 ≤ c) : IF b (c :: l) = some ((NumText.digitsVal (c :: l) : Nat) : Int) := by
  have hb : bodyL b (c :: l) = c :: l := by
    unfold bodyL
    rw [if_neg]
    rintro ⟨_, g⟩
    simp at g
    omega
  unfold IF
  rw [hb, if_neg, if_pos rfl]
  rintro (g | g | ⟨g, _⟩)
  · cases g
  · rw [h] at g; cases g
  · simp at g; omega
theorem IF_figsN {c : Nat} {l : List Nat} (h : figs (c :: l) = true) (hc : 49 ≤ c) : IF true (45 :: c :: l) = some (-((NumText.digitsVal (c :: l) : Nat) : Int)) := by
  have hb : bodyL true (45 :: c :: l) = c :: l := by
    unfold bodyL
    rw [if_pos ⟨rfl, rfl⟩]
    rfl
  unfold IF
  rw [hb, if_neg, if_neg]
  · intro g
    have := congrArg List.length g
    simp at this
  · rintro (g | g | ⟨g, _⟩)
    · cases g
    · rw [h] at g; cases g
    · simp at g; omega
theorem figs_free {l : List Nat} (h : figs l = true) : 47 ∉ l := fun m => by
  have := figs_dig h 47 m
  omega
theorem free45 {l : List Nat} (h : 47 ∉ l) : 47 ∉ 45 :: l := fun m => by
  rcases List.mem_cons.mp m with m | m
  · cases m
  · exact h m
theorem NF_w {l : List Nat} {t : Int} (hf : 47 ∉ l) (h : IF true l = some t) : NF l = some (t, 1) := by
  unfold NF
  rw [cut_one hf]
  show (IF true l).map _ = _
  rw [h]
  rfl
theorem eq_two {n : Bool} (p q : Int × Int) : eqA n (.lst [P2 p, P2 q]) (.lst [P2 p, P2 q]) = some (.bl (xor n true)) := by
  rw [eqA_lst]
  refine eqD_of (p := .list [.tuple [.int p.1, .int p.2], .tuple [.int q.1, .int q.2]]) rfl rfl ?_ ?_ (eqv_self _ ?_) <;> rfl
theorem eq_non3 {n : Bool} : eqA n (.lst [.non, .non, .non]) (.lst [.non, .non, .non]) = some (.bl (xor n true)) := by
  rw [eqA_lst]
  refine eqD_of (p := .list [.none, .none, .none]) rfl rfl ?_ ?_ (eqv_self _ ?_) <;> rfl
theorem rep_non : repL (.lst [.non]) (.int 3) = some (.lst [.non, .non, .non]) := by
  unfold repL
  simp only
  rw [if_pos ⟨by decide, by decide, line_nat (by decide)⟩]
  rfl
theorem q_7 : (D.str "7" : D) = T [55] := rfl
theorem q_3 : (D.str "3" : D) = T [51] := rfl
theorem q_2 : (D.str "2" : D) = T [50] := rfl
theorem q_9 : (D.str "9" : D) = T [57] := rfl
theorem one_Z {i : Int} (h0 : 1 ≤ i) (h1 : i ≤ 9) : ∃ c, numZ i = [c] ∧ 49 ≤ c ∧ c ≤ 57 := by
  refine ⟨48 + i.natAbs, ?_, by omega, by omega⟩
  unfold numZ
  rw [if_neg (by omega), TL.numL_lt (by omega)]
theorem plain (ns : List Int) (hl : ns.length ≤ 63) (hbits : ∀ z ∈ ns, Builtin.Int.intBits z ≤ 1048576) : ∃ M', φ_law [.scr (ns.map D.int)] [] = some (.ret (.bl true) M') := by
  obtain ⟨M1, e1, p1⟩ := r_pen ns hl
  generalize hsc : D.scr (ns.map D.int) = sc at *
  obtain ⟨M2, w2, w3, w4, w5, w6, w7, e2, p2⟩ := l_turns sc (rangeL 0 8) 0 (by rw [rangeL_len]; omega) M1 p1 none none none none none none
  obtain ⟨L, M3, e3, L0, L1, p3⟩ := r_draw_s (0 + 20 * (rangeL 0 8).length) (by rw [rangeL_len]; omega) M2 p2 998 (by decide) (by decide)
  obtain ⟨f, M4, e4, f0, f1, p4⟩ := r_draw_s (0 + 20 * (rangeL 0 8).length + 1) (by rw [rangeL_len]; omega) M3 p3 9 (by decide) (by decide)
  obtain ⟨c, ec, c0, c1⟩ := one_Z (i := 1 + f) (by omega) (by omega)
  have s1 : strA (.int (1 + f)) = some (T [c]) := by rw [← ec]; exact str_Z (small (k := 10) (by omega) (by omega))
  obtain ⟨A0, rA0, lA0, gA0, _⟩ := rep_ex 55 (by decide) 999 (by decide) (by decide)
  obtain ⟨A1, rA1, lA1, gA1, _⟩ := rep_ex 51 (by decide) 998 (by decide) (by decide)
  obtain ⟨A2, rA2, lA2, gA2, _⟩ := rep_ex 50 (by decide) L (by omega) (by omega)
  obtain ⟨A3, rA3, lA3, gA3, hA3⟩ := rep_ex 57 (by decide) (998 - L) (by omega) (by omega)
  obtain ⟨B0, rB0, lB0, gB0, _⟩ := rep_ex 55 (by decide) 1000 (by decide) (by decide)
  obtain ⟨B1, rB1, lB1, gB1, _⟩ := rep_ex 51 (by decide) 999 (by decide) (by decide)
  obtain ⟨B3, rB3, lB3, gB3, _⟩ := rep_ex 57 (by decide) (999 - L) (by omega) (by omega)
  obtain ⟨A4, rfl⟩ := hA3 (by omega)
  have gc : ∀ {l : List Nat}, figs l = true → figs (c :: l) = true := fun {l} h => by
    rw [figs_cons, h, Bool.and_true]
    unfold figs
    simp only [List.all_cons, List.all_nil, Bool.and_true, decide_eq_true (show 48 ≤ c by omega), decide_eq_true c1, Bool.and_self]
  have z4 : (A4.length : Int) + 1 = 998 - L := by simpa using lA3
  -- the texts
  have a0 : addD (T [c]) (T A0) = some (T (c :: A0)) := add_T (by simp; omega)
  have a1 : addD (T [45]) (T [c]) = some (T (45 :: [c])) := add_T (by simp)
  have a2 : addD (T (45 :: [c])) (T A1) = some (T (45 :: c :: A1)) := add_T (by simp; omega)
  have a3 : addD (T [c]) (T A2) = some (T (c :: A2)) := add_T (by simp; omega)
  have a4 : addD (T (c :: A2)) (T [47]) = some (T (c :: A2 ++ [47])) := add_T (by simp; omega)
  have a5 : addD (T (c :: A2 ++ [47])) (T (57 :: A4)) = some (T (c :: A2 ++ 47 :: 57 :: A4)) := by
    rw [add_T (by simp; omega), List.append_assoc]
    rfl
  have d0 : addD (T [c]) (T B0) = some (T (c :: B0)) := add_T (by simp; omega)
  have d1 : addD (T (45 :: [c])) (T B1) = some (T (45 :: c :: B1)) := add_T (by simp; omega)
  have d3 : addD (T (c :: A2 ++ [47])) (T B3) = some (T (c :: A2 ++ 47 :: B3)) := by
    rw [add_T (by simp; omega), List.append_assoc]
    rfl
  -- what they tell
  have n0 := r_num_P (l := c :: A0) (by simp; omega) (NF_w (figs_free (gc gA0)) (IF_figs (gc gA0) c0))
  have n1 := r_num_P (l := 45 :: c :: A1) (by simp; omega) (NF_w (free45 (figs_free (gc gA1))) (IF_figsN (gc gA1) c0))
  have n2 := r_num_P (l := c :: A2 ++ 47 :: 57 :: A4) (p := lowP ((NumText.digitsVal (c :: A2) : Nat) : Int) ((NumText.digitsVal (57 :: A4) : Nat) : Int)) (by simp; omega) (by
    unfold NF
    rw [cut_app _ (figs_free (gc gA2)), cut_one (figs_free gA3)]
    show NF2 (IF true (c :: A2)) (IF false (57 :: A4)) = _
    rw [IF_figs (gc gA2) c0, IF_figs gA3 (by decide)]
    refine if_neg ?_
    have := NumText.digitsVal_pos (c := 57) (cs := A4) (by decide)
    omega)
  have m0 := r_number_long (c :: B0) (by simp; omega) (line_nat (by simp; omega))
  have m1 := r_number_long (45 :: c :: B1) (by simp; omega) (line_nat (by simp; omega))
  have m2 := r_number_long (c :: A2 ++ 47 :: B3) (by simp; omega) (line_nat (by simp; omega))
  have i0 := int_T (l := c :: A0) (gc gA0) (by simp) (by simp; omega)
  have i1 := int_Tn (l := c :: A1) (gc gA1) (by simp) (by simp; omega)
  have i2 := int_T (l := c :: A2) (gc gA2) (by simp) (by simp; omega)
  have i3 := int_T (l := 57 :: A4) gA3 (by simp) (by simp; omega)
  have sp : splitD (SX.S (c :: A2 ++ 47 :: 57 :: A4)) (.str "/") = some (.lst [T (c :: A2), T (57 :: A4)]) := by
    rw [cut_parts (by simp; omega), cut_app _ (figs_free (gc gA2)), cut_one (figs_free gA3)]
    rfl
  have vp := NumText.digitsVal_pos (c := 57) (cs := A4) (by decide)
  have vl := val_lt gA3 (by simp; omega)
  have vl2 := val_lt (gc gA2) (by simp; omega)
  have rl := r_law_low ((NumText.digitsVal (c :: A2) : Nat) : Int) ((NumText.digitsVal (57 :: A4) : Nat) : Int) (by omega) (by rw [Int.natAbs_natCast]; exact p2lt vl (by omega))
  obtain ⟨s, rs⟩ := repr_P (lowP ((NumText.digitsVal (c :: A2) : Nat) : Int) ((NumText.digitsVal (57 :: A4) : Nat) : Int))
    (Nat.lt_of_le_of_lt (low_le (by omega)).1 (by rw [Int.natAbs_natCast]; exact p2lt vl2 (by omega))) (Nat.lt_of_le_of_lt (low_le (by omega)).2 (by rw [Int.natAbs_natCast]; exact p2lt vl (by omega)))
  generalize lowP ((NumText.digitsVal (c :: A2) : Nat) : Int) ((NumText.digitsVal (57 :: A4) : Nat) : Int) = P at *
  generalize (((NumText.digitsVal (c :: A2) : Nat) : Int)) = V2 at *
  generalize (((NumText.digitsVal (57 :: A4) : Nat) : Int)) = V3 at *
  generalize (((NumText.digitsVal (c :: A0) : Nat) : Int)) = V0 at *
  generalize -(((NumText.digitsVal (c :: A1) : Nat) : Int)) = V1 at *
  generalize c :: A2 ++ 47 :: 57 :: A4 = F2 at *
  generalize c :: A2 ++ 47 :: B3 = O2 at *
  generalize c :: A2 ++ [47] = F1 at *
  generalize c :: A2 = C2 at *
  generalize 57 :: A4 = C3 at *
  generalize 45 :: c :: B1 = O1 at *
  generalize c :: B0 = O0 at *
  generalize 45 :: c :: A1 = G1 at *
  generalize c :: A0 = G0 at *
  generalize 45 :: [c] = G2 at *
  generalize [c] = C1 at *
  have k0 : k0_law [some (SV.t (sc)), some (SV.t (.obj 0)), w2, w3, w4, w5, w6, w7, some (SV.t (.int L)), some (SV.t (T C1)), some (SV.t (.lst [T G0, T G1, T F2])), some (SV.t (.lst [T O0, T O1, T O2])), none, none] M4 = some (.ok (.lst [.non, .non, .non]) [some (SV.t (sc)), some (SV.t (.obj 0)), w2, w3, w4, w5, w6, w7, some (SV.t (.int L)), some (SV.t (T C1)), some (SV.t (.lst [T G0, T G1, T F2])), some (SV.t (.lst [T O0, T O1, T O2])), none, none] M4) := by
    unfold k0_law
    refine comp_map (ds := [T O0, T O1, T O2]) (fun _ => .non) ?_ rfl (by decide) (line_nat (by simp)) fun d hd => ?_
    · rfl
    · simp only [List.mem_cons, List.not_mem_nil, or_false] at hd
      rcases hd with rfl | rfl | rfl <;> (refine ⟨_, rfl, ?_⟩; simp only [borrow, m0, m1, m2, wipeD, DL.dFn, DL.dFi, DL.sSeq, DL.sSet, DL.sIf, DL.sRet, DL.sRetN, DL.sDrop, DL.sBind, DL.sAsg, DL.sPar, DL.sPar3, DL.sNext, DL.dC, DL.dVar, DL.dPeek, DL.dBind, DL.dOut, DL.dUn, DL.dBin, DL.dTru, DL.dNot, DL.dAndT, DL.dOrT, DL.dAndV, DL.dOrV, DL.dIfE, DL.aNil, DL.aCons, DL.aBind, DL.fits, DL.dApp, DL.dRet, DL.dTup, DL.dLst, DL.truD, DL.bName, DL.bTup, DL.bCons, DL.bNil, DL.pick_eq, DL.Src.get, List.filterMap_cons, List.filterMap_nil, List.getElem?_cons_zero, List.getElem?_cons_succ, List.length_cons, List.length_nil, List.set_cons_zero, List.set_cons_succ, List.map_cons, List.map_nil, List.cons_append, List.nil_append, List.append_nil, List.append_assoc, List.reduceReplicate, Nat.reduceAdd, Nat.reduceSub, Nat.reduceLeDiff, Nat.reduceEqDiff, ↓reduceIte, DL.subD, DL.mulD, DL.divD, DL.modD, DL.powD, DL.ltD, DL.leD, DL.gtD, DL.geD, DL.II, DL.subI, DL.cmpI, DL.negD, DL.addD_int, DL.ix_t0, DL.ix_t1, DL.ix_t2, DL.eqA_int, DL.eqA_pair, DL.intD_int, DL.intA_int, DL.intA_bl, DL.absD, DL.le1, DL.le2, DL.le3, DL.le4, DL.le5, DL.le8, DL.le9, Nat.zero_le, Bool.not_true, Bool.not_false, Bool.false_eq_true, DL.eqA_bl, eq_self, Int.reduceEq, Int.reduceLT, Int.reduceNeg, Bool.false_xor, Bool.true_xor, decide_true, decide_false, decide_eq_true_eq, and_self, DL.sRaise, DL.sApp, DL.sNew, DL.sTryE, DL.dAct, DL.dMkX, DL.dCallV, DL.nc0, DL.nc1, DL.nc2, DL.nc3, DL.nc4, DL.nc5, DL.nc6, DL.nc7, DL.nc8, DL.nc9, DL.nc10, DL.nc11, DL.nc12, DL.nc13, DL.nc14, DL.nc15, DL.nc16, DL.nc17, DL.nc18, DL.nc19, DL.nc20, Nat.reduceLT, DL.le6, DL.le7, DL.le10, DL.le11, DL.le12, DL.le13, DL.le14, DL.le15, DL.le16, DL.le17, DL.le18, DL.le19, DL.le20, DL.le21, DL.le22, DL.le23, DL.le24, DL.le25, DL.le26, DL.le27, DL.le28, DL.le29, DL.le30, DL.le31, DL.le32, DL.le33, DL.le34, DL.le35, DL.le36, DL.le37, DL.le38, DL.le39, DL.le40, DL.lt0, DL.lt1, DL.lt2, DL.lt3, DL.lt4, DL.lt5, DL.lt6, DL.lt7, DL.lt8, DL.lt9, DL.lt10, DL.lt11, DL.lt12, DL.lt13, DL.lt14, DL.lt15, DL.lt16, DL.lt17, DL.lt18, DL.lt19, DL.lt20, DL.lt21, DL.lt22, DL.lt23, DL.lt24, DL.lt25, DL.lt26, DL.lt27, DL.lt28, DL.lt29, DL.lt30, DL.lt31, DL.lt32, DL.lt33, DL.lt34, DL.lt35, DL.lt36, DL.lt37, DL.lt38, DL.lt39, DL.lt40])
  have n0' : ∀ M, φ_number_from [T G0] M = some (.ret (.tup [.int V0, .int 1]) M) := n0
  have n1' : ∀ M, φ_number_from [T G1] M = some (.ret (.tup [.int V1, .int 1]) M) := n1
  have k1 : k1_law [some (SV.t (sc)), some (SV.t (.obj 0)), w2, w3, w4, w5, w6, w7, some (SV.t (.int L)), some (SV.t (T C1)), some (SV.t (.lst [T G0, T G1, T F2])), some (SV.t (.lst [T O0, T O1, T O2])), none, none] M4 = some (.ok (.lst [.tup [.int V0, .int 1], .tup [.int V1, .int 1]]) [some (SV.t (sc)), some (SV.t (.obj 0)), w2, w3, w4, w5, w6, w7, some (SV.t (.int L)), some (SV.t (T C1)), some (SV.t (.lst [T G0, T G1, T F2])), some (SV.t (.lst [T O0, T O1, T O2])), none, none] M4) := by
    unfold k1_law
    refine Eq.trans (comp_map (ds := [T G0, T G1]) (M1 := M4) (ρ1 := [some (SV.t (sc)), some (SV.t (.obj 0)), w2, w3, w4, w5, w6, w7, some (SV.t (.int L)), some (SV.t (T C1)), some (SV.t (.lst [T G0, T G1, T F2])), some (SV.t (.lst [T O0, T O1, T O2])), none, none]) (fun d => match φ_number_from [d] M4 with | some (.ret r _) => r | _ => .non) ?_ rfl (by decide) (line_nat (by simp)) fun d hd => ?_) ?_
    · rfl
    · simp only [List.mem_cons, List.not_mem_nil, or_false] at hd
      rcases hd with rfl | rfl <;> (refine ⟨_, rfl, ?_⟩; simp only [borrow, n0', n1', wipeD, DL.dFn, DL.dFi, DL.sSeq, DL.sSet, DL.sIf, DL.sRet, DL.sRetN, DL.sDrop, DL.sBind, DL.sAsg, DL.sPar, DL.sPar3, DL.sNext, DL.dC, DL.dVar, DL.dPeek, DL.dBind, DL.dOut, DL.dUn, DL.dBin, DL.dTru, DL.dNot, DL.dAndT, DL.dOrT, DL.dAndV, DL.dOrV, DL.dIfE, DL.aNil, DL.aCons, DL.aBind, DL.fits, DL.dApp, DL.dRet, DL.dTup, DL.dLst, DL.truD, DL.bName, DL.bTup, DL.bCons, DL.bNil, DL.pick_eq, DL.Src.get, List.filterMap_cons, List.filterMap_nil, List.getElem?_cons_zero, List.getElem?_cons_succ, List.length_cons, List.length_nil, List.set_cons_zero, List.set_cons_succ, List.map_cons, List.map_nil, List.cons_append, List.nil_append, List.append_nil, List.append_assoc, List.reduceReplicate, Nat.reduceAdd, Nat.reduceSub, Nat.reduceLeDiff, Nat.reduceEqDiff, ↓reduceIte, DL.subD, DL.mulD, DL.divD, DL.modD, DL.powD, DL.ltD, DL.leD, DL.gtD, DL.geD, DL.II, DL.subI, DL.cmpI, DL.negD, DL.addD_int, DL.ix_t0, DL.ix_t1, DL.ix_t2, DL.eqA_int, DL.eqA_pair, DL.intD_int, DL.intA_int, DL.intA_bl, DL.absD, DL.le1, DL.le2, DL.le3, DL.le4, DL.le5, DL.le8, DL.le9, Nat.zero_le, Bool.not_true, Bool.not_false, Bool.false_eq_true, DL.eqA_bl, eq_self, Int.reduceEq, Int.reduceLT, Int.reduceNeg, Bool.false_xor, Bool.true_xor, decide_true, decide_false, decide_eq_true_eq, and_self, DL.sRaise, DL.sApp, DL.sNew, DL.sTryE, DL.dAct, DL.dMkX, DL.dCallV, DL.nc0, DL.nc1, DL.nc2, DL.nc3, DL.nc4, DL.nc5, DL.nc6, DL.nc7, DL.nc8, DL.nc9, DL.nc10, DL.nc11, DL.nc12, DL.nc13, DL.nc14, DL.nc15, DL.nc16, DL.nc17, DL.nc18, DL.nc19, DL.nc20, Nat.reduceLT, DL.le6, DL.le7, DL.le10, DL.le11, DL.le12, DL.le13, DL.le14, DL.le15, DL.le16, DL.le17, DL.le18, DL.le19, DL.le20, DL.le21, DL.le22, DL.le23, DL.le24, DL.le25, DL.le26, DL.le27, DL.le28, DL.le29, DL.le30, DL.le31, DL.le32, DL.le33, DL.le34, DL.le35, DL.le36, DL.le37, DL.le38, DL.le39, DL.le40, DL.lt0, DL.lt1, DL.lt2, DL.lt3, DL.lt4, DL.lt5, DL.lt6, DL.lt7, DL.lt8, DL.lt9, DL.lt10, DL.lt11, DL.lt12, DL.lt13, DL.lt14, DL.lt15, DL.lt16, DL.lt17, DL.lt18, DL.lt19, DL.lt20, DL.lt21, DL.lt22, DL.lt23, DL.lt24, DL.lt25, DL.lt26, DL.lt27, DL.lt28, DL.lt29, DL.lt30, DL.lt31, DL.lt32, DL.lt33, DL.lt34, DL.lt35, DL.lt36, DL.lt37, DL.lt38, DL.lt39, DL.lt40])
    · simp only [List.map_cons, List.map_nil, n0', n1']
  have q2 : eqA true (.lst [.tup [.int V0, .int 1], .tup [.int V1, .int 1]]) (.lst [.tup [.int V0, .int 1], .tup [.int V1, .int 1]]) = some (.bl false) := eq_two (n := true) (V0, 1) (V1, 1)
  have sp' : splitD (SX.S F2) (T [47]) = some (.lst [T C2, T C3]) := sp
  have ix2 : ∀ x y z : D, ixD (.lst [x, y, z]) (.int 2) = some z := fun x y z => by
    have := ix_lnat [x, y, z] 2
    exact this
  refine ⟨M4, ?_⟩
  unfold φ_law m_law
  refine dFn_rt rfl ?_
  show sSeq _ _ [some (SV.t (sc)), none, none, none, none, none, none, none, none, none, none, none, none, none] [] = _
  refine Eq.trans (DL.seq_nx (ρ1 := [some (SV.t (sc)), some (SV.t (.obj 0)), none, none, none, none, none, none, none, none, none, none, none, none]) (M1 := M1) ?_) ?_
  · refine set_p (d := .obj 0) (ρ1 := [some (SV.t (sc)), none, none, none, none, none, none, none, none, none, none, none, none, none]) (M1 := M1) ?_
    refine call_p (vs := [sc]) (ws := [sc]) (ρ1 := [some (SV.t (sc)), none, none, none, none, none, none, none, none, none, none, none, none, none]) (M1 := []) ?_ rfl rfl rfl e1
    simp only [DL.dFn, DL.dFi, DL.sSeq, DL.sSet, DL.sIf, DL.sRet, DL.sRetN, DL.sDrop, DL.sBind, DL.sAsg, DL.sPar, DL.sPar3, DL.sNext, DL.dC, DL.dVar, DL.dPeek, DL.dBind, DL.dOut, DL.dUn, DL.dBin, DL.dTru, DL.dNot, DL.dAndT, DL.dOrT, DL.dAndV, DL.dOrV, DL.dIfE, DL.aNil, DL.aCons, DL.aBind, DL.fits, DL.dApp, DL.dRet, DL.dTup, DL.dLst, DL.truD, DL.bName, DL.bTup, DL.bCons, DL.bNil, DL.pick_eq, DL.Src.get, List.filterMap_cons, List.filterMap_nil, List.getElem?_cons_zero, List.getElem?_cons_succ, List.length_cons, List.length_nil, List.set_cons_zero, List.set_cons_succ, List.map_cons, List.map_nil, List.cons_append, List.nil_append, List.append_nil, List.append_assoc, List.reduceReplicate, Nat.reduceAdd, Nat.reduceSub, Nat.reduceLeDiff, Nat.reduceEqDiff, ↓reduceIte, DL.subD, DL.mulD, DL.divD, DL.modD, DL.powD, DL.ltD, DL.leD, DL.gtD, DL.geD, DL.II, DL.subI, DL.cmpI, DL.negD, DL.addD_int, DL.ix_t0, DL.ix_t1, DL.ix_t2, DL.eqA_int, DL.eqA_pair, DL.intD_int, DL.intA_int, DL.intA_bl, DL.absD, DL.le1, DL.le2, DL.le3, DL.le4, DL.le5, DL.le8, DL.le9, Nat.zero_le, Bool.not_true, Bool.not_false, Bool.false_eq_true, DL.eqA_bl, eq_self, Int.reduceEq, Int.reduceLT, Int.reduceNeg, Bool.false_xor, Bool.true_xor, decide_true, decide_false, decide_eq_true_eq, and_self, DL.sRaise, DL.sApp, DL.sNew, DL.sTryE, DL.dAct, DL.dMkX, DL.dCallV, DL.nc0, DL.nc1, DL.nc2, DL.nc3, DL.nc4, DL.nc5, DL.nc6, DL.nc7, DL.nc8, DL.nc9, DL.nc10, DL.nc11, DL.nc12, DL.nc13, DL.nc14, DL.nc15, DL.nc16, DL.nc17, DL.nc18, DL.nc19, DL.nc20, Nat.reduceLT, DL.le6, DL.le7, DL.le10, DL.le11, DL.le12, DL.le13, DL.le14, DL.le15, DL.le16, DL.le17, DL.le18, DL.le19, DL.le20, DL.le21, DL.le22, DL.le23, DL.le24, DL.le25, DL.le26, DL.le27, DL.le28, DL.le29, DL.le30, DL.le31, DL.le32, DL.le33, DL.le34, DL.le35, DL.le36, DL.le37, DL.le38, DL.le39, DL.le40, DL.lt0, DL.lt1, DL.lt2, DL.lt3, DL.lt4, DL.lt5, DL.lt6, DL.lt7, DL.lt8, DL.lt9, DL.lt10, DL.lt11, DL.lt12, DL.lt13, DL.lt14, DL.lt15, DL.lt16, DL.lt17, DL.lt18, DL.lt19, DL.lt20, DL.lt21, DL.lt22, DL.lt23, DL.lt24, DL.lt25, DL.lt26, DL.lt27, DL.lt28, DL.lt29, DL.lt30, DL.lt31, DL.lt32, DL.lt33, DL.lt34, DL.lt35, DL.lt36, DL.lt37, DL.lt38, DL.lt39, DL.lt40]
  refine Eq.trans (DL.seq_nx (ρ1 := [some (SV.t (sc)), some (SV.t (.obj 0)), w2, w3, w4, w5, w6, w7, none, none, none, none, none, none]) (M1 := M2) ?_) ?_
  · exact (for_eq (show s0_law _ M1 = _ from rng1 (show dC (.int 8) _ M1 = _ from rfl) (by decide))).trans e2
  simp only [e3, e4, s1, q_7, q_3, q_2, q_9, T_minus, rA0, rA1, rA2, rA3, rB0, rB1, rB3, a0, a1, a2, a3, T_slash, a4, a5, d0, d1, d3, k0, k1, rep_non, eq_non3, ix_l0, ix_l1, ix2, i0, i1, i2, i3, q2, dM1, sp', n2, rl, rs, eqA_refl_str, DL.dFn, DL.dFi, DL.sSeq, DL.sSet, DL.sIf, DL.sRet, DL.sRetN, DL.sDrop, DL.sBind, DL.sAsg, DL.sPar, DL.sPar3, DL.sNext, DL.dC, DL.dVar, DL.dPeek, DL.dBind, DL.dOut, DL.dUn, DL.dBin, DL.dTru, DL.dNot, DL.dAndT, DL.dOrT, DL.dAndV, DL.dOrV, DL.dIfE, DL.aNil, DL.aCons, DL.aBind, DL.fits, DL.dApp, DL.dRet, DL.dTup, DL.dLst, DL.truD, DL.bName, DL.bTup, DL.bCons, DL.bNil, DL.pick_eq, DL.Src.get, List.filterMap_cons, List.filterMap_nil, List.getElem?_cons_zero, List.getElem?_cons_succ, List.length_cons, List.length_nil, List.set_cons_zero, List.set_cons_succ, List.map_cons, List.map_nil, List.cons_append, List.nil_append, List.append_nil, List.append_assoc, List.reduceReplicate, Nat.reduceAdd, Nat.reduceSub, Nat.reduceLeDiff, Nat.reduceEqDiff, ↓reduceIte, DL.subD, DL.mulD, DL.divD, DL.modD, DL.powD, DL.ltD, DL.leD, DL.gtD, DL.geD, DL.II, DL.subI, DL.cmpI, DL.negD, DL.addD_int, DL.ix_t0, DL.ix_t1, DL.ix_t2, DL.eqA_int, DL.eqA_pair, DL.intD_int, DL.intA_int, DL.intA_bl, DL.absD, DL.le1, DL.le2, DL.le3, DL.le4, DL.le5, DL.le8, DL.le9, Nat.zero_le, Bool.not_true, Bool.not_false, Bool.false_eq_true, DL.eqA_bl, eq_self, Int.reduceEq, Int.reduceLT, Int.reduceNeg, Bool.false_xor, Bool.true_xor, decide_true, decide_false, decide_eq_true_eq, and_self, DL.sRaise, DL.sApp, DL.sNew, DL.sTryE, DL.dAct, DL.dMkX, DL.dCallV, DL.nc0, DL.nc1, DL.nc2, DL.nc3, DL.nc4, DL.nc5, DL.nc6, DL.nc7, DL.nc8, DL.nc9, DL.nc10, DL.nc11, DL.nc12, DL.nc13, DL.nc14, DL.nc15, DL.nc16, DL.nc17, DL.nc18, DL.nc19, DL.nc20, Nat.reduceLT, DL.le6, DL.le7, DL.le10, DL.le11, DL.le12, DL.le13, DL.le14, DL.le15, DL.le16, DL.le17, DL.le18, DL.le19, DL.le20, DL.le21, DL.le22, DL.le23, DL.le24, DL.le25, DL.le26, DL.le27, DL.le28, DL.le29, DL.le30, DL.le31, DL.le32, DL.le33, DL.le34, DL.le35, DL.le36, DL.le37, DL.le38, DL.le39, DL.le40, DL.lt0, DL.lt1, DL.lt2, DL.lt3, DL.lt4, DL.lt5, DL.lt6, DL.lt7, DL.lt8, DL.lt9, DL.lt10, DL.lt11, DL.lt12, DL.lt13, DL.lt14, DL.lt15, DL.lt16, DL.lt17, DL.lt18, DL.lt19, DL.lt20, DL.lt21, DL.lt22, DL.lt23, DL.lt24, DL.lt25, DL.lt26, DL.lt27, DL.lt28, DL.lt29, DL.lt30, DL.lt31, DL.lt32, DL.lt33, DL.lt34, DL.lt35, DL.lt36, DL.lt37, DL.lt38, DL.lt39, DL.lt40]
end L05
set_option maxHeartbeats 0
namespace L05
open PySem PySem.Spec PyProof.Rows L2 DL
def d__law_pen : He.DefD := ⟨("_law_pen", none), "_law_pen", "_law_pen", defArgs s__law_pen, defBody s__law_pen, defScope s__law_pen, [], []⟩
def d__law_draw : He.DefD := ⟨("_law_draw", none), "_law_draw", "_law_draw", defArgs s__law_draw, defBody s__law_draw, defScope s__law_draw, [], []⟩
def d__law_pick : He.DefD := ⟨("_law_pick", none), "_law_pick", "_law_pick", defArgs s__law_pick, defBody s__law_pick, defScope s__law_pick, [], []⟩
def d__law_low : He.DefD := ⟨("_law_low", none), "_law_low", "_law_low", defArgs s__law_low, defBody s__law_low, defScope s__law_low, [], []⟩
def d__law_number : He.DefD := ⟨("_law_number", none), "_law_number", "_law_number", defArgs s__law_number, defBody s__law_number, defScope s__law_number, [], []⟩
def d_integer_from : He.DefD := ⟨("integer_from", none), "integer_from", "integer_from", defArgs s_integer_from, defBody s_integer_from, defScope s_integer_from, [], []⟩
def d_low : He.DefD := ⟨("low", none), "low", "low", defArgs s_low, defBody s_low, defScope s_low, [], []⟩
def d_number_from : He.DefD := ⟨("number_from", none), "number_from", "number_from", defArgs s_number_from, defBody s_number_from, defScope s_number_from, [], []⟩
def d_is_integer : He.DefD := ⟨("is_integer", none), "is_integer", "is_integer", defArgs s_is_integer, defBody s_is_integer, defScope s_is_integer, [], []⟩
def d_is_row : He.DefD := ⟨("is_row", none), "is_row", "is_row", defArgs s_is_row, defBody s_is_row, defScope s_is_row, [], []⟩
def d_is_number : He.DefD := ⟨("is_number", none), "is_number", "is_number", defArgs s_is_number, defBody s_is_number, defScope s_is_number, [], []⟩
def d_number_of : He.DefD := ⟨("number_of", none), "number_of", "number_of", defArgs s_number_of, defBody s_number_of, defScope s_number_of, [.str "number"], []⟩
def d_text_of_number : He.DefD := ⟨("text_of_number", none), "text_of_number", "text_of_number", defArgs s_text_of_number, defBody s_text_of_number, defScope s_text_of_number, [], []⟩
def d__law_none : He.DefD := ⟨("_law_none", none), "_law_none", "_law_none", defArgs s__law_none, defBody s__law_none, defScope s__law_none, [], []⟩
def d_law : He.DefD := ⟨("law", none), "law", "law", defArgs s_law, defBody s_law, defScope s_law, [], []⟩
def fn : List He.DefD := [d__law_pen, d__law_draw, d__law_pick, d__law_low, d__law_number, d_integer_from, d_low, d_number_from, d_is_integer, d_is_row, d_is_number, d_number_of, d_text_of_number, d__law_none, d_law]
def fa : List He.Fa := [.glo "_law_pen", .glo "_law_draw", .glo "_law_pick", .glo "_law_low", .glo "_law_number", .glo "integer_from", .glo "low", .glo "number_from", .glo "is_integer", .glo "is_row", .glo "is_number", .glo "number_of", .glo "text_of_number", .glo "_law_none", .glo "law", .free "abs", .free "all", .free "bool", .free "int", .free "isinstance", .free "len", .free "list", .free "range", .free "repr", .free "str", .free "tuple", .str "FIGURES" "0123456789", .int "MOST_SIGNS" 1000]
def tf : List MkD := []
def ex (K : PySem.W.Frag) : Bool := mkNd K tf && (ownB K TT && (bfB K "gcd" "math.gcd" && true))
def loose0 : List Str := ["__name__", "NearError", "BadNumber", "FIGURES", "is_integer", "is_row", "MOST_SIGNS", "low", "is_number", "number_of", "text_of_number", "integer_from", "number_from", "_law_pen", "_law_draw", "_law_pick", "_law_low", "_law_number", "_law_none"]
def loose : List Str := loose0
def xd : List XDef := []
abbrev R : PySem.W.OpenRow := PySem.W.OpenLaw.row PySem.Challenge.rw_askednear_k05_texts_of_numbers
abbrev PG0 : Program := (PySem.Challenge.rw_askednear_k05_texts_of_numbers).prog
abbrev FILE : Str := PG0.main.file
abbrev hk : PySem.W.Hook := hookY FILE 5 fa fn (tf.map (·.1)) xd ex
def ob (s : PySem.W.SharedT) : AlY := obsY FILE 5 fa fn (tf.map (·.1)) xd ex (HandSHeadRun.getT s)
theorem ob_eq (s : PySem.W.SharedT) : ob s = hk.obs s.abs := obsY_eq (HandSHeadRun.getT_eq s)
theorem run (w : World) : HandSHeadRun.RunEqI R (PySem.W.view R.prog [0, 23]) hk ob 16000 loose w := by
  unfold HandSHeadRun.RunEqI
  kernel_rfl
theorem facts {w : World} {K : PySem.W.Frag} {h : Heap} {mg : Str → Option Value} {f : Addr} (X : K.In h) (G : h.Ns mainGlobals mg) (hfa : mg ("law" : Str) = some (.ref f)) (c : SaysY FILE fa fn (tf.map (·.1)) xd ex w h K) :
    ∃ fd : FuncData, (∀ (s : Shared) (v : Value), BindsTo s fd ⟨[v], []⟩ [("script", v)]) ∧ ∀ base : Heap, K.In base → base.Ns mainGlobals mg → base.NoDigits → (∀ p ∈ mkCs K tf, LamX.TabB base mg p.1.1 p.1.2) → FnG PG0 w K mg base (L2.CX PG0 w) 5 f fd ["script"] (spD K mg (tbT (mkCs K tf)) 1 φ_law) := by
  have E : Fx K mg := ⟨own_ok X G (He.ba (He.ba c.more).2).1, He.free_ok X G (c.t.d.fact 15 (f := .free "abs") rfl), He.free_ok X G (c.t.d.fact 16 (f := .free "all") rfl), He.free_ok X G (c.t.d.fact 17 (f := .free "bool") rfl), He.free_ok X G (c.t.d.fact 18 (f := .free "int") rfl), He.free_ok X G (c.t.d.fact 19 (f := .free "isinstance") rfl), He.free_ok X G (c.t.d.fact 20 (f := .free "len") rfl), He.free_ok X G (c.t.d.fact 21 (f := .free "list") rfl), He.free_ok X G (c.t.d.fact 22 (f := .free "range") rfl), He.free_ok X G (c.t.d.fact 23 (f := .free "repr") rfl), He.free_ok X G (c.t.d.fact 24 (f := .free "str") rfl), He.free_ok X G (c.t.d.fact 25 (f := .free "tuple") rfl), bf_ok X G (He.ba (He.ba (He.ba c.more).2).2).1, He.str_ok X G (c.t.d.fact 26 (f := .str "FIGURES" "0123456789") rfl), He.int_ok X G (c.t.d.fact 27 (f := .int "MOST_SIGNS" 1000) rfl)⟩
  obtain ⟨fd__law_pen, F__law_pen⟩ := c.t.d.def_ 0 (d := d__law_pen) rfl
  obtain ⟨fd__law_draw, F__law_draw⟩ := c.t.d.def_ 1 (d := d__law_draw) rfl
  obtain ⟨fd__law_pick, F__law_pick⟩ := c.t.d.def_ 2 (d := d__law_pick) rfl
  obtain ⟨fd__law_low, F__law_low⟩ := c.t.d.def_ 3 (d := d__law_low) rfl
  obtain ⟨fd__law_number, F__law_number⟩ := c.t.d.def_ 4 (d := d__law_number) rfl
  obtain ⟨fd_integer_from, F_integer_from⟩ := c.t.d.def_ 5 (d := d_integer_from) rfl
  obtain ⟨fd_low, F_low⟩ := c.t.d.def_ 6 (d := d_low) rfl
  obtain ⟨fd_number_from, F_number_from⟩ := c.t.d.def_ 7 (d := d_number_from) rfl
  obtain ⟨fd_is_integer, F_is_integer⟩ := c.t.d.def_ 8 (d := d_is_integer) rfl
  obtain ⟨fd_is_row, F_is_row⟩ := c.t.d.def_ 9 (d := d_is_row) rfl
  obtain ⟨fd_is_number, F_is_number⟩ := c.t.d.def_ 10 (d := d_is_number) rfl
  obtain ⟨fd_number_of, F_number_of⟩ := c.t.d.def_ 11 (d := d_number_of) rfl
  obtain ⟨fd_text_of_number, F_text_of_number⟩ := c.t.d.def_ 12 (d := d_text_of_number) rfl
  obtain ⟨fd__law_none, F__law_none⟩ := c.t.d.def_ 13 (d := d__law_none) rfl
  obtain ⟨fd_law, F_law⟩ := c.t.d.def_ 14 (d := d_law) rfl
  have e := hfa.symm.trans (He.glo_ok X G (c.t.d.fact 14 (f := .glo "law") rfl))
  cases e
  have b := FunD.bindsA (ps := ["script"]) F_law fun _ _ _ _ _ _ us hl => match us, hl with | [_], _ => rfl
  refine ⟨fd_law, fun s v => b s [v] rfl, fun base _ _ nd TB => ?_⟩
  have H__law_pen := ok__law_pen (P := PG0) (w := w) (base := base) (T := tbT (mkCs K tf)) E nd ⟨_, _, F__law_pen, He.glo_ok X G (c.t.d.fact 0 (f := .glo "_law_pen") rfl)⟩
  have H__law_draw := ok__law_draw (P := PG0) (w := w) (base := base) (T := tbT (mkCs K tf)) E nd ⟨_, _, F__law_draw, He.glo_ok X G (c.t.d.fact 1 (f := .glo "_law_draw") rfl)⟩
  have H__law_pick := ok__law_pick (P := PG0) (w := w) (base := base) (T := tbT (mkCs K tf)) E nd ⟨_, _, F__law_pick, He.glo_ok X G (c.t.d.fact 2 (f := .glo "_law_pick") rfl)⟩ H__law_draw
  have H__law_low := ok__law_low (P := PG0) (w := w) (base := base) (T := tbT (mkCs K tf)) E nd ⟨_, _, F__law_low, He.glo_ok X G (c.t.d.fact 3 (f := .glo "_law_low") rfl)⟩
  have H__law_number := ok__law_number (P := PG0) (w := w) (base := base) (T := tbT (mkCs K tf)) E nd ⟨_, _, F__law_number, He.glo_ok X G (c.t.d.fact 4 (f := .glo "_law_number") rfl)⟩ H__law_pick H__law_draw H__law_low
  have H_integer_from := ok_integer_from (P := PG0) (w := w) (base := base) (T := tbT (mkCs K tf)) E nd ⟨_, _, F_integer_from, He.glo_ok X G (c.t.d.fact 5 (f := .glo "integer_from") rfl)⟩
  have H_low := ok_low (P := PG0) (w := w) (base := base) (T := tbT (mkCs K tf)) E nd ⟨_, _, F_low, He.glo_ok X G (c.t.d.fact 6 (f := .glo "low") rfl)⟩
  have H_number_from := ok_number_from (P := PG0) (w := w) (base := base) (T := tbT (mkCs K tf)) E nd ⟨_, _, F_number_from, He.glo_ok X G (c.t.d.fact 7 (f := .glo "number_from") rfl)⟩ H_integer_from H_low
  have H_is_integer := ok_is_integer (P := PG0) (w := w) (base := base) (T := tbT (mkCs K tf)) E nd ⟨_, _, F_is_integer, He.glo_ok X G (c.t.d.fact 8 (f := .glo "is_integer") rfl)⟩
  have H_is_row := ok_is_row (P := PG0) (w := w) (base := base) (T := tbT (mkCs K tf)) E nd ⟨_, _, F_is_row, He.glo_ok X G (c.t.d.fact 9 (f := .glo "is_row") rfl)⟩
  have H_is_number := ok_is_number (P := PG0) (w := w) (base := base) (T := tbT (mkCs K tf)) E nd ⟨_, _, F_is_number, He.glo_ok X G (c.t.d.fact 10 (f := .glo "is_number") rfl)⟩ H_is_integer H_is_row
  have H_number_of := ok_number_of (P := PG0) (w := w) (base := base) (T := tbT (mkCs K tf)) E nd ⟨_, _, F_number_of, He.glo_ok X G (c.t.d.fact 11 (f := .glo "number_of") rfl)⟩ H_is_number H_is_integer H_low
  have H_text_of_number := ok_text_of_number (P := PG0) (w := w) (base := base) (T := tbT (mkCs K tf)) E nd ⟨_, _, F_text_of_number, He.glo_ok X G (c.t.d.fact 12 (f := .glo "text_of_number") rfl)⟩ H_number_of
  have H__law_none := ok__law_none (P := PG0) (w := w) (base := base) (T := tbT (mkCs K tf)) E nd ⟨_, _, F__law_none, He.glo_ok X G (c.t.d.fact 13 (f := .glo "_law_none") rfl)⟩ H__law_draw H__law_pick
  exact (ok_law (P := PG0) (w := w) (base := base) (T := tbT (mkCs K tf)) E nd F_law (He.glo_ok X G (c.t.d.fact 14 (f := .glo "law") rfl)) H__law_pen H__law_number H_number_from H_text_of_number H__law_draw H__law_none H__law_pick H__law_low).fn

end L05
set_option maxHeartbeats 0
open PySem PySem.W PySem.Calls PyProof.Rows
theorem PySem.Challenge.cw_askednear_k05_texts_of_numbers_holds : PySem.Challenge.rw_askednear_k05_texts_of_numbers.Holds := by
  w_on; o_law
  refine HandSHeadRun.head_imp (r := OpenLaw.row PySem.Challenge.rw_askednear_k05_texts_of_numbers) (q := view (OpenLaw.row PySem.Challenge.rw_askednear_k05_texts_of_numbers).prog [0, 23]) (H := L05.hk) (ob := L05.ob) (M := 16000) (loose := L05.loose) (d := HandSHeadRun.topDef (OpenLaw.row PySem.Challenge.rw_askednear_k05_texts_of_numbers).prog 23) (kwd := []) L05.ob_eq
     L05.run (by kernel_rfl) (by kernel_rfl) (by kernel_rfl) (by rfl) (by first | assumption | decide +kernel) (by decide +kernel) ⟨rfl, rfl, rfl, rfl, rfl, by decide +kernel⟩ ?hw ?hc
  case hw => w_witness2
  case hc =>
    refine DL.walk_ofD (l := PySem.Challenge.rw_askednear_k05_texts_of_numbers) (n := 63) (k := 5) (x := "script") rfl (by decide) (by kernel_rfl) ⟨rfl, by decide, by decide⟩ ?F
    intro w mg fa h Y G hmg0
    obtain ⟨K, KX, c⟩ := Y
    have hmg : mg ("law" : PySem.Str) = some (.ref fa) := by
      have e : (HandSHeadRun.topDef (OpenLaw.row PySem.Challenge.rw_askednear_k05_texts_of_numbers).prog 23).name = ("law" : PySem.Str) := by kernel_rfl
      rw [← e]
      exact hmg0
    obtain ⟨fd, hb, hF⟩ := L05.facts (w := w) KX G hmg c
    exact ⟨K, fd, L05.φ_law, DL.mkCs K L05.tf, KX, c.mkT, hb, fun ns hl hbits => L05.plain ns hl hbits, hF⟩
