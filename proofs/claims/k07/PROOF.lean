import PyProof.Rows.All
import Wide.All
import OpenK.AllK
import Wide.FinOn
import KE.KStateDown
import Lean
import HandS.ForMost
import HandS.ForExc
import HandS.Wide
import HandS.Walk
import HandS.CallSlots
import HandS.Flow
import HandS.TupAny
import HandS.Defaults
import HandS.Gcd
import HandS.IsInst
import HandS.RaiseMore
import HandS.Comp
import HandS.Iter
import HandS.Style
import HandS.WideBits
import HandS.EndBits
import HandS.HeadHook1
import HandS.HeadHook2
import HandS.HeadHook3
import HandS.HeadHook4
import HandS.Base
import HandS.Call
import HandS.Ends
import HandS.More
import HandS.Words
import HandS.WordsExc
import HandS.Head0
import HandS.Head1
import HandS.Head2
import HandS.Head3
import HandS.HeadEnd
import PySem.Challenge.RW_askednear_k07_whole_numbers_of_formats
set_option Elab.async false
set_option linter.all false
set_option maxRecDepth 100000
set_option maxHeartbeats 2000000
namespace DL
open PySem PySem.Spec PyProof.Rows L2

/-- data: values as trees; an object of the store by its number; what stands in the module by its name -/
inductive D where
  | non | bl (b : Bool) | int (i : Int) | str (s : Str) | ty (n : String)
  | lst (ds : List D) | tup (ds : List D)
  | dct (ks : List Key) (ds : List D)
  | ins (c : Str) (ks : List Str) (ds : List D)
  | exn (c : Str) (ks : List Str) (ds : List D)
  | gl (x : Str)
  | obj (j : Nat)
  | scr (ds : List D)

/-- what a store's object holds -/
inductive MO where
  | lst (ds : List D)
  | dct (ks : List Key) (ds : List D)
  | ins (c : Str) (ks : List Str) (ds : List D)

abbrev MS := List MO
/-- a slot: data, or a list (a dict) that this call alone holds -/
inductive SV where
  | t (d : D)
  | own (ds : List D)
  | owd (ks : List Key) (ds : List D)
  | bor (ds : List D)
  | bod (ks : List Key) (ds : List D)
  | owi (p : Addr) (c : Str) (ks : List Str) (ds : List D)
abbrev DS := List (Option SV)
/-- an exception of an own class -/
structure XV where
  c : Str
  ks : List Str
  ds : List D

abbrev AP := Addr → Prop
def SqLS (K : PySem.W.Frag) (S : AP) (H : Hp) (a : Addr) (xs : List V) : Prop := S a ∧ H a = some (.lst xs)
def SqTS (K : PySem.W.Frag) (S : AP) (H : Hp) (a : Addr) (xs : List V) : Prop := (S a ∧ Rd H a (.tup xs)) ∨ SqT K (fun _ => none) a xs
theorem SqLS.sq {K : PySem.W.Frag} {S : AP} {H : Hp} {a : Addr} {xs : List V} (h : SqLS K S H a xs) : SqL K H a xs := .inl (.inl h.2)
/-- the script: a list that is read alone -/
def SqLF (K : PySem.W.Frag) (S : AP) (H : Hp) (a : Addr) (xs : List V) : Prop := (S a ∧ Rd H a (.lst xs)) ∨ SqL K (fun _ => none) a xs
theorem SqLF.sq {K : PySem.W.Frag} {S : AP} {H : Hp} {a : Addr} {xs : List V} (h : SqLF K S H a xs) : SqL K H a xs := by
  rcases h with h | h
  · exact .inl h.2
  · rcases h with h | h
    · rcases h with h | ⟨o, h⟩ <;> exact nomatch h
    · exact .inr h
theorem SqTS.sq {K : PySem.W.Frag} {S : AP} {H : Hp} {a : Addr} {xs : List V} (h : SqTS K S H a xs) : SqT K H a xs := by
  rcases h with h | h
  · exact .inl h.2
  · rcases h with h | h
    · rcases h with h | ⟨o, h⟩ <;> exact nomatch h
    · exact .inr h

/-- the exception object of an own class, held as a value: class, own dict -/
def ExVal (H : Hp) (a : Addr) (C : Addr) (d : Option Addr) : Prop := ∃ φ, H a = some (.ext φ) ∧ ∀ h, φ h → ∃ (oe : Obj) (vs : Array Value), h.get? a = some oe ∧ Zc (.ref C) d oe ∧ oe.data = .fields vs

mutual
inductive Dn (K : PySem.W.Frag) (mg : Str → Option Value) (S : AP) (ι : List Addr) (H : Hp) : V → D → Prop
  | non : Dn K mg S ι H .non .non
  | bl (b : Bool) : Dn K mg S ι H (.bl b) (.bl b)
  | int (i : Int) : Dn K mg S ι H (.int i) (.int i)
  | str (x : Str) : Dn K mg S ι H (.str x) (.str x)
  | ty (n : String) : Dn K mg S ι H (.ty n) (.ty n)
  | lst {a : Addr} {xs : List V} {ds : List D} : SqLS K S H a xs → Dns K mg S ι H xs ds → Dn K mg S ι H (.ref a) (.lst ds)
  | tup {a : Addr} {xs : List V} {ds : List D} : SqTS K S H a xs → Dns K mg S ι H xs ds → Dn K mg S ι H (.ref a) (.tup ds)
  | dct {a : Addr} {ks : List Key} {xs : List V} {ds : List D} : S a → H a = some (.dK (ks.zip xs)) → xs.length = ks.length → Dns K mg S ι H xs ds → Dn K mg S ι H (.ref a) (.dct ks ds)
  | ins {a C dx : Addr} {c : Str} {ks : List Str} {xs : List V} {ds : List D} : S a → H a = some (.ins C dx (ks.zip xs)) → xs.length = ks.length → mg c = some (.ref C) → Dns K mg S ι H xs ds → Dn K mg S ι H (.ref a) (.ins c ks ds)
  | exn {a C dx : Addr} {c : Str} {ks : List Str} {xs : List V} {ds : List D} : S a → ExVal H a C (some dx) → S dx → H dx = some (.xd (ks.zip xs)) → xs.length = ks.length → mg c = some (.ref C) → Dns K mg S ι H xs ds → Dn K mg S ι H (.ref a) (.exn c ks ds)
  | exn0 {a C : Addr} {c : Str} : S a → ExVal H a C none → mg c = some (.ref C) → Dn K mg S ι H (.ref a) (.exn c [] [])
  | gl {x : Str} {v : V} {u : Value} : mg x = some u → RelV v u → Dn K mg S ι H v (.gl x)
  | obj {j : Nat} {a : Addr} : ι[j]? = some a → Dn K mg S ι H (.ref a) (.obj j)
  | scr {a : Addr} {xs : List V} {ds : List D} : SqLF K S H a xs → Dns K mg S ι H xs ds → Dn K mg S ι H (.ref a) (.scr ds)
inductive Dns (K : PySem.W.Frag) (mg : Str → Option Value) (S : AP) (ι : List Addr) (H : Hp) : List V → List D → Prop
  | nil : Dns K mg S ι H [] []
  | cons {v : V} {vs : List V} {d : D} {ds : List D} : Dn K mg S ι H v d → Dns K mg S ι H vs ds → Dns K mg S ι H (v :: vs) (d :: ds)
end

/-- what data may lean on stays -/
structure Ext (S : AP) (ι : List Addr) (H : Hp) (S' : AP) (ι' : List Addr) (H' : Hp) : Prop where
  sub : ∀ a, S a → S' a
  idx : ∀ (j : Nat) a, ι[j]? = some a → ι'[j]? = some a
  at_ : ∀ a o, S a → H a = some o → H' a = some o
theorem Ext.refl {S : AP} {ι : List Addr} {H : Hp} : Ext S ι H S ι H := ⟨fun _ h => h, fun _ _ h => h, fun _ _ _ h => h⟩
theorem Ext.trans {S S1 S2 : AP} {ι ι1 ι2 : List Addr} {H H1 H2 : Hp} (a : Ext S ι H S1 ι1 H1) (b : Ext S1 ι1 H1 S2 ι2 H2) : Ext S ι H S2 ι2 H2 :=
  ⟨fun x h => b.sub x (a.sub x h), fun j x h => b.idx j x (a.idx j x h), fun x o s h => b.at_ x o (a.sub x s) (a.at_ x o s h)⟩
section
variable {K : PySem.W.Frag} {mg : Str → Option Value} {S S' : AP} {ι ι' : List Addr} {H H' : Hp}
theorem Ext.rd {a : Addr} {u : HO} (e : Ext S ι H S' ι' H') (s : S a) (h : Rd H a u) : Rd H' a u := by
  rcases h with h | ⟨o, h⟩
  · exact .inl (e.at_ _ _ s h)
  · exact .inr ⟨o, e.at_ _ _ s h⟩
theorem Ext.sqL {a : Addr} {xs : List V} (e : Ext S ι H S' ι' H') (h : SqLS K S H a xs) : SqLS K S' H' a xs := ⟨e.sub _ h.1, e.at_ _ _ h.1 h.2⟩
theorem Ext.sqF {a : Addr} {xs : List V} (e : Ext S ι H S' ι' H') (h : SqLF K S H a xs) : SqLF K S' H' a xs := by
  rcases h with ⟨s, h⟩ | h
  · exact .inl ⟨e.sub _ s, e.rd s h⟩
  · exact .inr h
theorem Ext.sqT {a : Addr} {xs : List V} (e : Ext S ι H S' ι' H') (h : SqTS K S H a xs) : SqTS K S' H' a xs := by
  rcases h with ⟨s, h⟩ | h
  · exact .inl ⟨e.sub _ s, e.rd s h⟩
  · exact .inr h
theorem Ext.exv {a C : Addr} {d : Option Addr} (e : Ext S ι H S' ι' H') (s : S a) (h : ExVal H a C d) : ExVal H' a C d :=
  let ⟨φ, h1, h2⟩ := h
  ⟨φ, e.at_ _ _ s h1, h2⟩
mutual
theorem Dn.ext (e : Ext S ι H S' ι' H') : ∀ {v : V} {d : D}, Dn K mg S ι H v d → Dn K mg S' ι' H' v d
  | _, _, .non => .non
  | _, _, .bl b => .bl b
  | _, _, .int i => .int i
  | _, _, .str x => .str x
  | _, _, .ty n => .ty n
  | _, _, .lst h t => .lst (e.sqL h) (Dns.ext e t)
  | _, _, .tup h t => .tup (e.sqT h) (Dns.ext e t)
  | _, _, .dct s h l t => .dct (e.sub _ s) (e.at_ _ _ s h) l (Dns.ext e t)
  | _, _, .ins s h l m t => .ins (e.sub _ s) (e.at_ _ _ s h) l m (Dns.ext e t)
  | _, _, .exn s h sd hd l m t => .exn (e.sub _ s) (e.exv s h) (e.sub _ sd) (e.at_ _ _ sd hd) l m (Dns.ext e t)
  | _, _, .exn0 s h m => .exn0 (e.sub _ s) (e.exv s h) m
  | _, _, .gl m r => .gl m r
  | _, _, .obj h => .obj (e.idx _ _ h)
  | _, _, .scr h t => .scr (e.sqF h) (Dns.ext e t)
theorem Dns.ext (e : Ext S ι H S' ι' H') : ∀ {vs : List V} {ds : List D}, Dns K mg S ι H vs ds → Dns K mg S' ι' H' vs ds
  | _, _, .nil => .nil
  | _, _, .cons h t => .cons (Dn.ext e h) (Dns.ext e t)
end
theorem Dns.length : ∀ {vs : List V} {ds : List D}, Dns K mg S ι H vs ds → vs.length = ds.length
  | _, _, .nil => rfl
  | _, _, .cons _ t => congrArg (· + 1) (Dns.length t)
theorem Dns.append : ∀ {xs ys : List V} {ds es : List D}, Dns K mg S ι H xs ds → Dns K mg S ι H ys es → Dns K mg S ι H (xs ++ ys) (ds ++ es)
  | _, _, _, _, .nil, t => t
  | _, _, _, _, .cons h t, s => .cons h (Dns.append t s)
theorem Dns.get : ∀ {xs : List V} {ds : List D} {i : Nat} {d : D}, Dns K mg S ι H xs ds → ds[i]? = some d → ∃ v, xs[i]? = some v ∧ Dn K mg S ι H v d
  | _, _, 0, _, .cons h t, e => by simp at e; subst e; exact ⟨_, rfl, h⟩
  | _, _, i + 1, _, .cons h t, e => by
    obtain ⟨v, h1, h2⟩ := Dns.get (i := i) t (by simpa using e)
    exact ⟨v, by simpa using h1, h2⟩
theorem Dns.getV : ∀ {xs : List V} {ds : List D} {i : Nat} {v : V}, Dns K mg S ι H xs ds → xs[i]? = some v → ∃ d, ds[i]? = some d ∧ Dn K mg S ι H v d
  | _, _, 0, _, .cons h t, e => by simp at e; subst e; exact ⟨_, rfl, h⟩
  | _, _, i + 1, _, .cons h t, e => by
    obtain ⟨v, h1, h2⟩ := Dns.getV (i := i) t (by simpa using e)
    exact ⟨v, by simpa using h1, h2⟩
theorem Dns.set : ∀ {xs : List V} {ds : List D} (i : Nat) {v : V} {d : D}, Dns K mg S ι H xs ds → Dn K mg S ι H v d → Dns K mg S ι H (xs.set i v) (ds.set i d)
  | _, _, _, _, _, .nil, _ => .nil
  | _, _, 0, _, _, .cons h t, r => .cons r t
  | _, _, i + 1, _, _, .cons h t, r => .cons h (Dns.set i t r)
theorem Dns.take : ∀ {xs : List V} {ds : List D} (n : Nat), Dns K mg S ι H xs ds → Dns K mg S ι H (xs.take n) (ds.take n)
  | _, _, 0, _ => by simp; exact .nil
  | _, _, n + 1, .nil => by simp; exact .nil
  | _, _, n + 1, .cons h t => by simp; exact .cons h (Dns.take n t)
theorem Dns.drop : ∀ {xs : List V} {ds : List D} (n : Nat), Dns K mg S ι H xs ds → Dns K mg S ι H (xs.drop n) (ds.drop n)
  | _, _, 0, r => by simpa using r
  | _, _, n + 1, .nil => by simp; exact .nil
  | _, _, n + 1, .cons h t => by simpa using Dns.drop n t
end

/-- what stands at an object of the store -/
def MOk (K : PySem.W.Frag) (mg : Str → Option Value) (S : AP) (ι : List Addr) (H : Hp) (a : Addr) : MO → Prop
  | .lst ds => ∃ xs, H a = some (.lst xs) ∧ Dns K mg S ι H xs ds
  | .dct ks ds => ∃ xs, H a = some (.dK (ks.zip xs)) ∧ xs.length = ks.length ∧ Dns K mg S ι H xs ds
  | .ins c ks ds => ∃ C dx xs, H a = some (.ins C dx (ks.zip xs)) ∧ xs.length = ks.length ∧ mg c = some (.ref C) ∧ Dns K mg S ι H xs ds

/-- a call's entry -/
structure En where
  H : Hp
  S : AP
  ι : List Addr
abbrev OwnM := Nat → Option Addr
def own0 : OwnM := fun _ => none
def NTbl (o : HO) : Prop := ∀ ps, o ≠ .tbl ps

structure Ok (K : PySem.W.Frag) (mg : Str → Option Value) (N : En) (ι : List Addr) (M : MS) (S : AP) (H : Hp) (own : OwnM) : Prop where
  len : ι.length = M.length
  pre : ∀ (j : Nat) a, N.ι[j]? = some a → ι[j]? = some a
  fresh : ∀ a ∈ ι, a ∈ N.ι ∨ N.H a = none
  objs : ∀ (j : Nat) a m, ι[j]? = some a → M[j]? = some m → MOk K mg S ι H a m
  nd : ι.Nodup
  iout : ∀ a ∈ ι, ¬ S a ∧ H a ≠ none
  oout : ∀ i a, own i = some a → ¬ S a ∧ (∃ o, H a = some o ∧ NTbl o) ∧ N.H a = none ∧ a ∉ ι
  oinj : ∀ i j a, own i = some a → own j = some a → i = j
  ofin : ∃ n, ∀ i, n ≤ i → own i = none
  sub : ∀ a, N.S a → S a
  new : ∀ a, S a → N.S a ∨ N.H a = none
  keep : ∀ a o, N.H a = some o → a ∉ N.ι → NTbl o → H a = some o
  trk : ∀ a, N.H a ≠ none → H a ≠ none
  sat : ∀ a, S a → ∃ o, H a = some o ∧ NTbl o

/-- slots have numbers below this one -/
def slotsB : Nat := 1000000
def SVOk (K : PySem.W.Frag) (mg : Str → Option Value) (S : AP) (ι : List Addr) (H : Hp) (v : V) (o : Option Addr) : SV → Prop
  | .t d => o = none ∧ Dn K mg S ι H v d
  | .own ds => ∃ a xs, v = .ref a ∧ o = some a ∧ H a = some (.lst xs) ∧ Dns K mg S ι H xs ds
  | .owd ks ds => ∃ a xs, v = .ref a ∧ o = some a ∧ H a = some (.dK (ks.zip xs)) ∧ xs.length = ks.length ∧ Dns K mg S ι H xs ds
  | .bor ds => ∃ a xs, v = .ref a ∧ o = some a ∧ H a = some (.lst xs) ∧ Dns K mg S ι H xs ds
  | .bod ks ds => ∃ a xs, v = .ref a ∧ o = some a ∧ H a = some (.dK (ks.zip xs)) ∧ xs.length = ks.length ∧ Dns K mg S ι H xs ds
  | .owi p c ks ds => ∃ a C dx xs, v = .ref a ∧ a = p ∧ o = some a ∧ H a = some (.ins C dx (ks.zip xs)) ∧ xs.length = ks.length ∧ mg c = some (.ref C) ∧ Dns K mg S ι H xs ds
structure EnvOk (K : PySem.W.Frag) (mg : Str → Option Value) (S : AP) (ι : List Addr) (H : Hp) (own : OwnM) (σ : L2.St) (ρ : DS) : Prop where
  len : σ.length = ρ.length
  big : ρ.length ≤ slotsB
  gap : ∀ i, ρ.length ≤ i → i < slotsB → own i = none
  at_ : ∀ (i : Nat) x, ρ[i]? = some (some x) → ∃ v, σ[i]? = some (some v) ∧ SVOk K mg S ι H v (own i) x
  nown : ∀ (i : Nat), ρ[i]? = some none → own i = none

/-- the state: what is known at a moment -/
structure Cur (K : PySem.W.Frag) (mg : Str → Option Value) (N : En) (ι : List Addr) (S : AP) (H : Hp) (own : OwnM) (σ : L2.St) (ρ : DS) (M : MS) : Prop where
  ok : Ok K mg N ι M S H own
  env : EnvOk K mg S ι H own σ ρ
end DL
set_option maxHeartbeats 2000000
namespace DL
open PySem PySem.Spec PyProof.Rows L2
variable {K : PySem.W.Frag} {mg : Str → Option Value} {N : En} {ι ι' : List Addr} {M M' : MS} {S S' : AP} {H H' : Hp} {own own' : OwnM} {σ σ' : L2.St} {ρ ρ' : DS}

theorem MOk.ext {a : Addr} {m : MO} (e : Ext S ι H S' ι' H') (ha : H' a = H a) (h : MOk K mg S ι H a m) : MOk K mg S' ι' H' a m := by
  cases m with
  | lst ds => obtain ⟨xs, h1, h2⟩ := h; exact ⟨xs, ha.trans h1, h2.ext e⟩
  | dct ks ds => obtain ⟨xs, h1, l, h2⟩ := h; exact ⟨xs, ha.trans h1, l, h2.ext e⟩
  | ins c ks ds => obtain ⟨C, dx, xs, h1, l, m, h2⟩ := h; exact ⟨C, dx, xs, ha.trans h1, l, m, h2.ext e⟩
theorem SVOk.ext {v : V} {o : Option Addr} {x : SV} (e : Ext S ι H S' ι' H') (ha : ∀ a, o = some a → H' a = H a) (h : SVOk K mg S ι H v o x) : SVOk K mg S' ι' H' v o x := by
  cases x with
  | t d => exact ⟨h.1, h.2.ext e⟩
  | own ds => obtain ⟨a, xs, h1, h2, h3, h4⟩ := h; exact ⟨a, xs, h1, h2, (ha a h2).trans h3, h4.ext e⟩
  | owd ks ds => obtain ⟨a, xs, h1, h2, h3, l, h4⟩ := h; exact ⟨a, xs, h1, h2, (ha a h2).trans h3, l, h4.ext e⟩
  | bor ds => obtain ⟨a, xs, h1, h2, h3, h4⟩ := h; exact ⟨a, xs, h1, h2, (ha a h2).trans h3, h4.ext e⟩
  | bod ks ds => obtain ⟨a, xs, h1, h2, h3, l, h4⟩ := h; exact ⟨a, xs, h1, h2, (ha a h2).trans h3, l, h4.ext e⟩
  | owi p c ks ds => obtain ⟨a, C, dx, xs, h1, hp, h2, h3, l, m, h4⟩ := h; exact ⟨a, C, dx, xs, h1, hp, h2, (ha a h2).trans h3, l, m, h4.ext e⟩
theorem Ok.ohn (k : Ok K mg N ι M S H own) {i : Nat} {a : Addr} (e : own i = some a) : H a ≠ none := by
  obtain ⟨o, h, _⟩ := (k.oout i a e).2.1
  rw [h]; exact fun z => nomatch z
theorem EnvOk.ext (e : Ext S ι H S' ι' H') (ha : ∀ i a, own i = some a → H' a = H a) (h : EnvOk K mg S ι H own σ ρ) : EnvOk K mg S' ι' H' own σ ρ :=
  ⟨h.len, h.big, h.gap, fun i x q => let ⟨v, h1, h2⟩ := h.at_ i x q; ⟨v, h1, h2.ext e (ha i)⟩, h.nown⟩

/-- a set with one more -/
def addS (S : AP) (p : Addr) : AP := fun a => S a ∨ a = p
theorem Ok.alloc_ext (k : Ok K mg N ι M S H own) {p : Addr} {o : HO} (hp : H p = none) : Ext S ι H (addS S p) ι (upd H p o) :=
  ⟨fun _ h => .inl h, fun _ _ h => h, fun a u _ h => by rw [upd_ne (ne_of_none h hp)]; exact h⟩
theorem Ok.hown (k : Ok K mg N ι M S H own) {p : Addr} {o : HO} (hp : H p = none) : ∀ i a, own i = some a → upd H p o a = H a := fun i a e => by
  refine upd_ne (fun z => k.ohn e (by rw [z]; exact hp))
theorem Ok.free (k : Ok K mg N ι M S H own) {p : Addr} (hp : H p = none) : N.H p = none := by
  cases q : N.H p with
  | none => rfl
  | some u => exact absurd hp (k.trk p (by rw [q]; exact fun z => nomatch z))
/-- a new object, shared at once -/
theorem Ok.alloc (k : Ok K mg N ι M S H own) {p : Addr} {o : HO} (hp : H p = none) (ho : NTbl o := by exact fun _ z => nomatch z) : Ok K mg N ι M (addS S p) (upd H p o) own where
  len := k.len
  pre := k.pre
  fresh := k.fresh
  objs := fun j a m h1 h2 => (k.objs j a m h1 h2).ext (k.alloc_ext hp) (upd_ne fun z => (k.iout a (List.mem_of_getElem? h1)).2 (by rw [z]; exact hp))
  nd := k.nd
  iout := fun a ha => ⟨fun s => by
    rcases s with s | s
    · exact (k.iout a ha).1 s
    · exact (k.iout a ha).2 (by rw [s]; exact hp), by rw [upd_ne fun z => (k.iout a ha).2 (by rw [z]; exact hp)]; exact (k.iout a ha).2⟩
  oout := fun i a e => ⟨fun s => by
    rcases s with s | s
    · exact (k.oout i a e).1 s
    · exact k.ohn e (by rw [s]; exact hp), by rw [k.hown hp i a e]; exact (k.oout i a e).2.1, (k.oout i a e).2.2.1, (k.oout i a e).2.2.2⟩
  oinj := k.oinj
  ofin := k.ofin
  sub := fun a h => .inl (k.sub a h)
  new := fun a h => by
    rcases h with h | h
    · exact k.new a h
    · rw [h]; exact .inr (k.free hp)
  keep := fun a u h1 h2 h3 => by
    have q := k.keep a u h1 h2 h3
    rw [upd_ne (ne_of_none q hp)]; exact q
  trk := fun a h => by
    by_cases z : a = p
    · rw [z, upd_same]; exact fun q => nomatch q
    · rw [upd_ne z]; exact k.trk a h
  sat := fun a h => by
    by_cases z : a = p
    · rw [z, upd_same]; exact ⟨o, rfl, ho⟩
    · rw [upd_ne z]
      rcases h with h | h
      · exact k.sat a h
      · exact absurd h z
theorem Cur.alloc (c : Cur K mg N ι S H own σ ρ M) {p : Addr} {o : HO} (hp : H p = none) (ho : NTbl o := by exact fun _ z => nomatch z) : Cur K mg N ι (addS S p) (upd H p o) own σ ρ M :=
  ⟨c.ok.alloc hp ho, c.env.ext (c.ok.alloc_ext hp) (c.ok.hown hp)⟩

/-- a list of its own at a slot is handed on: from now on it stands still -/
def setO (own : OwnM) (i : Nat) (o : Option Addr) : OwnM := fun j => if j = i then o else own j
theorem setO_fin {own : OwnM} {i : Nat} {o : Option Addr} (h : ∃ n, ∀ i, n ≤ i → own i = none) : ∃ n, ∀ j, n ≤ j → setO own i o j = none := by
  obtain ⟨n, h⟩ := h
  refine ⟨max n (i + 1), fun j hj => ?_⟩
  unfold setO
  rw [if_neg (by omega)]
  exact h j (by omega)
theorem Ok.unown (k : Ok K mg N ι M S H own) (i : Nat) : Ok K mg N ι M S H (setO own i none) where
  len := k.len
  pre := k.pre
  fresh := k.fresh
  objs := k.objs
  nd := k.nd
  iout := k.iout
  oout := fun j a e => by
    unfold setO at e
    split at e
    · cases e
    · exact k.oout j a e
  oinj := fun i' j' a e1 e2 => by
    unfold setO at e1 e2
    split at e1
    · cases e1
    · split at e2
      · cases e2
      · exact k.oinj i' j' a e1 e2
  ofin := setO_fin k.ofin
  sub := k.sub
  new := k.new
  keep := k.keep
  trk := k.trk
  sat := k.sat
theorem addS_ext {a : Addr} : Ext S ι H (addS S a) ι H := ⟨fun _ h => .inl h, fun _ _ h => h, fun _ _ _ h => h⟩
theorem Ok.freeze (k : Ok K mg N ι M S H own) {i : Nat} {a : Addr} (e : own i = some a) {o : HO} (ho : H a = some o) (hn : NTbl o) : Ok K mg N ι M (addS S a) H (setO own i none) where
  len := k.len
  pre := k.pre
  fresh := k.fresh
  objs := fun j b m h1 h2 => (k.objs j b m h1 h2).ext addS_ext rfl
  nd := k.nd
  iout := fun b hb => ⟨fun s => by
    rcases s with s | s
    · exact (k.iout b hb).1 s
    · exact (k.oout i a e).2.2.2 (s ▸ hb), (k.iout b hb).2⟩
  oout := fun j b q => by
    unfold setO at q
    split at q
    · cases q
    · rename_i hj
      refine ⟨fun s => ?_, (k.oout j b q).2⟩
      rcases s with s | s
      · exact (k.oout j b q).1 s
      · exact hj (k.oinj j i a (s ▸ q) e)
  oinj := fun i' j' b e1 e2 => by
    unfold setO at e1 e2
    split at e1
    · cases e1
    · split at e2
      · cases e2
      · exact k.oinj i' j' b e1 e2
  ofin := setO_fin k.ofin
  sub := fun b h => .inl (k.sub b h)
  new := fun b h => by
    rcases h with h | h
    · exact k.new b h
    · rw [h]; exact .inr (k.oout i a e).2.2.1
  keep := k.keep
  trk := k.trk
  sat := fun b h => by
    rcases h with h | h
    · exact k.sat b h
    · rw [h]; exact ⟨o, ho, hn⟩

theorem setO_gap {i : Nat} (e : EnvOk K mg S ι H own σ ρ) {j : Nat} (h1 : ρ.length ≤ j) (h2 : j < slotsB) : setO own i none j = none := by
  unfold setO
  split
  · rfl
  · exact e.gap j h1 h2
theorem getElem?_set_eq' {α : Type} {l : List α} {i : Nat} {x y : α} (h : l[i]? = some y) : (l.set i x)[i]? = some x := by
  rw [List.getElem?_set_self]
  exact (List.getElem?_eq_some_iff.mp h).1
/-- a slot is filled with data -/
theorem Cur.store (c : Cur K mg N ι S H own σ ρ M) {i : Nat} {v : V} {d : D} (hv : Dn K mg S ι H v d) : Cur K mg N ι S H (setO own i none) (σ.set i (some v)) (ρ.set i (some (.t d))) M := by
  refine ⟨c.ok.unown i, ⟨by simpa using c.env.len, by simpa using c.env.big, fun j h1 h2 => setO_gap c.env (by simpa using h1) h2, fun j x q => ?_, fun j q => ?_⟩⟩
  · by_cases hj : j = i
    · subst hj
      have hi : j < ρ.length := by
        have := (List.getElem?_eq_some_iff.mp q).1
        simpa using this
      rw [List.getElem?_set_self hi] at q
      cases q
      refine ⟨v, ?_, ?_, hv⟩
      · rw [List.getElem?_set_self (by rw [c.env.len]; exact hi)]
      · unfold setO; rw [if_pos rfl]
    · rw [List.getElem?_set_ne (Ne.symm hj)] at q ⊢
      obtain ⟨w, h1, h2⟩ := c.env.at_ j x q
      refine ⟨w, h1, ?_⟩
      unfold setO; rw [if_neg hj]; exact h2
  · unfold setO
    by_cases hj : j = i
    · rw [if_pos hj]
    · rw [if_neg hj]
      rw [List.getElem?_set_ne (Ne.symm hj)] at q
      exact c.env.nown j q
/-- a slot's list is handed on -/
theorem Cur.freeze (c : Cur K mg N ι S H own σ ρ M) {i : Nat} {ds : List D} (q : ρ[i]? = some (some (.own ds))) :
    ∃ v a, own i = some a ∧ σ[i]? = some (some v) ∧ Dn K mg (addS S a) ι H v (.lst ds) ∧ Cur K mg N ι (addS S a) H (setO own i none) σ (ρ.set i (some (.t (.lst ds)))) M ∧ Ext S ι H (addS S a) ι H := by
  obtain ⟨v, h1, a, xs, rfl, h3, h4, h5⟩ := c.env.at_ i _ q
  have dn : Dn K mg (addS S a) ι H (.ref a) (.lst ds) := .lst ⟨.inr rfl, h4⟩ (h5.ext addS_ext)
  refine ⟨_, a, h3, h1, dn, ⟨c.ok.freeze h3 h4 (fun _ z => nomatch z), ⟨by simpa using c.env.len, by simpa using c.env.big, fun j h1 h2 => setO_gap c.env (by simpa using h1) h2, fun j x q' => ?_, fun j q' => ?_⟩⟩, addS_ext⟩
  · by_cases hj : j = i
    · subst hj
      rw [getElem?_set_eq' q] at q'
      cases q'
      refine ⟨_, h1, ?_, dn⟩
      unfold setO; rw [if_pos rfl]
    · rw [List.getElem?_set_ne (Ne.symm hj)] at q'
      obtain ⟨w, g1, g2⟩ := c.env.at_ j x q'
      refine ⟨w, g1, ?_⟩
      unfold setO; rw [if_neg hj]
      exact g2.ext addS_ext fun _ _ => rfl
  · unfold setO
    by_cases hj : j = i
    · rw [if_pos hj]
    · rw [if_neg hj]
      rw [List.getElem?_set_ne (Ne.symm hj)] at q'
      exact c.env.nown j q'
theorem Cur.freezeD (c : Cur K mg N ι S H own σ ρ M) {i : Nat} {ks : List Key} {ds : List D} (q : ρ[i]? = some (some (.owd ks ds))) :
    ∃ v a, own i = some a ∧ σ[i]? = some (some v) ∧ Dn K mg (addS S a) ι H v (.dct ks ds) ∧ Cur K mg N ι (addS S a) H (setO own i none) σ (ρ.set i (some (.t (.dct ks ds)))) M ∧ Ext S ι H (addS S a) ι H := by
  obtain ⟨v, h1, a, xs, rfl, h3, h4, hl, h5⟩ := c.env.at_ i _ q
  have dn : Dn K mg (addS S a) ι H (.ref a) (.dct ks ds) := .dct (.inr rfl) h4 hl (h5.ext addS_ext)
  refine ⟨_, a, h3, h1, dn, ⟨c.ok.freeze h3 h4 (fun _ z => nomatch z), ⟨by simpa using c.env.len, by simpa using c.env.big, fun j h1 h2 => setO_gap c.env (by simpa using h1) h2, fun j x q' => ?_, fun j q' => ?_⟩⟩, addS_ext⟩
  · by_cases hj : j = i
    · subst hj
      rw [getElem?_set_eq' q] at q'
      cases q'
      refine ⟨_, h1, ?_, dn⟩
      unfold setO; rw [if_pos rfl]
    · rw [List.getElem?_set_ne (Ne.symm hj)] at q'
      obtain ⟨w, g1, g2⟩ := c.env.at_ j x q'
      refine ⟨w, g1, ?_⟩
      unfold setO; rw [if_neg hj]
      exact g2.ext addS_ext fun _ _ => rfl
  · unfold setO
    by_cases hj : j = i
    · rw [if_pos hj]
    · rw [if_neg hj]
      rw [List.getElem?_set_ne (Ne.symm hj)] at q'
      exact c.env.nown j q'
end DL
set_option maxHeartbeats 2000000
namespace DL
open PySem PySem.Spec PyProof.Rows L2

/-! ### what evaluating gives -/
inductive EO where
  | ok (d : D) (ρ : DS) (M : MS)
  | ex (x : XV) (ρ : DS) (M : MS)
inductive AO where
  | ok (ds : List D) (ρ : DS) (M : MS)
  | ex (x : XV) (ρ : DS) (M : MS)
inductive SO where
  | nx (ρ : DS) (M : MS) | rt (d : D) (M : MS) | bk (ρ : DS) (M : MS) | ct (ρ : DS) (M : MS)
  | ex (x : XV) (ρ : DS) (M : MS)
inductive FO where
  | ret (d : D) (M : MS) | exc (x : XV) (M : MS)
abbrev TDE := DS → MS → Option EO
abbrev TDA := DS → MS → Option AO
abbrev TDS := DS → MS → Option SO
abbrev DF := List D → MS → Option FO

/-- data to look at: its outmost object may be one that changes -/
inductive Bn (K : PySem.W.Frag) (mg : Str → Option Value) (S : AP) (ι : List Addr) (H : Hp) : V → D → Prop
  | dn {v : V} {d : D} : Dn K mg S ι H v d → Bn K mg S ι H v d
  | lst {a : Addr} {xs : List V} {ds : List D} : H a = some (.lst xs) → Dns K mg S ι H xs ds → Bn K mg S ι H (.ref a) (.lst ds)
  | dct {a : Addr} {ks : List Key} {xs : List V} {ds : List D} : H a = some (.dK (ks.zip xs)) → xs.length = ks.length → Dns K mg S ι H xs ds → Bn K mg S ι H (.ref a) (.dct ks ds)
/-- .. behind evaluating -/
structure ExtE (S : AP) (ι : List Addr) (H : Hp) (own : OwnM) (S' : AP) (ι' : List Addr) (H' : Hp) (own' : OwnM) : Prop where
  ext : Ext S ι H S' ι' H'
  ow : ∀ i a, own i = some a → H' a = H a ∧ (own' i = some a ∨ (i < slotsB ∧ S' a))
theorem ExtE.refl {S : AP} {ι : List Addr} {H : Hp} {own : OwnM} : ExtE S ι H own S ι H own := ⟨.refl, fun _ _ h => ⟨rfl, .inl h⟩⟩
section
variable {K : PySem.W.Frag} {mg : Str → Option Value} {N : En} {ι ι' ι1 ι2 : List Addr} {M M' : MS} {S S' S1 S2 : AP} {H H' H1 H2 : Hp} {own own' own1 own2 : OwnM} {σ σ' : L2.St} {ρ ρ' : DS}
theorem ExtE.trans (k : Ok K mg N ι M S H own) (a : ExtE S ι H own S1 ι1 H1 own1) (b : ExtE S1 ι1 H1 own1 S2 ι2 H2 own2) : ExtE S ι H own S2 ι2 H2 own2 := by
  refine ⟨a.ext.trans b.ext, fun i x e => ?_⟩
  obtain ⟨h1, h2⟩ := a.ow i x e
  rcases h2 with h2 | h2
  · obtain ⟨h3, h4⟩ := b.ow i x h2
    exact ⟨h3.trans h1, h4⟩
  · obtain ⟨hb, h2⟩ := h2
    refine ⟨?_, .inr ⟨hb, b.ext.sub x h2⟩⟩
    cases q : H x with
    | none => exact absurd q (k.ohn e)
    | some o =>
      rw [q] at h1
      exact b.ext.at_ x o h2 h1
/-- what a statement of Bn leans on: an own list, or data -/
inductive BnO (K : PySem.W.Frag) (mg : Str → Option Value) (S : AP) (ι : List Addr) (H : Hp) (own : OwnM) : V → D → Prop
  | dn {v : V} {d : D} : Dn K mg S ι H v d → BnO K mg S ι H own v d
  | lst {i : Nat} {a : Addr} {xs : List V} {ds : List D} : own i = some a → H a = some (.lst xs) → Dns K mg S ι H xs ds → BnO K mg S ι H own (.ref a) (.lst ds)
  | dct {i : Nat} {a : Addr} {ks : List Key} {xs : List V} {ds : List D} : own i = some a → H a = some (.dK (ks.zip xs)) → xs.length = ks.length → Dns K mg S ι H xs ds → BnO K mg S ι H own (.ref a) (.dct ks ds)
theorem BnO.bn {v : V} {d : D} (h : BnO K mg S ι H own v d) : Bn K mg S ι H v d := by
  cases h with
  | dn h => exact .dn h
  | lst _ h1 h2 => exact .lst h1 h2
  | dct _ h1 l h2 => exact .dct h1 l h2
theorem BnO.ext {v : V} {d : D} (e : ExtE S ι H own S' ι' H' own') (h : BnO K mg S ι H own v d) : Bn K mg S' ι' H' v d := by
  cases h with
  | dn h => exact .dn (h.ext e.ext)
  | lst o h1 h2 => exact .lst ((e.ow _ _ o).1.trans h1) (h2.ext e.ext)
  | dct o h1 l h2 => exact .dct ((e.ow _ _ o).1.trans h1) l (h2.ext e.ext)

/-- an exception of an own class -/
def ExOk (K : PySem.W.Frag) (mg : Str → Option Value) (S : AP) (ι : List Addr) (H : Hp) (x : XV) (cls : Value) (dd : Option Addr) : Prop :=
  ∃ C, mg x.c = some (.ref C) ∧ cls = .ref C ∧ ((dd = none ∧ x.ks = [] ∧ x.ds = []) ∨ ∃ d xs, dd = some d ∧ S d ∧ H d = some (.xd (x.ks.zip xs)) ∧ xs.length = x.ks.length ∧ Dns K mg S ι H xs x.ds)

/-- what is wished of an exception by the state where it rises -/
def XPost (K : PySem.W.Frag) (mg : Str → Option Value) (N : En) (S : AP) (ι : List Addr) (H : Hp) (W : WX) (σ : L2.St) (x : XV) (ρ' : DS) (M' : MS) : Prop :=
  ∀ cls dd ι' S' H' own', Cur K mg N ι' S' H' own' σ ρ' M' → Ext S ι H S' ι' H' → ExOk K mg S' ι' H' x cls dd → W cls dd σ H'
section
variable (K : PySem.W.Frag) (mg : Str → Option Value) (N : En) (W : WX) (ι : List Addr) (S : AP) (H : Hp) (own : OwnM) (σ : L2.St)
def postD (Q : VK) : Option EO → Prop
  | some (.ok d ρ' M') => ∀ v ι' S' H' own', Cur K mg N ι' S' H' own' σ ρ' M' → ExtE S ι H own S' ι' H' own' → Dn K mg S' ι' H' v d → Q v H'
  | some (.ex x ρ' M') => XPost K mg N S ι H W σ x ρ' M'
  | none => False
def postB (Q : VK) : Option EO → Prop
  | some (.ok d ρ' M') => ∀ v ι' S' H' own', Cur K mg N ι' S' H' own' σ ρ' M' → ExtE S ι H own S' ι' H' own' → BnO K mg S' ι' H' own' v d → Q v H'
  | some (.ex x ρ' M') => XPost K mg N S ι H W σ x ρ' M'
  | none => False
def postT (Q : Bool → Hp → Prop) : Option EO → Prop
  | some (.ok (.bl b) ρ' M') => ∀ ι' S' H' own', Cur K mg N ι' S' H' own' σ ρ' M' → ExtE S ι H own S' ι' H' own' → Q b H'
  | some (.ok _ _ _) => False
  | some (.ex x ρ' M') => XPost K mg N S ι H W σ x ρ' M'
  | none => False
def postA (Q : List V → Hp → Prop) : Option AO → Prop
  | some (.ok ds ρ' M') => ∀ vs ι' S' H' own', Cur K mg N ι' S' H' own' σ ρ' M' → ExtE S ι H own S' ι' H' own' → Dns K mg S' ι' H' vs ds → Q vs H'
  | some (.ex x ρ' M') => XPost K mg N S ι H W σ x ρ' M'
  | none => False
def postS (E : Ends) : Option SO → Prop
  | some (.nx ρ' M') => ∀ σ' ι' S' H' own', Cur K mg N ι' S' H' own' σ' ρ' M' → Ext S ι H S' ι' H' → E.nx σ' H'
  | some (.bk ρ' M') => ∀ σ' ι' S' H' own', Cur K mg N ι' S' H' own' σ' ρ' M' → Ext S ι H S' ι' H' → E.bk σ' H'
  | some (.ct ρ' M') => ∀ σ' ι' S' H' own', Cur K mg N ι' S' H' own' σ' ρ' M' → Ext S ι H S' ι' H' → E.ct σ' H'
  | some (.rt d M') => ∀ v ι' S' H', Ok K mg N ι' M' S' H' own0 → Ext S ι H S' ι' H' → Dn K mg S' ι' H' v d → E.rt v H'
  | some (.ex x ρ' M') => ∀ σ', XPost K mg N S ι H W σ' x ρ' M'
  | none => False
end
def tD (K : PySem.W.Frag) (mg : Str → Option Value) (N : En) (W : WX) (t : TDE) : TE := fun σ H Q => ∃ ι S own ρ M, Cur K mg N ι S H own σ ρ M ∧ postD K mg N W ι S H own σ Q (t ρ M)
def tB (K : PySem.W.Frag) (mg : Str → Option Value) (N : En) (W : WX) (t : TDE) : TE := fun σ H Q => ∃ ι S own ρ M, Cur K mg N ι S H own σ ρ M ∧ postB K mg N W ι S H own σ Q (t ρ M)
def tT (K : PySem.W.Frag) (mg : Str → Option Value) (N : En) (W : WX) (t : TDE) : TT := fun σ H Q => ∃ ι S own ρ M, Cur K mg N ι S H own σ ρ M ∧ postT K mg N W ι S H own σ Q (t ρ M)
def tA (K : PySem.W.Frag) (mg : Str → Option Value) (N : En) (W : WX) (t : TDA) : TA := fun σ H Q => ∃ ι S own ρ M, Cur K mg N ι S H own σ ρ M ∧ postA K mg N W ι S H own σ Q (t ρ M)
def tS (K : PySem.W.Frag) (mg : Str → Option Value) (N : En) (W : WX) (t : TDS) : TS := fun E σ H => ∃ ι S own ρ M, Cur K mg N ι S H own σ ρ M ∧ postS K mg N W ι S H E (t ρ M)
end

/-! ### judgements -/
section
variable {X : Cx} {N : En} {W : WX}
theorem pe_imp {e : Expr} {t t' : TE} (h : PE X e t) (i : ∀ σ H Q, t' σ H Q → t σ H Q) : PE X e t' := ⟨fun pins s σ H Q I q => h.run pins s σ H Q I (i σ H Q q)⟩
theorem pt_imp {e : Expr} {t t' : TT} (h : PT X e t) (i : ∀ σ H Q, t' σ H Q → t σ H Q) : PT X e t' := ⟨fun pins s σ H Q I q => h.run pins s σ H Q I (i σ H Q q)⟩
theorem pw_imp {e : Expr} {t t' : TT} (h : PW X e t) (i : ∀ σ H Q, t' σ H Q → t σ H Q) : PW X e t' := ⟨fun wh pins s σ H Q I q => h.run wh pins s σ H Q I (i σ H Q q)⟩
theorem pa_imp {es : List Expr} {t t' : TA} (h : PA X es t) (i : ∀ σ H Q, t' σ H Q → t σ H Q) : PA X es t' := ⟨fun p pins s σ H Q I q => h.run p pins s σ H Q I (i σ H Q q)⟩
theorem ps_imp {s : Stmt} {t t' : TS} (h : PS X s t) (i : ∀ E σ H, t' E σ H → t E σ H) : PS X s t' := ⟨fun pins s σ H E I q => h.run pins s σ H E I (i E σ H q)⟩
theorem pss_imp {s : List Stmt} {t t' : TS} (h : PSs X s t) (i : ∀ E σ H, t' E σ H → t E σ H) : PSs X s t' := ⟨fun pins s σ H E I q => h.run pins s σ H E I (i E σ H q)⟩
theorem pe_or2 {e : Expr} {t u : TE} (h : PE X e t) (g : PE X e u) : PE X e (fun σ H Q => t σ H Q ∨ u σ H Q) :=
  ⟨fun pins s σ H Q I q => q.elim (h.run pins s σ H Q I) (g.run pins s σ H Q I)⟩
theorem pi_or2 {tg e : Expr} {t u : TI} (h : PI X tg e t) (g : PI X tg e u) : PI X tg e (fun σ H Q => t σ H Q ∨ u σ H Q) :=
  ⟨fun pins s σ H Q I q => q.elim (h.run pins s σ H Q I) (g.run pins s σ H Q I)⟩
abbrev DE (X : Cx) (N : En) (W : WX) (e : Expr) (t : TDE) : Prop := PE X e (tD X.K X.mg N W t)
abbrev DB (X : Cx) (N : En) (W : WX) (e : Expr) (t : TDE) : Prop := PE X e (tB X.K X.mg N W t)
abbrev DT (X : Cx) (N : En) (W : WX) (e : Expr) (t : TDE) : Prop := PT X e (tT X.K X.mg N W t)
abbrev DW (X : Cx) (N : En) (W : WX) (e : Expr) (t : TDE) : Prop := PW X e (tT X.K X.mg N W t)
abbrev DA (X : Cx) (N : En) (W : WX) (es : List Expr) (t : TDA) : Prop := PA X es (tA X.K X.mg N W t)
abbrev DS1 (X : Cx) (N : En) (W : WX) (s : Stmt) (t : TDS) : Prop := PS X s (tS X.K X.mg N W t)
abbrev DSs (X : Cx) (N : En) (W : WX) (s : List Stmt) (t : TDS) : Prop := PSs X s (tS X.K X.mg N W t)

/-- data is there to be looked at -/
theorem de_b {e : Expr} {t : TDE} (h : DE X N W e t) : DB X N W e t := pe_imp h fun σ H Q q => by
  obtain ⟨ι, S, own, ρ, M, c, q⟩ := q
  refine ⟨ι, S, own, ρ, M, c, ?_⟩
  cases e : t ρ M with
  | none => rw [e] at q; exact q
  | some o =>
    rw [e] at q
    cases o with
    | ok d ρ' M' => exact fun v ι' S' H' own' c' x dn => q v ι' S' H' own' c' x (.dn dn)
    | ex x ρ' M' => exact q

/-! ### names, constants -/
def dC (d : D) : TDE := fun ρ M => some (.ok d ρ M)
def dVar (i : Nat) : TDE := fun ρ M => match ρ[i]? with
  | some (some (.t d)) => some (.ok d ρ M)
  | some (some (.own ds)) => some (.ok (.lst ds) (ρ.set i (some (.t (.lst ds)))) M)
  | some (some (.owd ks ds)) => some (.ok (.dct ks ds) (ρ.set i (some (.t (.dct ks ds)))) M)
  | _ => none
def dPeek (i : Nat) : TDE := fun ρ M => match ρ[i]? with
  | some (some (.t d)) => some (.ok d ρ M)
  | some (some (.own ds)) => some (.ok (.lst ds) ρ M)
  | some (some (.owd ks ds)) => some (.ok (.dct ks ds) ρ M)
  | some (some (.bor ds)) => some (.ok (.lst ds) ρ M)
  | some (some (.bod ks ds)) => some (.ok (.dct ks ds) ρ M)
  | _ => none
theorem de_const {e : Expr} {v : V} {d : D} (h : PE X e (tC v)) (hd : ∀ K mg S ι H, Dn K mg S ι H v d) : DE X N W e (dC d) := pe_imp h fun σ H Q q => by
  obtain ⟨ι, S, own, ρ, M, c, q⟩ := q
  exact q v ι S H own c .refl (hd _ _ _ _ _)
theorem de_int {i j pos} : DE X N W (.Constant (.int i) j pos) (dC (.int i)) := de_const pe_int fun _ _ _ _ _ => .int i
theorem de_str {x j pos} : DE X N W (.Constant (.str x) j pos) (dC (.str x)) := de_const pe_str fun _ _ _ _ _ => .str x
theorem de_bl {b j pos} : DE X N W (.Constant (.bool b) j pos) (dC (.bl b)) := de_const pe_bl fun _ _ _ _ _ => .bl b
theorem de_non {j pos} : DE X N W (.Constant .none j pos) (dC .non) := de_const pe_non fun _ _ _ _ _ => .non
theorem freeze_ow {i : Nat} {a : Addr} {own : OwnM} {S : AP} {H : Hp} (e : own i = some a) (hi : i < slotsB) : ∀ j b, own j = some b → H b = H b ∧ ((setO own i none) j = some b ∨ (j < slotsB ∧ addS S a b)) := fun j b hb => by
  refine ⟨rfl, ?_⟩
  unfold setO
  by_cases hj : j = i
  · subst hj
    rw [e] at hb
    cases hb
    exact .inr ⟨hi, .inr rfl⟩
  · rw [if_neg hj]; exact .inl hb
theorem de_var {e : Expr} {i : Nat} (h : PE X e (tVar i)) : DE X N W e (dVar i) := pe_imp h fun σ H Q q => by
  obtain ⟨ι, S, own, ρ, M, c, q⟩ := q
  unfold dVar at q
  cases e : ρ[i]? with
  | none => rw [e] at q; exact q.elim
  | some o =>
    rw [e] at q
    cases o with
    | none => exact q.elim
    | some x =>
      cases x with
      | t d =>
        obtain ⟨v, h1, h2⟩ := c.env.at_ i _ e
        exact ⟨v, h1, q v ι S H own c .refl h2.2⟩
      | own ds =>
        obtain ⟨v, a, ho, h1, h2, h3, h4⟩ := c.freeze e
        exact ⟨v, h1, q v ι _ H _ h3 ⟨h4, freeze_ow ho (Nat.lt_of_lt_of_le (List.getElem?_eq_some_iff.mp e).1 c.env.big)⟩ h2⟩
      | owd ks ds =>
        obtain ⟨v, a, ho, h1, h2, h3, h4⟩ := c.freezeD e
        exact ⟨v, h1, q v ι _ H _ h3 ⟨h4, freeze_ow ho (Nat.lt_of_lt_of_le (List.getElem?_eq_some_iff.mp e).1 c.env.big)⟩ h2⟩
      | bor ds => exact q.elim
      | bod ks ds => exact q.elim
      | owi p c ks ds => exact q.elim
theorem db_var {e : Expr} {i : Nat} (h : PE X e (tVar i)) : DB X N W e (dPeek i) := pe_imp h fun σ H Q q => by
  obtain ⟨ι, S, own, ρ, M, c, q⟩ := q
  unfold dPeek at q
  cases e : ρ[i]? with
  | none => rw [e] at q; exact q.elim
  | some o =>
    rw [e] at q
    cases o with
    | none => exact q.elim
    | some x =>
      cases x with
      | t d =>
        obtain ⟨v, h1, h2⟩ := c.env.at_ i _ e
        exact ⟨v, h1, q v ι S H own c .refl (.dn h2.2)⟩
      | own ds =>
        obtain ⟨v, h1, a, xs, rfl, h3, h4, h5⟩ := c.env.at_ i _ e
        exact ⟨_, h1, q _ ι S H own c .refl (.lst h3 h4 h5)⟩
      | owd ks ds =>
        obtain ⟨v, h1, a, xs, rfl, h3, h4, hl, h5⟩ := c.env.at_ i _ e
        exact ⟨_, h1, q _ ι S H own c .refl (.dct h3 h4 hl h5)⟩
      | bor ds =>
        obtain ⟨v, h1, a, xs, rfl, h3, h4, h5⟩ := c.env.at_ i _ e
        exact ⟨_, h1, q _ ι S H own c .refl (.lst h3 h4 h5)⟩
      | bod ks ds =>
        obtain ⟨v, h1, a, xs, rfl, h3, h4, hl, h5⟩ := c.env.at_ i _ e
        exact ⟨_, h1, q _ ι S H own c .refl (.dct h3 h4 hl h5)⟩
      | owi p c ks ds => exact q.elim

/-! ### one operand, two operands -/
/-- what an operation on values asks, in data -/
def UnD (X : Cx) (R : V → Hp → VK → Prop) (f : D → Option D) : Prop := ∀ (N : En) (ι : List Addr) (M : MS) (S : AP) (H : Hp) (own : OwnM) (x : V) (d e : D) (Q : VK), Ok X.K X.mg N ι M S H own → Bn X.K X.mg S ι H x d → f d = some e →
  (∀ v S' H', Ok X.K X.mg N ι M S' H' own → ExtE S ι H own S' ι H' own → Dn X.K X.mg S' ι H' v e → Q v H') → R x H Q
def BiD (X : Cx) (R : R2) (f : D → D → Option D) : Prop := ∀ (N : En) (ι : List Addr) (M : MS) (S : AP) (H : Hp) (own : OwnM) (x y : V) (d e g : D) (Q : VK), Ok X.K X.mg N ι M S H own → Bn X.K X.mg S ι H x d → Bn X.K X.mg S ι H y e → f d e = some g →
  (∀ v S' H', Ok X.K X.mg N ι M S' H' own → ExtE S ι H own S' ι H' own → Dn X.K X.mg S' ι H' v g → Q v H') → R x y H Q
def OpD (X : Cx) (fn : Value → Value → Sem Value) (f : D → D → Option D) : Prop := ∃ R, OpR X fn R ∧ BiD X R f
def dBind (a : TDE) (k : D → TDE) : TDE := fun ρ M => match a ρ M with
  | some (.ok d ρ1 M1) => k d ρ1 M1
  | o => o
def dOut (f : Option D) : TDE := fun ρ M => match f with
  | some d => some (.ok d ρ M)
  | none => none
def dUn (f : D → Option D) (a : TDE) : TDE := dBind a fun d => dOut (f d)
def dBin (f : D → D → Option D) (a b : TDE) : TDE := dBind a fun d => dBind b fun e => dOut (f d e)
theorem Cur.grow {K : PySem.W.Frag} {mg : Str → Option Value} {ι : List Addr} {M : MS} {S S' : AP} {H H' : Hp} {own : OwnM} {σ : L2.St} {ρ : DS} (c : Cur K mg N ι S H own σ ρ M) (k : Ok K mg N ι M S' H' own) (e : ExtE S ι H own S' ι H' own) : Cur K mg N ι S' H' own σ ρ M :=
  ⟨k, c.env.ext e.ext fun i a h => (e.ow i a h).1⟩
section
variable {K : PySem.W.Frag} {mg : Str → Option Value} {ι ι1 : List Addr} {M M1 : MS} {S S1 : AP} {H H1 : Hp} {own own1 : OwnM} {σ : L2.St} {ρ ρ' : DS}
theorem XPost.later {M' : MS} {x : XV} (e : Ext S ι H S1 ι1 H1) (h : XPost K mg N S ι H W σ x ρ' M') : XPost K mg N S1 ι1 H1 W σ x ρ' M' :=
  fun cls dd ι' S' H' own' c' x' k => h cls dd ι' S' H' own' c' (e.trans x') k
theorem postD.later {Q : VK} (c : Ok K mg N ι M S H own) (e : ExtE S ι H own S1 ι1 H1 own1) : ∀ {o : Option EO}, postD K mg N W ι S H own σ Q o → postD K mg N W ι1 S1 H1 own1 σ Q o
  | some (.ok d ρ' M'), h => fun v ι' S' H' own' c' x dn => h v ι' S' H' own' c' (e.trans c x) dn
  | some (.ex x ρ' M'), h => XPost.later e.ext h
  | none, h => h
theorem postT.later {Q : Bool → Hp → Prop} (c : Ok K mg N ι M S H own) (e : ExtE S ι H own S1 ι1 H1 own1) : ∀ {o : Option EO}, postT K mg N W ι S H own σ Q o → postT K mg N W ι1 S1 H1 own1 σ Q o
  | some (.ok (.bl b) ρ' M'), h => fun ι' S' H' own' c' x => h ι' S' H' own' c' (e.trans c x)
  | some (.ex x ρ' M'), h => XPost.later e.ext h
  | none, h => h
  | some (.ok .non _ _), h => h
  | some (.ok (.int _) _ _), h => h
  | some (.ok (.str _) _ _), h => h
  | some (.ok (.ty _) _ _), h => h
  | some (.ok (.lst _) _ _), h => h
  | some (.ok (.tup _) _ _), h => h
  | some (.ok (.dct _ _) _ _), h => h
  | some (.ok (.ins _ _ _) _ _), h => h
  | some (.ok (.exn _ _ _) _ _), h => h
  | some (.ok (.gl _) _ _), h => h
  | some (.ok (.obj _) _ _), h => h
  | some (.ok (.scr _) _ _), h => h
theorem postA.later {Q : List V → Hp → Prop} (c : Ok K mg N ι M S H own) (e : ExtE S ι H own S1 ι1 H1 own1) : ∀ {o : Option AO}, postA K mg N W ι S H own σ Q o → postA K mg N W ι1 S1 H1 own1 σ Q o
  | some (.ok ds ρ' M'), h => fun v ι' S' H' own' c' x dn => h v ι' S' H' own' c' (e.trans c x) dn
  | some (.ex x ρ' M'), h => XPost.later e.ext h
  | none, h => h
theorem postS.later {E : Ends} (e : Ext S ι H S1 ι1 H1) : ∀ {o : Option SO}, postS K mg N W ι S H E o → postS K mg N W ι1 S1 H1 E o
  | some (.nx ρ' M'), h => fun σ' ι' S' H' own' c' x => h σ' ι' S' H' own' c' (e.trans x)
  | some (.bk ρ' M'), h => fun σ' ι' S' H' own' c' x => h σ' ι' S' H' own' c' (e.trans x)
  | some (.ct ρ' M'), h => fun σ' ι' S' H' own' c' x => h σ' ι' S' H' own' c' (e.trans x)
  | some (.rt d M'), h => fun v ι' S' H' c' x dn => h v ι' S' H' c' (e.trans x) dn
  | some (.ex x ρ' M'), h => fun σ' => XPost.later e (h σ')
  | none, h => h
end
/-- e, then k of what came: the operand is looked at -/
theorem bind_b {t : TDE} {k : D → TDE} {σ : L2.St} {H : Hp} {Q Q' : VK} (h : tD X.K X.mg N W (dBind t k) σ H Q)
    (hq : ∀ x d ι S H1 own ρ M, Cur X.K X.mg N ι S H1 own σ ρ M → BnO X.K X.mg S ι H1 own x d → postD X.K X.mg N W ι S H1 own σ Q (k d ρ M) → Q' x H1) : tB X.K X.mg N W t σ H Q' := by
  obtain ⟨ι, S, own, ρ, M, c, q⟩ := h
  refine ⟨ι, S, own, ρ, M, c, ?_⟩
  unfold dBind at q
  cases e1 : t ρ M with
  | none => rw [e1] at q; exact q
  | some o1 =>
    rw [e1] at q
    cases o1 with
    | ex x ρ' M' => exact q
    | ok d ρ1 M1 => exact fun x ι1 S1 H1 own1 c1 x1 bx => hq x d ι1 S1 H1 own1 ρ1 M1 c1 bx (postD.later c.ok x1 q)
/-- .. the operand is data that is kept -/
theorem bind_d {t : TDE} {k : D → TDE} {σ : L2.St} {H : Hp} {Q Q' : VK} (h : tD X.K X.mg N W (dBind t k) σ H Q)
    (hq : ∀ x d ι S H1 own ρ M, Cur X.K X.mg N ι S H1 own σ ρ M → Dn X.K X.mg S ι H1 x d → postD X.K X.mg N W ι S H1 own σ Q (k d ρ M) → Q' x H1) : tD X.K X.mg N W t σ H Q' := by
  obtain ⟨ι, S, own, ρ, M, c, q⟩ := h
  refine ⟨ι, S, own, ρ, M, c, ?_⟩
  unfold dBind at q
  cases e1 : t ρ M with
  | none => rw [e1] at q; exact q
  | some o1 =>
    rw [e1] at q
    cases o1 with
    | ex x ρ' M' => exact q
    | ok d ρ1 M1 => exact fun x ι1 S1 H1 own1 c1 x1 bx => hq x d ι1 S1 H1 own1 ρ1 M1 c1 bx (postD.later c.ok x1 q)
theorem out_go {R : VK → Prop} {K : PySem.W.Frag} {mg : Str → Option Value} {ι : List Addr} {M : MS} {S : AP} {H : Hp} {own : OwnM} {σ : L2.St} {ρ : DS} {Q : VK} {o : Option D} (c : Cur K mg N ι S H own σ ρ M) (q : postD K mg N W ι S H own σ Q (dOut o ρ M))
    (h : ∀ g, o = some g → (∀ v S' H', Ok K mg N ι M S' H' own → ExtE S ι H own S' ι H' own → Dn K mg S' ι H' v g → Q v H') → R Q) : R Q := by
  cases e : o with
  | none => rw [e] at q; exact q.elim
  | some g =>
    rw [e] at q
    exact h g e fun v S' H' k x dn => q v ι S' H' own (c.grow k x) x dn
theorem un_core {R : V → Hp → VK → Prop} {f : D → Option D} {a : TDE} (hR : UnD X R f) : ∀ σ H Q, tD X.K X.mg N W (dUn f a) σ H Q → tUn R (tB X.K X.mg N W a) σ H Q := fun σ H Q q =>
  bind_b q fun x d ι S H1 own ρ M c b q => out_go (R := fun Q => R x H1 Q) c q fun g e k => hR N ι M S H1 own x d g Q c.ok b.bn e k
theorem bin_core {R : R2} {f : D → D → Option D} {a b : TDE} (hR : BiD X R f) : ∀ σ H Q, tD X.K X.mg N W (dBin f a b) σ H Q → tOp R (tB X.K X.mg N W a) (tB X.K X.mg N W b) σ H Q := fun σ H Q q => by
  obtain ⟨ι, S, own, ρ, M, c, q⟩ := q
  refine ⟨ι, S, own, ρ, M, c, ?_⟩
  unfold dBin dBind at q
  cases e1 : a ρ M with
  | none => rw [e1] at q; exact q
  | some o1 =>
    rw [e1] at q
    cases o1 with
    | ex x ρ' M' => exact q
    | ok d ρ1 M1 =>
      intro x ι1 S1 H1 own1 c1 x1 bx
      refine ⟨ι1, S1, own1, ρ1, M1, c1, ?_⟩
      cases e2 : b ρ1 M1 with
      | none => simp only [e2] at q; exact q
      | some o2 =>
        simp only [e2] at q
        cases o2 with
        | ex x' ρ' M' => exact XPost.later x1.ext q
        | ok d2 ρ2 M2 =>
          intro y ι2 S2 H2 own2 c2 x2 hy
          exact out_go (R := fun Q => R x y H2 Q) c2 (postD.later c1.ok x2 (postD.later c.ok x1 q)) fun g e k => hR N ι2 M2 S2 H2 own2 x y d d2 g Q c2.ok (bx.ext x2) hy.bn e k
theorem de_bin {ea eb : Expr} {op : Operator} {pos : Pos} {f : D → D → Option D} {a b : TDE} (ho : OpD X (binaryOp op) f) (ha : DB X N W ea a) (hb : DB X N W eb b) : DE X N W (.BinOp ea op eb pos) (dBin f a b) :=
  let ⟨_, h1, h2⟩ := ho
  pe_imp (pe_op h1 ha hb) (bin_core h2)
theorem de_cmp {ea eb : Expr} {op : CmpOp} {pos : Pos} {f : D → D → Option D} {a b : TDE} (ho : OpD X (compareOp op) f) (ha : DB X N W ea a) (hb : DB X N W eb b) (hm : behindInMarks op eb = false := by first | exact nobehind _ (by decide) (by decide) | rfl) :
    DE X N W (.Compare ea [op] [eb] pos) (dBin f a b) :=
  let ⟨_, h1, h2⟩ := ho
  pe_imp (pe_cmpR h1 ha hb hm) (bin_core h2)
def dTest (t : TDE) : TDE := dBind t fun d => dOut (match d with
  | .bl b => some (.bl b)
  | _ => none)
theorem test_core {t : TDE} : ∀ σ H (Q : Bool → Hp → Prop), tT X.K X.mg N W t σ H Q → tTest (tD X.K X.mg N W t) σ H Q := fun σ H Q q => by
  obtain ⟨ι, S, own, ρ, M, c, q⟩ := q
  refine ⟨ι, S, own, ρ, M, c, ?_⟩
  cases e : t ρ M with
  | none => rw [e] at q; exact q
  | some o =>
    rw [e] at q
    cases o with
    | ex x ρ' M' => exact q
    | ok d ρ' M' =>
      cases d with
      | bl b =>
        intro v ι' S' H' own' c' x dn
        cases dn with
        | bl b => exact ⟨b, rfl, q ι' S' H' own' c' x⟩
      | _ => exact q.elim
theorem dt_cmp {ea eb : Expr} {op : CmpOp} {pos : Pos} {f : D → D → Option D} {a b : TDE} (ho : OpD X (compareOp op) f) (ha : DB X N W ea a) (hb : DB X N W eb b) (hm : behindInMarks op eb = false := by first | exact nobehind _ (by decide) (by decide) | rfl) :
    DT X N W (.Compare ea [op] [eb] pos) (dBin f a b) := by
  obtain ⟨R, h1, h2⟩ := ho
  refine pt_imp (pt_cmpR h1 ha hb hm) fun σ H Q q => ?_
  have := test_core (X := X) (N := N) (W := W) (t := dBin f a b) σ H Q q
  exact bin_core h2 σ H _ this
end
end DL
set_option maxHeartbeats 2000000
namespace DL
open PySem PySem.Spec PyProof.Rows L2

/-! ### truth -/
def truD : D → Option Bool
  | .non => some false
  | .bl b => some b
  | .int i => some (i != 0)
  | .str s => if s.length ≤ sizeLine then some ((s.length : Int) != 0) else none
  | .lst ds => some (!ds.isEmpty)
  | .tup ds => some (!ds.isEmpty)
  | .dct ks _ => some (!ks.isEmpty)
  | _ => none
section
variable {K : PySem.W.Frag} {mg : Str → Option Value} {ι : List Addr} {S : AP} {H : Hp}
theorem Dns.isEmpty {xs : List V} {ds : List D} (h : Dns K mg S ι H xs ds) : xs.isEmpty = ds.isEmpty := by
  cases h <;> rfl
theorem zip_isEmpty {α β : Type} {ks : List α} {xs : List β} (h : xs.length = ks.length) : (ks.zip xs).isEmpty = ks.isEmpty := by
  cases ks with
  | nil => rfl
  | cons k r =>
    cases xs with
    | nil => cases h
    | cons x s => rfl
theorem Bn.tru {x : V} {d : D} {k : Bool} (b : Bn K mg S ι H x d) (e : truD d = some k) : TruV K x H k := by
  cases b with
  | lst h1 h2 =>
    cases e
    exact .inl ⟨_, SqL.of h1, by rw [h2.isEmpty]⟩
  | dct h1 l h2 =>
    cases e
    exact .inr (.inr ⟨_, h1, by rw [zip_isEmpty l]⟩)
  | dn h =>
    cases h with
    | non => cases e; exact rfl
    | bl b => cases e; exact rfl
    | int i => cases e; exact rfl
    | str y =>
      by_cases hz : y.length ≤ sizeLine
      · have e' : (if y.length ≤ sizeLine then some ((y.length : Int) != 0) else none) = some k := e
        rw [if_pos hz] at e'
        cases e'; exact ⟨hz, rfl⟩
      · have e' : (if y.length ≤ sizeLine then some ((y.length : Int) != 0) else none) = some k := e
        rw [if_neg hz] at e'
        cases e'
    | lst h t => cases e; exact .inl ⟨_, h.sq, by rw [t.isEmpty]⟩
    | tup h t => cases e; exact .inr (.inl ⟨_, h.sq, by rw [t.isEmpty]⟩)
    | dct s h l t => cases e; exact .inr (.inr ⟨_, h, by rw [zip_isEmpty l]⟩)
    | _ => cases e
end
section
variable {X : Cx} {N : En} {W : WX}
def dTru (a : TDE) : TDE := fun ρ M => match a ρ M with
  | some (.ok d ρ1 M1) => match truD d with
    | some b => some (.ok (.bl b) ρ1 M1)
    | none => none
  | o => o
theorem tru_core {t : TDE} : ∀ σ H (Q : Bool → Hp → Prop), tT X.K X.mg N W (dTru t) σ H Q → tB X.K X.mg N W t σ H fun x H' => ∃ k, TruV X.K x H' k ∧ Q k H' := fun σ H Q q => by
  obtain ⟨ι, S, own, ρ, M, c, q⟩ := q
  refine ⟨ι, S, own, ρ, M, c, ?_⟩
  unfold dTru at q
  cases e : t ρ M with
  | none => rw [e] at q; exact q
  | some o =>
    rw [e] at q
    cases o with
    | ex x ρ' M' => exact q
    | ok d ρ' M' =>
      simp only at q
      cases e2 : truD d with
      | none => rw [e2] at q; exact q.elim
      | some b =>
        rw [e2] at q
        exact fun v ι' S' H' own' c' x bn => ⟨b, bn.bn.tru e2, q ι' S' H' own' c' x⟩
theorem dt_truth {e : Expr} {a : TDE} (ha : DB X N W e a) (he : ∀ whole, isTrue e X.env whole = (do let v ← whole; standAt e.pos; holding [v] (truthy v)) := by intro _; rfl) : DT X N W e (dTru a) :=
  pt_imp (pt_truth ha he) tru_core
def dNot (a : TDE) : TDE := fun ρ M => match a ρ M with
  | some (.ok (.bl b) ρ1 M1) => some (.ok (.bl (!b)) ρ1 M1)
  | some (.ok _ _ _) => none
  | o => o
theorem not_core {t : TDE} : ∀ σ H (Q : Bool → Hp → Prop), tT X.K X.mg N W (dNot t) σ H Q → tT X.K X.mg N W t σ H fun b H' => Q (!b) H' := fun σ H Q q => by
  obtain ⟨ι, S, own, ρ, M, c, q⟩ := q
  refine ⟨ι, S, own, ρ, M, c, ?_⟩
  unfold dNot at q
  cases e : t ρ M with
  | none => rw [e] at q; exact q
  | some o =>
    rw [e] at q
    cases o with
    | ex x ρ' M' => exact q
    | ok d ρ' M' =>
      cases d with
      | bl b => exact q
      | _ => exact q.elim
theorem dt_not {e : Expr} {pos : Pos} {a : TDE} (ha : DT X N W e a) : DT X N W (.UnaryOp .Not e pos) (dNot a) := pt_imp (pt_not ha) not_core
/-- not e, as a value -/
theorem de_not {e : Expr} {pos : Pos} {a : TDE} (ha : DB X N W e a) : DE X N W (.UnaryOp .Not e pos) (dNot (dTru a)) := pe_imp (pe_notT ha) fun σ H Q q => by
  have q' : tT X.K X.mg N W (dNot (dTru a)) σ H fun b H' => Q (.bl b) H' := by
    obtain ⟨ι, S, own, ρ, M, c, q⟩ := q
    refine ⟨ι, S, own, ρ, M, c, ?_⟩
    unfold dNot at q ⊢
    cases e1 : dTru a ρ M with
    | none => rw [e1] at q; exact q
    | some o =>
      rw [e1] at q
      cases o with
      | ex x ρ' M' => exact q
      | ok d ρ' M' =>
        cases d with
        | bl b => exact fun ι' S' H' own' c' x => q _ ι' S' H' own' c' x (.bl _)
        | _ => exact q.elim
  exact tru_core σ H _ (not_core σ H _ q')
def dAndT (a b : TDE) : TDE := fun ρ M => match a ρ M with
  | some (.ok (.bl true) ρ1 M1) => b ρ1 M1
  | some (.ok (.bl false) ρ1 M1) => some (.ok (.bl false) ρ1 M1)
  | some (.ok _ _ _) => none
  | o => o
def dOrT (a b : TDE) : TDE := fun ρ M => match a ρ M with
  | some (.ok (.bl false) ρ1 M1) => b ρ1 M1
  | some (.ok (.bl true) ρ1 M1) => some (.ok (.bl true) ρ1 M1)
  | some (.ok _ _ _) => none
  | o => o
theorem and_core {t u : TDE} : ∀ σ H (Q : Bool → Hp → Prop), tT X.K X.mg N W (dAndT t u) σ H Q → tAnd (tT X.K X.mg N W t) (tT X.K X.mg N W u) σ H Q := fun σ H Q q => by
  obtain ⟨ι, S, own, ρ, M, c, q⟩ := q
  refine ⟨ι, S, own, ρ, M, c, ?_⟩
  unfold dAndT at q
  cases e : t ρ M with
  | none => rw [e] at q; exact q
  | some o =>
    rw [e] at q
    cases o with
    | ex x ρ' M' => exact q
    | ok d ρ' M' =>
      cases d with
      | bl b =>
        intro ι' S' H' own' c' x
        cases b with
        | true => exact iteT ⟨ι', S', own', ρ', M', c', postT.later c.ok x q⟩
        | false => exact iteF (q ι' S' H' own' c' x)
      | _ => exact q.elim
theorem or_core {t u : TDE} : ∀ σ H (Q : Bool → Hp → Prop), tT X.K X.mg N W (dOrT t u) σ H Q → tOr (tT X.K X.mg N W t) (tT X.K X.mg N W u) σ H Q := fun σ H Q q => by
  obtain ⟨ι, S, own, ρ, M, c, q⟩ := q
  refine ⟨ι, S, own, ρ, M, c, ?_⟩
  unfold dOrT at q
  cases e : t ρ M with
  | none => rw [e] at q; exact q
  | some o =>
    rw [e] at q
    cases o with
    | ex x ρ' M' => exact q
    | ok d ρ' M' =>
      cases d with
      | bl b =>
        intro ι' S' H' own' c' x
        cases b with
        | false => exact iteF ⟨ι', S', own', ρ', M', c', postT.later c.ok x q⟩
        | true => exact iteT (q ι' S' H' own' c' x)
      | _ => exact q.elim
theorem dw_and1 {e : Expr} {pos : Pos} {a : TDE} (ha : DT X N W e a) : DW X N W (.BoolOp .And [e] pos) a := pw_and1 ha
theorem dw_or1 {e : Expr} {pos : Pos} {a : TDE} (ha : DT X N W e a) : DW X N W (.BoolOp .Or [e] pos) a := pw_or1 ha
theorem dw_and {e f : Expr} {r : List Expr} {pos : Pos} {a b : TDE} (ha : DT X N W e a) (hb : DW X N W (.BoolOp .And (f :: r) pos) b) : DW X N W (.BoolOp .And (e :: f :: r) pos) (dAndT a b) := pw_imp (pw_and ha hb) and_core
theorem dw_or {e f : Expr} {r : List Expr} {pos : Pos} {a b : TDE} (ha : DT X N W e a) (hb : DW X N W (.BoolOp .Or (f :: r) pos) b) : DW X N W (.BoolOp .Or (e :: f :: r) pos) (dOrT a b) := pw_imp (pw_or ha hb) or_core
theorem dw_t {e : Expr} {a : TDE} (h : DW X N W e a) : DT X N W e a := PW.pt h
/-- a and b, a or b as values, by truth -/
def dAndV (a b : TDE) : TDE := dBind a fun d ρ M => match truD d with
  | some true => b ρ M
  | some false => some (.ok d ρ M)
  | none => none
def dOrV (a b : TDE) : TDE := dBind a fun d ρ M => match truD d with
  | some false => b ρ M
  | some true => some (.ok d ρ M)
  | none => none
theorem de_one {op : BoolOp} {e : Expr} {pos : Pos} {a : TDE} (h : DE X N W e a) : DE X N W (.BoolOp op [e] pos) a := pe_one h
theorem de_and {e f : Expr} {r : List Expr} {pos : Pos} {a b : TDE} (ha : DE X N W e a) (hb : DE X N W (.BoolOp .And (f :: r) pos) b) : DE X N W (.BoolOp .And (e :: f :: r) pos) (dAndV a b) :=
  pe_imp (pe_andT ha hb) fun σ H Q q => bind_d q fun x d ι S H1 own ρ M c dn q => by
    cases e1 : truD d with
    | none => simp only [e1] at q; exact q.elim
    | some k =>
      simp only [e1] at q
      refine ⟨k, Bn.tru (.dn dn) e1, ?_⟩
      cases k with
      | true => exact iteT ⟨ι, S, own, ρ, M, c, q⟩
      | false => exact iteF (q x ι S H1 own c .refl dn)
theorem de_or {e f : Expr} {r : List Expr} {pos : Pos} {a b : TDE} (ha : DE X N W e a) (hb : DE X N W (.BoolOp .Or (f :: r) pos) b) : DE X N W (.BoolOp .Or (e :: f :: r) pos) (dOrV a b) :=
  pe_imp (pe_orT ha hb) fun σ H Q q => bind_d q fun x d ι S H1 own ρ M c dn q => by
    cases e1 : truD d with
    | none => simp only [e1] at q; exact q.elim
    | some k =>
      simp only [e1] at q
      refine ⟨k, Bn.tru (.dn dn) e1, ?_⟩
      cases k with
      | false => exact iteF ⟨ι, S, own, ρ, M, c, q⟩
      | true => exact iteT (q x ι S H1 own c .refl dn)
/-- a if t else b -/
def dIfE (t a b : TDE) : TDE := fun ρ M => match t ρ M with
  | some (.ok (.bl true) ρ1 M1) => a ρ1 M1
  | some (.ok (.bl false) ρ1 M1) => b ρ1 M1
  | some (.ok _ _ _) => none
  | o => o
theorem de_if {c a b : Expr} {pos : Pos} {t u v : TDE} (hc : DT X N W c t) (ha : DE X N W a u) (hb : DE X N W b v) : DE X N W (.IfExp c a b pos) (dIfE t u v) := pe_imp (pe_ifExp hc ha hb) fun σ H Q q => by
  obtain ⟨ι, S, own, ρ, M, c, q⟩ := q
  refine ⟨ι, S, own, ρ, M, c, ?_⟩
  unfold dIfE at q
  cases e : t ρ M with
  | none => rw [e] at q; exact q
  | some o =>
    rw [e] at q
    cases o with
    | ex x ρ' M' => exact q
    | ok d ρ' M' =>
      cases d with
      | bl b =>
        intro ι' S' H' own' c' x
        cases b with
        | true => exact iteT ⟨ι', S', own', ρ', M', c', postD.later c.ok x q⟩
        | false => exact iteF ⟨ι', S', own', ρ', M', c', postD.later c.ok x q⟩
      | _ => exact q.elim

/-! ### arguments, displays -/
def aNil : TDA := fun ρ M => some (.ok [] ρ M)
def aCons (a : TDE) (r : TDA) : TDA := fun ρ M => match a ρ M with
  | some (.ok d ρ1 M1) => match r ρ1 M1 with
    | some (.ok ds ρ2 M2) => some (.ok (d :: ds) ρ2 M2)
    | o => o
  | some (.ex x ρ1 M1) => some (.ex x ρ1 M1)
  | none => none
theorem da_nil : DA X N W [] aNil := pa_imp pa_nil fun σ H Q q => by
  obtain ⟨ι, S, own, ρ, M, c, q⟩ := q
  exact q [] ι S H own c .refl .nil
theorem da_cons {e : Expr} {es : List Expr} {a : TDE} {r : TDA} (ha : DE X N W e a) (hr : DA X N W es r) (hs : starEach (e :: es) X.env = (false, eval e X.env) :: starEach es X.env := by rfl) : DA X N W (e :: es) (aCons a r) :=
  pa_imp (pa_cons ha hr hs) fun σ H Q q => by
    obtain ⟨ι, S, own, ρ, M, c, q⟩ := q
    refine ⟨ι, S, own, ρ, M, c, ?_⟩
    unfold aCons at q
    cases e1 : a ρ M with
    | none => rw [e1] at q; exact q
    | some o1 =>
      rw [e1] at q
      cases o1 with
      | ex x ρ' M' => exact q
      | ok d ρ1 M1 =>
        intro v ι1 S1 H1 own1 c1 x1 dn
        refine ⟨ι1, S1, own1, ρ1, M1, c1, ?_⟩
        cases e2 : r ρ1 M1 with
        | none => simp only [e2] at q; exact q
        | some o2 =>
          simp only [e2] at q
          cases o2 with
          | ex x ρ' M' => exact XPost.later x1.ext q
          | ok ds ρ2 M2 => exact fun vs ι2 S2 H2 own2 c2 x2 dns => q (v :: vs) ι2 S2 H2 own2 c2 (x1.trans c.ok x2) (.cons (dn.ext x2.ext) dns)
def aBind (a : TDA) (k : List D → TDE) : TDE := fun ρ M => match a ρ M with
  | some (.ok ds ρ1 M1) => k ds ρ1 M1
  | some (.ex x ρ1 M1) => some (.ex x ρ1 M1)
  | none => none
theorem bind_a {t : TDA} {k : List D → TDE} {σ : L2.St} {H : Hp} {Q : VK} {Q' : List V → Hp → Prop} (h : tD X.K X.mg N W (aBind t k) σ H Q)
    (hq : ∀ xs ds ι S H1 own ρ M, Cur X.K X.mg N ι S H1 own σ ρ M → Dns X.K X.mg S ι H1 xs ds → postD X.K X.mg N W ι S H1 own σ Q (k ds ρ M) → Q' xs H1) : tA X.K X.mg N W t σ H Q' := by
  obtain ⟨ι, S, own, ρ, M, c, q⟩ := h
  refine ⟨ι, S, own, ρ, M, c, ?_⟩
  unfold aBind at q
  cases e1 : t ρ M with
  | none => rw [e1] at q; exact q
  | some o1 =>
    rw [e1] at q
    cases o1 with
    | ex x ρ' M' => exact q
    | ok d ρ1 M1 => exact fun x ι1 S1 H1 own1 c1 x1 bx => hq x d ι1 S1 H1 own1 ρ1 M1 c1 bx (postD.later c.ok x1 q)
def dTup (a : TDA) : TDE := aBind a fun ds => dOut (if ds.length ≤ sizeLine then some (.tup ds) else none)
def dLst (a : TDA) : TDE := aBind a fun ds => dOut (if ds.length ≤ sizeLine then some (.lst ds) else none)
theorem de_tup {es : List Expr} {k} {pos : Pos} {a : TDA} (ha : DA X N W es a) : DE X N W (.Tuple es k pos) (dTup a) := pe_imp (pe_tup ha) fun σ H Q q =>
  bind_a q fun xs ds ι S H1 own ρ M c dn q => out_go (R := fun Q => xs.length ≤ sizeLine ∧ ∀ p, H1 p = none → Q (.ref p) (upd H1 p (.tup xs))) c q fun g e k => by
    split at e
    · cases e
      refine ⟨by rw [dn.length]; assumption, fun p hp => k _ _ _ (c.ok.alloc hp) ⟨c.ok.alloc_ext hp, fun i a h => ⟨c.ok.hown hp i a h, .inl h⟩⟩ (.tup (.inl ⟨.inr rfl, .inl upd_same⟩) (dn.ext (c.ok.alloc_ext hp)))⟩
    · cases e
theorem de_lst {es : List Expr} {pos : Pos} {a : TDA} (ha : DA X N W es a) : DE X N W (.List es pos) (dLst a) := pe_imp (pe_lst ha) fun σ H Q q =>
  bind_a q fun xs ds ι S H1 own ρ M c dn q => out_go (R := fun Q => xs.length ≤ sizeLine ∧ ∀ p, H1 p = none → Q (.ref p) (upd H1 p (.lst xs))) c q fun g e k => by
    split at e
    · cases e
      refine ⟨by rw [dn.length]; assumption, fun p hp => k _ _ _ (c.ok.alloc hp) ⟨c.ok.alloc_ext hp, fun i a h => ⟨c.ok.hown hp i a h, .inl h⟩⟩ (.lst ⟨.inr rfl, upd_same⟩ (dn.ext (c.ok.alloc_ext hp)))⟩
    · cases e

/-! ### statements -/
def sNext : TDS := fun ρ M => some (.nx ρ M)
def sSeq (t u : TDS) : TDS := fun ρ M => match t ρ M with
  | some (.nx ρ1 M1) => u ρ1 M1
  | o => o
theorem seq_core {t u : TDS} : ∀ E σ H, tS X.K X.mg N W (sSeq t u) E σ H → tSeq (tS X.K X.mg N W t) (tS X.K X.mg N W u) E σ H := fun E σ H q => by
  obtain ⟨ι, S, own, ρ, M, c, q⟩ := q
  refine ⟨ι, S, own, ρ, M, c, ?_⟩
  unfold sSeq at q
  cases e : t ρ M with
  | none => rw [e] at q; exact q
  | some o =>
    rw [e] at q
    cases o with
    | nx ρ1 M1 => exact fun σ' ι' S' H' own' c' x => ⟨ι', S', own', ρ1, M1, c', postS.later x q⟩
    | rt d M' => exact q
    | bk ρ' M' => exact q
    | ct ρ' M' => exact q
    | ex x ρ' M' => exact q
theorem dss_nil : DSs X N W [] sNext := pss_imp pss_nil fun E σ H q => by
  obtain ⟨ι, S, own, ρ, M, c, q⟩ := q
  exact q σ ι S H own c .refl
theorem dss_cons {st : Stmt} {r : List Stmt} {t u : TDS} (h : DS1 X N W st t) (g : DSs X N W r u) : DSs X N W (st :: r) (sSeq t u) := pss_imp (pss_cons h g) seq_core
theorem dss_one {st : Stmt} {t : TDS} (h : DS1 X N W st t) : DSs X N W [st] t := pss_one h
theorem ds_pass {pos : Pos} : DS1 X N W (.Pass pos) sNext := ps_imp ps_pass fun E σ H q => by
  obtain ⟨ι, S, own, ρ, M, c, q⟩ := q
  exact q σ ι S H own c .refl
def sBreak : TDS := fun ρ M => some (.bk ρ M)
def sCont : TDS := fun ρ M => some (.ct ρ M)
theorem ds_break {pos : Pos} : DS1 X N W (.Break pos) sBreak := ps_imp ps_break fun E σ H q => by
  obtain ⟨ι, S, own, ρ, M, c, q⟩ := q
  exact q σ ι S H own c .refl
theorem ds_cont {pos : Pos} : DS1 X N W (.Continue pos) sCont := ps_imp ps_continue fun E σ H q => by
  obtain ⟨ι, S, own, ρ, M, c, q⟩ := q
  exact q σ ι S H own c .refl
/-- e, then a statement's end -/
def sBind (a : TDE) (k : D → TDS) : TDS := fun ρ M => match a ρ M with
  | some (.ok d ρ1 M1) => k d ρ1 M1
  | some (.ex x ρ1 M1) => some (.ex x ρ1 M1)
  | none => none
theorem sbind_d {t : TDE} {k : D → TDS} {σ : L2.St} {H : Hp} {E : Ends} {Q' : VK} (h : tS X.K X.mg N W (sBind t k) E σ H)
    (hq : ∀ x d ι S H1 own ρ M, Cur X.K X.mg N ι S H1 own σ ρ M → Dn X.K X.mg S ι H1 x d → postS X.K X.mg N W ι S H1 E (k d ρ M) → Q' x H1) : tD X.K X.mg N W t σ H Q' := by
  obtain ⟨ι, S, own, ρ, M, c, q⟩ := h
  refine ⟨ι, S, own, ρ, M, c, ?_⟩
  unfold sBind at q
  cases e1 : t ρ M with
  | none => rw [e1] at q; exact q
  | some o1 =>
    rw [e1] at q
    cases o1 with
    | ex x ρ' M' => exact q σ
    | ok d ρ1 M1 => exact fun x ι1 S1 H1 own1 c1 x1 bx => hq x d ι1 S1 H1 own1 ρ1 M1 c1 bx (postS.later x1.ext q)
theorem sbind_b {t : TDE} {k : D → TDS} {σ : L2.St} {H : Hp} {E : Ends} {Q' : VK} (h : tS X.K X.mg N W (sBind t k) E σ H)
    (hq : ∀ x d ι S H1 own ρ M, Cur X.K X.mg N ι S H1 own σ ρ M → BnO X.K X.mg S ι H1 own x d → postS X.K X.mg N W ι S H1 E (k d ρ M) → Q' x H1) : tB X.K X.mg N W t σ H Q' := by
  obtain ⟨ι, S, own, ρ, M, c, q⟩ := h
  refine ⟨ι, S, own, ρ, M, c, ?_⟩
  unfold sBind at q
  cases e1 : t ρ M with
  | none => rw [e1] at q; exact q
  | some o1 =>
    rw [e1] at q
    cases o1 with
    | ex x ρ' M' => exact q σ
    | ok d ρ1 M1 => exact fun x ι1 S1 H1 own1 c1 x1 bx => hq x d ι1 S1 H1 own1 ρ1 M1 c1 bx (postS.later x1.ext q)
def sDrop (a : TDE) : TDS := sBind a fun _ => sNext
theorem ds_expr {e : Expr} {pos : Pos} {a : TDE} (h : DE X N W e a) (hs : swapsWith e none pos.line X.env = pure false := by rfl) : DS1 X N W (.Expr e pos) (sDrop a) := ps_imp (ps_expr h hs) fun E σ H q =>
  sbind_d q fun x d ι S H1 own ρ M c dn q => q σ ι S H1 own c .refl
def sRet (a : TDE) : TDS := sBind a fun d _ M => some (.rt d M)
theorem Ok.noOwn {K : PySem.W.Frag} {mg : Str → Option Value} {ι : List Addr} {M : MS} {S : AP} {H : Hp} {own : OwnM} (k : Ok K mg N ι M S H own) : Ok K mg N ι M S H DL.own0 :=
  ⟨k.len, k.pre, k.fresh, k.objs, k.nd, k.iout, (fun _ _ h => nomatch h), (fun _ _ _ h => nomatch h), ⟨0, fun _ _ => rfl⟩, k.sub, k.new, k.keep, k.trk, k.sat⟩
theorem ds_ret {e : Expr} {pos : Pos} {a : TDE} (h : DE X N W e a) : DS1 X N W (.Return (some e) pos) (sRet a) := ps_imp (ps_ret h) fun E σ H q =>
  sbind_d q fun x d ι S H1 own ρ M c dn q => q x ι S H1 c.ok.noOwn .refl dn
def sRetN : TDS := fun _ M => some (.rt .non M)
theorem ds_retN {pos : Pos} : DS1 X N W (.Return none pos) sRetN := ps_imp ps_retN fun E σ H q => by
  obtain ⟨ι, S, own, ρ, M, c, q⟩ := q
  exact q .non ι S H c.ok.noOwn .refl .non
def sIf (t : TDE) (u v : TDS) : TDS := fun ρ M => match t ρ M with
  | some (.ok (.bl true) ρ1 M1) => u ρ1 M1
  | some (.ok (.bl false) ρ1 M1) => v ρ1 M1
  | some (.ok _ _ _) => none
  | some (.ex x ρ1 M1) => some (.ex x ρ1 M1)
  | none => none
theorem ds_if {c : Expr} {a b : List Stmt} {pos : Pos} {t : TDE} {u v : TDS} (hc : DT X N W c t) (ha : DSs X N W a u) (hb : DSs X N W b v) : DS1 X N W (.If c a b pos) (sIf t u v) := ps_imp (ps_if hc ha hb) fun E σ H q => by
  obtain ⟨ι, S, own, ρ, M, c, q⟩ := q
  refine ⟨ι, S, own, ρ, M, c, ?_⟩
  unfold sIf at q
  cases e : t ρ M with
  | none => rw [e] at q; exact q
  | some o =>
    rw [e] at q
    cases o with
    | ex x ρ' M' => exact q σ
    | ok d ρ' M' =>
      cases d with
      | bl b =>
        intro ι' S' H' own' c' x
        cases b with
        | true => exact iteT ⟨ι', S', own', ρ', M', c', postS.later x.ext q⟩
        | false => exact iteF ⟨ι', S', own', ρ', M', c', postS.later x.ext q⟩
      | _ => exact q.elim
/-- x = e -/
def sSet (i : Nat) (a : TDE) : TDS := sBind a fun d ρ M => some (.nx (ρ.set i (some (.t d))) M)
theorem ds_set {st : Stmt} {i : Nat} {a : TDE} (h : PS X st (tAsg (tD X.K X.mg N W a) (gName i))) : DS1 X N W st (sSet i a) := ps_imp h fun E σ H q =>
  sbind_d q fun x d ι S H1 own ρ M c dn q => q _ ι S H1 _ (c.store dn) .refl
end
end DL
set_option maxHeartbeats 2000000
namespace DL
open PySem PySem.Spec PyProof.Rows L2

/-! ### data as the library's own data -/
mutual
def toPy : D → Option PyData
  | .non => some .none
  | .bl b => some (.bool b)
  | .int i => some (.int i)
  | .str s => some (.str s)
  | .lst ds => (toPys ds).map .list
  | .tup ds => (toPys ds).map .tuple
  | _ => none
def toPys : List D → Option (List PyData)
  | [] => some []
  | d :: ds => (toPy d).bind fun p => (toPys ds).map fun ps => p :: ps
end
section
variable {K : PySem.W.Frag} {mg : Str → Option Value} {S : AP} {ι : List Addr} {H : Hp}
mutual
theorem Dn.dp : ∀ {v : V} {d : D} {p : PyData}, Dn K mg S ι H v d → toPy d = some p → Dp K H v p
  | _, _, _, .non, e => by cases e; exact .non
  | _, _, _, .bl b, e => by cases e; exact .bl b
  | _, _, _, .int i, e => by cases e; exact .int i
  | _, _, _, .str x, e => by cases e; exact .str x
  | _, _, _, .ty n, e => by cases e
  | _, _, _, .lst (ds := ds) h t, e => by
    have e' : (toPys ds).map PyData.list = some _ := e
    cases e2 : toPys ds with
    | none => rw [e2] at e'; cases e'
    | some ps => rw [e2] at e'; cases e'; exact .lst h.sq (Dns.dp t e2)
  | _, _, _, .tup (ds := ds) h t, e => by
    have e' : (toPys ds).map PyData.tuple = some _ := e
    cases e2 : toPys ds with
    | none => rw [e2] at e'; cases e'
    | some ps => rw [e2] at e'; cases e'; exact .tup h.sq (Dns.dp t e2)
  | _, _, _, .dct s h l t, e => by cases e
  | _, _, _, .ins s h l m t, e => by cases e
  | _, _, _, .exn s h sd hd l m t, e => by cases e
  | _, _, _, .exn0 s h m, e => by cases e
  | _, _, _, .gl m r, e => by cases e
  | _, _, _, .obj h, e => by cases e
  | _, _, _, .scr h t, e => by cases e
theorem Dns.dp : ∀ {vs : List V} {ds : List D} {ps : List PyData}, Dns K mg S ι H vs ds → toPys ds = some ps → DpAll K H vs ps
  | _, _, _, .nil, e => by cases e; exact .nil
  | _, _, _, .cons (d := d) (ds := ds) h t, e => by
    have e' : ((toPy d).bind fun p => (toPys ds).map fun ps => p :: ps) = some _ := e
    cases e1 : toPy d with
    | none => rw [e1] at e'; cases e'
    | some p =>
      rw [e1] at e'
      cases e2 : toPys ds with
      | none => rw [e2] at e'; cases e'
      | some ps => rw [e2] at e'; cases e'; exact .cons (Dn.dp h e1) (Dns.dp t e2)
end
theorem Bn.dp {v : V} {d : D} {p : PyData} (b : Bn K mg S ι H v d) (e : toPy d = some p) : Dp K H v p := by
  cases b with
  | dn h => exact h.dp e
  | lst h t =>
    rename_i ds
    have e' : (toPys ds).map PyData.list = some _ := e
    cases e2 : toPys ds with
    | none => rw [e2] at e'; cases e'
    | some ps => rw [e2] at e'; cases e'; exact .lst (SqL.of h) (Dns.dp t e2)
  | dct h l t => cases e
/-- two lists' worth: the data's own list at its address -/
theorem Bn.lstAt {v : V} {ds : List D} (b : Bn K mg S ι H v (.lst ds)) : ∃ a xs, v = .ref a ∧ H a = some (.lst xs) ∧ Dns K mg S ι H xs ds := by
  cases b with
  | dn h =>
    cases h with
    | lst h t => exact ⟨_, _, rfl, h.2, t⟩
  | lst h t => exact ⟨_, _, rfl, h, t⟩
theorem Bn.tupAt {v : V} {ds : List D} (b : Bn K mg S ι H v (.tup ds)) : ∃ a xs, v = .ref a ∧ SqT K H a xs ∧ Dns K mg S ι H xs ds ∧ Dn K mg S ι H v (.tup ds) := by
  cases b with
  | dn h =>
    have h' := h
    cases h with
    | tup h t => exact ⟨_, _, rfl, h.sq, t, h'⟩
theorem Bn.intAt {v : V} {i : Int} (b : Bn K mg S ι H v (.int i)) : v = .int i := by
  cases b with
  | dn h => cases h; rfl
theorem Bn.strAt {v : V} {i : Str} (b : Bn K mg S ι H v (.str i)) : v = .str i := by
  cases b with
  | dn h => cases h; rfl
theorem Bn.blAt {v : V} {i : Bool} (b : Bn K mg S ι H v (.bl i)) : v = .bl i := by
  cases b with
  | dn h => cases h; rfl
theorem Bn.nonAt {v : V} (b : Bn K mg S ι H v .non) : v = .non := by
  cases b with
  | dn h => cases h; rfl
end

section
variable {X : Cx} {N : En} {W : WX}
/-! ### operators -/
theorem OpD.mk {fn : Value → Value → Sem Value} {f : D → D → Option D} {R : R2} (h : OpR X fn R) (g : BiD X R f) : OpD X fn f := ⟨R, h, g⟩
/-- one or the other -/
theorem BiD.or {R R' : R2} {f g : D → D → Option D} (h : BiD X R f) (h' : BiD X R' g) : BiD X (fun x y H Q => R x y H Q ∨ R' x y H Q) (fun d e => (f d e).orElse fun _ => g d e) := by
  intro N ι M S H own x y d e r Q k b1 b2 q k'
  have q : ((f d e).orElse fun _ => g d e) = some r := q
  cases h1 : f d e with
  | some z =>
    rw [h1] at q
    have e0 : z = r := Option.some.inj q
    subst e0
    exact .inl (h N ι M S H own x y d e z Q k b1 b2 h1 k')
  | none =>
    rw [h1] at q
    exact .inr (h' N ι M S H own x y d e r Q k b1 b2 q k')
theorem OpD.or {fn : Value → Value → Sem Value} {f g : D → D → Option D} (h : OpD X fn f) (h' : OpD X fn g) : OpD X fn (fun d e => (f d e).orElse fun _ => g d e) :=
  let ⟨_, a, b⟩ := h
  let ⟨_, a', b'⟩ := h'
  ⟨_, a.or a', b.or b'⟩
def II (f : Int → Int → Option D) : D → D → Option D
  | .int i, .int j => f i j
  | _, _ => none
def SS (f : Str → Str → Option D) : D → D → Option D
  | .str i, .str j => f i j
  | _, _ => none
theorem II.get {f : Int → Int → Option D} {d e r : D} (h : II f d e = some r) : ∃ i j, d = .int i ∧ e = .int j ∧ f i j = some r := by
  unfold II at h
  split at h
  · exact ⟨_, _, rfl, rfl, h⟩
  · cases h
theorem SS.get {f : Str → Str → Option D} {d e r : D} (h : SS f d e = some r) : ∃ i j, d = .str i ∧ e = .str j ∧ f i j = some r := by
  unfold SS at h
  split at h
  · exact ⟨_, _, rfl, rfl, h⟩
  · cases h
/-- an operation on two ints that makes no object -/
theorem bi_int {C : Int → Int → Prop} {g : Int → Int → V} {f : Int → Int → Option D} (h : ∀ i j r, f i j = some r → C i j ∧ ∀ K mg S ι H, Dn K mg S ι H (g i j) r) : BiD X (rI C g) (II f) := by
  intro N ι M S H own x y d e r Q k b1 b2 q k'
  obtain ⟨i, j, rfl, rfl, q⟩ := II.get q
  obtain ⟨h1, h2⟩ := h i j r q
  exact ⟨i, j, b1.intAt, b2.intAt, h1, k' _ S H k .refl (h2 _ _ _ _ _)⟩
theorem bi_int0 {g : Int → Int → V} {f : Int → Int → Option D} (h : ∀ i j r, f i j = some r → ∀ K mg S ι H, Dn K mg S ι H (g i j) r) : BiD X (rI0 g) (II f) := by
  intro N ι M S H own x y d e r Q k b1 b2 q k'
  obtain ⟨i, j, rfl, rfl, q⟩ := II.get q
  exact ⟨i, j, b1.intAt, b2.intAt, k' _ S H k .refl (h i j r q _ _ _ _ _)⟩
def addI : Int → Int → Option D := fun i j => some (.int (i + j))
def subI : Int → Int → Option D := fun i j => some (.int (i - j))
def mulOk (i j : Int) : Prop := i.natAbs < 2 ^ 64 ∨ j.natAbs < 2 ^ 64 ∨ i.natAbs.log2 + j.natAbs.log2 < 1000000
instance (i j : Int) : Decidable (mulOk i j) := by unfold mulOk; infer_instance
def mulI : Int → Int → Option D := fun i j => if mulOk i j then some (.int (i * j)) else none
def divOk (j : Int) : Prop := j ≠ 0 ∧ j.natAbs.log2 < 9000
instance (j : Int) : Decidable (divOk j) := by unfold divOk; infer_instance
def divI : Int → Int → Option D := fun i j => if divOk j then some (.int (i.fdiv j)) else none
def modI : Int → Int → Option D := fun i j => if j ≠ 0 then some (.int (i.fmod j)) else none
def powOk (i j : Int) : Prop := 0 ≤ j ∧ j ≤ 1000000 ∧ i.natAbs < 2 ^ 64
instance (i j : Int) : Decidable (powOk i j) := by unfold powOk; infer_instance
def powI : Int → Int → Option D := fun i j => if powOk i j then some (.int (i ^ j.toNat)) else none
theorem op_mulN : OpR X (binaryOp .Mult) (rI mulOk fun i j => .int (i * j)) := opI fun i j _ _ _ _ _ hc q => mul_int q (by
  rcases hc with h | h | h
  · exact .of_left (intBits_le_64 (by omega) (by omega))
  · exact .of_right (intBits_le_64 (by omega) (by omega))
  · exact CMulW.ok h)
theorem op_divN : OpR X (binaryOp .FloorDiv) (rI (fun _ j => divOk j) fun i j => .int (i.fdiv j)) := opI fun i j _ _ _ _ _ hc q =>
  floordiv_int hc.1 q (.inl (PyProof.noPylong_of_log2 hc.2))
theorem od_addI : OpD X (binaryOp .Add) (II addI) := ⟨_, op_add, bi_int0 fun i j r e => by cases e; exact fun _ _ _ _ _ => .int _⟩
theorem od_sub : OpD X (binaryOp .Sub) (II subI) := ⟨_, op_sub, bi_int0 fun i j r e => by cases e; exact fun _ _ _ _ _ => .int _⟩
theorem od_mulI : OpD X (binaryOp .Mult) (II mulI) := ⟨_, op_mulN, bi_int fun i j r e => by
  unfold mulI at e
  split at e
  · cases e; exact ⟨by assumption, fun _ _ _ _ _ => .int _⟩
  · cases e⟩
theorem od_div : OpD X (binaryOp .FloorDiv) (II divI) := ⟨_, op_divN, bi_int fun i j r e => by
  unfold divI at e
  split at e
  · cases e; exact ⟨by assumption, fun _ _ _ _ _ => .int _⟩
  · cases e⟩
theorem od_mod : OpD X (binaryOp .Mod) (II modI) := ⟨_, op_modN, bi_int fun i j r e => by
  unfold modI at e
  split at e
  · cases e; exact ⟨by assumption, fun _ _ _ _ _ => .int _⟩
  · cases e⟩
theorem od_pow : OpD X (binaryOp .Pow) (II powI) := ⟨_, op_pow, bi_int fun i j r e => by
  unfold powI at e
  split at e
  · cases e; exact ⟨by assumption, fun _ _ _ _ _ => .int _⟩
  · cases e⟩
def cmpI (p : Int → Int → Bool) : Int → Int → Option D := fun i j => some (.bl (p i j))
theorem od_lt : OpD X (compareOp .Lt) (II (cmpI fun i j => decide (i < j))) := ⟨_, op_lt, bi_int0 fun i j r e => by cases e; exact fun _ _ _ _ _ => .bl _⟩
theorem od_le : OpD X (compareOp .LtE) (II (cmpI fun i j => decide (i ≤ j))) := ⟨_, op_le, bi_int0 fun i j r e => by cases e; exact fun _ _ _ _ _ => .bl _⟩
theorem od_gt : OpD X (compareOp .Gt) (II (cmpI fun i j => decide (j < i))) := ⟨_, op_gt, bi_int0 fun i j r e => by cases e; exact fun _ _ _ _ _ => .bl _⟩
theorem od_ge : OpD X (compareOp .GtE) (II (cmpI fun i j => decide (j ≤ i))) := ⟨_, op_ge, bi_int0 fun i j r e => by cases e; exact fun _ _ _ _ _ => .bl _⟩
/-- texts, lists, tuples put together -/
def addS' : Str → Str → Option D := fun a b => if a.length + b.length ≤ sizeLine then some (.str (a ++ b)) else none
theorem od_addS : OpD X (binaryOp .Add) (SS addS') := ⟨_, op_add_str, fun N ι M S H own x y d e r Q k b1 b2 q k' => by
  obtain ⟨i, j, rfl, rfl, q2⟩ := SS.get q
  unfold addS' at q2
  split at q2
  · cases q2
    exact ⟨i, j, b1.strAt, b2.strAt, by assumption, k' _ S H k .refl (.str _)⟩
  · cases q2⟩
def addL : D → D → Option D
  | .lst a, .lst b => if a.length + b.length ≤ sizeLine then some (.lst (a ++ b)) else none
  | _, _ => none
def addT : D → D → Option D
  | .tup a, .tup b => if a.length + b.length ≤ sizeLine then some (.tup (a ++ b)) else none
  | _, _ => none
theorem od_addL : OpD X (binaryOp .Add) addL := ⟨_, op_cat, fun N ι M S H own x y d e r Q k b1 b2 q k' => by
  unfold addL at q
  split at q
  · split at q
    · cases q
      obtain ⟨a, xs, rfl, ha, ta⟩ := b1.lstAt
      obtain ⟨b, ys, rfl, hb, tb⟩ := b2.lstAt
      refine ⟨a, b, xs, ys, rfl, rfl, ha, hb, by rw [ta.length, tb.length]; assumption, fun p hp => k' _ _ _ (k.alloc hp) ⟨k.alloc_ext hp, fun i a h => ⟨k.hown hp i a h, .inl h⟩⟩ ?_⟩
      exact .lst ⟨.inr rfl, upd_same⟩ ((ta.append tb).ext (k.alloc_ext hp))
    · cases q
  · cases q⟩
theorem od_addT : OpD X (binaryOp .Add) addT := ⟨_, op_catA, fun N ι M S H own x y d e r Q k b1 b2 q k' => by
  unfold addT at q
  split at q
  · split at q
    · cases q
      obtain ⟨a, xs, rfl, ha, ta, da⟩ := b1.tupAt
      obtain ⟨b, ys, rfl, hb, tb, db⟩ := b2.tupAt
      refine ⟨a, b, xs, ys, rfl, rfl, ha, hb, by rw [ta.length, tb.length]; assumption, fun z => ?_, fun _ z => ?_, fun _ _ p hp => k' _ _ _ (k.alloc hp) ⟨k.alloc_ext hp, fun i a h => ⟨k.hown hp i a h, .inl h⟩⟩ ?_⟩
      · subst z
        cases ta
        exact k' _ S H k .refl db
      · subst z
        cases tb
        refine k' _ S H k .refl ?_
        rw [List.append_nil]
        exact da
      · exact .tup (.inl ⟨.inr rfl, .inl upd_same⟩) ((ta.append tb).ext (k.alloc_ext hp))
    · cases q
  · cases q⟩
def addD : D → D → Option D := fun d e => (II addI d e).orElse fun _ => (SS addS' d e).orElse fun _ => (addL d e).orElse fun _ => addT d e
theorem od_add : OpD X (binaryOp .Add) addD := od_addI.or (od_addS.or (od_addL.or od_addT))
/-- == of data -/
def eqD (neg : Bool) : D → D → Option D := fun d e => match toPy d, toPy e with
  | some p, some q => if SeqAt.shaped p = true ∧ SeqAt.shaped q = true then some (.bl (xor neg (PyData.eqv p q))) else none
  | _, _ => none
theorem eqD.get {n : Bool} {d e r : D} (h : eqD n d e = some r) : ∃ p q, toPy d = some p ∧ toPy e = some q ∧ SeqAt.shaped p = true ∧ SeqAt.shaped q = true ∧ r = .bl (xor n (PyData.eqv p q)) := by
  unfold eqD at h
  split at h
  · rename_i p q e1 e2
    split at h
    · rename_i h'
      cases h
      exact ⟨p, q, e1, e2, h'.1, h'.2, rfl⟩
    · cases h
  · cases h
theorem od_eq (hu : X.A.units + 64 < cLine) : OpD X (compareOp .Eq) (eqD false) := ⟨_, op_eqD hu, fun N ι M S H own x y d e r Q k b1 b2 q k' => by
  obtain ⟨p, q', e1, e2, s1, s2, rfl⟩ := eqD.get q
  refine ⟨p, q', b1.dp e1, b2.dp e2, s1, s2, k' _ S H k .refl ?_⟩
  rw [Bool.false_xor]
  exact .bl _⟩
theorem od_ne (hu : X.A.units + 64 < cLine) : OpD X (compareOp .NotEq) (eqD true) := ⟨_, op_neD hu, fun N ι M S H own x y d e r Q k b1 b2 q k' => by
  obtain ⟨p, q', e1, e2, s1, s2, rfl⟩ := eqD.get q
  refine ⟨p, q', b1.dp e1, b2.dp e2, s1, s2, k' _ S H k .refl ?_⟩
  rw [Bool.true_xor]
  exact .bl _⟩
/-- is None -/
def isNone : D → Option Bool
  | .non => some true
  | .gl _ => none
  | _ => some false
def isN (neg : Bool) : D → D → Option D := fun d e => match e with
  | .non => (isNone d).map fun b => .bl (xor neg b)
  | _ => none
theorem Bn.isN {K : PySem.W.Frag} {mg : Str → Option Value} {S : AP} {ι : List Addr} {H : Hp} {v : V} {d : D} {b : Bool} (h : Bn K mg S ι H v d) (e : isNone d = some b) : decide (v = .non) = b := by
  cases h with
  | lst h t => cases e; rfl
  | dct h l t => cases e; rfl
  | dn h => cases h <;> first | (cases e; done) | (cases e; rfl)
theorem od_isN : OpD X (compareOp .Is) (isN false) := ⟨_, op_isN, fun N ι M S H own x y d e r Q k b1 b2 q k' => by
  unfold isN at q
  split at q
  · cases e1 : isNone d with
    | none => rw [e1] at q; cases q
    | some b =>
      rw [e1] at q
      cases q
      refine ⟨b2.nonAt, k' _ S H k .refl ?_⟩
      rw [b1.isN e1]
      show Dn X.K X.mg S ι H _ (.bl (xor false b))
      rw [Bool.false_xor]
      exact .bl _
  · cases q⟩
theorem od_notN : OpD X (compareOp .IsNot) (isN true) := ⟨_, op_notN, fun N ι M S H own x y d e r Q k b1 b2 q k' => by
  unfold isN at q
  split at q
  · cases e1 : isNone d with
    | none => rw [e1] at q; cases q
    | some b =>
      rw [e1] at q
      cases q
      refine ⟨b2.nonAt, k' _ S H k .refl ?_⟩
      rw [b1.isN e1]
      show Dn X.K X.mg S ι H _ (.bl (xor true b))
      rw [Bool.true_xor]
      exact .bl _
  · cases q⟩
/-- - x -/
def negD : D → Option D
  | .int i => some (.int (-i))
  | _ => none
theorem de_neg {e : Expr} {pos : Pos} {a : TDE} (ha : DB X N W e a) : DE X N W (.UnaryOp .USub e pos) (dUn negD a) := pe_imp (pe_un un_neg ha) (un_core fun N ι M S H own x d e Q k b q k' => by
  unfold negD at q
  split at q
  · cases q
    exact ⟨_, b.intAt, k' _ S H k .refl (.int _)⟩
  · cases q)
end
end DL
set_option maxHeartbeats 2000000
namespace DL
open PySem PySem.Spec PyProof.Rows L2

/-! ### a def's promise, where no display of an object runs around it -/
def Calm (A : Around) : Prop := A.guards = some []
structure FnG (P : Program) (w : World) (K : PySem.W.Frag) (mg : Str → Option Value) (base : Heap) (CX : CXT) (k : Nat) (f : Addr) (fd : FuncData) (ps : List Str) (sp : Sp) : Prop where
  len : ∀ vs H Q E, sp vs H Q E → vs.length = ps.length
  run : ∀ (A : Around) (outer : List Env) (s : Shared) (H : Hp) (args : Args) (us : List Value) (vs : List V) (Q : VK) (E : XK), Calm A → Room k A → Env0 P w K mg base A outer s H → BindsTo s fd args (ps.zip us) →
    Vals vs us → sp vs H Q E → codeAny (model P w) A (.call (.ref f) args) (CR CX outer P w H s Q E) s
theorem FnG.mono {P : Program} {w : World} {K : PySem.W.Frag} {mg : Str → Option Value} {base : Heap} {CX : CXT} {j k : Nat} {f : Addr} {fd : FuncData} {ps : List Str} {sp : Sp} (F : FnG P w K mg base CX j f fd ps sp) (h : j ≤ k) :
    FnG P w K mg base CX k f fd ps sp := ⟨F.len, fun A outer s H args us vs Q E g hr => F.run A outer s H args us vs Q E g (hr.mono h)⟩

/-- the def by its body: the body's reading may use that the surroundings are calm -/
theorem fnG_of {CX : CXT} {P : Program} {w : World} {K : PySem.W.Frag} {mg : Str → Option Value} {base : Heap} {k : Nat} {x qual : Str} {st : Stmt} {f : Addr} {fd : FuncData} {N ps : List Str} {sp : Sp} {dvs : List V} {kws : List (Str × V)}
    (F : FunD K x qual (defArgs st) (defBody st) (defScope st) dvs kws f fd) (S : FnScope N ps (defScope st)) (len : ∀ vs H Q E, sp vs H Q E → vs.length = ps.length)
    (hbody : ∀ (cdv : Value) (A : Around) (outer : List Env) (s : Shared) (H : Hp) (vs : List V) (Q : VK) (E : XK), Calm (A.deeper (envOfC qual (defScope st) s.heap.objs.size f cdv)) → Room k (A.deeper (envOfC qual (defScope st) s.heap.objs.size f cdv)) → sp vs H Q E →
      ∃ t, PSs (cxOf CX P w K mg base N qual (defScope st) f cdv A outer s H E) (defBody st) t ∧ t { nx := fun _ H' => Q .non H', rt := Q } (start N vs) H) :
    FnG P w K mg base CX (k + 1) f fd ps sp := by
  obtain ⟨oc, od, dV, kV, doc, pm, an, cdv, ct, osl, rfl, lk, hcd, _, _⟩ := F.ex
  -- the library's own rule, at surroundings that are kept: what it asks of the body is asked at these alone
  refine ⟨len, fun A outer s H args us vs Q E g hr e0 hb r hsp => ?_⟩
  have KX : K.In s.heap := e0.mod.kin.keeps fun b o e => (e0.bs b o e).1
  have lim : s.heap.NoLimit := e0.mod.nolimit.keeps fun b o e => (e0.bs b o e).1
  refine codeAny_call_function hr.depth (KX _ _ lk) rfl S.co S.gen rfl (PySem.W.codeRec_of KX hcd) (hb _ _ _ _ ?_)
  refine wpAny_newFunctionEnv_cells S.kind (fun y hy => ?_) fun env he s1 ic => ?_
  · obtain ⟨n, v⟩ := y
    cases S.par n (List.of_mem_zip hy).1 with
    | inl q => exact .inl q
    | inr q => exact .inr ⟨q, PySem.W.cellsFrom_some _ _ _ (.inl q)⟩
  subst he
  refine ⟨lim.keeps ic.toInCall.keep, codeAny_func ?_⟩
  obtain ⟨t, ht, hq⟩ := hbody cdv A outer s H vs Q E g (hr.deeper _) hsp
  refine wpAny_mono (ht.run [] s1 (start N vs) H _ (inv_start S hr.hd e0 (len _ _ _ _ hsp) r ic) hq) (fun fl s' hs => ?_) fun e s' hs => hs
  cases fl with
  | ret u => obtain ⟨v, _, H', J, rv, q⟩ := hs; exact ⟨v, H', J.os, J.bare, J.base, J.hok, rv, q⟩
  | next => obtain ⟨_, H', J, q⟩ := hs; exact ⟨.non, H', J.os, J.bare, J.base, J.hok, rfl, q⟩
  | brk => obtain ⟨_, _, _, q⟩ := hs; exact q.elim
  | cont => obtain ⟨_, _, _, q⟩ := hs; exact q.elim

/-! ### a def's promise in data -/
section
variable {K : PySem.W.Frag} {mg : Str → Option Value} {N : En} {ι ι' : List Addr} {M M' : MS} {S S' : AP} {H H' : Hp} {own own' : OwnM} {σ : L2.St} {ρ : DS}
theorem Ok.enter (k : Ok K mg N ι M S H own) : Ok K mg ⟨H, S, ι⟩ ι M S H own0 where
  len := k.len
  pre := fun _ _ h => h
  fresh := fun _ h => .inl h
  objs := k.objs
  nd := k.nd
  iout := k.iout
  oout := fun _ _ h => by cases h
  oinj := fun _ _ _ h => by cases h
  ofin := ⟨0, fun _ _ => rfl⟩
  sub := fun _ h => h
  new := fun _ h => .inl h
  keep := fun _ _ h _ _ => h
  trk := fun _ h => h
  sat := k.sat
theorem Ok.back (k : Ok K mg N ι M S H own) (k' : Ok K mg ⟨H, S, ι⟩ ι' M' S' H' own0) : Ok K mg N ι' M' S' H' own ∧ ExtE S ι H own S' ι' H' own := by
  have stay : ∀ a o, S a → H a = some o → H' a = some o := fun a o s h => k'.keep a o h (fun z => (k.iout a z).1 s) (by obtain ⟨o', h1, h2⟩ := k.sat a s; rw [h] at h1; cases h1; exact h2)
  have ow : ∀ i a, own i = some a → H' a = H a := fun i a h => by
    obtain ⟨o, h1, h2⟩ := (k.oout i a h).2.1
    rw [h1]
    exact k'.keep a o h1 (k.oout i a h).2.2.2 h2
  refine ⟨⟨k'.len, fun j a h => k'.pre j a (k.pre j a h), fun a h => ?_, k'.objs, k'.nd, k'.iout, fun i a h => ?_, k.oinj, k.ofin, fun a h => k'.sub a (k.sub a h), fun a h => ?_, fun a o h1 h2 h3 => ?_, fun a h => k'.trk a (k.trk a h), k'.sat⟩, ⟨k'.sub, k'.pre, stay⟩, fun i a h => ⟨ow i a h, .inl h⟩⟩
  · rcases k'.fresh a h with h | h
    · exact k.fresh a h
    · exact .inr (k.free h)
  · obtain ⟨h1, h2, h3, h4⟩ := k.oout i a h
    refine ⟨fun s => ?_, by rw [ow i a h]; exact h2, h3, fun z => ?_⟩
    · rcases k'.new a s with s | s
      · exact h1 s
      · exact k.ohn h s
    · rcases k'.fresh a z with s | s
      · exact h4 s
      · exact k.ohn h s
  · rcases k'.new a h with h | h
    · exact k.new a h
    · exact .inr (k.free h)
  · have q := k.keep a o h1 h2 h3
    refine k'.keep a o q (fun z => ?_) h3
    rcases k.fresh a z with s | s
    · exact h2 s
    · rw [h1] at s; cases s
end
def spD (K : PySem.W.Frag) (mg : Str → Option Value) (n : Nat) (φ : DF) : Sp := fun vs H Q E => vs.length = n ∧ ∃ ι M S ds, Ok K mg ⟨H, S, ι⟩ ι M S H own0 ∧ Dns K mg S ι H vs ds ∧
  match φ ds M with
  | some (.ret d M') => ∀ v ι' S' H', Ok K mg ⟨H, S, ι⟩ ι' M' S' H' own0 → Dn K mg S' ι' H' v d → Q v H'
  | some (.exc x M') => ∀ cls dd ι' S' H', Ok K mg ⟨H, S, ι⟩ ι' M' S' H' own0 → ExOk K mg S' ι' H' x cls dd → E cls dd H'
  | none => False
end DL
set_option maxHeartbeats 2000000
namespace DL
open PySem PySem.Spec PyProof.Rows L2

/-! ### how a call's values come to the parameters -/
inductive Src where
  | p (i : Nat) | d (i : Nat) | k (i : Nat)
def pick {α : Type} (sel : List Src) (us its ws : List α) : List α := sel.filterMap fun
  | .p i => us[i]?
  | .d i => its[i]?
  | .k i => ws[i]?
def Src.get {α : Type} (us its ws : List α) : Src → Option α
  | .p i => us[i]?
  | .d i => its[i]?
  | .k i => ws[i]?
theorem pick_eq {α : Type} (sel : List Src) (us its ws : List α) : pick sel us its ws = sel.filterMap (Src.get us its ws) := by
  have e : (fun s : Src => Src.get us its ws s) = fun
      | .p i => us[i]?
      | .d i => its[i]?
      | .k i => ws[i]? := by
    funext s
    cases s <;> rfl
  show _ = sel.filterMap (fun s : Src => Src.get us its ws s)
  rw [e]
  rfl
theorem pick_rel {α β : Type} {R : α → β → Prop} {P : List α → List β → Prop} (nil : P [] []) (cons : ∀ a b as bs, R a b → P as bs → P (a :: as) (b :: bs)) {us its ws : List α} {vs jts zs : List β}
    (h : ∀ s : Src, (Src.get us its ws s = none ∧ Src.get vs jts zs s = none) ∨ ∃ a b, Src.get us its ws s = some a ∧ Src.get vs jts zs s = some b ∧ R a b) : ∀ sel, P (pick sel us its ws) (pick sel vs jts zs) := fun sel => by
  rw [pick_eq, pick_eq]
  induction sel with
  | nil => exact nil
  | cons s r ih =>
    rcases h s with ⟨h1, h2⟩ | ⟨a, b, h1, h2, hr⟩
    · rw [List.filterMap_cons_none h1, List.filterMap_cons_none h2]; exact ih
    · rw [List.filterMap_cons_some h1, List.filterMap_cons_some h2]; exact cons _ _ _ _ hr ih
theorem vals_at {vs : List V} {us : List Value} (r : Vals vs us) (i : Nat) : (us[i]? = none ∧ vs[i]? = none) ∨ ∃ a b, us[i]? = some a ∧ vs[i]? = some b ∧ RelV b a := by
  cases e : vs[i]? with
  | none => exact .inl ⟨r.none_of e, rfl⟩
  | some v =>
    obtain ⟨u, h1, h2⟩ := r.get e
    exact .inr ⟨u, v, h1, rfl, h2⟩
theorem dns_at {K : PySem.W.Frag} {mg : Str → Option Value} {S : AP} {ι : List Addr} {H : Hp} {vs : List V} {ds : List D} (r : Dns K mg S ι H vs ds) (i : Nat) : (vs[i]? = none ∧ ds[i]? = none) ∨ ∃ a b, vs[i]? = some a ∧ ds[i]? = some b ∧ Dn K mg S ι H a b := by
  cases e : vs[i]? with
  | none =>
    refine .inl ⟨rfl, ?_⟩
    rw [List.getElem?_eq_none_iff] at e ⊢
    rw [← r.length]; exact e
  | some v =>
    obtain ⟨u, h1, h2⟩ := r.getV e
    exact .inr ⟨v, u, rfl, h1, h2⟩
theorem pick_vals {sel : List Src} {vs dv zs : List V} {us its ws : List Value} (r1 : Vals vs us) (r2 : Vals dv its) (r3 : Vals zs ws) : Vals (pick sel vs dv zs) (pick sel us its ws) :=
  pick_rel (R := fun (b : V) (a : Value) => RelV b a) (P := fun a b => Vals a b) .nil (fun _ _ _ _ h t => .cons h t) (fun s => by
    cases s with
    | p i => rcases vals_at r1 i with ⟨a, b⟩ | ⟨a, b, x, y, z⟩; exact .inl ⟨b, a⟩; exact .inr ⟨b, a, y, x, z⟩
    | d i => rcases vals_at r2 i with ⟨a, b⟩ | ⟨a, b, x, y, z⟩; exact .inl ⟨b, a⟩; exact .inr ⟨b, a, y, x, z⟩
    | k i => rcases vals_at r3 i with ⟨a, b⟩ | ⟨a, b, x, y, z⟩; exact .inl ⟨b, a⟩; exact .inr ⟨b, a, y, x, z⟩) sel
theorem pick_dns {K : PySem.W.Frag} {mg : Str → Option Value} {S : AP} {ι : List Addr} {H : Hp} {sel : List Src} {vs dv zs : List V} {us its ws : List D} (r1 : Dns K mg S ι H vs us) (r2 : Dns K mg S ι H dv its) (r3 : Dns K mg S ι H zs ws) : Dns K mg S ι H (pick sel vs dv zs) (pick sel us its ws) :=
  pick_rel (R := fun (b : V) (a : D) => Dn K mg S ι H b a) (P := fun a b => Dns K mg S ι H a b) .nil (fun _ _ _ _ h t => .cons h t) (fun s => by
    cases s with
    | p i => exact dns_at r1 i
    | d i => exact dns_at r2 i
    | k i => exact dns_at r3 i) sel
/-- n values by position, keywords ks, defaults as sel says -/
structure CB (K : PySem.W.Frag) (fd : FuncData) (ps : List Str) (dvs : List V) (n : Nat) (ks : List Str) (sel : List Src) : Prop where
  to : ∃ its, Vals dvs its ∧ ∀ (s : Shared) (us ws : List Value), K.In s.heap → us.length = n → ws.length = ks.length → BindsTo s fd ⟨us, ks.zip ws⟩ (ps.zip (pick sel us its ws))
section
variable {K : PySem.W.Frag} {x qual : Str} {params : Arguments} {body : List Stmt} {scope : Scope} {dvs : List V} {f : Addr} {fd : FuncData} {ps : List Str}
theorem cb0 (F : FunD K x qual params body scope [] [] f fd) (n : Nat) (ks : List Str) (sel : List Src)
    (h : ∀ (kV doc pm : Value) (an : Option Addr) (cdv ct : Value) (us ws : List Value), us.length = n → ws.length = ks.length → bindArgs (PySem.W.fnOf x qual params body scope .none kV doc pm an cdv ct) ⟨us, ks.zip ws⟩ = pure (ps.zip (pick sel us [] ws))) : CB K fd ps [] n ks sel := by
  obtain ⟨oc, od, dV, kV, doc, pm, an, cdv, ct, osl, rfl, lk, hcd, hD, hK⟩ := F.ex
  refine ⟨[], .nil, fun s us ws X l1 l2 => ?_⟩
  rcases hD with ⟨_, rfl⟩ | ⟨e, _⟩
  · exact .of_eq (h kV doc pm an cdv ct us ws l1 l2)
  · exact absurd rfl e
theorem cbD (F : FunD K x qual params body scope dvs [] f fd) (n : Nat) (ks : List Str) (sel : List Src) (hd : dvs ≠ [])
    (h : ∀ (T : Addr) (kV doc pm : Value) (an : Option Addr) (cdv ct : Value) (us its ws : List Value), us.length = n → its.length = dvs.length → ws.length = ks.length →
      ∃ k, bindArgs (PySem.W.fnOf x qual params body scope (.ref T) kV doc pm an cdv ct) ⟨us, ks.zip ws⟩ = seqItems? (.ref T) >>= k ∧ k (some its.toArray) = pure (ps.zip (pick sel us its ws))) : CB K fd ps dvs n ks sel := by
  obtain ⟨oc, od, dV, kV, doc, pm, an, cdv, ct, osl, rfl, lk, hcd, hD, hK⟩ := F.ex
  rcases hD with ⟨e, _⟩ | ⟨_, T, o, its, m, rfl, lT, oT, rT⟩
  · exact absurd e hd
  · refine ⟨its, rT, fun s us ws X l1 l2 => ?_⟩
    obtain ⟨k, e1, e2⟩ := h T kV doc pm an cdv ct us its ws l1 rT.length.symm l2
    refine BindsTo.of_looks fun M => ?_
    rw [e1]
    exact looks_items X lT oT (.of_pure e2)
end

/-! ### keywords -/
section
variable {X : Cx} {N : En} {W : WX}
abbrev DK (X : Cx) (N : En) (W : WX) (kws : List Keyword) (t : TDA) : Prop := PK X kws (tA X.K X.mg N W t)
theorem pk_imp {es : List Keyword} {t t' : TA} (h : PK X es t) (i : ∀ σ H Q, t' σ H Q → t σ H Q) : PK X es t' := ⟨fun p pins s σ H Q I q => h.run p pins s σ H Q I (i σ H Q q)⟩
theorem dk_nil : DK X N W [] aNil := pk_imp pk_nil fun σ H Q q => by
  obtain ⟨ι, S, own, ρ, M, c, q⟩ := q
  exact q [] ι S H own c .refl .nil
theorem dk_cons {nm : Option Str} {kpos : Pos} {e : Expr} {es : List Keyword} {a : TDE} {r : TDA} (ha : DE X N W e a) (hr : DK X N W es r) : DK X N W (⟨nm, e, kpos⟩ :: es) (aCons a r) :=
  pk_imp (pk_cons ha hr) fun σ H Q q => by
    obtain ⟨ι, S, own, ρ, M, c, q⟩ := q
    refine ⟨ι, S, own, ρ, M, c, ?_⟩
    unfold aCons at q
    cases e1 : a ρ M with
    | none => rw [e1] at q; exact q
    | some o1 =>
      rw [e1] at q
      cases o1 with
      | ex x ρ' M' => exact q
      | ok d ρ1 M1 =>
        intro v ι1 S1 H1 own1 c1 x1 dn
        refine ⟨ι1, S1, own1, ρ1, M1, c1, ?_⟩
        cases e2 : r ρ1 M1 with
        | none => simp only [e2] at q; exact q
        | some o2 =>
          simp only [e2] at q
          cases o2 with
          | ex x ρ' M' => exact XPost.later x1.ext q
          | ok ds ρ2 M2 => exact fun vs ι2 S2 H2 own2 c2 x2 dns => q (v :: vs) ι2 S2 H2 own2 c2 (x1.trans c.ok x2) (.cons (dn.ext x2.ext) dns)

/-! ### f(..) -/
def dRet (o : Option FO) : TDE := fun ρ M => match o with
  | some (.ret d M') => some (.ok d ρ M')
  | some (.exc x M') => some (.ex x ρ M')
  | none => none
/-- φ at the values -/
def dApp (φ : DF) (ds : List D) : TDE := fun ρ M => dRet (φ ds M) ρ M
def dCall (φ : DF) (sel : List Src) (dds : List D) (a : TDA) : TDE := aBind a fun ds => dApp φ (pick sel ds dds [])
def dCallK (φ : DF) (sel : List Src) (dds : List D) (a b : TDA) : TDE := aBind a fun ds => aBind b fun es => dApp φ (pick sel ds dds es)
/-- what the module has of a def -/
structure Fk (P : Program) (w : World) (K : PySem.W.Frag) (mg : Str → Option Value) (base : Heap) (x : Str) (k : Nat) (f : Addr) (fd : FuncData) (ps : List Str) (φ : DF) : Prop where
  at_ : mg x = some (.ref f)
  kp : PySem.W.keepIn K (.ref f) = true
  fn : FnG P w K mg base (L2.CX P w) k f fd ps (spD K mg ps.length φ)
section
variable {K : PySem.W.Frag} {mg : Str → Option Value} {ι : List Addr} {M : MS} {S : AP} {H : Hp} {own : OwnM} {σ : L2.St} {ρ : DS}
theorem app_sp {φ : DF} {n : Nat} {vs : List V} {ds : List D} {Q : VK} (c : Cur K mg N ι S H own σ ρ M) (hl : vs.length = n) (hd : Dns K mg S ι H vs ds) (q : postD K mg N W ι S H own σ Q (dApp φ ds ρ M)) : spD K mg n φ vs H Q (WE W σ) := by
  refine ⟨hl, ι, M, S, ds, c.ok.enter, hd, ?_⟩
  unfold dApp dRet at q
  cases e : φ ds M with
  | none => rw [e] at q; exact q.elim
  | some o =>
    rw [e] at q
    cases o with
    | ret d M' =>
      intro v ι' S' H' k' dn
      obtain ⟨h1, h2⟩ := c.ok.back k'
      exact q v ι' S' H' own ⟨h1, c.env.ext h2.ext fun i a h => (h2.ow i a h).1⟩ h2 dn
    | exc x M' =>
      intro cls dd ι' S' H' k' ex
      obtain ⟨h1, h2⟩ := c.ok.back k'
      exact q cls dd ι' S' H' own ⟨h1, c.env.ext h2.ext fun i a h => (h2.ow i a h).1⟩ h2.ext ex
end
theorem run_g {k n : Nat} {f : Addr} {fd : FuncData} {ps ks : List Str} {sp : Sp} {sel : List Src} {dvs : List V} {pins : List (Addr × Obj)} {σ : L2.St} {H : Hp} {s : Shared} {Q : VK} {us ws : List Value} {vs zs : List V}
    (F : FnG X.prog X.w X.K X.mg X.base (L2.CX X.prog X.w) k f fd ps sp) (hg : Calm X.A) (hr : Room k X.A) (tk : Takes X W) (hb : CB X.K fd ps dvs n ks sel) (I : Inv X pins σ H s) (r : Vals vs us) (rz : Vals zs ws)
    (l1 : vs.length = n) (l2 : zs.length = ks.length) (h : sp (pick sel vs dvs zs) H Q (WE W σ)) : wpAny (model X.prog X.w) X.A (call (.ref f) us (ks.zip ws)) (EP X pins σ Q) X.xe s := by
  obtain ⟨its, r2, to⟩ := hb.to
  refine wpAny_call (codeAny_mono (F.run X.A X.stack s H ⟨us, ks.zip ws⟩ _ _ Q (WE W σ) hg hr I.env0 (to s us ws I.kIn (r.length.symm.trans l1) (rz.length.symm.trans l2)) (pick_vals r r2 rz) h) fun res s' hq => ?_)
  cases res with
  | error e => exact passAt tk σ pins H s e s' I hq
  | ok fl =>
    cases fl with
    | ret u => exact I.after hq
    | next => exact hq.elim
    | brk => exact hq.elim
    | cont => exact hq.elim
def fits (n : Nat) (ds : List D) : TDE → TDE := fun t ρ M => if ds.length = n then t ρ M else none
theorem fits_go {K : PySem.W.Frag} {mg : Str → Option Value} {ι : List Addr} {S : AP} {H : Hp} {own : OwnM} {σ : L2.St} {Q : VK} {n : Nat} {ds : List D} {t : TDE} {ρ : DS} {M : MS} (q : postD K mg N W ι S H own σ Q (fits n ds t ρ M)) : ds.length = n ∧ postD K mg N W ι S H own σ Q (t ρ M) := by
  unfold fits at q
  split at q
  · exact ⟨by assumption, q⟩
  · exact q.elim
variable {k n : Nat} {f : Addr} {fd : FuncData} {ps ks : List Str} {φ : DF} {sel : List Src} {dvs : List V} {dds : List D} {x : Str} {p pos : Pos} {e : Expr} {es : List Expr} {kws : List Keyword} {a b : TDA}
/-- f(e, ..) -/
theorem de_call (F : Fk X.prog X.w X.K X.mg X.base x k f fd ps φ) (hg : Calm X.A) (hr : Room k X.A) (tk : Takes X W) (hb : CB X.K fd ps dvs n [] sel) (hd : ∀ S ι H, Dns X.K X.mg S ι H dvs dds) (hsel : sel.length = ps.length) (ha : DA X N W (e :: es) a)
    (hgl : Gl X x := by rfl) (hdb : (x == ("__debug__" : Str)) = false := by decide) (he : starEach (e :: es) X.env = (false, eval e X.env) :: starEach es X.env := by rfl) (hpl : (backTo pos (starEach es X.env)).any (·.1) = false := by rfl) :
    DE X N W (.Call (.Name x p) (e :: es) [] pos) (aBind a fun ds => fits n ds (fits ps.length (pick sel ds dds []) (dApp φ (pick sel ds dds [])))) := by
  refine ⟨fun pins s σ H Q I h => ?_⟩
  refine wpAny_Call_Name_kw (ld_glob I hgl F.at_ ?_ hdb)
  refine PySem.W.callWith_K (h₀ := X.base) I.ok.mod.kin F.kp (thn (ha.run pos pins s σ H _ I (bind_a h fun xs ds ι S H1 own ρ M c dn q => (⟨ds, ι, S, own, ρ, M, c, dn, q⟩ : ∃ ds ι S own ρ M, Cur X.K X.mg N ι S H1 own σ ρ M ∧ Dns X.K X.mg S ι H1 xs ds ∧ postD X.K X.mg N W ι S H1 own σ Q (fits n ds (fits ps.length (pick sel ds dds []) (dApp φ (pick sel ds dds []))) ρ M)))) fun us s1 ⟨vs, H1, I1, r, ds, ι, S, own, ρ, M, c, dn, q⟩ => ⟨I1.kIn, ?_⟩) he hpl
  obtain ⟨q1, q⟩ := fits_go q
  obtain ⟨q2, q⟩ := fits_go q
  have dn2 : Dns X.K X.mg S ι H1 (pick sel vs dvs []) (pick sel ds dds []) := pick_dns dn (hd S ι H1) .nil
  exact run_g (zs := []) (ws := []) F.fn hg hr tk hb I1 r .nil (dn.length.trans q1) rfl (app_sp c (dn2.length.trans q2) dn2 q)
/-- f() -/
theorem de_call0 (F : Fk X.prog X.w X.K X.mg X.base x k f fd ps φ) (hg : Calm X.A) (hr : Room k X.A) (tk : Takes X W) (hb : CB X.K fd ps dvs 0 [] sel) (hd : ∀ S ι H, Dns X.K X.mg S ι H dvs dds)
    (hgl : Gl X x := by rfl) (hdb : (x == ("__debug__" : Str)) = false := by decide) :
    DE X N W (.Call (.Name x p) [] [] pos) (fits ps.length (pick sel [] dds []) (dApp φ (pick sel [] dds []))) := by
  refine ⟨fun pins s σ H Q I h => ?_⟩
  refine wpAny_Call_Name_kw (ld_glob I hgl F.at_ ?_ hdb)
  obtain ⟨ι, S, own, ρ, M, c, q⟩ := h
  obtain ⟨q2, q⟩ := fits_go q
  have dn2 : Dns X.K X.mg S ι H (pick sel [] dvs []) (pick sel [] dds []) := pick_dns .nil (hd S ι H) .nil
  exact PySem.W.callWith_K0 I.kIn F.kp (run_g (us := []) (vs := []) (zs := []) (ws := []) F.fn hg hr tk hb I .nil .nil rfl rfl (app_sp c (dn2.length.trans q2) dn2 q))
/-- f(e, .., k = v, ..) -/
theorem de_callK (F : Fk X.prog X.w X.K X.mg X.base x k f fd ps φ) (hg : Calm X.A) (hr : Room k X.A) (tk : Takes X W) (hb : CB X.K fd ps dvs n ks sel) (hd : ∀ S ι H, Dns X.K X.mg S ι H dvs dds) (ha : DA X N W (e :: es) a) (hkw : DK X N W kws b)
    (hgl : Gl X x := by rfl) (hall : (backToKw pos (keywordEach kws X.env)).all (·.1.isSome) = true := by rfl) (hks : (backToKw pos (keywordEach kws X.env)).filterMap (·.1) = ks := by rfl)
    (hdb : (x == ("__debug__" : Str)) = false := by decide) (he : starEach (e :: es) X.env = (false, eval e X.env) :: starEach es X.env := by rfl)
    (hpl : ((backTo pos (starEach (e :: es) X.env)).any (·.1) || (backToKw pos (keywordEach kws X.env)).any (·.1.isNone)) = false := by rfl) :
    DE X N W (.Call (.Name x p) (e :: es) kws pos) (aBind a fun ds => aBind b fun bs => fits n ds (fits ks.length bs (fits ps.length (pick sel ds dds bs) (dApp φ (pick sel ds dds bs))))) := by
  refine ⟨fun pins s σ H Q I h => ?_⟩
  refine wpAny_Call_Name_kw (ld_glob I hgl F.at_ ?_ hdb)
  refine PySem.W.callWith_KW (h₀ := X.base) I.ok.mod.kin F.kp hall (thn (ha.run pos pins s σ H _ I (bind_a h fun xs ds ι S H1 own ρ M c dn q => (⟨ds, ι, S, own, ρ, M, c, dn, q⟩ : ∃ ds ι S own ρ M, Cur X.K X.mg N ι S H1 own σ ρ M ∧ Dns X.K X.mg S ι H1 xs ds ∧ postD X.K X.mg N W ι S H1 own σ Q ((aBind b fun bs => fits n ds (fits ks.length bs (fits ps.length (pick sel ds dds bs) (dApp φ (pick sel ds dds bs))))) ρ M)))) fun us s1 ⟨vs, H1, I1, r, ds, ι, S, own, ρ, M, c, dn, q⟩ => ?_) hpl he
  have h2 : tA X.K X.mg N W b σ H1 fun zs H2 => ∃ bs ι2 S2 own2 ρ2 M2, Cur X.K X.mg N ι2 S2 H2 own2 σ ρ2 M2 ∧ Dns X.K X.mg S2 ι2 H2 vs ds ∧ Dns X.K X.mg S2 ι2 H2 zs bs ∧ postD X.K X.mg N W ι2 S2 H2 own2 σ Q (fits n ds (fits ks.length bs (fits ps.length (pick sel ds dds bs) (dApp φ (pick sel ds dds bs)))) ρ2 M2) := by
    refine ⟨ι, S, own, ρ, M, c, ?_⟩
    unfold aBind at q
    cases e1 : b ρ M with
    | none => rw [e1] at q; exact q
    | some o1 =>
      rw [e1] at q
      cases o1 with
      | ex x ρ' M' => exact q
      | ok d ρ1 M1 => exact fun y ι1 S1 H2 own1 c1 x1 bx => ⟨d, ι1, S1, own1, ρ1, M1, c1, dn.ext x1.ext, bx, postD.later c.ok x1 q⟩
  refine thn (hkw.run pos pins s1 σ H1 _ I1 h2) fun ws s2 ⟨zs, H2, I2, rz, bs, ι2, S2, own2, ρ2, M2, c2, dn1, dn2, q2⟩ => ⟨I2.kIn, ?_⟩
  rw [hks]
  obtain ⟨q3, q2⟩ := fits_go q2
  obtain ⟨q4, q2⟩ := fits_go q2
  obtain ⟨q5, q2⟩ := fits_go q2
  have dn3 : Dns X.K X.mg S2 ι2 H2 (pick sel vs dvs zs) (pick sel ds dds bs) := pick_dns dn1 (hd S2 ι2 H2) dn2
  exact run_g F.fn hg hr tk hb I2 r rz (dn1.length.trans q3) (dn2.length.trans q4) (app_sp c2 (dn3.length.trans q5) dn3 q2)
/-- f(k = v, ..) -/
theorem de_callK0 (F : Fk X.prog X.w X.K X.mg X.base x k f fd ps φ) (hg : Calm X.A) (hr : Room k X.A) (tk : Takes X W) (hb : CB X.K fd ps dvs 0 ks sel) (hd : ∀ S ι H, Dns X.K X.mg S ι H dvs dds) (hkw : DK X N W kws b)
    (hgl : Gl X x := by rfl) (hall : (backToKw pos (keywordEach kws X.env)).all (·.1.isSome) = true := by rfl) (hks : (backToKw pos (keywordEach kws X.env)).filterMap (·.1) = ks := by rfl)
    (hdb : (x == ("__debug__" : Str)) = false := by decide) (hpl : ((backTo pos (starEach [] X.env)).any (·.1) || (backToKw pos (keywordEach kws X.env)).any (·.1.isNone)) = false := by rfl) :
    DE X N W (.Call (.Name x p) [] kws pos) (aBind b fun bs => fits ks.length bs (fits ps.length (pick sel [] dds bs) (dApp φ (pick sel [] dds bs)))) := by
  refine ⟨fun pins s σ H Q I h => ?_⟩
  refine wpAny_Call_Name_kw (ld_glob I hgl F.at_ ?_ hdb)
  refine PySem.W.callWith_KW0 (h₀ := X.base) I.ok.mod.kin F.kp hall (thn (hkw.run pos pins s σ H _ I (bind_a h fun xs ds ι S H1 own ρ M c dn q => (⟨ds, ι, S, own, ρ, M, c, dn, q⟩ : ∃ ds ι S own ρ M, Cur X.K X.mg N ι S H1 own σ ρ M ∧ Dns X.K X.mg S ι H1 xs ds ∧ postD X.K X.mg N W ι S H1 own σ Q (fits ks.length ds (fits ps.length (pick sel [] dds ds) (dApp φ (pick sel [] dds ds))) ρ M)))) fun ws s1 ⟨zs, H1, I1, rz, ds, ι, S, own, ρ, M, c, dn, q⟩ => ⟨I1.kIn, ?_⟩) hpl
  rw [hks]
  obtain ⟨q1, q⟩ := fits_go q
  obtain ⟨q2, q⟩ := fits_go q
  have dn2 : Dns X.K X.mg S ι H1 (pick sel [] dvs zs) (pick sel [] dds ds) := pick_dns .nil (hd S ι H1) dn
  exact run_g (us := []) (vs := []) F.fn hg hr tk hb I1 .nil rz rfl (dn.length.trans q1) (app_sp c (dn2.length.trans q2) dn2 q)
end

/-! ### a def by its body -/
def dFn (n N : Nat) (t : TDS) : DF := fun ds M => if ds.length = n then
  match t (ds.map (fun d => some (.t d)) ++ List.replicate (N - ds.length) none) M with
  | some (.nx _ M') => some (.ret .non M')
  | some (.rt d M') => some (.ret d M')
  | some (.ex x _ M') => some (.exc x M')
  | _ => none else none
theorem env_start {K : PySem.W.Frag} {mg : Str → Option Value} {S : AP} {ι : List Addr} {H : Hp} {vs : List V} {ds : List D} {Ns : List Str} (hl : vs.length ≤ Ns.length) (hb : Ns.length ≤ slotsB) (h : Dns K mg S ι H vs ds) :
    EnvOk K mg S ι H own0 (L2.start Ns vs) (ds.map (fun d => some (.t d)) ++ List.replicate (Ns.length - ds.length) none) := by
  refine ⟨by simp [L2.start, h.length], ?_, fun _ _ _ => rfl, fun i x q => ?_, fun _ _ => rfl⟩
  · rw [List.length_append, List.length_map, List.length_replicate, ← h.length]; omega
  by_cases hi : i < ds.length
  · rw [List.getElem?_append_left (by simpa using hi), List.getElem?_map] at q
    cases e : ds[i]? with
    | none => rw [e] at q; cases q
    | some d =>
      rw [e] at q
      cases q
      obtain ⟨v, h1, h2⟩ := h.get e
      refine ⟨v, ?_, rfl, h2⟩
      unfold L2.start
      rw [List.getElem?_append_left (by simpa [h.length] using hi), List.getElem?_map, h1]
      rfl
  · rw [List.getElem?_append_right (by simpa using hi), List.getElem?_replicate] at q
    split at q <;> cases q
theorem def_of {P : Program} {w : World} {K : PySem.W.Frag} {mg : Str → Option Value} {base : Heap} {k : Nat} {x qual : Str} {st : Stmt} {f : Addr} {fd : FuncData} {Ns ps : List Str} {dvs : List V} {t : TDS}
    (hm : mg x = some (.ref f)) (F : FunD K x qual (defArgs st) (defBody st) (defScope st) dvs [] f fd) (S : FnScope Ns ps (defScope st)) (hle : ps.length ≤ Ns.length) (hbig : Ns.length ≤ slotsB)
    (hbody : ∀ (cdv : Value) (A : Around) (outer : List Env) (s : Shared) (H : Hp) (E : XK) (N : En), Calm (A.deeper (envOfC qual (defScope st) s.heap.objs.size f cdv)) → Room k (A.deeper (envOfC qual (defScope st) s.heap.objs.size f cdv)) →
      Takes (cxOf (L2.CX P w) P w K mg base Ns qual (defScope st) f cdv A outer s H E) (fun cls d _ H => E cls d H) → DSs (cxOf (L2.CX P w) P w K mg base Ns qual (defScope st) f cdv A outer s H E) N (fun cls d _ H => E cls d H) (defBody st) t) :
    Fk P w K mg base x (k + 1) f fd ps (dFn ps.length Ns.length t) := by
  refine ⟨hm, F.kp, fnG_of F S (fun vs H Q E h => h.1) fun cdv A outer s H vs Q E hc hr hsp => ?_⟩
  obtain ⟨hl, ι, M, S0, ds, k0, dn, q⟩ := hsp
  refine ⟨_, hbody cdv A outer s H E ⟨H, S0, ι⟩ hc hr (takes_of rfl rfl rfl rfl), ?_⟩
  refine ⟨ι, S0, own0, _, M, ⟨k0, env_start (by rw [hl]; exact hle) hbig dn⟩, ?_⟩
  unfold dFn at q
  rw [if_pos (by rw [← dn.length]; exact hl)] at q
  cases e : t (ds.map (fun d => some (.t d)) ++ List.replicate (Ns.length - ds.length) none) M with
  | none => rw [e] at q; exact q.elim
  | some o =>
    rw [e] at q
    cases o with
    | nx ρ' M' => exact fun σ' ι' S' H' own' c' x => q .non ι' S' H' c'.ok.noOwn .non
    | rt d M' => exact fun v ι' S' H' k' x dn' => q v ι' S' H' k' dn'
    | bk ρ' M' => exact q.elim
    | ct ρ' M' => exact q.elim
    | ex x ρ' M' => exact fun σ' cls dd ι' S' H' own' c' x' ex => q cls dd ι' S' H' c'.ok.noOwn ex
end DL
set_option maxHeartbeats 2000000
namespace DL
open PySem PySem.Spec PyProof.Rows L2

section
variable {X : Cx} {N : En} {W : WX}
theorem Dns.len_eq {K : PySem.W.Frag} {mg : Str → Option Value} {S : AP} {ι : List Addr} {H : Hp} {xs : List V} {ds : List D} (h : Dns K mg S ι H xs ds) : xs.length = ds.length := h.length
theorem Dns.atI {K : PySem.W.Frag} {mg : Str → Option Value} {S : AP} {ι : List Addr} {H : Hp} {xs : List V} {ds : List D} {i : Int} {d : D} (h : Dns K mg S ι H xs ds) (e : L2.atI ds i = some d) : ∃ v, L2.atI xs i = some v ∧ Dn K mg S ι H v d := by
  unfold L2.atI at e ⊢
  rw [h.length]
  cases e1 : ixN ds.length i with
  | none => rw [e1] at e; cases e
  | some j =>
    rw [e1] at e
    exact h.get e
/-! ### x[i] -/
def ixS (ds : List D) (i : Int) : Option D := L2.atI ds i
def ixD : D → D → Option D
  | .lst ds, .int i => L2.atI ds i
  | .tup ds, .int i => L2.atI ds i
  | .str s, .int i => if s.length ≤ sizeLine then (L2.atI s.cps.toList i).map fun c => .str ⟨#[c]⟩ else none
  | _, _ => none
theorem ix_seq3 : IxR X (fun x y H Q => rIxL X.K x y H Q ∨ rIxT X.K x y H Q ∨ rIxS x y H Q) := ix_list.or (ix_tup.or ix_str)
theorem bi_ix : BiD X (fun x y H Q => rIxL X.K x y H Q ∨ rIxT X.K x y H Q ∨ rIxS x y H Q) ixD := by
  intro N ι M S H own x y d e r Q k b1 b2 q k'
  unfold ixD at q
  split at q
  · obtain ⟨a, xs, rfl, ha, ta⟩ := b1.lstAt
    obtain ⟨v, h1, h2⟩ := ta.atI q
    exact .inl ⟨a, xs, _, v, rfl, b2.intAt, SqL.of ha, h1, k' v S H k .refl h2⟩
  · obtain ⟨a, xs, rfl, ha, ta, _⟩ := b1.tupAt
    obtain ⟨v, h1, h2⟩ := ta.atI q
    exact .inr (.inl ⟨a, xs, _, v, rfl, b2.intAt, ha, h1, k' v S H k .refl h2⟩)
  · split at q
    · rename_i s i hz
      cases e1 : L2.atI s.cps.toList i with
      | none => rw [e1] at q; cases q
      | some c =>
        rw [e1] at q
        cases q
        exact .inr (.inr ⟨s, i, c, b1.strAt, b2.intAt, hz, e1, k' _ S H k .refl (.str _)⟩)
    · cases q
  · cases q
theorem de_ix {ea eb : Expr} {pos : Pos} {a b : TDE} (ha : DB X N W ea a) (hb : DB X N W eb b) (hs : PlainIx eb := by exact fun _ _ => rfl) : DE X N W (.Subscript ea eb pos) (dBin ixD a b) :=
  pe_imp (pe_ix ix_seq3 ha hb hs) (bin_core bi_ix)

theorem Bn.scrAt {K : PySem.W.Frag} {mg : Str → Option Value} {S : AP} {ι : List Addr} {H : Hp} {v : V} {ds : List D} (b : Bn K mg S ι H v (.scr ds)) : ∃ a xs, v = .ref a ∧ SqL K H a xs ∧ Dns K mg S ι H xs ds := by
  cases b with
  | dn h =>
    cases h with
    | scr h t => exact ⟨_, _, rfl, h.sq, t⟩
/-! ### x[a:b] -/
def cutD (xs : List D) (lo hi : Option Int) : List D := (xs.drop (HT.sIx xs.length 0 lo)).take (HT.sIx xs.length xs.length hi - HT.sIx xs.length 0 lo)
theorem Dns.cut {K : PySem.W.Frag} {mg : Str → Option Value} {S : AP} {ι : List Addr} {H : Hp} {xs : List V} {ds : List D} (h : Dns K mg S ι H xs ds) (lo hi : Option Int) : Dns K mg S ι H (cutV xs lo hi) (cutD ds lo hi) := by
  unfold cutV cutD
  rw [h.length]
  exact (h.drop _).take _
def slD : D → Option Int → Option Int → Option D
  | .lst ds, lo, hi => some (.lst (cutD ds lo hi))
  | .scr ds, lo, hi => some (.lst (cutD ds lo hi))
  | .tup ds, lo, hi => some (.tup (cutD ds lo hi))
  | .str s, lo, hi => if s.length ≤ sizeLine then some (.str (cutS s lo hi)) else none
  | _, _, _ => none
abbrev RSl (K : PySem.W.Frag) : V → Option Int → Option Int → Hp → VK → Prop := fun x lo hi H Q => rSlL K x lo hi H Q ∨ rSlA K x lo hi H Q ∨ rSlS x lo hi H Q
theorem sl_seq3 : SlR X (RSl X.K) := sl_list.or (sl_tupA.or sl_str)
/-- an end of a slice -/
def oNone : DS → MS → Option (Option (Option Int × DS × MS)) := fun ρ M => some (some (none, ρ, M))
def dSl (a : TDE) (lo hi : Option TDE) : TDE := dBind a fun d => match lo, hi with
  | none, none => dOut (slD d none none)
  | some l, none => dBind l fun x => dOut (match x with | .int i => slD d (some i) none | _ => none)
  | none, some h => dBind h fun y => dOut (match y with | .int j => slD d none (some j) | _ => none)
  | some l, some h => dBind l fun x => dBind h fun y => dOut (match x, y with | .int i, .int j => slD d (some i) (some j) | _, _ => none)
theorem cutD_all (ds : List D) (lo hi : Option Int) (h : HT.sIx ds.length 0 lo = 0 ∧ HT.sIx ds.length ds.length hi = ds.length) : cutD ds lo hi = ds := by
  unfold cutD
  rw [h.1, h.2]
  simp
theorem sl_go {x : V} {d : D} {lo hi : Option Int} {ι : List Addr} {M : MS} {S : AP} {H : Hp} {own : OwnM} {σ : L2.St} {ρ : DS} {Q : VK} (c : Cur X.K X.mg N ι S H own σ ρ M) (b : Bn X.K X.mg S ι H x d) (q : postD X.K X.mg N W ι S H own σ Q (dOut (slD d lo hi) ρ M)) : RSl X.K x lo hi H Q :=
  out_go (R := fun Q => RSl X.K x lo hi H Q) c q fun g e k => by
    unfold slD at e
    split at e
    · cases e
      obtain ⟨a, xs, rfl, ha, ta⟩ := b.lstAt
      refine .inl ⟨a, xs, rfl, SqL.of ha, fun p hp => k _ _ _ (c.ok.alloc hp) ⟨c.ok.alloc_ext hp, fun i a h => ⟨c.ok.hown hp i a h, .inl h⟩⟩ (.lst ⟨.inr rfl, upd_same⟩ ((ta.cut lo hi).ext (c.ok.alloc_ext hp)))⟩
    · cases e
      obtain ⟨a, xs, rfl, ha, ta⟩ := b.scrAt
      refine .inl ⟨a, xs, rfl, ha, fun p hp => k _ _ _ (c.ok.alloc hp) ⟨c.ok.alloc_ext hp, fun i a h => ⟨c.ok.hown hp i a h, .inl h⟩⟩ (.lst ⟨.inr rfl, upd_same⟩ ((ta.cut lo hi).ext (c.ok.alloc_ext hp)))⟩
    · cases e
      obtain ⟨a, xs, rfl, ha, ta, da⟩ := b.tupAt
      refine .inr (.inl ⟨a, xs, rfl, ha, fun z => ?_, fun _ p hp => k _ _ _ (c.ok.alloc hp) ⟨c.ok.alloc_ext hp, fun i a h => ⟨c.ok.hown hp i a h, .inl h⟩⟩ (.tup (.inl ⟨.inr rfl, .inl upd_same⟩) ((ta.cut lo hi).ext (c.ok.alloc_ext hp)))⟩)
      rw [ta.length] at z
      refine k _ S H c.ok .refl ?_
      rw [cutD_all _ _ _ z]
      exact da
    · split at e
      · cases e
        exact .inr (.inr ⟨_, b.strAt, by assumption, k _ S H c.ok .refl (.str _)⟩)
      · cases e
    · cases e
theorem bn_int {x : V} {d : D} {S : AP} {ι : List Addr} {H : Hp} {i : Int} (b : Bn X.K X.mg S ι H x (.int i)) : x = .int i := b.intAt
theorem de_sl00 {e : Expr} {pos p2 : Pos} {a : TDE} (ha : DB X N W e a) : DE X N W (.Subscript e (.Slice none none none p2) pos) (dSl a none none) :=
  pe_imp (pe_slice sl_seq3 ha po_none po_none) fun σ H Q q => bind_b q fun x d ι S H1 own ρ M c b q => sl_go c b.bn q
theorem de_sl10 {e l : Expr} {pos p2 : Pos} {a tl : TDE} (ha : DB X N W e a) (hl : DB X N W l tl) : DE X N W (.Subscript e (.Slice (some l) none none p2) pos) (dSl a (some tl) none) :=
  pe_imp (pe_slice sl_seq3 ha (po_some hl) po_none) fun σ H Q q => by
    obtain ⟨ι, S, own, ρ, M, c, q⟩ := q
    refine ⟨ι, S, own, ρ, M, c, ?_⟩
    unfold dSl dBind at q
    cases e1 : a ρ M with
    | none => rw [e1] at q; exact q
    | some o1 =>
      rw [e1] at q
      cases o1 with
      | ex x ρ' M' => exact q
      | ok d ρ1 M1 =>
        intro x ι1 S1 H1 own1 c1 x1 bx
        refine ⟨ι1, S1, own1, ρ1, M1, c1, ?_⟩
        cases e2 : tl ρ1 M1 with
        | none => simp only [e2] at q; exact q
        | some o2 =>
          simp only [e2] at q
          cases o2 with
          | ex x' ρ' M' => exact XPost.later x1.ext q
          | ok d2 ρ2 M2 =>
            intro y ι2 S2 H2 own2 c2 x2 hy
            cases d2 with
            | int i => exact ⟨i, hy.bn.intAt, sl_go c2 (bx.ext x2) (postD.later c1.ok x2 (postD.later c.ok x1 q))⟩
            | _ => exact q.elim
theorem de_sl01 {e l : Expr} {pos p2 : Pos} {a tl : TDE} (ha : DB X N W e a) (hl : DB X N W l tl) : DE X N W (.Subscript e (.Slice none (some l) none p2) pos) (dSl a none (some tl)) :=
  pe_imp (pe_slice sl_seq3 ha po_none (po_some hl)) fun σ H Q q => by
    obtain ⟨ι, S, own, ρ, M, c, q⟩ := q
    refine ⟨ι, S, own, ρ, M, c, ?_⟩
    unfold dSl dBind at q
    cases e1 : a ρ M with
    | none => rw [e1] at q; exact q
    | some o1 =>
      rw [e1] at q
      cases o1 with
      | ex x ρ' M' => exact q
      | ok d ρ1 M1 =>
        intro x ι1 S1 H1 own1 c1 x1 bx
        refine ⟨ι1, S1, own1, ρ1, M1, c1, ?_⟩
        cases e2 : tl ρ1 M1 with
        | none => simp only [e2] at q; exact q
        | some o2 =>
          simp only [e2] at q
          cases o2 with
          | ex x' ρ' M' => exact XPost.later x1.ext q
          | ok d2 ρ2 M2 =>
            intro y ι2 S2 H2 own2 c2 x2 hy
            cases d2 with
            | int i => exact ⟨i, hy.bn.intAt, sl_go c2 (bx.ext x2) (postD.later c1.ok x2 (postD.later c.ok x1 q))⟩
            | _ => exact q.elim

/-! ### built-in functions of one value, of two -/
theorem CallR.or2 {f : Value} {r r' : List V → Hp → VK → Prop} (h : CallR X f r) (h' : CallR X f r') : CallR X f (fun xs H Q => r xs H Q ∨ r' xs H Q) :=
  fun pins s σ H xs us Q I rv q => q.elim (h pins s σ H xs us Q I rv) (h' pins s σ H xs us Q I rv)
theorem UnD.or {R R' : V → Hp → VK → Prop} {f g : D → Option D} (h : UnD X R f) (h' : UnD X R' g) : UnD X (fun x H Q => R x H Q ∨ R' x H Q) (fun d => (f d).orElse fun _ => g d) := by
  intro N ι M S H own x d r Q k b q k'
  have q : ((f d).orElse fun _ => g d) = some r := q
  cases h1 : f d with
  | some z =>
    rw [h1] at q
    have e0 : z = r := Option.some.inj q
    subst e0
    exact .inl (h N ι M S H own x d z Q k b h1 k')
  | none =>
    rw [h1] at q
    exact .inr (h' N ι M S H own x d r Q k b q k')
/-- a built-in function, by its name's value -/
structure C1 (X : Cx) (f : Value) (g : D → Option D) : Prop where
  ok : ∃ R : List V → Hp → VK → Prop, CallR X f R ∧ UnD X (fun x H Q => R [x] H Q) g
structure C2 (X : Cx) (f : Value) (g : D → D → Option D) : Prop where
  ok : ∃ R : List V → Hp → VK → Prop, CallR X f R ∧ BiD X (fun x y H Q => R [x, y] H Q) g
theorem C1.or {f : Value} {g g' : D → Option D} (h : C1 X f g) (h' : C1 X f g') : C1 X f (fun d => (g d).orElse fun _ => g' d) :=
  let ⟨_, a, b⟩ := h.ok
  let ⟨_, a', b'⟩ := h'.ok
  ⟨_, CallR.or2 a a', b.or b'⟩
theorem C2.or {f : Value} {g g' : D → D → Option D} (h : C2 X f g) (h' : C2 X f g') : C2 X f (fun d e => (g d e).orElse fun _ => g' d e) :=
  let ⟨_, a, b⟩ := h.ok
  let ⟨_, a', b'⟩ := h'.ok
  ⟨_, CallR.or2 a a', b.or b'⟩
theorem de_b1 {id : String} {x : Str} {g : D → Option D} {e : Expr} {p pos : Pos} {a : TDE} (h : C1 X (.builtin id) g) (hm : X.mg x = none) (ha : DB X N W e a) (hv : bootBuiltins x = some (.builtin id) := by decide +kernel) (hg : Gl X x := by rfl)
    (hn : x ≠ "__name__" := by decide) (hdb : (x == ("__debug__" : Str)) = false := by decide) (he : starEach [e] X.env = (false, eval e X.env) :: starEach [] X.env := by rfl) (hpl : (backTo pos (starEach [] X.env)).any (·.1) = false := by rfl) : DE X N W (.Call (.Name x p) [e] [] pos) (dUn g a) :=
  let ⟨_, hc, hU⟩ := h.ok
  pe_imp (pe_callB hc hg hm hv (pa_cons ha pa_nil he) hn hdb he hpl) fun σ H Q q => un_core hU σ H Q q
theorem de_t1 {T : String} {x : Str} {g : D → Option D} {e : Expr} {p pos : Pos} {a : TDE} (h : C1 X (.type T) g) (hm : X.mg x = none) (ha : DB X N W e a) (hv : bootBuiltins x = some (.type T) := by decide +kernel) (hg : Gl X x := by rfl)
    (hn : x ≠ "__name__" := by decide) (hdb : (x == ("__debug__" : Str)) = false := by decide) (he : starEach [e] X.env = (false, eval e X.env) :: starEach [] X.env := by rfl) (hpl : (backTo pos (starEach [] X.env)).any (·.1) = false := by rfl) : DE X N W (.Call (.Name x p) [e] [] pos) (dUn g a) :=
  let ⟨_, hc, hU⟩ := h.ok
  pe_imp (pe_callTy hc hg hm hv (pa_cons ha pa_nil he) hn hdb he hpl) fun σ H Q q => un_core hU σ H Q q
theorem de_b2 {id : String} {x : Str} {g : D → D → Option D} {e e2 : Expr} {p pos : Pos} {a b : TDE} (h : C2 X (.builtin id) g) (hm : X.mg x = none) (ha : DB X N W e a) (hb : DB X N W e2 b) (hv : bootBuiltins x = some (.builtin id) := by decide +kernel) (hg : Gl X x := by rfl)
    (hn : x ≠ "__name__" := by decide) (hdb : (x == ("__debug__" : Str)) = false := by decide) (he : starEach [e, e2] X.env = (false, eval e X.env) :: starEach [e2] X.env := by rfl) (he2 : starEach [e2] X.env = (false, eval e2 X.env) :: starEach [] X.env := by rfl) (hpl : (backTo pos (starEach [e2] X.env)).any (·.1) = false := by rfl) : DE X N W (.Call (.Name x p) [e, e2] [] pos) (dBin g a b) :=
  let ⟨_, hc, hU⟩ := h.ok
  pe_imp (pe_callB hc hg hm hv (pa_cons ha (pa_cons hb pa_nil he2) he) hn hdb he hpl) fun σ H Q q => bin_core hU σ H Q q

def lenD : D → Option D
  | .lst ds => some (.int ds.length)
  | .tup ds => some (.int ds.length)
  | .str s => if s.length ≤ sizeLine then some (.int s.length) else none
  | _ => none
def lenM : D → Option D
  | .dct ks _ => some (.int ks.length)
  | _ => none
theorem c_len0 : C1 X (.builtin "len") lenD := ⟨_, call_len, fun N ι M S H own x d r Q k b q k' => by
  unfold lenD at q
  split at q
  · cases q
    obtain ⟨a, xs, rfl, ha, ta⟩ := b.lstAt
    exact ⟨_, _, rfl, .inl ⟨xs, SqL.of ha, ta.length.symm⟩, k' _ S H k .refl (.int _)⟩
  · cases q
    obtain ⟨a, xs, rfl, ha, ta, _⟩ := b.tupAt
    exact ⟨_, _, rfl, .inr ⟨xs, ha, ta.length.symm⟩, k' _ S H k .refl (.int _)⟩
  · split at q
    · cases q
      cases b.strAt
      exact ⟨_, _, rfl, ⟨by assumption, rfl⟩, k' _ S H k .refl (.int _)⟩
    · cases q
  · cases q⟩
theorem Bn.dctAt {K : PySem.W.Frag} {mg : Str → Option Value} {S : AP} {ι : List Addr} {H : Hp} {v : V} {ks : List Key} {ds : List D} (b : Bn K mg S ι H v (.dct ks ds)) : ∃ a xs, v = .ref a ∧ H a = some (.dK (ks.zip xs)) ∧ xs.length = ks.length ∧ Dns K mg S ι H xs ds := by
  cases b with
  | dn h =>
    cases h with
    | dct s h l t => exact ⟨_, _, rfl, h, l, t⟩
  | dct h l t => exact ⟨_, _, rfl, h, l, t⟩
theorem c_lenM : C1 X (.builtin "len") lenM := ⟨_, call_lenD, fun N ι M S H own x d r Q k b q k' => by
  cases d with
  | dct ks ds =>
    cases q
    obtain ⟨a, xs, rfl, ha, hl, ta⟩ := b.dctAt
    refine ⟨_, _, rfl, ha, ?_⟩
    rw [List.length_zip, hl, Nat.min_self]
    exact k' _ S H k .refl (.int _)
  | _ => cases q⟩
def lenA : D → Option D := fun d => (lenD d).orElse fun _ => lenM d
theorem c_len : C1 X (.builtin "len") lenA := c_len0.or c_lenM
def absD : D → Option D
  | .int i => some (.int (if i < 0 then -i else i))
  | _ => none
theorem c_abs : C1 X (.builtin "abs") absD := ⟨_, call_abs, fun N ι M S H own x d r Q k b q k' => by
  unfold absD at q
  split at q
  · cases q
    exact ⟨_, by rw [b.intAt], k' _ S H k .refl (.int _)⟩
  · cases q⟩
def intD : D → Option D
  | .int i => some (.int i)
  | .bl b => some (.int (if b then 1 else 0))
  | _ => none
theorem c_int0 : C1 X (.type "int") intD := ⟨_, call_int1, fun N ι M S H own x d r Q k b q k' => by
  unfold intD at q
  split at q
  · cases q
    exact .inl ⟨_, by rw [b.intAt], k' _ S H k .refl (.int _)⟩
  · cases q
    exact .inr ⟨_, by rw [b.blAt], k' _ S H k .refl (.int _)⟩
  · cases q⟩
def intS : D → Option D
  | .str s => if s.length ≤ 640 then (PySem.intText? s).map .int else none
  | _ => none
theorem c_intS : C1 X (.type "int") intS := ⟨_, call_int_str, fun N ι M S H own x d r Q k b q k' => by
  unfold intS at q
  split at q
  · split at q
    · rename_i s hz
      cases e : PySem.intText? s with
      | none => rw [e] at q; cases q
      | some n =>
        rw [e] at q
        cases q
        exact ⟨s, n, by rw [b.strAt], e, hz, k' _ S H k .refl (.int _)⟩
    · cases q
  · cases q⟩
def intA : D → Option D := fun d => (intD d).orElse fun _ => intS d
theorem c_int : C1 X (.type "int") intA := c_int0.or c_intS
def strI : D → Option D
  | .int i => if i.natAbs.log2 < 1920 then some (.str (toString i)) else none
  | _ => none
def strS : D → Option D
  | .str s => some (.str s)
  | _ => none
theorem c_strI : C1 X (.type "str") strI := ⟨_, call_str_int, fun N ι M S H own x d r Q k b q k' => by
  unfold strI at q
  split at q
  · split at q
    · cases q
      exact ⟨_, by rw [b.intAt], by assumption, k' _ S H k .refl (.str _)⟩
    · cases q
  · cases q⟩
theorem c_strS : C1 X (.type "str") strS := ⟨_, SkE.call_str_str, fun N ι M S H own x d r Q k b q k' => by
  unfold strS at q
  split at q
  · cases q
    exact ⟨_, by rw [b.strAt], k' _ S H k .refl (.str _)⟩
  · cases q⟩
def strA : D → Option D := fun d => (strI d).orElse fun _ => strS d
theorem c_str : C1 X (.type "str") strA := c_strI.or c_strS
def boolD : D → Option D
  | .int i => some (.bl (i != 0))
  | .bl b => some (.bl b)
  | _ => none
theorem c_bool : C1 X (.type "bool") boolD := ⟨_, call_bool1, fun N ι M S H own x d r Q k b q k' => by
  unfold boolD at q
  split at q
  · cases q
    exact .inl ⟨_, by rw [b.intAt], k' _ S H k .refl (.bl _)⟩
  · cases q
    exact .inr ⟨_, by rw [b.blAt], k' _ S H k .refl (.bl _)⟩
  · cases q⟩
def listD : D → Option D
  | .lst ds => some (.lst ds)
  | .tup ds => some (.lst ds)
  | _ => none
theorem c_list : C1 X (.type "list") listD := ⟨_, call_list_of, fun N ι M S H own x d r Q k b q k' => by
  unfold listD at q
  split at q
  · cases q
    obtain ⟨a, xs, rfl, ha, ta⟩ := b.lstAt
    exact ⟨_, _, rfl, .inl (SqL.of ha), fun p hp => k' _ _ _ (k.alloc hp) ⟨k.alloc_ext hp, fun i a h => ⟨k.hown hp i a h, .inl h⟩⟩ (.lst ⟨.inr rfl, upd_same⟩ (ta.ext (k.alloc_ext hp)))⟩
  · cases q
    obtain ⟨a, xs, rfl, ha, ta, _⟩ := b.tupAt
    exact ⟨_, _, rfl, .inr ha, fun p hp => k' _ _ _ (k.alloc hp) ⟨k.alloc_ext hp, fun i a h => ⟨k.hown hp i a h, .inl h⟩⟩ (.lst ⟨.inr rfl, upd_same⟩ (ta.ext (k.alloc_ext hp)))⟩
  · cases q⟩
def tupleD : D → Option D
  | .lst ds => some (.tup ds)
  | .tup ds => some (.tup ds)
  | _ => none
theorem c_tuple : C1 X (.type "tuple") tupleD := ⟨_, call_tuple_of, fun N ι M S H own x d r Q k b q k' => by
  unfold tupleD at q
  split at q
  · cases q
    obtain ⟨a, xs, rfl, ha, ta⟩ := b.lstAt
    exact ⟨_, _, rfl, .inl ⟨SqL.of ha, fun p hp => k' _ _ _ (k.alloc hp) ⟨k.alloc_ext hp, fun i a h => ⟨k.hown hp i a h, .inl h⟩⟩ (.tup (.inl ⟨.inr rfl, .inl upd_same⟩) (ta.ext (k.alloc_ext hp)))⟩⟩
  · cases q
    obtain ⟨a, xs, rfl, ha, ta, da⟩ := b.tupAt
    exact ⟨_, _, rfl, .inr ⟨ha, k' _ S H k .refl da⟩⟩
  · cases q⟩
def minI : Int → Int → Option D := fun i j => some (.int (if j < i then j else i))
def maxI : Int → Int → Option D := fun i j => some (.int (if j > i then j else i))
theorem c_min2 (hc : X.calm = true) : C2 X (.builtin "min") (II minI) := ⟨_, call_min2 hc, fun N ι M S H own x y d e r Q k b1 b2 q k' => by
  obtain ⟨i, j, rfl, rfl, q⟩ := II.get q
  cases q
  exact ⟨i, j, by rw [b1.intAt, b2.intAt], k' _ S H k .refl (.int _)⟩⟩
theorem c_max2 (hc : X.calm = true) : C2 X (.builtin "max") (II maxI) := ⟨_, call_max2 hc, fun N ι M S H own x y d e r Q k b1 b2 q k' => by
  obtain ⟨i, j, rfl, rfl, q⟩ := II.get q
  cases q
  exact ⟨i, j, by rw [b1.intAt, b2.intAt], k' _ S H k .refl (.int _)⟩⟩
def gcdI : Int → Int → Option D := fun i j => some (.int ((Nat.gcd i.natAbs j.natAbs : Nat) : Int))
theorem c_gcd : C2 X (.builtin "math.gcd") (II gcdI) := ⟨_, cr_gcd, fun N ι M S H own x y d e r Q k b1 b2 q k' => by
  obtain ⟨i, j, rfl, rfl, q⟩ := II.get q
  cases q
  exact ⟨i, j, by rw [b1.intAt, b2.intAt], k' _ S H k .refl (.int _)⟩⟩
end
end DL
set_option maxHeartbeats 2000000
namespace DL
open PySem PySem.Spec PyProof.Rows L2

section
variable {K : PySem.W.Frag} {mg : Str → Option Value} {N : En} {ι ι' : List Addr} {M M' : MS} {S S' : AP} {H H' : Hp} {own own' : OwnM} {σ : L2.St} {ρ : DS}
/-! ### an object of one's own -/
theorem Ok.track (k : Ok K mg N ι M S H own) {p : Addr} {o : HO} (i : Nat) (hp : H p = none) (ho : NTbl o := by exact fun _ z => nomatch z) : Ok K mg N ι M S (upd H p o) (setO own i (some p)) where
  len := k.len
  pre := k.pre
  fresh := k.fresh
  objs := fun j a m h1 h2 => (k.objs j a m h1 h2).ext ⟨fun _ h => h, fun _ _ h => h, fun a u _ h => by rw [upd_ne (ne_of_none h hp)]; exact h⟩ (upd_ne fun z => (k.iout a (List.mem_of_getElem? h1)).2 (by rw [z]; exact hp))
  nd := k.nd
  iout := fun a ha => ⟨(k.iout a ha).1, by rw [upd_ne fun z => (k.iout a ha).2 (by rw [z]; exact hp)]; exact (k.iout a ha).2⟩
  oout := fun j a e => by
    unfold setO at e
    split at e
    · cases e
      exact ⟨fun s => (by obtain ⟨u, h, _⟩ := k.sat p s; rw [hp] at h; cases h), ⟨o, upd_same, ho⟩, k.free hp, fun z => (k.iout p z).2 hp⟩
    · have q := k.oout j a e
      refine ⟨q.1, ?_, q.2.2⟩
      rw [upd_ne fun z => k.ohn e (by rw [z]; exact hp)]
      exact q.2.1
  oinj := fun i' j' a e1 e2 => by
    unfold setO at e1 e2
    split at e1
    · split at e2
      · rename_i h1 h2; rw [h1, h2]
      · cases e1; exact absurd hp (k.ohn e2)
    · split at e2
      · cases e2; exact absurd hp (k.ohn e1)
      · exact k.oinj i' j' a e1 e2
  ofin := setO_fin k.ofin
  sub := k.sub
  new := k.new
  keep := fun a u h1 h2 h3 => by
    have q := k.keep a u h1 h2 h3
    rw [upd_ne (ne_of_none q hp)]; exact q
  trk := fun a h => by
    by_cases z : a = p
    · rw [z, upd_same]; exact fun q => nomatch q
    · rw [upd_ne z]; exact k.trk a h
  sat := fun a h => by
    obtain ⟨u, h1, h2⟩ := k.sat a h
    rw [upd_ne (ne_of_none h1 hp)]
    exact ⟨u, h1, h2⟩
theorem upd_ext (hp : H p = none) {o : HO} : Ext S ι H S ι (upd H p o) := ⟨fun _ h => h, fun _ _ h => h, fun a u _ h => by rw [upd_ne (ne_of_none h hp)]; exact h⟩
theorem Ok.neOwn (k : Ok K mg N ι M S H own) {i : Nat} {a b : Addr} (e : own i = some a) (s : S b) : b ≠ a := fun z => by
  rw [z] at s
  exact (k.oout i a e).1 s
theorem Ok.neOwnI (k : Ok K mg N ι M S H own) {i : Nat} {a b : Addr} (e : own i = some a) (s : b ∈ ι) : b ≠ a := fun z => by
  rw [z] at s
  exact (k.oout i a e).2.2.2 s
theorem Ok.writeOwn (k : Ok K mg N ι M S H own) {i : Nat} {a : Addr} {o : HO} (e : own i = some a) (ho : NTbl o := by exact fun _ z => nomatch z) : Ok K mg N ι M S (upd H a o) own where
  len := k.len
  pre := k.pre
  fresh := k.fresh
  objs := fun j b m h1 h2 => (k.objs j b m h1 h2).ext ⟨fun _ h => h, fun _ _ h => h, fun c u s h => by rw [upd_ne (k.neOwn e s)]; exact h⟩ (upd_ne (k.neOwnI e (List.mem_of_getElem? h1)))
  nd := k.nd
  iout := fun b hb => ⟨(k.iout b hb).1, by rw [upd_ne (k.neOwnI e hb)]; exact (k.iout b hb).2⟩
  oout := fun j b q => by
    have r := k.oout j b q
    refine ⟨r.1, ?_, r.2.2⟩
    by_cases z : b = a
    · rw [z, upd_same]; exact ⟨o, rfl, ho⟩
    · rw [upd_ne z]; exact r.2.1
  oinj := k.oinj
  ofin := k.ofin
  sub := k.sub
  new := k.new
  keep := fun b u h1 h2 h3 => by
    rw [upd_ne fun z => by rw [z, (k.oout i a e).2.2.1] at h1; cases h1]
    exact k.keep b u h1 h2 h3
  trk := fun b h => by
    by_cases z : b = a
    · rw [z, upd_same]; exact fun q => nomatch q
    · rw [upd_ne z]; exact k.trk b h
  sat := fun b h => by
    rw [upd_ne (k.neOwn e h)]
    exact k.sat b h
theorem Ok.writeOwn_ext (k : Ok K mg N ι M S H own) {i : Nat} {a : Addr} {o : HO} (e : own i = some a) : Ext S ι H S ι (upd H a o) :=
  ⟨fun _ h => h, fun _ _ h => h, fun b u s h => by rw [upd_ne (k.neOwn e s)]; exact h⟩
/-- a fresh list comes to a slot -/
theorem Cur.newOwn (c : Cur K mg N ι S H own σ ρ M) {i : Nat} {p : Addr} {xs : List V} {ds : List D} (hp : H p = none) (hi0 : i < ρ.length) (hd : Dns K mg S ι H xs ds) : Cur K mg N ι S (upd H p (.lst xs)) (setO own i (some p)) (σ.set i (some (.ref p))) (ρ.set i (some (.own ds))) M := by
  refine ⟨c.ok.track i hp, ⟨by simpa using c.env.len, by simpa using c.env.big, fun j h1 h2 => (by
    rw [List.length_set] at h1
    unfold setO
    rw [if_neg (by omega)]
    exact c.env.gap j h1 h2), fun j x q => ?_, fun j q => ?_⟩⟩
  · by_cases hj : j = i
    · subst hj
      have hi : j < ρ.length := by
        have := (List.getElem?_eq_some_iff.mp q).1
        simpa using this
      rw [List.getElem?_set_self hi] at q
      cases q
      refine ⟨_, List.getElem?_set_self (by rw [c.env.len]; exact hi), p, xs, rfl, ?_, upd_same, hd.ext (upd_ext hp)⟩
      unfold setO; rw [if_pos rfl]
    · rw [List.getElem?_set_ne (Ne.symm hj)] at q ⊢
      obtain ⟨w, h1, h2⟩ := c.env.at_ j x q
      refine ⟨w, h1, ?_⟩
      unfold setO; rw [if_neg hj]
      exact h2.ext (upd_ext hp) fun a e => c.ok.hown hp j a e
  · by_cases hj : j = i
    · subst hj
      have hi : j < ρ.length := by
        have := (List.getElem?_eq_some_iff.mp q).1
        simpa using this
      rw [List.getElem?_set_self hi] at q
      cases q
    · unfold setO; rw [if_neg hj]
      rw [List.getElem?_set_ne (Ne.symm hj)] at q
      exact c.env.nown j q
/-- .. is changed -/
theorem Cur.setOwn (c : Cur K mg N ι S H own σ ρ M) {i : Nat} {a : Addr} {xs : List V} {ds es : List D} (q0 : ρ[i]? = some (some (.own ds))) (ha : σ[i]? = some (some (.ref a))) (hd : Dns K mg S ι H xs es) :
    Cur K mg N ι S (upd H a (.lst xs)) own σ (ρ.set i (some (.own es))) M := by
  obtain ⟨v, h1, b, ys, rfl, h3, h4, h5⟩ := c.env.at_ i _ q0
  rw [ha] at h1
  cases h1
  refine ⟨c.ok.writeOwn h3, ⟨by simpa using c.env.len, by simpa using c.env.big, fun j h1 h2 => c.env.gap j (by simpa using h1) h2, fun j x q => ?_, fun j q => ?_⟩⟩
  · by_cases hj : j = i
    · subst hj
      rw [getElem?_set_eq' q0] at q
      cases q
      exact ⟨_, ha, a, xs, rfl, h3, upd_same, hd.ext (c.ok.writeOwn_ext h3)⟩
    · rw [List.getElem?_set_ne (Ne.symm hj)] at q
      obtain ⟨w, g1, g2⟩ := c.env.at_ j x q
      refine ⟨w, g1, g2.ext (c.ok.writeOwn_ext h3) fun d e => upd_ne fun z => hj (c.ok.oinj j i a (z ▸ e) h3)⟩
  · by_cases hj : j = i
    · subst hj
      rw [getElem?_set_eq' q0] at q
      cases q
    · rw [List.getElem?_set_ne (Ne.symm hj)] at q
      exact c.env.nown j q
end
section
variable {X : Cx} {N : En} {W : WX}
/-- x = [..], x's own from here on -/
def sNew (i : Nat) (a : TDA) : TDS := fun ρ M => match a ρ M with
  | some (.ok ds ρ1 M1) => if ds.length ≤ sizeLine ∧ i < ρ1.length then some (.nx (ρ1.set i (some (.own ds))) M1) else none
  | some (.ex x ρ1 M1) => some (.ex x ρ1 M1)
  | none => none
theorem ds_new {st : Stmt} {i : Nat} {a : TDA} (h : PS X st (tAsg (tLst (tA X.K X.mg N W a)) (gName i))) : DS1 X N W st (sNew i a) := ps_imp h fun E σ H q => by
  obtain ⟨ι, S, own, ρ, M, c, q⟩ := q
  refine ⟨ι, S, own, ρ, M, c, ?_⟩
  unfold sNew at q
  cases e1 : a ρ M with
  | none => rw [e1] at q; exact q
  | some o1 =>
    rw [e1] at q
    cases o1 with
    | ex x ρ' M' => exact q σ
    | ok ds ρ1 M1 =>
      simp only at q
      split at q
      · intro vs ι1 S1 H1 own1 c1 x1 dn
        rename_i hq
        refine ⟨by rw [dn.length]; exact hq.1, fun p hp => ?_⟩
        exact q _ ι1 S1 _ _ (c1.newOwn hp hq.2 dn) (x1.ext.trans (upd_ext hp))
      · exact q.elim
/-- x.append(e), x's own -/
def sApp (i : Nat) (a : TDE) : TDS := fun ρ M => match ρ[i]? with
  | some (some (.own _)) => match a ρ M with
    | some (.ok d ρ1 M1) => match ρ1[i]? with
      | some (some (.own ds)) => if ds.length < sizeLine then some (.nx (ρ1.set i (some (.own (ds ++ [d])))) M1) else none
      | _ => none
    | some (.ex x ρ1 M1) => some (.ex x ρ1 M1)
    | none => none
  | _ => none
theorem ds_app {x : Str} {i : Nat} {ex e : Expr} {apos cpos pos : Pos} {a : TDE} (hx : PE X ex (tVar i)) (ha : DE X N W e a)
    (hbase : attributeBase ex "append" X.env (eval ex X.env) = eval ex X.env := by rfl)
    (hfew : ((backTo cpos (starEach [e] X.env)).all (fun x => !x.1) && (backToKw cpos (keywordEach [] X.env)).all (fun x => x.1.isSome)
      && decide ([e].length + ([] : List Keyword).length + (if ([] : List Keyword).isEmpty then 0 else 1) < 30)) = true := by rfl)
    (hline : (apos.endLine == cpos.line) = true := by rfl) (hs : starEach [e] X.env = (false, eval e X.env) :: starEach [] X.env := by rfl) (hplain : (backTo cpos (starEach [] X.env)).any (·.1) = false := by rfl)
    (hsw : swapsWith (.Call (.Attribute ex "append" apos) [e] [] cpos) none pos.line X.env = pure false := by rfl) :
    DS1 X N W (.Expr (.Call (.Attribute ex "append" apos) [e] [] cpos) pos) (sApp i a) :=
  ps_imp (ps_expr (pe_bm PySem.F.plainAttrs_list PySem.F.slot_list_append PySem.F.type_list_append mt_append hx (pa_cons ha pa_nil hs) hbase hfew hline hs hplain) hsw) fun E σ H q => by
    obtain ⟨ι, S, own, ρ, M, c, q⟩ := q
    unfold sApp at q
    cases e0 : ρ[i]? with
    | none => rw [e0] at q; exact q.elim
    | some o =>
      rw [e0] at q
      cases o with
      | none => exact q.elim
      | some sv =>
        cases sv with
        | own ds0 =>
          obtain ⟨v, h1, b, ys, rfl, h3, h4, h5⟩ := c.env.at_ i _ e0
          refine ⟨_, h1, .inl ⟨rfl, ys, SqL.of h4⟩, ι, S, own, ρ, M, c, ?_⟩
          simp only at q
          cases e1 : a ρ M with
          | none => rw [e1] at q; exact q
          | some o1 =>
            rw [e1] at q
            cases o1 with
            | ex x ρ' M' => exact q σ
            | ok d ρ1 M1 =>
              intro y ι1 S1 H1 own1 c1 x1 dn
              simp only at q
              cases e2 : ρ1[i]? with
              | none => rw [e2] at q; exact q.elim
              | some o2 =>
                rw [e2] at q
                cases o2 with
                | none => exact q.elim
                | some sv2 =>
                  cases sv2 with
                  | own ds =>
                    simp only at q
                    split at q
                    · obtain ⟨v', g1, b', zs, e3, g3, g4, g5⟩ := c1.env.at_ i _ e2
                      rw [h1] at g1
                      cases g1
                      cases e3
                      refine ⟨b, zs, y, rfl, rfl, g4, by rw [g5.length]; assumption, ?_⟩
                      have dd : Dns X.K X.mg S1 ι1 H1 (zs ++ [y]) (ds ++ [d]) := g5.append (.cons dn .nil)
                      exact q σ ι1 S1 _ own1 (c1.setOwn e2 h1 dd) (x1.ext.trans (c1.ok.writeOwn_ext g3))
                    · exact q.elim
                  | _ => exact q.elim
        | _ => exact q.elim
/-- what is taken as data from here on -/
def sFreeze (i : Nat) (t : TDS) : TDS := fun ρ M => match ρ[i]? with
  | some (some (.own ds)) => t (ρ.set i (some (.t (.lst ds)))) M
  | some (some (.owd ks ds)) => t (ρ.set i (some (.t (.dct ks ds)))) M
  | _ => t ρ M
theorem freeze_post {i : Nat} {t : TDS} {ι : List Addr} {S : AP} {H : Hp} {own : OwnM} {σ : L2.St} {ρ : DS} {M : MS} {E : Ends} (c : Cur X.K X.mg N ι S H own σ ρ M) (q : postS X.K X.mg N W ι S H E (sFreeze i t ρ M)) : tS X.K X.mg N W t E σ H := by
  unfold sFreeze at q
  split at q
  · rename_i ds e
    obtain ⟨v, a, ho, h1, h2, h3, h4⟩ := c.freeze e
    exact ⟨ι, _, _, _, M, h3, postS.later h4 q⟩
  · rename_i ks ds e
    obtain ⟨v, a, ho, h1, h2, h3, h4⟩ := c.freezeD e
    exact ⟨ι, _, _, _, M, h3, postS.later h4 q⟩
  · exact ⟨ι, S, own, ρ, M, c, q⟩

/-! ### targets -/
/-- d comes to a target -/
abbrev TDG := D → DS → Option DS
def DG (X : Cx) (N : En) (tg : Expr) (b : TDG) : Prop := ∃ g : TG, PG X tg g ∧ ∀ (ι : List Addr) (M : MS) (S : AP) (H : Hp) (own : OwnM) (σ : L2.St) (ρ ρ' : DS) (v : V) (d : D) (Q : L2.St → Hp → Prop), Cur X.K X.mg N ι S H own σ ρ M → Dn X.K X.mg S ι H v d → b d ρ = some ρ' →
  (∀ σ' own', Cur X.K X.mg N ι S H own' σ' ρ' M → Q σ' H) → g v σ H Q
abbrev TDGs := List D → DS → Option DS
def DGs (X : Cx) (N : En) (ts : List Expr) (b : TDGs) : Prop := ∃ g : TGs, PGs X ts g ∧ ∀ (ι : List Addr) (M : MS) (S : AP) (H : Hp) (own : OwnM) (σ : L2.St) (ρ ρ' : DS) (vs : List V) (ds : List D) (Q : L2.St → Hp → Prop), Cur X.K X.mg N ι S H own σ ρ M → Dns X.K X.mg S ι H vs ds → b ds ρ = some ρ' →
  (∀ σ' own', Cur X.K X.mg N ι S H own' σ' ρ' M → Q σ' H) → g vs σ H Q
def bName (i : Nat) : TDG := fun d ρ => some (ρ.set i (some (.t d)))
theorem dg_name {tg : Expr} {i : Nat} (h : PG X tg (gName i)) : DG X N tg (bName i) := ⟨_, h, fun ι M S H own σ ρ ρ' v d Q c dn e k => by
  cases e
  exact k _ _ (c.store dn)⟩
def bNil : TDGs := fun ds ρ => match ds with
  | [] => some ρ
  | _ => none
def bCons (a : TDG) (r : TDGs) : TDGs := fun ds ρ => match ds with
  | d :: ds => match a d ρ with
    | some ρ1 => r ds ρ1
    | none => none
  | [] => none
theorem dgs_nil : DGs X N [] bNil := ⟨_, pgs_nil, fun ι M S H own σ ρ ρ' vs ds Q c dn e k => by
  cases dn with
  | nil => cases e; exact ⟨rfl, k _ _ c⟩
  | cons _ _ => cases e⟩
theorem dgs_cons {e : Expr} {es : List Expr} {a : TDG} {r : TDGs} (h1 : DG X N e a) (h2 : DGs X N es r) (hs : (assignEach (e :: es) X.env).map (·.2) = assign e X.env :: (assignEach es X.env).map (·.2) := by rfl) : DGs X N (e :: es) (bCons a r) := by
  obtain ⟨g1, p1, k1⟩ := h1
  obtain ⟨g2, p2, k2⟩ := h2
  refine ⟨_, pgs_cons p1 p2 hs, fun ι M S H own σ ρ ρ' vs ds Q c dn e k => ?_⟩
  cases dn with
  | nil => cases e
  | @cons v vs d ds h t =>
    unfold bCons at e
    cases e1 : a d ρ with
    | none => simp only [e1] at e; cases e
    | some ρ1 =>
      simp only [e1] at e
      refine ⟨v, vs, rfl, k1 ι M S H own σ ρ ρ1 v d _ c h e1 fun σ1 own1 c1 => ?_⟩
      exact k2 ι M S H own1 σ1 ρ1 ρ' vs ds Q c1 t e k
def bTup (n : Nat) (r : TDGs) : TDG := fun d ρ => match d with
  | .tup ds => if ds.length = n then r ds ρ else none
  | _ => none
theorem dg_tup {es : List Expr} {k : Nat} {pos : Pos} {r : TDGs} {n : Nat} (hc : X.calm = true) (h : DGs X N es r) (hn : (assignEach es X.env).length = n := by rfl) (hst : (assignEach es X.env).findIdx? (·.1) = none := by rfl) : DG X N (.Tuple es k pos) (bTup n r) := by
  obtain ⟨g, p, kk⟩ := h
  refine ⟨_, pg_tup hc p hn hst, fun ι M S H own σ ρ ρ' v d Q c dn e k => ?_⟩
  cases d with
  | tup ds =>
    unfold bTup at e
    simp only at e
    split at e
    · obtain ⟨a, xs, rfl, ha, ta, _⟩ := (Bn.dn dn).tupAt
      exact ⟨a, xs, rfl, ha, by rw [ta.length]; assumption, kk ι M S H own σ ρ ρ' xs ds Q c ta e k⟩
    · cases e
  | _ => cases e
/-- target = e -/
def sAsg (a : TDE) (b : TDG) : TDS := sBind a fun d ρ M => match b d ρ with
  | some ρ' => some (.nx ρ' M)
  | none => none
theorem ds_asg {tg e : Expr} {pos : Pos} {a : TDE} {b : TDG} (ha : DE X N W e a) (hg : DG X N tg b) (hs : swapsWithSole [tg] e pos.line X.env = pure false := by rfl) (hw : swappedStores [tg] e X.env = pure none := by rfl)
    (h1 : (assignEach [tg] X.env).map (·.2) = [assign tg X.env] := by rfl) : DS1 X N W (.Assign [tg] e pos) (sAsg a b) := by
  obtain ⟨g, p, k⟩ := hg
  refine ps_imp (ps_asg ha p hs hw h1) fun E σ H q => sbind_d q fun x d ι S H1 own ρ M c dn q => ?_
  cases e1 : b d ρ with
  | none => simp only [e1] at q; exact q.elim
  | some ρ' =>
    simp only [e1] at q
    exact k ι M S H1 own σ ρ ρ' x d _ c dn e1 fun σ' own' c' => q σ' ι S H1 own' c' .refl
/-- a, b = e1, e2, plain names -/
def sPar (i j : Nat) (a : TDA) : TDS := fun ρ M => match a ρ M with
  | some (.ok [d, e] ρ1 M1) => some (.nx ((ρ1.set i (some (.t d))).set j (some (.t e))) M1)
  | some (.ok _ _ _) => none
  | some (.ex x ρ1 M1) => some (.ex x ρ1 M1)
  | none => none
theorem ds_par {st : Stmt} {i j : Nat} {a : TDA} (h : PS X st (tPar i j (tA X.K X.mg N W a))) : DS1 X N W st (sPar i j a) := ps_imp h fun E σ H q => by
  obtain ⟨ι, S, own, ρ, M, c, q⟩ := q
  refine ⟨ι, S, own, ρ, M, c, ?_⟩
  unfold sPar at q
  cases e1 : a ρ M with
  | none => rw [e1] at q; exact q
  | some o1 =>
    rw [e1] at q
    cases o1 with
    | ex x ρ' M' => exact q σ
    | ok ds ρ1 M1 =>
      intro vs ι1 S1 H1 own1 c1 x1 dn
      cases dn with
      | nil => exact q.elim
      | cons h1 t =>
        cases t with
        | nil => exact q.elim
        | cons h2 t =>
          cases t with
          | nil => exact ⟨_, _, rfl, q _ ι1 S1 H1 _ ((c1.store h1).store h2) x1.ext⟩
          | cons h3 t => exact q.elim
/-- a, b = [], [] -/
def sPar0 (i j : Nat) : TDS := fun ρ M => if i < ρ.length ∧ j < ρ.length then some (.nx ((ρ.set i (some (.own []))).set j (some (.own []))) M) else none
theorem ds_par0 {st : Stmt} {i j : Nat} (h : PS X st (tPar i j (tCons (tLst tNil) (tCons (tLst tNil) tNil)))) : DS1 X N W st (sPar0 i j) := ps_imp h fun E σ H q => by
  obtain ⟨ι, S, own, ρ, M, c, q⟩ := q
  unfold sPar0 at q
  by_cases hq : i < ρ.length ∧ j < ρ.length
  case neg => rw [if_neg hq] at q; exact q.elim
  rw [if_pos hq] at q
  refine ⟨Nat.zero_le _, fun p hp => ⟨Nat.zero_le _, fun p2 hp2 => ⟨_, _, rfl, ?_⟩⟩⟩
  have c1 := c.newOwn (i := i) hp hq.1 (.nil)
  have c2 := c1.newOwn (i := j) hp2 (by simpa using hq.2) (.nil)
  exact q _ ι S _ _ c2 ((upd_ext hp).trans (upd_ext hp2))
end
end DL
set_option maxHeartbeats 2000000
namespace DL
open PySem PySem.Spec PyProof.Rows L2

/-! ### what is walked -/
/-- J gives the items ds, whatever the heap becomes, as long as the data stands -/
structure ItOk (K : PySem.W.Frag) (mg : Str → Option Value) (J : It) (ds : List D) (S : AP) (ι : List Addr) (H : Hp) : Prop where
  go : ∀ i S2 ι2 H2, i < ds.length → Ext S ι H S2 ι2 H2 → J.go i H2
  stop : ∀ S2 ι2 H2, Ext S ι H S2 ι2 H2 → J.stop ds.length H2
  yld : ∀ i S2 ι2 H2 x H3, i < ds.length → Ext S ι H S2 ι2 H2 → J.yld i H2 x H3 → ∃ d, ds[i]? = some d ∧ ((H3 = H2 ∧ Dn K mg S2 ι2 H2 x d) ∨
    ∃ T xs es, x = .ref T ∧ H2 T = none ∧ H3 = upd H2 T (.tup xs) ∧ d = .tup es ∧ Dns K mg S2 ι2 H2 xs es)
section
variable {X : Cx} {N : En} {W : WX}
def postI (K : PySem.W.Frag) (mg : Str → Option Value) (N : En) (W : WX) (ι : List Addr) (S : AP) (H : Hp) (own : OwnM) (σ : L2.St) (R : It → Hp → Prop) : Option AO → Prop
  | some (.ok ds ρ' M') => ∀ J ι' S' H' own', Cur K mg N ι' S' H' own' σ ρ' M' → ExtE S ι H own S' ι' H' own' → ItOk K mg J ds S' ι' H' → R J H'
  | some (.ex x ρ' M') => XPost K mg N S ι H W σ x ρ' M'
  | none => False
def tI (K : PySem.W.Frag) (mg : Str → Option Value) (N : En) (W : WX) (t : TDA) : TI := fun σ H R => ∃ ι S own ρ M, Cur K mg N ι S H own σ ρ M ∧ postI K mg N W ι S H own σ R (t ρ M)
abbrev DI (X : Cx) (N : En) (W : WX) (tg e : Expr) (t : TDA) : Prop := PI X tg e (tI X.K X.mg N W t)
theorem pi_imp {tg e : Expr} {t t' : TI} (h : PI X tg e t) (i : ∀ σ H Q, t' σ H Q → t σ H Q) : PI X tg e t' := ⟨fun pins s σ H R I q => h.run pins s σ H R I (i σ H R q)⟩
/-- the items of a list, a tuple, a text -/
def itemsD : D → Option (List D)
  | .lst ds => some ds
  | .tup ds => some ds
  | _ => none
def iBind (a : TDE) (k : D → Option (List D)) : TDA := fun ρ M => match a ρ M with
  | some (.ok d ρ1 M1) => match k d with
    | some ds => some (.ok ds ρ1 M1)
    | none => none
  | some (.ex x ρ1 M1) => some (.ex x ρ1 M1)
  | none => none
theorem itOk_of {J : It} {n : Nat} {G : Hp → Prop} {Y : Nat → Hp → V → Hp → Prop} (w : Walk J n G Y) {ds : List D} {K : PySem.W.Frag} {mg : Str → Option Value} {S : AP} {ι : List Addr} {H : Hp} (hn : n = ds.length) (hG : ∀ S2 ι2 H2, Ext S ι H S2 ι2 H2 → G H2)
    (hY : ∀ i S2 ι2 H2 x H3, i < ds.length → Ext S ι H S2 ι2 H2 → Y i H2 x H3 → ∃ d, ds[i]? = some d ∧ ((H3 = H2 ∧ Dn K mg S2 ι2 H2 x d) ∨ ∃ T xs es, x = .ref T ∧ H2 T = none ∧ H3 = upd H2 T (.tup xs) ∧ d = .tup es ∧ Dns K mg S2 ι2 H2 xs es)) : ItOk K mg J ds S ι H :=
  ⟨fun i S2 ι2 H2 hi e => w.goes i H2 (by omega) (hG S2 ι2 H2 e), fun S2 ι2 H2 e => by rw [← hn]; exact w.stops H2 (hG S2 ι2 H2 e), fun i S2 ι2 H2 x H3 hi e y => hY i S2 ι2 H2 x H3 hi e (w.yields i H2 x H3 (by omega) (hG S2 ι2 H2 e) y)⟩
theorem at_item {K : PySem.W.Frag} {mg : Str → Option Value} {S S2 : AP} {ι ι2 : List Addr} {H H2 : Hp} {xs : List V} {ds : List D} (t : Dns K mg S ι H xs ds) (e : Ext S ι H S2 ι2 H2) {i : Nat} {x : V} {H3 : Hp} (y : YAt xs i H2 x H3) :
    ∃ d, ds[i]? = some d ∧ ((H3 = H2 ∧ Dn K mg S2 ι2 H2 x d) ∨ ∃ T ys es, x = .ref T ∧ H2 T = none ∧ H3 = upd H2 T (.tup ys) ∧ d = .tup es ∧ Dns K mg S2 ι2 H2 ys es) := by
  obtain ⟨rfl, h⟩ := y
  obtain ⟨d, h1, h2⟩ := (t.ext e).getV h
  exact ⟨d, h1, .inl ⟨rfl, h2⟩⟩
theorem di_seq {tg e : Expr} {a : TDE} (ha : DE X N W e a) : DI X N W tg e (iBind a itemsD) := pi_imp (pi_or2 (pi_list ha) (pi_tup ha)) fun σ H R q => by
  obtain ⟨ι, S, own, ρ, M, c, q⟩ := q
  unfold iBind at q
  cases e1 : a ρ M with
  | none => rw [e1] at q; exact q.elim
  | some o1 =>
    rw [e1] at q
    cases o1 with
    | ex x ρ' M' =>
      refine .inl ⟨ι, S, own, ρ, M, c, ?_⟩
      rw [e1]; exact q
    | ok d ρ1 M1 =>
      simp only at q
      cases d with
      | lst ds =>
        refine .inl ⟨ι, S, own, ρ, M, c, ?_⟩
        rw [e1]
        intro v ι1 S1 H1 own1 c1 x1 dn
        cases dn with
        | lst h t => exact ⟨_, rfl, ⟨_, h.sq⟩, q _ ι1 S1 H1 own1 c1 x1 (itOk_of walk_list t.length (fun S2 ι2 H2 e => (e.sqL h).sq) fun i S2 ι2 H2 x H3 hi e y => at_item t e y)⟩
      | tup ds =>
        refine .inr ⟨ι, S, own, ρ, M, c, ?_⟩
        rw [e1]
        intro v ι1 S1 H1 own1 c1 x1 dn
        cases dn with
        | tup h t => exact ⟨_, rfl, ⟨_, h.sq⟩, q _ ι1 S1 H1 own1 c1 x1 (itOk_of walk_tup t.length (fun S2 ι2 H2 e => (e.sqT h).sq) fun i S2 ι2 H2 x H3 hi e y => at_item t e y)⟩
      | _ => exact q.elim
/-- range(n), range(a, b) -/
def small62 (i : Int) : Prop := -(2 ^ 62) ≤ i ∧ i < 2 ^ 62
instance (i : Int) : Decidable (small62 i) := by unfold small62; infer_instance
def rangeL (lo : Int) (n : Nat) : List D := (List.range n).map fun k => .int (lo + (k : Nat))
theorem itOk_range {K : PySem.W.Frag} {mg : Str → Option Value} {S : AP} {ι : List Addr} {H : Hp} (lo : Int) (n : Nat) : ItOk K mg (Itr lo n) (rangeL lo n) S ι H :=
  itOk_of walk_range (by simp [rangeL]) (fun _ _ _ _ => trivial) fun i S2 ι2 H2 x H3 hi e y => by
    obtain ⟨rfl, rfl⟩ := y
    have hi' : i < n := by simpa [rangeL] using hi
    exact ⟨.int (lo + i), by simp [rangeL, hi'], .inl ⟨rfl, .int _⟩⟩
def iRange1 (a : TDE) : TDA := iBind a fun d => match d with
  | .int j => if small62 j then some (rangeL 0 j.toNat) else none
  | _ => none
theorem di_range1 {tg a : Expr} {ta : TDE} {p pos : Pos} (hm : X.mg "range" = none) (ha : DE X N W a ta) (hg : Gl X "range" := by rfl) (hs : starEach [a] X.env = [(false, eval a X.env)] := by rfl) (hs' : starEach [a] X.env = (false, eval a X.env) :: starEach [] X.env := by rfl) : DI X N W tg (.Call (.Name "range" p) [a] [] pos) (iRange1 ta) :=
  pi_imp (pi_range1 hg hm (pa_cons ha pa_nil hs') hs) fun σ H R q => by
    obtain ⟨ι, S, own, ρ, M, c, q⟩ := q
    refine ⟨ι, S, own, ρ, M, c, ?_⟩
    unfold iRange1 iBind at q
    cases e1 : ta ρ M with
    | none => rw [e1] at q; exact q
    | some o1 =>
      rw [e1] at q
      cases o1 with
      | ex x ρ' M' => exact q
      | ok d ρ1 M1 =>
        cases d with
        | int j =>
          intro v ι1 S1 H1 own1 c1 x1 dn
          by_cases hj : small62 j
          · simp only [if_pos hj] at q
            exact ⟨j, by rw [(Bn.dn dn).intAt], hj.1, hj.2, q _ ι1 S1 H1 own1 c1 x1 (itOk_range 0 j.toNat)⟩
          · simp only [if_neg hj] at q; exact q.elim
        | _ => exact q.elim
def iRange2 (a b : TDE) : TDA := fun ρ M => match a ρ M with
  | some (.ok d ρ1 M1) => iBind b (fun e => match d, e with
    | .int i, .int j => if small62 i ∧ small62 j then some (rangeL i (j - i).toNat) else none
    | _, _ => none) ρ1 M1
  | some (.ex x ρ1 M1) => some (.ex x ρ1 M1)
  | none => none
theorem postI.later {K : PySem.W.Frag} {mg : Str → Option Value} {ι ι1 : List Addr} {M : MS} {S S1 : AP} {H H1 : Hp} {own own1 : OwnM} {σ : L2.St} {R : It → Hp → Prop} (c : Ok K mg N ι M S H own) (e : ExtE S ι H own S1 ι1 H1 own1) : ∀ {o : Option AO}, postI K mg N W ι S H own σ R o → postI K mg N W ι1 S1 H1 own1 σ R o
  | some (.ok ds ρ' M'), h => fun J ι' S' H' own' c' x dn => h J ι' S' H' own' c' (e.trans c x) dn
  | some (.ex x ρ' M'), h => XPost.later e.ext h
  | none, h => h
theorem di_range2 {tg a b : Expr} {ta tb : TDE} {p pos : Pos} (hm : X.mg "range" = none) (ha : DE X N W a ta) (hb : DE X N W b tb) (hg : Gl X "range" := by rfl)
    (hs : starEach [a, b] X.env = [(false, eval a X.env), (false, eval b X.env)] := by rfl) (hs2 : starEach [b] X.env = [(false, eval b X.env)] := by rfl) (hs3 : starEach [a, b] X.env = (false, eval a X.env) :: starEach [b] X.env := by rfl) (hs4 : starEach [b] X.env = (false, eval b X.env) :: starEach [] X.env := by rfl) :
    DI X N W tg (.Call (.Name "range" p) [a, b] [] pos) (iRange2 ta tb) :=
  pi_imp (pi_range2 hg hm (pa_cons ha (pa_cons hb pa_nil hs4) hs3) hs hs2) fun σ H R q => by
    obtain ⟨ι, S, own, ρ, M, c, q⟩ := q
    refine ⟨ι, S, own, ρ, M, c, ?_⟩
    unfold iRange2 at q
    cases e1 : ta ρ M with
    | none => rw [e1] at q; exact q
    | some o1 =>
      rw [e1] at q
      cases o1 with
      | ex x ρ' M' => exact q
      | ok d ρ1 M1 =>
        intro v ι1 S1 H1 own1 c1 x1 dn
        refine ⟨ι1, S1, own1, ρ1, M1, c1, ?_⟩
        have q := postI.later c.ok x1 q
        unfold iBind at q
        cases e2 : tb ρ1 M1 with
        | none => simp only [e2] at q; exact q
        | some o2 =>
          simp only [e2] at q
          cases o2 with
          | ex x ρ' M' => exact q
          | ok d2 ρ2 M2 =>
            intro y ι2 S2 H2 own2 c2 x2 dn2
            cases d with
            | int i =>
              cases d2 with
              | int j =>
                by_cases hj : small62 i ∧ small62 j
                · simp only [if_pos hj] at q
                  have ev : v = .int i := (Bn.dn dn).intAt
                  have ey : y = .int j := (Bn.dn dn2).intAt
                  exact ⟨i, j, by rw [ev, ey], ⟨hj.1.1, hj.1.2, hj.2.1, hj.2.2⟩, q _ ι2 S2 H2 own2 c2 x2 (itOk_range i (j - i).toNat)⟩
                · simp only [if_neg hj] at q; exact q.elim
              | _ => exact q.elim
            | _ => exact q.elim

/-! ### for -/
def loopS (b : TDG) (body : TDS) : List D → TDS
  | [], ρ, M => some (.nx ρ M)
  | d :: r, ρ, M => match b d ρ with
    | some ρ1 => match body ρ1 M with
      | some (.nx ρ2 M2) => loopS b body r ρ2 M2
      | some (.ct ρ2 M2) => loopS b body r ρ2 M2
      | some (.bk ρ2 M2) => some (.nx ρ2 M2)
      | o => o
    | none => none
def sFor (src : TDA) (b : TDG) (body : TDS) : TDS := fun ρ M => match src ρ M with
  | some (.ok ds ρ1 M1) => loopS b body ds ρ1 M1
  | some (.ex x ρ1 M1) => some (.ex x ρ1 M1)
  | none => none
/-- an item has come -/
theorem Cur.item {K : PySem.W.Frag} {mg : Str → Option Value} {ι : List Addr} {M : MS} {S : AP} {H2 H3 : Hp} {own : OwnM} {σ : L2.St} {ρ : DS} {x : V} {d : D} (c : Cur K mg N ι S H2 own σ ρ M)
    (h : (H3 = H2 ∧ Dn K mg S ι H2 x d) ∨ ∃ T xs es, x = .ref T ∧ H2 T = none ∧ H3 = upd H2 T (.tup xs) ∧ d = .tup es ∧ Dns K mg S ι H2 xs es) : ∃ S3, Cur K mg N ι S3 H3 own σ ρ M ∧ ExtE S ι H2 own S3 ι H3 own ∧ Dn K mg S3 ι H3 x d := by
  rcases h with ⟨rfl, h⟩ | ⟨T, xs, es, rfl, hT, rfl, rfl, h⟩
  · exact ⟨S, c, .refl, h⟩
  · exact ⟨addS S T, c.alloc hT, ⟨c.ok.alloc_ext hT, fun i a e => ⟨c.ok.hown hT i a e, .inl e⟩⟩, .tup (.inl ⟨.inr rfl, .inl upd_same⟩) (h.ext (c.ok.alloc_ext hT))⟩
theorem ds_for {tg iter : Expr} {body : List Stmt} {pos : Pos} {src : TDA} {b : TDG} {u : TDS} (hp : PassesOwn (model X.prog X.w) X.A X.env X.xe) (hc : X.calm = true) (hi : DI X N W tg iter src) (hg : DG X N tg b) (hb : DSs X N W body u)
    (hs : ∀ x, foldedSetIterable iter X.env x = pure x := by intro _; rfl) : DS1 X N W (.For tg iter body [] pos) (sFor src b u) := by
  obtain ⟨g, pg, kg⟩ := hg
  refine ps_imp (ps_for hp hc hi pg hb hs) fun E σ H q => ?_
  obtain ⟨ι, S, own, ρ, M, c, q⟩ := q
  refine ⟨ι, S, own, ρ, M, c, ?_⟩
  unfold sFor at q
  cases e1 : src ρ M with
  | none => rw [e1] at q; exact q
  | some o1 =>
    rw [e1] at q
    cases o1 with
    | ex x ρ' M' => exact q σ
    | ok ds ρ1 M1 =>
      intro J ι1 S1 H1 own1 c1 x1 it
      have q1 : postS X.K X.mg N W ι1 S1 H1 E (loopS b u (ds.drop 0) ρ1 M1) := postS.later x1.ext q
      refine ⟨fun i m σ' H' => m = ds.length - i ∧ i ≤ ds.length ∧ ∃ ι2 S2 own2 ρ2 M2, Cur X.K X.mg N ι2 S2 H' own2 σ' ρ2 M2 ∧ Ext S1 ι1 H1 S2 ι2 H' ∧ postS X.K X.mg N W ι2 S2 H' E (loopS b u (ds.drop i) ρ2 M2), ⟨ds.length, rfl, Nat.zero_le _, ι1, S1, own1, ρ1, M1, c1, .refl, q1⟩, ?_⟩
      rintro i m σ2 H2 ⟨rfl, hi, ι2, S2, own2, ρ2, M2, c2, x2, q2⟩
      by_cases hlt : i < ds.length
      · refine .inr ⟨it.go i S2 ι2 H2 hlt x2, fun σ' H' => (∃ ι3 S3 own3 ρ3 M3, Cur X.K X.mg N ι3 S3 H' own3 σ' ρ3 M3 ∧ Ext S1 ι1 H1 S3 ι3 H' ∧ postS X.K X.mg N W ι3 S3 H' E (loopS b u (ds.drop (i + 1)) ρ3 M3)), fun σ' H' h => ⟨ds.length - (i + 1), by omega, rfl, hlt, h⟩, fun x H3 y => ?_⟩
        obtain ⟨d, hd, hv⟩ := it.yld i S2 ι2 H2 x H3 hlt x2 y
        obtain ⟨S3, c3, x3, dn⟩ := c2.item hv
        have ed : ds.drop i = d :: ds.drop (i + 1) := by
          have h1 := List.getElem?_eq_some_iff.mp hd
          rw [List.drop_eq_getElem_cons hlt, h1.2]
        rw [ed] at q2
        unfold loopS at q2
        cases e2 : b d ρ2 with
        | none => simp only [e2] at q2; exact q2.elim
        | some ρ3 =>
          simp only [e2] at q2
          refine kg ι2 M2 S3 H3 own2 σ2 ρ2 ρ3 x d _ c3 dn e2 fun σ4 own4 c4 => ⟨ι2, S3, own4, ρ3, M2, c4, ?_⟩
          have q3 := postS.later x3.ext q2
          cases e3 : u ρ3 M2 with
          | none => simp only [e3] at q3; exact q3
          | some o3 =>
            simp only [e3] at q3
            cases o3 with
            | nx ρ' M' => exact fun σ' ι' S' H' own' c' x' => ⟨ι', S', own', ρ', M', c', (x2.trans x3.ext).trans x', postS.later x' q3⟩
            | ct ρ' M' => exact fun σ' ι' S' H' own' c' x' => ⟨ι', S', own', ρ', M', c', (x2.trans x3.ext).trans x', postS.later x' q3⟩
            | bk ρ' M' => exact q3
            | rt d' M' => exact q3
            | ex x' ρ' M' => exact q3
      · have ei : i = ds.length := by omega
        subst ei
        rw [List.drop_length] at q2
        exact .inl ⟨it.stop S2 ι2 H2 x2, q2 σ2 ι2 S2 H2 own2 c2 .refl⟩

/-! ### while -/
def wh (c : TDE) (body : TDS) : Nat → TDS
  | 0, _, _ => none
  | n + 1, ρ, M => match c ρ M with
    | some (.ok (.bl true) ρ1 M1) => match body ρ1 M1 with
      | some (.nx ρ2 M2) => wh c body n ρ2 M2
      | some (.ct ρ2 M2) => wh c body n ρ2 M2
      | some (.bk ρ2 M2) => some (.nx ρ2 M2)
      | o => o
    | some (.ok (.bl false) ρ1 M1) => some (.nx ρ1 M1)
    | some (.ok _ _ _) => none
    | some (.ex x ρ1 M1) => some (.ex x ρ1 M1)
    | none => none
open Classical in
noncomputable def sWhile (c : TDE) (body : TDS) : TDS := fun ρ M => if h : ∃ n, (wh c body n ρ M).isSome = true then wh c body (choose h) ρ M else none
theorem wh_mono {c : TDE} {body : TDS} : ∀ {n m : Nat} {ρ : DS} {M : MS} {o : SO}, n ≤ m → wh c body n ρ M = some o → wh c body m ρ M = some o
  | 0, _, _, _, _, _, h => nomatch h
  | n + 1, 0, _, _, _, hm, _ => absurd hm (by omega)
  | n + 1, m + 1, ρ, M, o, hm, h => by
    unfold wh at h ⊢
    cases e : c ρ M with
    | none => rw [e] at h; exact h
    | some r =>
      rw [e] at h
      cases r with
      | ex x ρ1 M1 => exact h
      | ok d ρ1 M1 =>
        cases d with
        | bl b =>
          cases b with
          | false => exact h
          | true =>
            simp only at h ⊢
            cases e2 : body ρ1 M1 with
            | none => rw [e2] at h; exact h
            | some r2 =>
              rw [e2] at h
              cases r2 with
              | nx ρ2 M2 => exact wh_mono (by omega) h
              | ct ρ2 M2 => exact wh_mono (by omega) h
              | bk ρ2 M2 => exact h
              | rt d M2 => exact h
              | ex x ρ2 M2 => exact h
        | _ => exact h
theorem while_of {c : TDE} {body : TDS} {n : Nat} {ρ : DS} {M : MS} {o : SO} (h : wh c body n ρ M = some o) : sWhile c body ρ M = some o := by
  have hx : ∃ n, (wh c body n ρ M).isSome = true := ⟨n, by rw [h]; rfl⟩
  unfold sWhile
  rw [dif_pos hx]
  have h2 := Classical.choose_spec hx
  obtain ⟨o2, h3⟩ := Option.isSome_iff_exists.mp h2
  rw [h3]
  rcases Nat.le_total n (Classical.choose hx) with hle | hle
  · have := wh_mono hle h
    rw [h3] at this
    exact this
  · have := wh_mono hle h3
    rw [h] at this
    exact this.symm
theorem while_get {c : TDE} {body : TDS} {ρ : DS} {M : MS} {o : SO} (h : sWhile c body ρ M = some o) : ∃ n, wh c body n ρ M = some o := by
  unfold sWhile at h
  split at h
  · exact ⟨_, h⟩
  · cases h
theorem ds_while {c : Expr} {body : List Stmt} {pos : Pos} {t : TDE} {u : TDS} (hp : PassesOwn (model X.prog X.w) X.A X.env X.xe) (hc : DT X N W c t) (hb : DSs X N W body u) : DS1 X N W (.While c body [] pos) (sWhile t u) :=
  ps_imp (ps_while hp hc hb) fun E σ H q => by
    obtain ⟨ι, S, own, ρ, M, c, q⟩ := q
    cases e : sWhile t u ρ M with
    | none => rw [e] at q; exact q.elim
    | some o =>
      rw [e] at q
      obtain ⟨n, hn⟩ := while_get e
      rw [← hn] at q
      refine ⟨fun m σ' H' => ∃ ι2 S2 own2 ρ2 M2, Cur X.K X.mg N ι2 S2 H' own2 σ' ρ2 M2 ∧ postS X.K X.mg N W ι2 S2 H' E (wh t u m ρ2 M2), ⟨n, ι, S, own, ρ, M, c, q⟩, ?_⟩
      rintro m σ2 H2 ⟨ι2, S2, own2, ρ2, M2, c2, q2⟩
      cases m with
      | zero => exact q2.elim
      | succ m =>
        refine ⟨ι2, S2, own2, ρ2, M2, c2, ?_⟩
        unfold wh at q2
        cases e1 : t ρ2 M2 with
        | none => rw [e1] at q2; exact q2
        | some r =>
          rw [e1] at q2
          cases r with
          | ex x ρ1 M1 => exact q2 σ2
          | ok d ρ1 M1 =>
            cases d with
            | bl b =>
              intro ι3 S3 H3 own3 c3 x3
              cases b with
              | false => exact iteF (q2 σ2 ι3 S3 H3 own3 c3 x3.ext)
              | true =>
                refine iteT ⟨fun σ' H' => ∃ ι4 S4 own4 ρ4 M4, Cur X.K X.mg N ι4 S4 H' own4 σ' ρ4 M4 ∧ postS X.K X.mg N W ι4 S4 H' E (wh t u m ρ4 M4), fun σ' H' h => ⟨m, Nat.lt_succ_self m, h⟩, ι3, S3, own3, ρ1, M1, c3, ?_⟩
                have q3 := postS.later x3.ext q2
                simp only at q3
                cases e3 : u ρ1 M1 with
                | none => simp only [e3] at q3; exact q3
                | some o3 =>
                  simp only [e3] at q3
                  cases o3 with
                  | nx ρ' M' => exact fun σ' ι' S' H' own' c' x' => ⟨ι', S', own', ρ', M', c', postS.later x' q3⟩
                  | ct ρ' M' => exact fun σ' ι' S' H' own' c' x' => ⟨ι', S', own', ρ', M', c', postS.later x' q3⟩
                  | bk ρ' M' => exact q3
                  | rt d' M' => exact q3
                  | ex x' ρ' M' => exact q3
            | _ => exact q2.elim
end
end DL
set_option maxHeartbeats 2000000
namespace DL
open PySem PySem.Spec PyProof.Rows L2

/-! ### a comprehension -/
def borSV : SV → SV
  | .own ds => .bor ds
  | .owd ks ds => .bod ks ds
  | x => x
def borrow (ρ : DS) : DS := ρ.map fun o => o.map borSV
def kindSV : Option SV → Nat
  | none => 0
  | some (.t _) => 1
  | some (.own _) => 2
  | some (.owd _ _) => 3
  | some (.bor _) => 4
  | some (.bod _ _) => 5
  | some (.owi _ _ _ _) => 6
def kinds (ρ : DS) : List Nat := ρ.map kindSV
def wipeD (ρ : DS) : List Nat → DS
  | [] => ρ
  | v :: vs => (wipeD ρ vs).set v none
def freeSV : Option (Option SV) → Bool
  | some (some (.t _)) => true
  | some (some _) => false
  | _ => true
def freeAll (ρ : DS) (vs : List Nat) : Bool := vs.all fun v => freeSV ρ[v]?
section
variable {K : PySem.W.Frag} {mg : Str → Option Value} {N : En} {ι ι' : List Addr} {M M' : MS} {S S' : AP} {H H' : Hp} {own own' : OwnM} {σ : L2.St} {ρ ρ' : DS}
theorem EnvOk.borrow (h : EnvOk K mg S ι H own σ ρ) : EnvOk K mg S ι H own σ (borrow ρ) := by
  refine ⟨by simpa [DL.borrow] using h.len, by simpa [DL.borrow] using h.big, fun j h1 h2 => h.gap j (by simpa [DL.borrow] using h1) h2, fun j x q => ?_, fun j q => ?_⟩
  · unfold DL.borrow at q
    rw [List.getElem?_map] at q
    cases e : ρ[j]? with
    | none => rw [e] at q; cases q
    | some o =>
      cases o with
      | none => rw [e] at q; cases q
      | some y =>
        rw [e] at q
        cases q
        obtain ⟨v, h1, h2⟩ := h.at_ j y e
        refine ⟨v, h1, ?_⟩
        cases y with
        | t d => exact h2
        | own ds => exact h2
        | owd ks ds => exact h2
        | bor ds => exact h2
        | bod ks ds => exact h2
        | owi p c ks ds => exact h2
  · unfold DL.borrow at q
    rw [List.getElem?_map] at q
    cases e : ρ[j]? with
    | none => rw [e] at q; cases q
    | some o =>
      cases o with
      | none => exact h.nown j e
      | some y => rw [e] at q; cases q
theorem EnvOk.free (h : EnvOk K mg S ι H own σ ρ) {v : Nat} (hf : freeSV ρ[v]? = true) (hv : v < slotsB) : own v = none := by
  cases e : ρ[v]? with
  | none => exact h.gap v (List.getElem?_eq_none_iff.mp e) hv
  | some o =>
    cases o with
    | none => exact h.nown v e
    | some x =>
      rw [e] at hf
      cases x with
      | t d => obtain ⟨w, _, h2⟩ := h.at_ v _ e; exact h2.1
      | _ => cases hf
theorem EnvOk.wipe (h : EnvOk K mg S ι H own σ ρ) : ∀ {vs : List Nat}, (∀ v ∈ vs, own v = none) → EnvOk K mg S ι H own (L2.wipe σ vs) (wipeD ρ vs)
  | [], _ => h
  | v :: vs, hv => by
    have ih := EnvOk.wipe h (vs := vs) fun w hw => hv w (List.mem_cons_of_mem _ hw)
    unfold L2.wipe wipeD
    refine ⟨by simpa using ih.len, by simpa using ih.big, fun j h1 h2 => ih.gap j (by simpa using h1) h2, fun j x q => ?_, fun j q => ?_⟩
    · by_cases hj : j = v
      · subst hj
        rw [List.getElem?_set] at q
        rw [if_pos rfl] at q
        split at q <;> cases q
      · rw [List.getElem?_set_ne (Ne.symm hj)] at q ⊢
        exact ih.at_ j x q
    · by_cases hj : j = v
      · rw [hj]; exact hv v List.mem_cons_self
      · rw [List.getElem?_set_ne (Ne.symm hj)] at q
        exact ih.nown j q
/-- the slots' own lists are still their own -/
theorem own_same (h : EnvOk K mg S ι H own σ ρ) (h' : EnvOk K mg S' ι' H' own' σ ρ') (hk : kinds ρ' = kinds ρ) (e : ExtE S ι H own S' ι' H' own') : ∀ i a, own i = some a → own' i = some a := fun i a q => by
  by_cases hi : i < slotsB
  · cases e1 : ρ[i]? with
    | none => rw [h.gap i (List.getElem?_eq_none_iff.mp e1) hi] at q; cases q
    | some o =>
      cases o with
      | none => rw [h.nown i e1] at q; cases q
      | some x =>
        have hk2 : (kinds ρ')[i]? = (kinds ρ)[i]? := by rw [hk]
        unfold kinds at hk2
        rw [List.getElem?_map, List.getElem?_map, e1] at hk2
        obtain ⟨v, h1, h2⟩ := h.at_ i x e1
        cases e2 : ρ'[i]? with
        | none => rw [e2] at hk2; cases hk2
        | some o2 =>
          rw [e2] at hk2
          have hk3 : kindSV o2 = kindSV (some x) := Option.some.inj hk2
          cases o2 with
          | none => cases x <;> cases hk3
          | some y =>
            obtain ⟨v', g1, g2⟩ := h'.at_ i y e2
            rw [h1] at g1
            cases g1
            cases x with
            | t d => rw [h2.1] at q; cases q
            | own ds =>
              cases y <;> first | (cases hk3; done) | skip
              obtain ⟨b, xs, r1, r2, _⟩ := h2
              obtain ⟨b', xs', s1, s2, _⟩ := g2
              rw [r1] at s1; cases s1
              rw [q] at r2; cases r2
              exact s2
            | owd ks ds =>
              cases y <;> first | (cases hk3; done) | skip
              obtain ⟨b, xs, r1, r2, _⟩ := h2
              obtain ⟨b', xs', s1, s2, _⟩ := g2
              rw [r1] at s1; cases s1
              rw [q] at r2; cases r2
              exact s2
            | bor ds =>
              cases y <;> first | (cases hk3; done) | skip
              obtain ⟨b, xs, r1, r2, _⟩ := h2
              obtain ⟨b', xs', s1, s2, _⟩ := g2
              rw [r1] at s1; cases s1
              rw [q] at r2; cases r2
              exact s2
            | bod ks ds =>
              cases y <;> first | (cases hk3; done) | skip
              obtain ⟨b, xs, r1, r2, _⟩ := h2
              obtain ⟨b', xs', s1, s2, _⟩ := g2
              rw [r1] at s1; cases s1
              rw [q] at r2; cases r2
              exact s2
            | owi p c ks ds =>
              cases y <;> first | (cases hk3; done) | skip
              obtain ⟨b, C, dx, xs, r1, _, r2, _⟩ := h2
              obtain ⟨b', C', dx', xs', s1, _, s2, _⟩ := g2
              rw [r1] at s1; cases s1
              rw [q] at r2; cases r2
              exact s2
  · rcases (e.ow i a q).2 with z | ⟨z, _⟩
    · exact z
    · exact absurd z hi
theorem Ok.less (k : Ok K mg N ι M S H own') (h : ∀ i a, own i = some a → own' i = some a) : Ok K mg N ι M S H own :=
  ⟨k.len, k.pre, k.fresh, k.objs, k.nd, k.iout, fun i a e => k.oout i a (h i a e), fun i j a e1 e2 => k.oinj i j a (h i a e1) (h j a e2), (by
    obtain ⟨n, hn⟩ := k.ofin
    refine ⟨n, fun i hi => ?_⟩
    cases e : own i with
    | none => rfl
    | some a => have z := h i a e; rw [hn i hi] at z; cases z), k.sub, k.new, k.keep, k.trk, k.sat⟩
end

/-- what a target asks, with the names it stores -/
def GOk (K : PySem.W.Frag) (mg : Str → Option Value) (N : En) (vs : List Nat) (g : TG) (b : TDG) : Prop := ∀ (ι : List Addr) (M : MS) (S : AP) (H : Hp) (own : OwnM) (σ : L2.St) (ρ ρ' : DS) (v : V) (d : D) (Q : L2.St → Hp → Prop), Cur K mg N ι S H own σ ρ M → (∀ i ∈ vs, own i = none) → Dn K mg S ι H v d → b d ρ = some ρ' →
  (∀ σ', Cur K mg N ι S H own σ' ρ' M → L2.wipe σ' vs = L2.wipe σ vs → Q σ' H) → g v σ H Q
def GsOk (K : PySem.W.Frag) (mg : Str → Option Value) (N : En) (vs : List Nat) (g : TGs) (b : TDGs) : Prop := ∀ (ι : List Addr) (M : MS) (S : AP) (H : Hp) (own : OwnM) (σ : L2.St) (ρ ρ' : DS) (ws : List V) (ds : List D) (Q : L2.St → Hp → Prop), Cur K mg N ι S H own σ ρ M → (∀ i ∈ vs, own i = none) → Dns K mg S ι H ws ds → b ds ρ = some ρ' →
  (∀ σ', Cur K mg N ι S H own σ' ρ' M → L2.wipe σ' vs = L2.wipe σ vs → Q σ' H) → g ws σ H Q
theorem wipe_set {σ : L2.St} {i : Nat} {x : Option V} : ∀ {vs : List Nat}, i ∈ vs → L2.wipe (σ.set i x) vs = L2.wipe σ vs
  | v :: vs, h => by
    unfold L2.wipe
    by_cases hv : i ∈ vs
    · rw [wipe_set hv]
    · have e : i = v := by
        rcases List.mem_cons.mp h with h | h
        · exact h
        · exact absurd h hv
      subst e
      have aux : ∀ {us : List Nat}, i ∉ us → L2.wipe (σ.set i x) us = (L2.wipe σ us).set i x := fun {us} => by
        induction us with
        | nil => intro _; rfl
        | cons u us ih =>
          intro hu
          unfold L2.wipe
          rw [ih fun z => hu (List.mem_cons_of_mem _ z), List.set_comm]
          exact fun z => hu (by rw [z]; exact List.mem_cons_self)
      rw [aux hv, List.set_set]
theorem wipe_wipe {σ : L2.St} : ∀ {us vs : List Nat}, (∀ u ∈ us, u ∈ vs) → L2.wipe (L2.wipe σ us) vs = L2.wipe σ vs
  | [], _, _ => rfl
  | u :: us, vs, h => by
    show L2.wipe ((L2.wipe σ us).set u none) vs = _
    rw [wipe_set (h u List.mem_cons_self), wipe_wipe fun w hw => h w (List.mem_cons_of_mem _ hw)]
section
variable {K : PySem.W.Frag} {mg : Str → Option Value} {N : En} {vs : List Nat}
theorem gok_name {i : Nat} (h : i ∈ vs) : GOk K mg N vs (gName i) (bName i) := fun ι M S H own σ ρ ρ' v d Q c hv dn e k => by
  cases e
  have c' := c.store (i := i) dn
  have eo : setO own i none = own := by
    funext j
    unfold setO
    split
    · rename_i hj; rw [hj, hv i h]
    · rfl
  rw [eo] at c'
  exact k _ c' (wipe_set h)
theorem gsok_nil : GsOk K mg N vs gNil bNil := fun ι M S H own σ ρ ρ' ws ds Q c hv dn e k => by
  cases dn with
  | nil => cases e; exact ⟨rfl, k _ c rfl⟩
  | cons _ _ => cases e
theorem gsok_cons {g : TG} {gs : TGs} {a : TDG} {r : TDGs} (h1 : GOk K mg N vs g a) (h2 : GsOk K mg N vs gs r) : GsOk K mg N vs (gCons g gs) (bCons a r) := fun ι M S H own σ ρ ρ' ws ds Q c hv dn e k => by
  cases dn with
  | nil => cases e
  | @cons v ws d ds h t =>
    unfold bCons at e
    cases e1 : a d ρ with
    | none => simp only [e1] at e; cases e
    | some ρ1 =>
      simp only [e1] at e
      refine ⟨v, ws, rfl, h1 ι M S H own σ ρ ρ1 v d _ c hv h e1 fun σ1 c1 w1 => ?_⟩
      exact h2 ι M S H own σ1 ρ1 ρ' ws ds Q c1 hv t e fun σ2 c2 w2 => k σ2 c2 (w2.trans w1)
theorem gok_tup {n : Nat} {gs : TGs} {r : TDGs} (h : GsOk K mg N vs gs r) : GOk K mg N vs (gTup K n gs) (bTup n r) := fun ι M S H own σ ρ ρ' v d Q c hv dn e k => by
  cases d with
  | tup ds =>
    unfold bTup at e
    simp only at e
    split at e
    · obtain ⟨a, xs, rfl, ha, ta, _⟩ := (Bn.dn dn).tupAt
      exact ⟨a, xs, rfl, ha, by rw [ta.length]; assumption, h ι M S H own σ ρ ρ' xs ds Q c hv ta e k⟩
    · cases e
  | _ => cases e
end

/-- the tests of a comprehension: none, one -/
def compL (b : TDG) (t u : TDE) (ρ : DS) : List D → List D → MS → Option (List D × MS)
  | [], acc, M => some (acc, M)
  | d :: r, acc, M => match b d ρ with
    | some ρ1 => match t ρ1 M with
      | some (.ok (.bl true) ρ2 M2) => match u ρ2 M2 with
        | some (.ok e ρ3 M3) => if kinds ρ3 = kinds ρ1 ∧ kinds ρ2 = kinds ρ1 ∧ acc.length < sizeLine then compL b t u ρ r (acc ++ [e]) M3 else none
        | _ => none
      | some (.ok (.bl false) ρ2 M2) => if kinds ρ2 = kinds ρ1 then compL b t u ρ r acc M2 else none
      | _ => none
    | none => none
def dComp (vs : List Nat) (src : TDA) (b : TDG) (t u : TDE) : TDE := fun ρ M => match src ρ M with
  | some (.ok ds ρ1 M1) => if freeAll ρ1 vs = true ∧ vs.all (fun v => decide (v < slotsB)) = true then match compL b t u (wipeD (borrow ρ1) vs) ds [] M1 with
    | some (es, M2) => some (.ok (.lst es) ρ1 M2)
    | none => none else none
  | some (.ex x ρ1 M1) => some (.ex x ρ1 M1)
  | none => none
abbrev W0 : WX := fun _ _ _ _ => False
section
variable {X : Cx} {N : En} {W : WX}
def dYes : TDE := fun ρ M => some (.ok (.bl true) ρ M)
/-- a comprehension's end: σ as it was, the new list at D -/
theorem comp_core {wi : TDA} {vs : List Nat} {g : TG} {b : TDG} {t u : TDE} {σ : L2.St} {H : Hp} {Q : VK} {tt : TT}
    (hg : GOk X.K X.mg N vs g b) (htt : ∀ σ H Q, tT X.K X.mg N W0 t σ H Q → tt σ H Q) {ι : List Addr} {S : AP} {own : OwnM} {ρ : DS} {M : MS} (c : Cur X.K X.mg N ι S H own σ ρ M)
    (q : postD X.K X.mg N W ι S H own σ (fun v H' => ∃ p, v = .ref p ∧ Q (.ref p) H') (dComp vs wi b t u ρ M))
    (hQ : True) : postI X.K X.mg N W ι S H own σ (fun J H1 => ∀ D, H1 D = none → ∃ Wf : Nat → Nat → Hp → Prop, (∃ m, Wf 0 m (upd H1 D (.lst []))) ∧ ∀ i m H, Wf i m H →
  (J.stop i H ∧ Q (.ref D) H) ∨ (J.go i H ∧ ∃ Nx : Hp → Prop, (∀ H', Nx H' → ∃ m', m' < m ∧ Wf (i + 1) m' H') ∧ ∀ x H', J.yld i H x H' → g x (L2.wipe σ vs) H' fun σ2 H2 => L2.wipe σ2 vs = L2.wipe σ vs ∧ tt σ2 H2 fun b H3 =>
    if b = true then tD X.K X.mg N W0 u σ2 H3 fun y H4 => ∃ acc, H4 D = some (.lst acc) ∧ acc.length < sizeLine ∧ Nx (upd H4 D (.lst (acc ++ [y]))) else Nx H3)) (wi ρ M) := by
  unfold dComp at q
  cases e1 : wi ρ M with
  | none => rw [e1] at q; exact q
  | some o1 =>
    rw [e1] at q
    cases o1 with
    | ex x ρ' M' => exact q
    | ok ds ρ1 M1 =>
      simp only at q
      split at q
      case isFalse => exact q.elim
      case isTrue hf =>
      intro J ι1 S1 H1 own1 c1 x1 it p hp
      have q1 := postD.later c.ok x1 q
      obtain ⟨hf1, hf2⟩ := hf
      have hv : ∀ v ∈ vs, own1 v = none := fun v hm => by
        refine c1.env.free (List.all_eq_true.mp hf1 v hm) ?_
        have := List.all_eq_true.mp hf2 v hm
        exact of_decide_eq_true this
      obtain ⟨n, hn⟩ := c1.ok.ofin
      obtain ⟨i0, hi0, hib⟩ : ∃ i0, own1 i0 = none ∧ slotsB ≤ i0 := ⟨max n slotsB, hn _ (by omega), by omega⟩
      have hvi : ∀ v ∈ vs, setO own1 i0 (some p) v = none := fun v hm => by
        unfold setO
        rw [if_neg fun z => ?_]
        · exact hv v hm
        · have := of_decide_eq_true (List.all_eq_true.mp hf2 v hm)
          omega
      have k2 : Ok X.K X.mg N ι1 M1 S1 (upd H1 p (.lst [])) (setO own1 i0 (some p)) := c1.ok.track i0 hp
      have envW : ∀ {S2 : AP} {ι2 : List Addr} {H2 : Hp}, Ext S1 ι1 H1 S2 ι2 H2 → (∀ i a, own1 i = some a → H2 a = H1 a) → EnvOk X.K X.mg S2 ι2 H2 (setO own1 i0 (some p)) (L2.wipe σ vs) (wipeD (borrow ρ1) vs) := fun {S2 ι2 H2} e1 e2 => by
        have h1 := (c1.env.ext e1 e2).borrow
        have h2 : EnvOk X.K X.mg S2 ι2 H2 (setO own1 i0 (some p)) σ (borrow ρ1) := ⟨h1.len, h1.big, fun j a1 a2 => (by unfold setO; rw [if_neg (by omega)]; exact h1.gap j a1 a2), fun j x qq => (by
          have hj : j ≠ i0 := fun z => by
            have := (List.getElem?_eq_some_iff.mp qq).1
            have := h1.big
            omega
          obtain ⟨v, a1, a2⟩ := h1.at_ j x qq
          refine ⟨v, a1, ?_⟩
          unfold setO; rw [if_neg hj]; exact a2), fun j qq => (by
          have hj : j ≠ i0 := fun z => by
            have := (List.getElem?_eq_some_iff.mp qq).1
            have := h1.big
            omega
          unfold setO; rw [if_neg hj]; exact h1.nown j qq)⟩
        exact h2.wipe hvi
      -- what stands at each turn
      refine ⟨fun i m H' => m = ds.length - i ∧ i ≤ ds.length ∧ ∃ ι2 S2 M2 xs es, Ok X.K X.mg N ι2 M2 S2 H' (setO own1 i0 (some p)) ∧ Ext S1 ι1 H1 S2 ι2 H' ∧ (∀ i a, own1 i = some a → H' a = H1 a) ∧ H' p = some (.lst xs) ∧ Dns X.K X.mg S2 ι2 H' xs es ∧
        postD X.K X.mg N W ι1 S1 H1 own1 σ (fun v H' => ∃ p, v = .ref p ∧ Q (.ref p) H') (match compL b t u (wipeD (borrow ρ1) vs) (ds.drop i) es M2 with | some (es, M2) => some (.ok (.lst es) ρ1 M2) | none => none),
        ⟨ds.length, rfl, Nat.zero_le _, ι1, S1, M1, [], [], k2, upd_ext hp, fun i a e => c1.ok.hown hp i a e, upd_same, .nil, q1⟩, ?_⟩
      rintro i m H2 ⟨rfl, hi, ι2, S2, M2, xs, es, k2, x2, o2, hp2, t2, q2⟩
      by_cases hlt : i < ds.length
      · refine .inr ⟨it.go i S2 ι2 H2 hlt x2, fun H' => (∃ ι3 S3 M3 ys fs, Ok X.K X.mg N ι3 M3 S3 H' (setO own1 i0 (some p)) ∧ Ext S1 ι1 H1 S3 ι3 H' ∧ (∀ i a, own1 i = some a → H' a = H1 a) ∧ H' p = some (.lst ys) ∧ Dns X.K X.mg S3 ι3 H' ys fs ∧
          postD X.K X.mg N W ι1 S1 H1 own1 σ (fun v H' => ∃ p, v = .ref p ∧ Q (.ref p) H') (match compL b t u (wipeD (borrow ρ1) vs) (ds.drop (i + 1)) fs M3 with | some (es, M2) => some (.ok (.lst es) ρ1 M2) | none => none)),
          fun H' h => ⟨ds.length - (i + 1), by omega, rfl, hlt, h⟩, fun x H3 y => ?_⟩
        obtain ⟨d, hd, hv3⟩ := it.yld i S2 ι2 H2 x H3 hlt x2 y
        have cw : Cur X.K X.mg N ι2 S2 H2 (setO own1 i0 (some p)) (L2.wipe σ vs) (wipeD (borrow ρ1) vs) M2 := ⟨k2, envW x2 o2⟩
        obtain ⟨S3, c3, x3, dn⟩ := cw.item hv3
        have ed : ds.drop i = d :: ds.drop (i + 1) := by
          have h1 := List.getElem?_eq_some_iff.mp hd
          rw [List.drop_eq_getElem_cons hlt, h1.2]
        rw [ed] at q2
        unfold compL at q2
        cases e2 : b d (wipeD (borrow ρ1) vs) with
        | none => simp only [e2] at q2; exact q2.elim
        | some ρ3 =>
          simp only [e2] at q2
          refine hg ι2 M2 S3 H3 _ _ _ ρ3 x d _ c3 hvi dn e2 fun σ4 c4 w4 => ⟨w4.trans (wipe_wipe fun _ h => h), htt σ4 H3 _ ⟨ι2, S3, _, ρ3, M2, c4, ?_⟩⟩
          -- own lists through a step
          have own_keep : ∀ {S5 : AP} {ι5 : List Addr} {H5 : Hp} {own5 : OwnM}, ExtE S3 ι2 H3 (setO own1 i0 (some p)) S5 ι5 H5 own5 → (∀ i a, own1 i = some a → H5 a = H1 a) ∧ H5 p = some (.lst xs) := fun {S5 ι5 H5 own5} x5 => by
            have ow3 : ∀ i a, own1 i = some a → setO own1 i0 (some p) i = some a := fun i a e => by
              unfold setO
              rw [if_neg fun z => ?_]
              · exact e
              · rw [z, hi0] at e; cases e
            have op : setO own1 i0 (some p) i0 = some p := by unfold setO; rw [if_pos rfl]
            refine ⟨fun i a e => ?_, ?_⟩
            · rw [(x5.ow i a (ow3 i a e)).1, (x3.ow i a (ow3 i a e)).1]
              exact o2 i a e
            · rw [(x5.ow i0 p op).1, (x3.ow i0 p op).1]
              exact hp2
          cases e3 : t ρ3 M2 with
          | none => simp only [e3] at q2; exact q2.elim
          | some o3 =>
            simp only [e3] at q2
            cases o3 with
            | ex x' ρ' M' => exact q2.elim
            | ok d4 ρ4 M4 =>
              cases d4 with
              | bl bb =>
                intro ι5 S5 H5 own5 c5 x5
                cases bb with
                | false =>
                  refine iteF ?_
                  by_cases hk : kinds ρ4 = kinds ρ3
                  case neg => simp only [if_neg hk] at q2; exact q2.elim
                  simp only [if_pos hk] at q2
                  obtain ⟨oa, ob⟩ := own_keep x5
                  exact ⟨ι5, S5, M4, xs, es, c5.ok.less (own_same c4.env c5.env hk x5), x2.trans (x3.ext.trans x5.ext), oa, ob, t2.ext (x3.ext.trans x5.ext), q2⟩
                | true =>
                  refine iteT ⟨ι5, S5, own5, ρ4, M4, c5, ?_⟩
                  cases e4 : u ρ4 M4 with
                  | none => simp only [e4] at q2; exact q2.elim
                  | some o4 =>
                    simp only [e4] at q2
                    cases o4 with
                    | ex x' ρ' M' => exact q2.elim
                    | ok e6 ρ6 M6 =>
                      by_cases hk : kinds ρ6 = kinds ρ3 ∧ kinds ρ4 = kinds ρ3 ∧ es.length < sizeLine
                      case neg => simp only [if_neg hk] at q2; exact q2.elim
                      simp only [if_pos hk] at q2
                      intro y6 ι6 S6 H6 own6 c6 x6 dn6
                      have x36 := x5.trans c4.ok x6
                      obtain ⟨oa, ob⟩ := own_keep x36
                      refine ⟨xs, ob, by rw [t2.length]; exact hk.2.2, ?_⟩
                      have k6 : Ok X.K X.mg N ι6 M6 S6 H6 (setO own1 i0 (some p)) := c6.ok.less (own_same c4.env c6.env hk.1 x36)
                      have op : setO own1 i0 (some p) i0 = some p := by unfold setO; rw [if_pos rfl]
                      have xe : Ext S6 ι6 H6 S6 ι6 (upd H6 p (.lst (xs ++ [y6]))) := k6.writeOwn_ext op
                      refine ⟨ι6, S6, M6, xs ++ [y6], es ++ [e6], k6.writeOwn op, (x2.trans (x3.ext.trans x36.ext)).trans xe, fun i a e => ?_, upd_same, ((t2.ext (x3.ext.trans x36.ext)).append (.cons dn6 .nil)).ext xe, q2⟩
                      rw [upd_ne fun z => ?_]
                      · exact oa i a e
                      · rw [z] at e
                        exact c1.ok.ohn e hp
              | _ => exact q2.elim
      · have ei : i = ds.length := by omega
        subst ei
        rw [List.drop_length] at q2
        refine .inl ⟨it.stop S2 ι2 H2 x2, ?_⟩
        have op : setO own1 i0 (some p) i0 = some p := by unfold setO; rw [if_pos rfl]
        -- the list is handed on
        have kf : Ok X.K X.mg N ι2 M2 (addS S2 p) H2 (setO (setO own1 i0 (some p)) i0 none) := k2.freeze op hp2 fun _ z => nomatch z
        have eo : setO (setO own1 i0 (some p)) i0 none = own1 := by
          funext j
          unfold setO
          split
          · rename_i hj; rw [hj, hi0]
          · rfl
        rw [eo] at kf
        have xf : Ext S1 ι1 H1 (addS S2 p) ι2 H2 := x2.trans addS_ext
        obtain ⟨p', ep, hq⟩ := q2 (.ref p) ι2 (addS S2 p) H2 own1 ⟨kf, c1.env.ext xf o2⟩ ⟨xf, fun i a e => ⟨o2 i a e, .inl e⟩⟩ (.lst ⟨.inr rfl, hp2⟩ (t2.ext addS_ext))
        cases ep
        exact hq
theorem lc_imp {wi : TDA} {vs : List Nat} {g : TG} {b : TDG} {tt : TT} {t u : TDE} (hgo : GOk X.K X.mg N vs g b) (htt : ∀ σ H Q, tT X.K X.mg N W0 t σ H Q → tt σ H Q) :
    ∀ σ H Q, tD X.K X.mg N W (dComp vs wi b t u) σ H Q → tLc (tI X.K X.mg N W wi) g tt (tD X.K X.mg N W0 u) vs σ H Q := fun σ H Q q => by
  obtain ⟨ι, S, own', ρ, M, c, q⟩ := q
  refine ⟨ι, S, own', ρ, M, c, comp_core (W := W) (u := u) (t := t) (b := b) hgo htt c ?_ trivial⟩
  cases e : dComp vs wi b t u ρ M with
  | none => rw [e] at q; exact q
  | some o =>
    rw [e] at q
    cases o with
    | ex x ρ' M' => exact q
    | ok d ρ' M' =>
      intro v ι' S' H' own'' c' x dn
      have qv := q v ι' S' H' own'' c' x dn
      unfold dComp at e
      split at e
      · split at e
        · split at e
          · cases e
            cases dn with
            | lst h tt => exact ⟨_, rfl, qv⟩
          · cases e
        · cases e
      · cases e
      · cases e
theorem de_lc {elt tg iter : Expr} {ifs : List Expr} {scope : Scope} {own : List (Str × Nat)} {pos : Pos} {wi : TDA} {g : TG} {b : TDG} {tt : TT} {t u : TDE} (hc : X.calm = true) (hN : X.N.Nodup) (hi : DI X N W tg iter wi) (ok : BlkOk X.N X.env.scope scope own)
    (hgo : GOk X.K X.mg N (own.map (·.2)) g b)
    (hg : ∀ (s : Shared) (H : Hp) (C : Addr) (cl : List (Str × Addr)) (fp : List Addr), PG (X.blk s H scope (compEnvC scope cl C X.env) fp) tg g) (ht : ∀ (s : Shared) (H : Hp) (C : Addr) (cl : List (Str × Addr)) (fp : List Addr), PTs (X.blk s H scope (compEnvC scope cl C X.env) fp) ifs tt)
    (htt : ∀ σ H Q, tT X.K X.mg N W0 t σ H Q → tt σ H Q)
    (he : ∀ (s : Shared) (H : Hp) (C : Addr) (cl : List (Str × Addr)) (fp : List Addr), DE (X.blk s H scope (compEnvC scope cl C X.env) fp) N W0 elt u) (hs : ∀ x, foldedSetIterable iter X.env x = pure x := by intro _; rfl) :
    DE X N W (.ListComp elt [⟨tg, iter, ifs, 0⟩] scope pos) (dComp (own.map (·.2)) wi b t u) := pe_imp (pe_lc hc hN hi ok hg ht he hs) (lc_imp hgo htt)
/-- y = [..] -/
theorem ds_setLc {i : Nat} {y : Str} {py : Pos} {spos : Pos} {elt tg iter : Expr} {ifs : List Expr} {scope : Scope} {own : List (Str × Nat)} {pos : Pos} {wi : TDA} {g : TG} {b : TDG} {tt : TT} {t u : TDE} (hc : X.calm = true) (hN : X.N.Nodup) (hy : X.N[i]? = some y) (hyl : X.env.scope.names.lookup y = some .local)
    (hsw : swapsWith (.ListComp elt [⟨tg, iter, ifs, 0⟩] scope pos) (some (.Name y py)) spos.line X.env = pure true) (hi : DI X N W tg iter wi) (ok : BlkOk X.N X.env.scope scope own)
    (hgo : GOk X.K X.mg N (own.map (·.2)) g b)
    (hg : ∀ (s : Shared) (H : Hp) (C : Addr) (cl : List (Str × Addr)) (fp : List Addr), PG (X.blk s H scope (compEnvC scope cl C X.env) fp) tg g) (ht : ∀ (s : Shared) (H : Hp) (C : Addr) (cl : List (Str × Addr)) (fp : List Addr), PTs (X.blk s H scope (compEnvC scope cl C X.env) fp) ifs tt)
    (htt : ∀ σ H Q, tT X.K X.mg N W0 t σ H Q → tt σ H Q)
    (he : ∀ (s : Shared) (H : Hp) (C : Addr) (cl : List (Str × Addr)) (fp : List Addr), DE (X.blk s H scope (compEnvC scope cl C X.env) fp) N W0 elt u) (hs : ∀ x, foldedSetIterable iter X.env x = pure x := by intro _; rfl) :
    DS1 X N W (.Assign [.Name y py] (.ListComp elt [⟨tg, iter, ifs, 0⟩] scope pos) spos) (sSet i (dComp (own.map (·.2)) wi b t u)) :=
  ds_set (ps_imp (ps_setLc hc hN hy hyl hsw hi ok hg ht he hs) fun E σ H q => lc_imp hgo htt σ H _ q)
theorem tYes_of : ∀ σ H Q, tT X.K X.mg N W0 dYes σ H Q → tYes σ H Q := fun σ H Q q => by
  obtain ⟨ι, S, own, ρ, M, c, q⟩ := q
  exact q ι S H own c .refl
end
end DL
set_option maxHeartbeats 2000000
namespace DL
open PySem PySem.Spec PyProof.Rows L2

/-! ### the store's objects: lists that are changed by many hands -/
section
variable {K : PySem.W.Frag} {mg : Str → Option Value} {N : En} {ι ι' : List Addr} {M M' : MS} {S S' : AP} {H H' : Hp} {own own' : OwnM} {σ : L2.St} {ρ : DS}
theorem Ok.neObj (k : Ok K mg N ι M S H own) {j : Nat} {a b : Addr} (e : ι[j]? = some a) (s : S b) : b ≠ a := fun z => by
  rw [z] at s
  exact (k.iout a (List.mem_of_getElem? e)).1 s
theorem Ok.setObj_ext (k : Ok K mg N ι M S H own) {j : Nat} {a : Addr} {o : HO} (e : ι[j]? = some a) : Ext S ι H S ι (upd H a o) :=
  ⟨fun _ h => h, fun _ _ h => h, fun b u s h => by rw [upd_ne (k.neObj e s)]; exact h⟩
theorem Ok.setObj (k : Ok K mg N ι M S H own) {j : Nat} {a : Addr} {xs : List V} {ds : List D} (e : ι[j]? = some a) (hd : Dns K mg S ι H xs ds) : Ok K mg N ι (M.set j (.lst ds)) S (upd H a (.lst xs)) own where
  len := by simpa using k.len
  pre := k.pre
  fresh := k.fresh
  objs := fun i b m h1 h2 => by
    have x := k.setObj_ext (o := HO.lst xs) e
    by_cases hi : i = j
    · subst hi
      rw [e] at h1
      cases h1
      have hlt : i < M.length := by
        have := (List.getElem?_eq_some_iff.mp h2).1
        simpa using this
      rw [List.getElem?_set_self hlt] at h2
      cases h2
      exact ⟨xs, upd_same, hd.ext x⟩
    · rw [List.getElem?_set_ne (Ne.symm hi)] at h2
      refine (k.objs i b m h1 h2).ext x (upd_ne fun z => hi ?_)
      subst z
      obtain ⟨p1, q1⟩ := List.getElem?_eq_some_iff.mp h1
      obtain ⟨p2, q2⟩ := List.getElem?_eq_some_iff.mp e
      exact (List.getElem_inj k.nd).mp (q1.trans q2.symm)
  nd := k.nd
  iout := fun b hb => ⟨(k.iout b hb).1, by
    by_cases z : b = a
    · rw [z, upd_same]; exact fun q => nomatch q
    · rw [upd_ne z]; exact (k.iout b hb).2⟩
  oout := fun i b q => by
    have r := k.oout i b q
    refine ⟨r.1, ?_, r.2.2⟩
    rw [upd_ne (show b ≠ a from fun z => r.2.2.2 (by rw [z]; exact List.mem_of_getElem? e))]
    exact r.2.1
  oinj := k.oinj
  ofin := k.ofin
  sub := k.sub
  new := k.new
  keep := fun b u h1 h2 h3 => by
    have hne : b ≠ a := fun z => by
      rcases k.fresh a (List.mem_of_getElem? e) with h | h
      · exact h2 (z ▸ h)
      · rw [z, h] at h1; cases h1
    rw [upd_ne hne]
    exact k.keep b u h1 h2 h3
  trk := fun b h => by
    by_cases z : b = a
    · rw [z, upd_same]; exact fun q => nomatch q
    · rw [upd_ne z]; exact k.trk b h
  sat := fun b h => by
    rw [upd_ne (k.neObj e h)]
    exact k.sat b h
theorem Cur.setObj (c : Cur K mg N ι S H own σ ρ M) {j : Nat} {a : Addr} {xs : List V} {ds : List D} (e : ι[j]? = some a) (hd : Dns K mg S ι H xs ds) : Cur K mg N ι S (upd H a (.lst xs)) own σ ρ (M.set j (.lst ds)) :=
  ⟨c.ok.setObj e hd, c.env.ext (c.ok.setObj_ext e) fun i b h => upd_ne (show b ≠ a from fun z => (c.ok.oout i b h).2.2.2 (by rw [z]; exact List.mem_of_getElem? e))⟩
theorem Ok.newObj (k : Ok K mg N ι M S H own) {p : Addr} {xs : List V} {ds : List D} (hp : H p = none) (hd : Dns K mg S ι H xs ds) : Ok K mg N (ι ++ [p]) (M ++ [.lst ds]) S (upd H p (.lst xs)) own ∧ Ext S ι H S (ι ++ [p]) (upd H p (.lst xs)) := by
  have hpi : p ∉ ι := fun z => (k.iout p z).2 hp
  have x : Ext S ι H S (ι ++ [p]) (upd H p (.lst xs)) := ⟨fun _ h => h, fun j a h => by rw [List.getElem?_append_left (List.getElem?_eq_some_iff.mp h).1]; exact h, fun a u _ h => by rw [upd_ne (ne_of_none h hp)]; exact h⟩
  refine ⟨⟨by simp [k.len], fun j a h => x.idx j a (k.pre j a h), fun a ha => ?_, fun j a m h1 h2 => ?_, ?_, fun a ha => ?_, fun i a e => ?_, k.oinj, k.ofin, k.sub, k.new, fun a u h1 h2 h3 => ?_, fun a h => ?_, fun a h => ?_⟩, x⟩
  · rcases List.mem_append.mp ha with h | h
    · exact k.fresh a h
    · have e : a = p := by simpa using h
      rw [e]; exact .inr (k.free hp)
  · by_cases hj : j < ι.length
    · rw [List.getElem?_append_left hj] at h1
      rw [List.getElem?_append_left (by rw [← k.len]; exact hj)] at h2
      exact (k.objs j a m h1 h2).ext x (upd_ne fun z => (k.iout a (List.mem_of_getElem? h1)).2 (by rw [z]; exact hp))
    · have hj2 : ι.length ≤ j := by omega
      rw [List.getElem?_append_right hj2] at h1
      rw [List.getElem?_append_right (by rw [← k.len]; exact hj2)] at h2
      rw [← k.len] at h2
      cases e : j - ι.length with
      | zero =>
        rw [e] at h1 h2
        cases h1
        cases h2
        exact ⟨xs, upd_same, hd.ext x⟩
      | succ n => rw [e] at h1; cases h1
  · rw [List.nodup_append]
    refine ⟨k.nd, by simp, fun a ha b hb => ?_⟩
    have e : b = p := by simpa using hb
    rw [e]
    exact fun z => hpi (z ▸ ha)
  · rcases List.mem_append.mp ha with h | h
    · refine ⟨(k.iout a h).1, ?_⟩
      rw [upd_ne (show a ≠ p from fun z => hpi (by rw [← z]; exact h))]
      exact (k.iout a h).2
    · have e : a = p := by simpa using h
      rw [e, upd_same]
      exact ⟨fun s => (by obtain ⟨u, h, _⟩ := k.sat p s; rw [hp] at h; cases h), fun q => nomatch q⟩
  · have r := k.oout i a e
    have hne : a ≠ p := fun z => k.ohn e (by rw [z]; exact hp)
    refine ⟨r.1, by rw [upd_ne hne]; exact r.2.1, r.2.2.1, fun z => ?_⟩
    rcases List.mem_append.mp z with h | h
    · exact r.2.2.2 h
    · exact hne (by simpa using h)
  · have q := k.keep a u h1 h2 h3
    rw [upd_ne (ne_of_none q hp)]; exact q
  · by_cases z : a = p
    · rw [z, upd_same]; exact fun q => nomatch q
    · rw [upd_ne z]; exact k.trk a h
  · obtain ⟨u, h1, h2⟩ := k.sat a h
    rw [upd_ne (ne_of_none h1 hp)]
    exact ⟨u, h1, h2⟩
end
section
variable {X : Cx} {N : En} {W : WX}
/-- o[k], o an object of the store -/
def dObjIx (i : Nat) (b : TDE) : TDE := fun ρ M => match ρ[i]? with
  | some (some (.t (.obj j))) => match b ρ M with
    | some (.ok (.int k) ρ1 M1) => match M1[j]? with
      | some (.lst ds) => match L2.atI ds k with
        | some d => some (.ok d ρ1 M1)
        | none => none
      | _ => none
    | some (.ok _ _ _) => none
    | o => o
  | _ => none
theorem de_objix {ea eb : Expr} {pos : Pos} {i : Nat} {b : TDE} (ha : PE X ea (tVar i)) (hb : DE X N W eb b) (hs : PlainIx eb := by exact fun _ _ => rfl) : DE X N W (.Subscript ea eb pos) (dObjIx i b) :=
  pe_imp (pe_ix ix_list ha hb hs) fun σ H Q q => by
    obtain ⟨ι, S, own, ρ, M, c, q⟩ := q
    unfold dObjIx at q
    split at q
    · rename_i j e
      obtain ⟨v, h1, h2⟩ := c.env.at_ i _ e
      obtain ⟨_, dn⟩ := h2
      cases dn with
      | @obj _ a hj =>
        refine ⟨_, h1, ι, S, own, ρ, M, c, ?_⟩
        cases e1 : b ρ M with
        | none => rw [e1] at q; exact q
        | some o =>
          rw [e1] at q
          cases o with
          | ex x ρ' M' => exact q
          | ok d ρ1 M1 =>
            cases d with
            | int k =>
              simp only at q
              intro y ι1 S1 H1 own1 c1 x1 dy
              have ey : y = .int k := (Bn.dn dy).intAt
              cases e2 : M1[j]? with
              | none => rw [e2] at q; exact q.elim
              | some m =>
                rw [e2] at q
                cases m with
                | lst ds =>
                  simp only at q
                  cases e3 : L2.atI ds k with
                  | none => rw [e3] at q; exact q.elim
                  | some d =>
                    rw [e3] at q
                    obtain ⟨xs, g1, g2⟩ := c1.ok.objs j a _ (x1.ext.idx j a hj) e2
                    obtain ⟨v, w1, w2⟩ := g2.atI e3
                    exact ⟨a, xs, k, v, rfl, ey, SqL.of g1, w1, q v ι1 S1 H1 own1 c1 x1 w2⟩
                | _ => exact q.elim
            | _ => exact q.elim
    · exact q.elim
/-- o[k] = e -/
def sObjSet (i : Nat) (b a : TDE) : TDS := fun ρ M => match a ρ M with
  | some (.ok d ρ1 M1) => match ρ1[i]? with
    | some (some (.t (.obj j))) => match b ρ1 M1 with
      | some (.ok (.int k) ρ2 M2) => match M2[j]? with
        | some (.lst ds) => match ixN ds.length k with
          | some n => some (.nx ρ2 (M2.set j (.lst (ds.set n d))))
          | none => none
        | _ => none
      | some (.ok _ _ _) => none
      | some (.ex x ρ2 M2) => some (.ex x ρ2 M2)
      | none => none
    | _ => none
  | some (.ex x ρ1 M1) => some (.ex x ρ1 M1)
  | none => none
theorem ds_objset {st : Stmt} {i : Nat} {a b : TDE} (h : PS X st (tAsg (tD X.K X.mg N W a) (gSub (tVar i) (tD X.K X.mg N W b) rSetL))) : DS1 X N W st (sObjSet i b a) := ps_imp h fun E σ H q => by
  obtain ⟨ι, S, own, ρ, M, c, q⟩ := q
  refine ⟨ι, S, own, ρ, M, c, ?_⟩
  unfold sObjSet at q
  cases e1 : a ρ M with
  | none => rw [e1] at q; exact q
  | some o =>
    rw [e1] at q
    cases o with
    | ex x ρ' M' => exact q σ
    | ok d ρ1 M1 =>
      intro v ι1 S1 H1 own1 c1 x1 dv
      simp only at q
      have q := postS.later x1.ext q
      split at q
      · rename_i j e
        obtain ⟨v', h1, h2⟩ := c1.env.at_ i _ e
        obtain ⟨_, dn⟩ := h2
        cases dn with
        | @obj _ ad hj =>
          refine ⟨_, h1, ι1, S1, own1, ρ1, M1, c1, ?_⟩
          cases e2 : b ρ1 M1 with
          | none => rw [e2] at q; exact q
          | some o2 =>
            rw [e2] at q
            cases o2 with
            | ex x ρ' M' => exact q σ
            | ok d2 ρ2 M2 =>
              cases d2 with
              | int k =>
                simp only at q
                intro y ι2 S2 H2 own2 c2 x2 dy
                have ey : y = .int k := (Bn.dn dy).intAt
                cases e3 : M2[j]? with
                | none => rw [e3] at q; exact q.elim
                | some m =>
                  rw [e3] at q
                  cases m with
                  | lst ds =>
                    simp only at q
                    cases e4 : ixN ds.length k with
                    | none => rw [e4] at q; exact q.elim
                    | some n =>
                      rw [e4] at q
                      have hj2 := x2.ext.idx j ad hj
                      obtain ⟨xs, g1, g2⟩ := c2.ok.objs j ad _ hj2 e3
                      refine ⟨ad, xs, k, n, rfl, ey, g1, by rw [g2.length]; exact e4, ?_⟩
                      exact q σ ι2 S2 _ own2 (c2.setObj hj2 (g2.set n (dv.ext x2.ext))) (x2.ext.trans (c2.ok.setObj_ext hj2))
                  | _ => exact q.elim
              | _ => exact q.elim
      · exact q.elim
/-- return [..], an object of the store from here on -/
def sRetObj (a : TDA) : TDS := fun ρ M => match a ρ M with
  | some (.ok ds ρ1 M1) => if ds.length ≤ sizeLine then some (.rt (.obj M1.length) (M1 ++ [.lst ds])) else none
  | some (.ex x ρ1 M1) => some (.ex x ρ1 M1)
  | none => none
theorem ds_retObj {st : Stmt} {a : TDA} (h : PS X st (tRet (tLst (tA X.K X.mg N W a)))) : DS1 X N W st (sRetObj a) := ps_imp h fun E σ H q => by
  obtain ⟨ι, S, own, ρ, M, c, q⟩ := q
  refine ⟨ι, S, own, ρ, M, c, ?_⟩
  unfold sRetObj at q
  cases e1 : a ρ M with
  | none => rw [e1] at q; exact q
  | some o =>
    rw [e1] at q
    cases o with
    | ex x ρ' M' => exact q σ
    | ok ds ρ1 M1 =>
      intro vs ι1 S1 H1 own1 c1 x1 dv
      by_cases hz : ds.length ≤ sizeLine
      · simp only [if_pos hz] at q
        refine ⟨by rw [dv.length]; exact hz, fun p hp => ?_⟩
        obtain ⟨k2, x2⟩ := c1.ok.newObj hp dv
        refine q (.ref p) _ S1 _ k2.noOwn (x1.ext.trans x2) (.obj ?_)
        rw [← c1.ok.len, List.getElem?_append_right (Nat.le_refl _), Nat.sub_self]
        rfl
      · simp only [if_neg hz] at q
        exact q.elim
end
end DL
set_option maxHeartbeats 2000000
namespace DL
open PySem PySem.Spec PyProof.Rows L2

/-! ### repr of data -/
def shwD (p : PyData) : Prop := p.showable = true ∧ p.hasDict = false ∧ p.depth ≤ 60 ∧ p.shown.length ≤ sizeLine
instance (p : PyData) : Decidable (shwD p) := by unfold shwD; infer_instance
def reprD : D → Option D := fun d => match toPy d with
  | some p => if shwD p then some (.str p.shown) else none
  | none => none
section
variable {X : Cx} {N : En} {W : WX}
theorem call_reprD (hu : X.A.units + 64 < cLine) (hg : Calm X.A) : CallR X (.builtin "repr") (fun xs H Q => ∃ v d, xs = [v] ∧ Dp X.K H v d ∧ shwD d ∧ Q (.str d.shown) H) := by
  intro pins s σ H xs us Q I r h
  obtain ⟨v, d, rfl, hd, ⟨h1, h2, h3, h4⟩, q⟩ := h
  obtain ⟨u, rfl, rv⟩ := vals1 r
  have fin : ∀ (t : Str) s', t = d.shown → (∀ b o, s.heap.get? b = some o → s'.heap.get? b = some o) → Inv X pins σ H s' → ∀ tk, EP X pins σ Q (.str t tk) s' := fun t s' e k I' tk => ⟨.str t, H, I', ⟨_, rfl⟩, by rw [e]; exact q⟩
  have deep : ∀ {a : Addr}, u = .ref a → wpAny (model X.prog X.w) X.A (call (.builtin "repr") [u]) (EP X pins σ Q) X.xe s := fun {a} eu => by
    obtain ⟨as, rd⟩ := Dp.reads I d v u hd rv
    subst eu
    refine repr_of_reads' rd h1 (PyData.noDict_hsm h2) hg (by omega) (fun _ _ e => e) (fun h' t tk hk => ?_) h4
    exact ⟨.str d.shown, H, I.kept (h' := h') (t' := tk) hk, ⟨_, rfl⟩, q⟩
  cases hd with
  | non =>
    cases (show u = Value.none from rv)
    exact PySem.P.repr_of_none ⟨.str "None", H, I.tok _, ⟨_, rfl⟩, q⟩
  | bl b =>
    cases (show u = Value.bool b from rv)
    cases b with
    | true => exact PySem.P.repr_of_bool ⟨.str (PyData.bool true).shown, H, I.tok _, ⟨s.toks, by simp only [PyData.shown]⟩, q⟩
    | false => exact PySem.P.repr_of_bool ⟨.str (PyData.bool false).shown, H, I.tok _, ⟨s.toks, by simp only [PyData.shown]⟩, q⟩
  | int i =>
    obtain ⟨t, rfl⟩ := (show ∃ t, u = Value.int i t from rv)
    exact PySem.P.repr_of_int (by simpa [PyData.showable] using h1) ⟨.str (toString i), H, I.tok _, ⟨_, rfl⟩, q⟩
  | str x =>
    obtain ⟨t, rfl⟩ := (show ∃ t, u = Value.str x t from rv)
    exact PySem.P.repr_of_str (hsz := h4) ⟨.str (reprText x), H, I.tok _, ⟨_, rfl⟩, q⟩
  | lst h t => exact deep (show u = Value.ref _ from rv)
  | tup h t => exact deep (show u = Value.ref _ from rv)
theorem c_repr (hu : X.A.units + 64 < cLine) (hg : Calm X.A) : C1 X (.builtin "repr") reprD := ⟨_, call_reprD hu hg, fun N ι M S H own x d r Q k b q k' => by
  unfold reprD at q
  cases e : toPy d with
  | none => rw [e] at q; cases q
  | some p =>
    rw [e] at q
    simp only at q
    split at q
    · cases q
      exact ⟨x, p, rfl, b.dp e, by assumption, k' _ S H k .refl (.str _)⟩
    · cases q⟩

/-! ### is True, is False -/
def isB (neg : Bool) : D → D → Option D := fun d e => match d, e with
  | .bl a, .bl b => some (.bl (xor neg (decide (a = b))))
  | _, _ => none
theorem od_isB : OpD X (compareOp .Is) (isB false) := ⟨_, op_isBl, fun N ι M S H own x y d e r Q k b1 b2 q k' => by
  unfold isB at q
  split at q
  · cases q
    refine ⟨_, _, b1.blAt, b2.blAt, k' _ S H k .refl ?_⟩
    rw [Bool.false_xor]
    exact .bl _
  · cases q⟩
theorem od_notB : OpD X (compareOp .IsNot) (isB true) := ⟨_, op_notBl, fun N ι M S H own x y d e r Q k b1 b2 q k' => by
  unfold isB at q
  split at q
  · cases q
    refine ⟨_, _, b1.blAt, b2.blAt, k' _ S H k .refl ?_⟩
    rw [Bool.true_xor]
    exact .bl _
  · cases q⟩
def isA (neg : Bool) : D → D → Option D := fun d e => (isN neg d e).orElse fun _ => isB neg d e
theorem od_is : OpD X (compareOp .Is) (isA false) := od_isN.or od_isB
theorem od_not : OpD X (compareOp .IsNot) (isA true) := od_notN.or od_notB

/-! ### x.bit_length() -/
def bitsD : D → Option D
  | .int i => some (.int (Builtin.Int.intBits i : Nat))
  | _ => none
theorem de_bits {o : Expr} {apos pos : Pos} {a : TDE} (ha : DB X N W o a) (hbase : attributeBase o "bit_length" X.env (eval o X.env) = eval o X.env := by rfl) (hline : (apos.endLine == pos.line) = true := by rfl) : DE X N W (.Call (.Attribute o "bit_length" apos) [] [] pos) (dUn bitsD a) :=
  pe_imp (pe_bits ha hbase hline) fun σ H Q q => un_core (R := fun x H Q => ∃ i, x = .int i ∧ Q (.int (Builtin.Int.intBits i : Nat)) H) (fun N ι M S H own x d e Q k b q k' => by
    unfold bitsD at q
    split at q
    · cases q
      exact ⟨_, b.intAt, k' _ S H k .refl (.int _)⟩
    · cases q) σ H Q q

/-! ### names of the module, of the built-ins -/
theorem de_glob {x : Str} {v : V} {d : D} {u : Value} {pos : Pos} (hm : X.mg x = some u) (r : RelV v u) (hd : ∀ S ι H, Dn X.K X.mg S ι H v d) (hg : Gl X x := by rfl) (hdb : (x == ("__debug__" : Str)) = false := by decide) : DE X N W (.Name x pos) (dC d) := pe_imp (pe_glob hg hm r hdb) fun σ H Q q => by
  obtain ⟨ι, S, own, ρ, M, c, q⟩ := q
  exact q v ι S H own c .refl (hd _ _ _)
theorem de_gl {x : Str} {u : Value} {v : V} {pos : Pos} (hm : X.mg x = some u) (r : RelV v u) (hg : Gl X x := by rfl) (hdb : (x == ("__debug__" : Str)) = false := by decide) : DE X N W (.Name x pos) (dC (.gl x)) :=
  de_glob hm r (fun _ _ _ => .gl hm r) hg hdb
theorem de_tyn {x : Str} {T : String} {pos : Pos} (hm : X.mg x = none) (hv : bootBuiltins x = some (.type T) := by decide +kernel) (hg : Gl X x := by rfl) (hn : x ≠ "__name__" := by decide) (hdb : (x == ("__debug__" : Str)) = false := by decide) : DE X N W (.Name x pos) (dC (.ty T)) :=
  pe_imp (pe_bltn (v := .ty T) hg hm hv rfl hn hdb) fun σ H Q q => by
    obtain ⟨ι, S, own, ρ, M, c, q⟩ := q
    exact q (.ty T) ι S H own c .refl (.ty T)

/-! ### a, b, c = x, y, z -/
def sPar3 (i j l : Nat) (a : TDA) : TDS := fun ρ M => match a ρ M with
  | some (.ok [d, e, f] ρ1 M1) => some (.nx (((ρ1.set i (some (.t d))).set j (some (.t e))).set l (some (.t f))) M1)
  | some (.ok _ _ _) => none
  | some (.ex x ρ1 M1) => some (.ex x ρ1 M1)
  | none => none
theorem ds_par3 {st : Stmt} {i j l : Nat} {a : TDA} (h : PS X st (tPar3 i j l (tA X.K X.mg N W a))) : DS1 X N W st (sPar3 i j l a) := ps_imp h fun E σ H q => by
  obtain ⟨ι, S, own, ρ, M, c, q⟩ := q
  refine ⟨ι, S, own, ρ, M, c, ?_⟩
  unfold sPar3 at q
  cases e1 : a ρ M with
  | none => rw [e1] at q; exact q
  | some o1 =>
    rw [e1] at q
    cases o1 with
    | ex x ρ' M' => exact q σ
    | ok ds ρ1 M1 =>
      intro vs ι1 S1 H1 own1 c1 x1 dn
      cases dn with
      | nil => exact q.elim
      | cons h1 t =>
        cases t with
        | nil => exact q.elim
        | cons h2 t =>
          cases t with
          | nil => exact q.elim
          | cons h3 t =>
            cases t with
            | nil => exact ⟨_, _, _, rfl, q _ ι1 S1 H1 _ (((c1.store h1).store h2).store h3) x1.ext⟩
            | cons h4 t => exact q.elim
/-- never reached -/
def sNever : TDS := fun _ _ => none
theorem ds_never {st : Stmt} : DS1 X N W st sNever := ps_imp ps_never fun E σ H q => by
  obtain ⟨ι, S, own, ρ, M, c, q⟩ := q
  exact q.elim
end
end DL
set_option maxHeartbeats 2000000
namespace DL
open PySem PySem.Spec PyProof.Rows L2

/-! ### own classes: what is known of them -/
/-- a type by name -/
inductive TyN where
  | ty (n : String) | own (c : Str)
  deriving DecidableEq
structure ClsF (K : PySem.W.Frag) (C : Addr) : Prop where
  cls : Cls K C
  ha : PySem.W.findIn K (.ref C) "__class__" = some (some (.builtin "object.__class__"))
  hn : PySem.W.specialIn K (.builtin "object.__class__") "__get__" = some (some (.builtin "getset_descriptor.__get__"))
  htk : PySem.W.takesIn K (.builtin "object.__class__") = some true
  hm : PySem.W.mroIn K C (.type "object") = some true
/-- tables: the classes; isinstance's answers; names that are no attribute of the class -/
structure OwnT where
  cs : List Str
  kt : List (TyN × TyN × Bool)
  at_ : List (Str × Str)
def TyN.val (mg : Str → Option Value) : TyN → Option Value
  | .ty n => some (.type n)
  | .own c => mg c
structure OwnOk (K : PySem.W.Frag) (mg : Str → Option Value) (T : OwnT) : Prop where
  ref : ∀ c ∈ T.cs, ∃ C, mg c = some (.ref C)
  cls : ∀ c ∈ T.cs, ∀ C, mg c = some (.ref C) → ClsF K C
  kt : ∀ a b r, (a, b, r) ∈ T.kt → ∀ va vb, a.val mg = some va → b.val mg = some vb → PySem.W.kitOne K va vb = some r
  at_ : ∀ c f, (c, f) ∈ T.at_ → ∀ C, mg c = some (.ref C) → NoAttr K C f
def ktGet (a b : TyN) : List (TyN × TyN × Bool) → Option Bool
  | [] => none
  | (x, y, r) :: l => if x = a ∧ y = b then some r else ktGet a b l
theorem ktGet_mem {a b : TyN} {r : Bool} : ∀ {l : List (TyN × TyN × Bool)}, ktGet a b l = some r → (a, b, r) ∈ l
  | (x, y, r') :: l, h => by
    unfold ktGet at h
    split at h
    · rename_i e
      cases h
      rw [e.1, e.2]
      exact List.mem_cons_self
    · exact List.mem_cons_of_mem _ (ktGet_mem h)
def tyD (T : OwnT) : D → Option TyN
  | .non => some (.ty "NoneType")
  | .bl _ => some (.ty "bool")
  | .int _ => some (.ty "int")
  | .str _ => some (.ty "str")
  | .lst _ => some (.ty "list")
  | .tup _ => some (.ty "tuple")
  | .dct _ _ => some (.ty "dict")
  | .ins c _ _ => if c ∈ T.cs then some (.own c) else none
  | _ => none
def clsD (T : OwnT) : D → Option TyN
  | .ty n => some (.ty n)
  | .gl c => if c ∈ T.cs then some (.own c) else none
  | _ => none
def anyK (T : OwnT) (a : TyN) : List D → Option Bool
  | [] => some false
  | d :: ds => match clsD T d with
    | some b => match ktGet a b T.kt with
      | some true => if ds.all (fun d => (clsD T d).isSome) = true then some true else none
      | some false => anyK T a ds
      | none => none
    | none => none
def isiD (T : OwnT) : D → D → Option D := fun d e => match tyD T d with
  | some a => (match e with
    | .tup es => anyK T a es
    | e => (clsD T e).bind fun b => ktGet a b T.kt).map .bl
  | none => none
section
variable {K : PySem.W.Frag} {mg : Str → Option Value} {S : AP} {ι : List Addr} {H : Hp} {T : OwnT}
theorem Bn.tyX (O : OwnOk K mg T) {v : V} {d : D} {a : TyN} (b : Bn K mg S ι H v d) (e : tyD T d = some a) : ∃ va, a.val mg = some va ∧ TyX K H v va := by
  cases b with
  | lst h1 h2 => cases e; exact ⟨_, rfl, .base (.lst h1)⟩
  | dct h1 l h2 => cases e; exact ⟨_, rfl, .base (.dK h1)⟩
  | dn h =>
    cases h with
    | non => cases e; exact ⟨_, rfl, .base .non⟩
    | bl b => cases e; exact ⟨_, rfl, .base (.bl b)⟩
    | int i => cases e; exact ⟨_, rfl, .base (.int i)⟩
    | str s => cases e; exact ⟨_, rfl, .base (.str s)⟩
    | lst h t => cases e; exact ⟨_, rfl, .base (.lst h.2)⟩
    | tup h t =>
      cases e
      refine ⟨_, rfl, ?_⟩
      rcases h with ⟨_, h | ⟨o, h⟩⟩ | h
      · exact .base (.tup h)
      · exact .fTuple h
      · rcases h with h | ⟨o, its, n, h1, h2, _⟩
        · rcases h with h | ⟨o, h⟩ <;> exact nomatch h
        · exact .kTuple h1 h2
    | dct s h l t => cases e; exact ⟨_, rfl, .base (.dK h)⟩
    | @ins ad C dx c ks xs ds s h l m t =>
      have e' : (if c ∈ T.cs then some (TyN.own c) else none) = some a := e
      split at e'
      · rename_i hc
        cases e'
        have F := O.cls _ hc C m
        exact ⟨_, m, .base (.ins h F.cls F.ha F.hn F.htk F.hm)⟩
      · cases e'
    | _ => cases e
theorem Dn.clsV (O : OwnOk K mg T) {v : V} {d : D} {b : TyN} (h : Dn K mg S ι H v d) (e : clsD T d = some b) : ∃ vb, b.val mg = some vb ∧ ClsV v vb := by
  cases h with
  | ty n => cases e; exact ⟨_, rfl, .ty n⟩
  | @gl c v u m r =>
    have e' : (if c ∈ T.cs then some (TyN.own c) else none) = some b := e
    split at e'
    · rename_i hc
      cases e'
      obtain ⟨C, hC⟩ := O.ref c hc
      rw [hC] at m
      cases m
      refine ⟨_, hC, ?_⟩
      cases v with
      | ref a =>
        have r' : Value.ref C = Value.ref a := r
        cases r'
        exact .own C
      | non => exact nomatch (show Value.ref C = Value.none from r)
      | bl b => exact nomatch (show Value.ref C = Value.bool b from r)
      | int i => obtain ⟨t, z⟩ := (show ∃ t, Value.ref C = Value.int i t from r); cases z
      | str x => obtain ⟨t, z⟩ := (show ∃ t, Value.ref C = Value.str x t from r); cases z
      | byt x => obtain ⟨t, z⟩ := (show ∃ t, Value.ref C = Value.bytes x t from r); cases z
      | flt x => obtain ⟨t, z⟩ := (show ∃ t, Value.ref C = Value.float x t from r); cases z
      | ty n => exact nomatch (show Value.ref C = Value.type n from r)
    · cases e'
  | _ => cases e
theorem Bn.clsV (O : OwnOk K mg T) {v : V} {d : D} {b : TyN} (h : Bn K mg S ι H v d) (e : clsD T d = some b) : ∃ vb, b.val mg = some vb ∧ ClsV v vb := by
  cases h with
  | dn h => exact h.clsV O e
  | lst _ _ => cases e
  | dct _ _ _ => cases e
theorem cls_all (O : OwnOk K mg T) : ∀ {vs : List V} {ds : List D}, Dns K mg S ι H vs ds → ds.all (fun d => (clsD T d).isSome) = true → ∃ us, Paired ClsV vs us
  | _, _, .nil, _ => ⟨[], .nil⟩
  | _, _, .cons (d := d) (ds := ds) h t, e => by
    rw [List.all_cons, Bool.and_eq_true] at e
    obtain ⟨b, hb⟩ := Option.isSome_iff_exists.mp e.1
    obtain ⟨vb, _, cv⟩ := h.clsV O hb
    obtain ⟨us, p⟩ := cls_all O t e.2
    exact ⟨vb :: us, .cons cv p⟩
theorem anyK_ok (O : OwnOk K mg T) {a : TyN} {va : Value} (ea : a.val mg = some va) : ∀ {vs : List V} {ds : List D} {r : Bool}, Dns K mg S ι H vs ds → anyK T a ds = some r → ∃ us, Paired ClsV vs us ∧ PySem.W.kitAny K va us = some r
  | _, _, _, .nil, e => by cases e; exact ⟨[], .nil, kitAny_nil⟩
  | _, _, r, .cons (d := d) (ds := ds) h t, e => by
    unfold anyK at e
    cases e1 : clsD T d with
    | none => rw [e1] at e; cases e
    | some b =>
      rw [e1] at e
      obtain ⟨vb, eb, cv⟩ := h.clsV O e1
      simp only at e
      cases e2 : ktGet a b T.kt with
      | none => rw [e2] at e; cases e
      | some r1 =>
        rw [e2] at e
        have k1 := O.kt a b r1 (ktGet_mem e2) va vb ea eb
        cases r1 with
        | true =>
          simp only at e
          split at e
          · rename_i ha
            cases e
            obtain ⟨us, p⟩ := cls_all O t ha
            exact ⟨_, .cons cv p, kitAny_cons k1 (fun z => nomatch z) (fun _ => rfl)⟩
          · cases e
        | false =>
          obtain ⟨us, p, q⟩ := anyK_ok O ea t e
          exact ⟨_, .cons cv p, kitAny_cons k1 (fun _ => q) (fun z => nomatch z)⟩
end
/-- isinstance(x, (c1, c2, ..)), any tuple -/
def rIsiS (K : PySem.W.Frag) : List V → Hp → VK → Prop := fun xs H Q => ∃ (x : V) (tp : Addr) (cs : List V) (t : Value) (us : List Value) (b : Bool), xs = [x, .ref tp] ∧ SqT K H tp cs ∧ Paired ClsV cs us ∧ TyX K H x t ∧ PySem.W.kitAny K t us = some b ∧ Q (.bl b) H
section
variable {X : Cx} {N : En} {W : WX} {T : OwnT}
theorem call_isiS : CallR X (.builtin "isinstance") (rIsiS X.K) := by
  intro pins s σ H xs us Q I r h
  obtain ⟨x, tp, cs, t, ws, b, rfl, hT, k, ty, e, q⟩ := h
  obtain ⟨u1, u2, rfl, r1, r2⟩ := vals2 r
  cases (show u2 = Value.ref tp from r2)
  obtain ⟨P, Z, p, hx⟩ := kit_of I r1 ty
  obtain ⟨its, rv, ⟨o, h1, h2, n, h3⟩, _⟩ := I.tuple hT
  have e3 := ClsV.all k rv
  subst e3
  obtain ⟨oc, od, dt, sl⟩ := o
  simp only at h2 h3
  subst h2 h3
  exact PySem.W.kia_tup Z I.kIn p h1 e hx fun tk => ⟨.bl b, H, I.tok tk, rfl, q⟩
theorem c_isi (O : OwnOk X.K X.mg T) : C2 X (.builtin "isinstance") (isiD T) := ⟨_, CallR.or2 call_isi call_isiS, fun N ι M S H own x y d e r Q k b1 b2 q k' => by
  unfold isiD at q
  cases e1 : tyD T d with
  | none => rw [e1] at q; cases q
  | some a =>
    rw [e1] at q
    obtain ⟨va, ea, tx⟩ := b1.tyX O e1
    have one : ∀ (w : Option Bool), (clsD T e).bind (fun b => ktGet a b T.kt) = w → w.map D.bl = some r → rIsi X.K [x, y] H Q ∨ rIsiS X.K [x, y] H Q := fun w ew hw => by
      cases e2 : clsD T e with
      | none => rw [e2] at ew; cases ew; cases hw
      | some b =>
        rw [e2] at ew
        obtain ⟨vb, eb, cv⟩ := b2.clsV O e2
        have ew : ktGet a b T.kt = w := ew
        cases w with
        | none => cases hw
        | some rr =>
          cases hw
          exact .inl ⟨x, y, va, vb, rr, rfl, cv, tx, O.kt a b rr (ktGet_mem ew) va vb ea eb, k' _ S H k .refl (.bl _)⟩
    cases e with
    | tup es =>
      have q : (anyK T a es).map D.bl = some r := q
      cases e2 : anyK T a es with
      | none => rw [e2] at q; cases q
      | some rr =>
        rw [e2] at q
        cases q
        obtain ⟨tp, xs, rfl, hs, dn, _⟩ := b2.tupAt
        obtain ⟨us, p, ky⟩ := anyK_ok O ea dn e2
        exact .inr ⟨x, tp, xs, va, us, rr, rfl, hs, p, tx, ky, k' _ S H k .refl (.bl _)⟩
    | _ => exact one _ rfl q⟩

/-! ### x.f -/
def lookD (f : Str) (ks : List Str) (ds : List D) : Option D := (ks.zip ds).lookup f
theorem Dns.look {K : PySem.W.Frag} {mg : Str → Option Value} {S : AP} {ι : List Addr} {H : Hp} {f : Str} : ∀ {ks : List Str} {xs : List V} {ds : List D} {d : D}, Dns K mg S ι H xs ds → lookD f ks ds = some d → ∃ v, (ks.zip xs).lookup f = some v ∧ Dn K mg S ι H v d
  | [], _, _, _, _, e => nomatch e
  | k :: ks, _, _, _, .nil, e => nomatch e
  | k :: ks, _, _, d, .cons (v := v) (d := d0) h t, e => by
    unfold lookD at e
    rw [List.zip_cons_cons, List.lookup_cons] at e ⊢
    cases h1 : (f == k) with
    | true => simp only [h1] at e ⊢; cases e; exact ⟨v, rfl, h⟩
    | false => simp only [h1] at e ⊢; exact Dns.look t e
def fldD (T : OwnT) (f : Str) : D → Option D
  | .ins c ks ds => if c ∈ T.cs ∧ (c, f) ∈ T.at_ then lookD f ks ds else none
  | _ => none
theorem de_fld (O : OwnOk X.K X.mg T) {e : Expr} {f : Str} {pos : Pos} {a : TDE} (he : DB X N W e a) (hb : attributeBase e f X.env (eval e X.env) = eval e X.env := by rfl) : DE X N W (.Attribute e f pos) (dUn (fldD T f) a) :=
  pe_imp (pe_fld he hb) fun σ H Q q => un_core (R := fun x H Q => ∃ a C dx fs v, x = .ref a ∧ H a = some (.ins C dx fs) ∧ Cls X.K C ∧ NoAttr X.K C f ∧ fs.lookup f = some v ∧ Q v H) (fun N ι M S H own x d e Q k b q k' => by
    cases d with
    | ins c ks ds =>
      have q : (if c ∈ T.cs ∧ (c, f) ∈ T.at_ then lookD f ks ds else none) = some e := q
      split at q
      · rename_i hc
        cases b with
        | dn h =>
          cases h with
          | @ins ad C dx c ks xs ds s h l m t =>
            obtain ⟨v, h1, h2⟩ := t.look q
            exact ⟨_, _, _, _, v, rfl, h, (O.cls c hc.1 _ m).cls, O.at_ c f hc.2 _ m, h1, k' v S H k .refl h2⟩
      · cases q
    | _ => cases q) σ H Q q
end
end DL
set_option maxHeartbeats 2000000
namespace DL
open PySem PySem.Spec PyProof.Rows L2

/-! ### __init__: the object is its own -/
def putK (f : Str) : List Str → List Str
  | [] => [f]
  | g :: r => if g = f then g :: r else g :: putK f r
def putX {α : Type} (f : Str) (v : α) : List Str → List α → List α
  | [], _ => [v]
  | g :: r, x :: s => if g = f then v :: s else x :: putX f v r s
  | _ :: _, [] => []
theorem putF_zip (f : Str) (v : V) : ∀ {ks : List Str} {xs : List V}, xs.length = ks.length → putF f v (ks.zip xs) = (putK f ks).zip (putX f v ks xs)
  | [], [], _ => rfl
  | g :: r, x :: s, h => by
    show putF f v ((g, x) :: r.zip s) = _
    unfold putF putK putX
    by_cases e : g = f
    · simp only [if_pos e]; rfl
    · simp only [if_neg e]
      rw [putF_zip f v (by simpa using h)]
      rfl
theorem putX_len {α : Type} (f : Str) (v : α) : ∀ {ks : List Str} {xs : List α}, xs.length = ks.length → (putX f v ks xs).length = (putK f ks).length
  | [], [], _ => rfl
  | g :: r, x :: s, h => by
    unfold putK putX
    by_cases e : g = f
    · simp only [if_pos e]; simpa using h
    · simp only [if_neg e]
      simpa using putX_len f v (ks := r) (xs := s) (by simpa using h)
section
variable {K : PySem.W.Frag} {mg : Str → Option Value} {N : En} {ι ι' : List Addr} {M M' : MS} {S S' : AP} {H H' : Hp} {own own' : OwnM} {σ : L2.St} {ρ : DS}
theorem Dns.putX {f : Str} {v : V} {d : D} (hd : Dn K mg S ι H v d) : ∀ {ks : List Str} {xs : List V} {ds : List D}, Dns K mg S ι H xs ds → Dns K mg S ι H (DL.putX f v ks xs) (DL.putX f d ks ds)
  | [], _, _, _ => .cons hd .nil
  | _ :: _, _, _, .nil => .nil
  | g :: r, _, _, .cons h t => by
    unfold DL.putX
    by_cases e : g = f
    · simp only [if_pos e]; exact .cons hd t
    · simp only [if_neg e]; exact .cons h (Dns.putX hd t)
theorem Cur.setOwi (c : Cur K mg N ι S H own σ ρ M) {i : Nat} {a C dx : Addr} {cn : Str} {ks ls : List Str} {ds es : List D} {ys : List V} {p : Addr} (q0 : ρ[i]? = some (some (.owi p cn ks ds))) (ha : σ[i]? = some (some (.ref a))) (hC : mg cn = some (.ref C)) (hl : ys.length = ls.length) (hd : Dns K mg S ι H ys es) :
    Cur K mg N ι S (upd H a (.ins C dx (ls.zip ys))) own σ (ρ.set i (some (.owi p cn ls es))) M := by
  obtain ⟨v, h1, b, C', dx', xs, rfl, hp, h3, h4, h5, h6, h7⟩ := c.env.at_ i _ q0
  rw [ha] at h1
  cases h1
  refine ⟨c.ok.writeOwn h3, ⟨by simpa using c.env.len, by simpa using c.env.big, fun j h1 h2 => c.env.gap j (by simpa using h1) h2, fun j x q => ?_, fun j q => ?_⟩⟩
  · by_cases hj : j = i
    · subst hj
      rw [getElem?_set_eq' q0] at q
      cases q
      exact ⟨_, ha, a, C, dx, ys, rfl, hp, h3, upd_same, hl, hC, hd.ext (c.ok.writeOwn_ext h3)⟩
    · rw [List.getElem?_set_ne (Ne.symm hj)] at q
      obtain ⟨w, g1, g2⟩ := c.env.at_ j x q
      refine ⟨w, g1, g2.ext (c.ok.writeOwn_ext h3) fun d e => upd_ne fun z => hj (c.ok.oinj j i a (by rw [← z]; exact e) h3)⟩
  · by_cases hj : j = i
    · subst hj
      rw [getElem?_set_eq' q0] at q
      cases q
    · rw [List.getElem?_set_ne (Ne.symm hj)] at q
      exact c.env.nown j q
end
section
variable {X : Cx} {N : En} {W : WX} {T : OwnT}
/-- self.f = e, self the object that is made -/
def sSelf (T : OwnT) (i : Nat) (f : Str) (a : TDE) : TDS := fun ρ M => match a ρ M with
  | some (.ok d ρ1 M1) => match ρ1[i]? with
    | some (some (.owi p c ks ds)) => if c ∈ T.cs ∧ (c, f) ∈ T.at_ ∧ ks.length < 1000 ∧ ds.length = ks.length then some (.nx (ρ1.set i (some (.owi p c (putK f ks) (putX f d ks ds)))) M1) else none
    | _ => none
  | some (.ex x ρ1 M1) => some (.ex x ρ1 M1)
  | none => none
theorem ds_self (O : OwnOk X.K X.mg T) {o value : Expr} {f : Str} {pos pos' : Pos} {i : Nat} {a : TDE} (ho : PE X o (tVar i)) (hv : DE X N W value a) (hs : swapsWith value (some (.Attribute o f pos')) pos.line X.env = pure false := by rfl) : DS1 X N W (.Assign [.Attribute o f pos'] value pos) (sSelf T i f a) :=
  ps_imp (ps_fld ho hv hs) fun E σ H q => by
    obtain ⟨ι, S, own, ρ, M, c, q⟩ := q
    refine ⟨ι, S, own, ρ, M, c, ?_⟩
    unfold sSelf at q
    cases e1 : a ρ M with
    | none => rw [e1] at q; exact q
    | some o1 =>
      rw [e1] at q
      cases o1 with
      | ex x ρ' M' => exact q σ
      | ok d ρ1 M1 =>
        intro v ι1 S1 H1 own1 c1 x1 dv
        simp only at q
        have q := postS.later x1.ext q
        cases e2 : ρ1[i]? with
        | none => rw [e2] at q; exact q.elim
        | some ox =>
          rw [e2] at q
          cases ox with
          | none => exact q.elim
          | some sv =>
            cases sv with
            | owi p cn ks ds =>
              simp only at q
              split at q
              · rename_i hc
                obtain ⟨w, h1, b, C, dx, xs, rfl, hp, h3, h4, h5, h6, h7⟩ := c1.env.at_ i _ e2
                refine ⟨_, h1, b, C, dx, ks.zip xs, rfl, h4, (O.cls cn hc.1 C h6).cls, O.at_ cn f hc.2.1 C h6, by rw [List.length_zip, h5, Nat.min_self]; exact hc.2.2.1, ?_⟩
                rw [putF_zip f v h5]
                exact q σ ι1 S1 _ own1 (c1.setOwi e2 h1 h6 (putX_len f v h5) (Dns.putX dv h7)) (c1.ok.writeOwn_ext h3)
              · exact q.elim
            | _ => exact q.elim
/-- self.f, self the object that is made -/
def dSelf (T : OwnT) (i : Nat) (f : Str) : TDE := fun ρ M => match ρ[i]? with
  | some (some (.owi p c ks ds)) => if c ∈ T.cs ∧ (c, f) ∈ T.at_ then (lookD f ks ds).map fun d => .ok d ρ M else none
  | _ => none
theorem de_self (O : OwnOk X.K X.mg T) {e : Expr} {f : Str} {pos : Pos} {i : Nat} (he : PE X e (tVar i)) (hb : attributeBase e f X.env (eval e X.env) = eval e X.env := by rfl) : DE X N W (.Attribute e f pos) (dSelf T i f) :=
  pe_imp (pe_fld he hb) fun σ H Q q => by
    obtain ⟨ι, S, own, ρ, M, c, q⟩ := q
    unfold dSelf at q
    cases e2 : ρ[i]? with
    | none => rw [e2] at q; exact q.elim
    | some ox =>
      rw [e2] at q
      cases ox with
      | none => exact q.elim
      | some sv =>
        cases sv with
        | owi p cn ks ds =>
          simp only at q
          split at q
          · rename_i hc
            cases e3 : lookD f ks ds with
            | none => rw [e3] at q; exact q.elim
            | some d =>
              rw [e3] at q
              obtain ⟨w, h1, b, C, dx, xs, rfl, hp, h3, h4, h5, h6, h7⟩ := c.env.at_ i _ e2
              obtain ⟨v, l1, l2⟩ := h7.look e3
              exact ⟨_, h1, b, C, dx, ks.zip xs, v, rfl, h4, (O.cls cn hc.1 C h6).cls, O.at_ cn f hc.2 C h6, l1, q v ι S H own c .refl l2⟩
          · exact q.elim
        | _ => exact q.elim
end

/-! ### the contract of an __init__ -/
inductive IO where
  | ret (ks : List Str) (ds : List D) (M : MS) | exc (x : XV) (M : MS)
abbrev DFI := Addr → List D → MS → Option IO
def spI (K : PySem.W.Frag) (mg : Str → Option Value) (n : Nat) (cn : Str) (φ : DFI) : Sp := fun vs H Q E => vs.length = n + 1 ∧ ∃ H0 x dx C vs' ι M S ds, vs = .ref x :: vs' ∧ H = upd (upd H0 dx (.own x)) x (.ins C dx []) ∧ H0 x = none ∧ H0 dx = none ∧ dx ≠ x ∧ mg cn = some (.ref C) ∧
  Ok K mg ⟨H0, S, ι⟩ ι M S H0 own0 ∧ Dns K mg S ι H0 vs' ds ∧
  match φ x ds M with
  | some (.ret ks' ds' M') => ∀ ι' S' H', Ok K mg ⟨H0, S, ι⟩ ι' M' S' H' own0 → Dn K mg S' ι' H' (.ref x) (.ins cn ks' ds') → Q .non H'
  | some (.exc x M') => ∀ cls dd ι' S' H', Ok K mg ⟨H0, S, ι⟩ ι' M' S' H' own0 → ExOk K mg S' ι' H' x cls dd → E cls dd H'
  | none => False
structure Fi (P : Program) (w : World) (K : PySem.W.Frag) (mg : Str → Option Value) (base : Heap) (cn : Str) (k : Nat) (C f : Addr) (fd : FuncData) (ps : List Str) (φ : DFI) : Prop where
  at_ : mg cn = some (.ref C)
  mke : Mk K C f
  fn : FnG P w K mg base (L2.CX P w) k f fd ps (spI K mg (ps.length - 1) cn φ)
section
variable {K : PySem.W.Frag} {mg : Str → Option Value} {N : En} {ι ι' : List Addr} {M M' : MS} {S S' : AP} {H H' : Hp} {own own' : OwnM} {σ : L2.St} {ρ : DS}
/-- something new that is of no concern -/
theorem Ok.junk (k : Ok K mg N ι M S H own) {p : Addr} {o : HO} (hp : H p = none) : Ok K mg N ι M S (upd H p o) own where
  len := k.len
  pre := k.pre
  fresh := k.fresh
  objs := fun j a m h1 h2 => (k.objs j a m h1 h2).ext (upd_ext hp) (upd_ne fun z => (k.iout a (List.mem_of_getElem? h1)).2 (by rw [z]; exact hp))
  nd := k.nd
  iout := fun a ha => ⟨(k.iout a ha).1, by rw [upd_ne fun z => (k.iout a ha).2 (by rw [z]; exact hp)]; exact (k.iout a ha).2⟩
  oout := fun j a e => by
    have q := k.oout j a e
    refine ⟨q.1, ?_, q.2.2⟩
    rw [upd_ne fun z => k.ohn e (by rw [z]; exact hp)]
    exact q.2.1
  oinj := k.oinj
  ofin := k.ofin
  sub := k.sub
  new := k.new
  keep := fun a u h1 h2 h3 => by
    have q := k.keep a u h1 h2 h3
    rw [upd_ne (ne_of_none q hp)]; exact q
  trk := fun a h => by
    by_cases z : a = p
    · rw [z, upd_same]; exact fun q => nomatch q
    · rw [upd_ne z]; exact k.trk a h
  sat := fun a h => by
    obtain ⟨u, h1, h2⟩ := k.sat a h
    rw [upd_ne (ne_of_none h1 hp)]
    exact ⟨u, h1, h2⟩
end
def dFi (n N : Nat) (cn : Str) (t : TDS) : DFI := fun p ds M => if ds.length + 1 = n then
  match t (some (SV.owi p cn [] []) :: ds.map (fun d => some (SV.t d)) ++ List.replicate (N - (ds.length + 1)) none) M with
  | some (.nx ρ M') => match ρ[0]? with
    | some (some (SV.owi p' c ks ds)) => if c = cn ∧ p' = p then some (.ret ks ds M') else none
    | _ => none
  | some (.ex x _ M') => some (.exc x M')
  | _ => none else none
theorem env_startI {K : PySem.W.Frag} {mg : Str → Option Value} {S : AP} {ι : List Addr} {H : Hp} {x dx C : Addr} {cn : Str} {vs : List V} {ds : List D} {Ns : List Str} (hl : vs.length + 1 ≤ Ns.length) (hb : Ns.length ≤ slotsB) (hx : H x = some (.ins C dx [])) (hC : mg cn = some (.ref C)) (h : Dns K mg S ι H vs ds) :
    EnvOk K mg S ι H (setO own0 0 (some x)) (L2.start Ns (.ref x :: vs)) (some (SV.owi x cn [] []) :: ds.map (fun d => some (SV.t d)) ++ List.replicate (Ns.length - (ds.length + 1)) none) := by
  have hlen : (some (SV.owi x cn [] []) :: ds.map (fun d => some (SV.t d)) ++ List.replicate (Ns.length - (ds.length + 1)) none).length = Ns.length := by
    rw [List.length_append, List.length_cons, List.length_map, List.length_replicate, ← h.length]; omega
  refine ⟨?_, by rw [hlen]; exact hb, fun i h1 h2 => ?_, fun i y q => ?_, fun i q => ?_⟩
  · rw [hlen]; simp [L2.start]; omega
  · rw [hlen] at h1
    unfold setO
    rw [if_neg (by omega)]; rfl
  · cases i with
    | zero =>
      cases q
      refine ⟨.ref x, rfl, x, C, dx, [], rfl, rfl, by unfold setO; rw [if_pos rfl], hx, rfl, hC, .nil⟩
    | succ i =>
      have q : (ds.map (fun d => some (SV.t d)) ++ List.replicate (Ns.length - (ds.length + 1)) none)[i]? = some (some y) := q
      by_cases hi : i < ds.length
      · rw [List.getElem?_append_left (by simpa using hi), List.getElem?_map] at q
        cases e : ds[i]? with
        | none => rw [e] at q; cases q
        | some d =>
          rw [e] at q
          cases q
          obtain ⟨v, h1, h2⟩ := h.get e
          refine ⟨v, ?_, by unfold setO; rw [if_neg (by omega)]; rfl, h2⟩
          unfold L2.start
          rw [List.getElem?_append_left (by simpa [h.length] using hi), List.getElem?_map, List.getElem?_cons_succ, h1]
          rfl
      · rw [List.getElem?_append_right (by simpa using hi), List.getElem?_replicate] at q
        split at q <;> cases q
  · unfold setO
    rw [if_neg (fun z => by subst z; cases q)]; rfl
theorem def_ofI {P : Program} {w : World} {K : PySem.W.Frag} {mg : Str → Option Value} {base : Heap} {k : Nat} {cn x qual : Str} {st : Stmt} {C f : Addr} {fd : FuncData} {Ns ps : List Str} {dvs : List V} {t : TDS}
    (hm : mg cn = some (.ref C)) (hk : Mk K C f) (F : FunD K x qual (defArgs st) (defBody st) (defScope st) dvs [] f fd) (S : FnScope Ns ps (defScope st)) (hps : 1 ≤ ps.length) (hle : ps.length ≤ Ns.length) (hbig : Ns.length ≤ slotsB)
    (hbody : ∀ (cdv : Value) (A : Around) (outer : List Env) (s : Shared) (H : Hp) (E : XK) (N : En), Calm (A.deeper (envOfC qual (defScope st) s.heap.objs.size f cdv)) → Room k (A.deeper (envOfC qual (defScope st) s.heap.objs.size f cdv)) →
      Takes (cxOf (L2.CX P w) P w K mg base Ns qual (defScope st) f cdv A outer s H E) (fun cls d _ H => E cls d H) → DSs (cxOf (L2.CX P w) P w K mg base Ns qual (defScope st) f cdv A outer s H E) N (fun cls d _ H => E cls d H) (defBody st) t) :
    Fi P w K mg base cn (k + 1) C f fd ps (dFi ps.length Ns.length cn t) := by
  refine ⟨hm, hk, fnG_of F S (fun vs H Q E h => by have := h.1; omega) fun cdv A outer s H vs Q E hc hr hsp => ?_⟩
  obtain ⟨hl, H0, x, dx, C', vs', ι, M, S0, ds, rfl, rfl, hx, hdx, hne, hC, k0, dn, q⟩ := hsp
  rw [hm] at hC
  cases hC
  have hx1 : upd H0 dx (.own x) x = none := by rw [upd_ne (Ne.symm hne)]; exact hx
  have k1 := (k0.junk (o := .own x) hdx).track (o := .ins C dx []) 0 hx1
  have e1 : Ext S0 ι H0 S0 ι (upd (upd H0 dx (.own x)) x (.ins C dx [])) := (upd_ext hdx).trans (upd_ext hx1)
  have hl' : vs'.length + 1 = ps.length := by simp only [List.length_cons] at hl; omega
  refine ⟨_, hbody cdv A outer s _ E ⟨H0, S0, ι⟩ hc hr (takes_of rfl rfl rfl rfl), ?_⟩
  refine ⟨ι, S0, _, _, M, ⟨k1, env_startI (Ns := Ns) (by omega) hbig upd_same hm (dn.ext e1)⟩, ?_⟩
  unfold dFi at q
  rw [if_pos (by rw [← dn.length]; omega)] at q
  cases e : t (some (SV.owi x cn [] []) :: ds.map (fun d => some (SV.t d)) ++ List.replicate (Ns.length - (ds.length + 1)) none) M with
  | none => rw [e] at q; exact q.elim
  | some o =>
    rw [e] at q
    cases o with
    | nx ρ' M' =>
      intro σ' ι' S' H' own' c' xx
      simp only at q
      cases e2 : ρ'[0]? with
      | none => rw [e2] at q; exact q.elim
      | some ox =>
        rw [e2] at q
        cases ox with
        | none => exact q.elim
        | some sv =>
          cases sv with
          | owi p c ks ds =>
            simp only at q
            by_cases hcn : c = cn ∧ p = x
            · simp only [if_pos hcn] at q
              obtain ⟨w, h1, b, C2, dx2, xs, rfl, hp, h3, h4, h5, h6, h7⟩ := c'.env.at_ 0 _ e2
              have hb : b = x := hp.trans hcn.2
              subst hb
              have hcn1 := hcn.1
              subst hcn1
              have k2 := (c'.ok.freeze h3 h4 (fun _ z => nomatch z)).noOwn
              exact q ι' _ H' k2 (.ins (.inr rfl) h4 h5 h6 (h7.ext addS_ext))
            · simp only [if_neg hcn] at q
          | _ => exact q.elim
    | rt d M' => exact q.elim
    | bk ρ' M' => exact q.elim
    | ct ρ' M' => exact q.elim
    | ex x ρ' M' => exact fun σ' cls dd ι' S' H' own' c' x' ex => q cls dd ι' S' H' c'.ok.noOwn ex

/-! ### C(e, ..) -/
open Classical in
noncomputable def sameI (φ : DFI) (ds : List D) (M : MS) : Option IO := if h : ∃ r, ∀ p, φ p ds M = some r then some (choose h) else none
theorem sameI_of {φ : DFI} {ds : List D} {M : MS} {r : IO} (h : ∀ p, φ p ds M = some r) : sameI φ ds M = some r := by
  have hx : ∃ r, ∀ p, φ p ds M = some r := ⟨r, h⟩
  unfold sameI
  rw [dif_pos hx]
  have := Classical.choose_spec hx 0
  rw [h 0] at this
  exact this.symm
theorem sameI_get {φ : DFI} {ds : List D} {M : MS} {r : IO} (h : sameI φ ds M = some r) : ∀ p, φ p ds M = some r := by
  unfold sameI at h
  split at h
  · rename_i hx
    cases h
    exact Classical.choose_spec hx
  · cases h
noncomputable def dInit (cn : Str) (φ : DFI) (ds : List D) : TDE := fun ρ M => match sameI φ ds M with
  | some (.ret ks es M') => some (.ok (.ins cn ks es) ρ M')
  | some (.exc x M') => some (.ex x ρ M')
  | none => none
def Src.up : Src → Src
  | .p i => .p (i + 1)
  | .d i => .d i
  | .k i => .k i
theorem pick_up {α : Type} (v : α) (us its ws : List α) : ∀ sel : List Src, pick (.p 0 :: sel.map Src.up) (v :: us) its ws = v :: pick sel us its ws := fun sel => by
  have h : ∀ sel : List Src, pick (sel.map Src.up) (v :: us) its ws = pick sel us its ws := fun sel => by
    rw [pick_eq, pick_eq]
    induction sel with
    | nil => rfl
    | cons s r ih =>
      rw [List.map_cons, List.filterMap_cons, List.filterMap_cons, ih]
      cases s <;> rfl
  rw [← h sel]
  rw [pick_eq, pick_eq, List.filterMap_cons]
  rfl
section
variable {X : Cx} {N : En} {W : WX}
theorem run_makeG {k n : Nat} {cn : Str} {C f : Addr} {fd : FuncData} {ps ks : List Str} {φ : DFI} {sel : List Src} {dvs : List V} {dds : List D} {pins : List (Addr × Obj)} {σ : L2.St} {H : Hp} {s : Shared} {Q : VK} {us ws : List Value} {vs zs : List V} {ds bs : List D}
    {ι : List Addr} {S : AP} {own : OwnM} {ρ : DS} {M : MS} (F : Fi X.prog X.w X.K X.mg X.base cn k C f fd ps φ) (hg : Calm X.A) (hr : Room (k + 1) X.A) (tk : Takes X W) (hb : CB X.K fd ps dvs (n + 1) ks (.p 0 :: sel.map Src.up)) (I : Inv X pins σ H s) (r : Vals vs us) (rz : Vals zs ws)
    (l1 : vs.length = n) (l2 : zs.length = ks.length) (l3 : (pick sel ds dds bs).length = ps.length - 1) (c : Cur X.K X.mg N ι S H own σ ρ M) (dn : Dns X.K X.mg S ι H (pick sel vs dvs zs) (pick sel ds dds bs)) (q : postD X.K X.mg N W ι S H own σ Q (dInit cn φ (pick sel ds dds bs) ρ M)) :
    wpAny (model X.prog X.w) X.A (call (.ref C) us (ks.zip ws)) (EP X pins σ Q) X.xe s := by
  obtain ⟨its, r2, to⟩ := hb.to
  have I2 := Inv.made (C := C) I
  have hx := I.hok.fresh (Nat.le_succ s.heap.objs.size)
  have hdx := I.hok.fresh (Nat.le_refl s.heap.objs.size)
  have hne : s.heap.objs.size ≠ s.heap.objs.size + 1 := Nat.ne_of_lt (Nat.lt_succ_self _)
  have rr := pick_vals (sel := .p 0 :: sel.map Src.up) (.cons (show RelV (.ref (s.heap.objs.size + 1)) (.ref (s.heap.objs.size + 1)) from rfl) r) r2 rz
  rw [pick_up, pick_up] at rr
  have hsp : spI X.K X.mg (ps.length - 1) cn φ (.ref (s.heap.objs.size + 1) :: pick sel vs dvs zs) (upd (upd H s.heap.objs.size (.own (s.heap.objs.size + 1))) (s.heap.objs.size + 1) (.ins C s.heap.objs.size [])) (fun v H2 => v = .non ∧ Q (.ref (s.heap.objs.size + 1)) H2) (WE W σ) := by
    refine ⟨by rw [List.length_cons, dn.length, l3], H, _, _, C, _, ι, M, S, _, rfl, rfl, hx, hdx, hne, F.at_, c.ok.enter, dn, ?_⟩
    unfold dInit at q
    cases e : sameI φ (pick sel ds dds bs) M with
    | none => rw [e] at q; exact q.elim
    | some o =>
      rw [e] at q
      rw [sameI_get e]
      cases o with
      | ret ks' es M' =>
        intro ι' S' H' k' dn'
        obtain ⟨h1, h2⟩ := c.ok.back k'
        exact ⟨rfl, q _ ι' S' H' own ⟨h1, c.env.ext h2.ext fun i a h => (h2.ow i a h).1⟩ h2 dn'⟩
      | exc x M' =>
        intro cls dd ι' S' H' k' ex
        obtain ⟨h1, h2⟩ := c.ok.back k'
        exact q cls dd ι' S' H' own ⟨h1, c.env.ext h2.ext fun i a h => (h2.ow i a h).1⟩ h2.ext ex
  have bt := to { s with heap := (s.heap.push PySem.W.emptyDict).push (PySem.W.instObj C s.heap.objs.size) } (Value.ref (s.heap.objs.size + 1) :: us) ws I2.kIn (by rw [List.length_cons, ← r.length, l1]) (by rw [← rz.length, l2])
  rw [pick_up] at bt
  refine wpAny_call (make_map (f := f) I.kIn F.mke.makes F.mke.init (beq_iff_eq.mp F.mke.fn) (codeAny_mono (F.fn.run _ X.stack _ _ ⟨Value.ref (s.heap.objs.size + 1) :: us, ks.zip ws⟩ _ _ _ (WE W σ) hg (hr.make C us (ks.zip ws))
    (I2.env0.make C us (ks.zip ws)) bt rr hsp) fun res s' hq => ?_))
  cases res with
  | error e => exact passAt tk σ pins _ _ e s' I2 hq
  | ok fl =>
    cases fl with
    | ret u =>
      obtain ⟨v, H', I3, rv, ev, q3⟩ := I2.after hq
      subst ev
      exact ⟨rv, ⟨V.ref (s.heap.objs.size + 1), H', I3, rfl, q3⟩⟩
    | next => exact False.elim hq
    | brk => exact False.elim hq
    | cont => exact False.elim hq
variable {k n : Nat} {C f : Addr} {fd : FuncData} {ps ks : List Str} {φ : DFI} {sel : List Src} {dvs : List V} {dds : List D} {x : Str} {p pos : Pos} {e : Expr} {es : List Expr} {kws : List Keyword} {a b : TDA}
theorem de_make (F : Fi X.prog X.w X.K X.mg X.base x k C f fd ps φ) (hg : Calm X.A) (hr : Room (k + 1) X.A) (tk : Takes X W) (hb : CB X.K fd ps dvs (n + 1) [] (.p 0 :: sel.map Src.up)) (hd : ∀ S ι H, Dns X.K X.mg S ι H dvs dds) (ha : DA X N W (e :: es) a)
    (hgl : Gl X x := by rfl) (hdb : (x == ("__debug__" : Str)) = false := by decide) (he : starEach (e :: es) X.env = (false, eval e X.env) :: starEach es X.env := by rfl) (hpl : (backTo pos (starEach es X.env)).any (·.1) = false := by rfl) :
    DE X N W (.Call (.Name x p) (e :: es) [] pos) (aBind a fun ds => fits n ds (fits (ps.length - 1) (pick sel ds dds []) (dInit x φ (pick sel ds dds [])))) := by
  refine ⟨fun pins s σ H Q I h => ?_⟩
  refine wpAny_Call_Name_kw (ld_glob I hgl F.at_ ?_ hdb)
  refine PySem.W.callWith_K (h₀ := X.base) I.ok.mod.kin F.mke.kp (thn (ha.run pos pins s σ H _ I (bind_a h fun xs ds ι S H1 own ρ M c dn q => (⟨ds, ι, S, own, ρ, M, c, dn, q⟩ : ∃ ds ι S own ρ M, Cur X.K X.mg N ι S H1 own σ ρ M ∧ Dns X.K X.mg S ι H1 xs ds ∧ postD X.K X.mg N W ι S H1 own σ Q (fits n ds (fits (ps.length - 1) (pick sel ds dds []) (dInit x φ (pick sel ds dds []))) ρ M)))) fun us s1 ⟨vs, H1, I1, r, ds, ι, S, own, ρ, M, c, dn, q⟩ => ⟨I1.kIn, ?_⟩) he hpl
  obtain ⟨q1, q⟩ := fits_go q
  obtain ⟨q2, q⟩ := fits_go q
  have dn2 : Dns X.K X.mg S ι H1 (pick sel vs dvs []) (pick sel ds dds []) := pick_dns dn (hd S ι H1) .nil
  exact run_makeG (zs := []) (ws := []) (ks := []) F hg hr tk hb I1 r .nil (dn.length.trans q1) rfl q2 c dn2 q
end
end DL
set_option maxHeartbeats 2000000
namespace DL
open PySem PySem.Spec PyProof.Rows L2

/-! ### the end: the law's call over the heap behind the top -/
theorem scr_dns {K : PySem.W.Frag} {mg : Str → Option Value} {S : AP} {ι : List Addr} {H : Hp} : ∀ ns : List Int, Dns K mg S ι H (ns.map V.int) (ns.map D.int)
  | [] => .nil
  | n :: ns => .cons (.int n) (scr_dns ns)
/-- nothing is held at the start but the script -/
theorem ok_first {K : PySem.W.Frag} {mg : Str → Option Value} {H : Hp} {S : AP} (hs : ∀ a, S a → ∃ o, H a = some o ∧ NTbl o) : Ok K mg ⟨H, S, []⟩ [] [] S H own0 where
  len := rfl
  pre := fun _ _ h => h
  fresh := fun _ h => nomatch h
  objs := fun j a m h _ => by cases h
  nd := .nil
  iout := fun _ h => nomatch h
  oout := fun _ _ h => nomatch h
  oinj := fun _ _ _ h => nomatch h
  ofin := ⟨0, fun _ _ => rfl⟩
  sub := fun _ h => h
  new := fun _ h => .inl h
  keep := fun _ _ h _ _ => h
  trk := fun _ h => h
  sat := hs
/-- the heap of a law's start -/
def startH (a : Addr) (o : Obj) (ns : List Int) (t : Bool) : Hp := fun b => if t = true ∧ b = a then some (.frz o (.lst (ns.map V.int))) else none
theorem startH_some {a b : Addr} {o : Obj} {ns : List Int} {t : Bool} {u : HO} (h : startH a o ns t b = some u) : t = true ∧ b = a ∧ u = .frz o (.lst (ns.map V.int)) := by
  unfold startH at h
  split at h
  · rename_i z; cases h; exact ⟨z.1, z.2, rfl⟩
  · cases h
theorem law_callG {P : Program} {w : World} {K : PySem.W.Frag} {mg mb : Str → Option Value} {k : Nat} {fa a : Addr} {fd : FuncData} {x : Str} {φ : DF} {s₁ : Shared} {vs : List Value} {ns : List Int}
    (KX : K.In s₁.heap) (hns : s₁.heap.Ns mainGlobals mg) (hb : s₁.heap.Ns builtinsNs mb) (hbb : ∀ x : Str, x ≠ "__name__" → mb x = bootBuiltins x) (hlim : s₁.heap.NoLimit) (hg : s₁.gens = #[])
    (ha : s₁.heap.get? a = some { cls := .type "list", data := .seq vs.toArray }) (hi : IntsAre vs ns) (hl : ns.length ≤ sizeLine) (hr : Room k callerA)
    (F : ∀ base : Heap, K.In base → base.Ns mainGlobals mg → FnG P w K mg base (L2.CX P w) k fa fd [x] (spD K mg 1 φ)) (hbind : ∀ (s : Shared) (u : Value), BindsTo s fd ⟨[u], []⟩ [(x, u)])
    (hφ : ∃ M', φ [.scr (ns.map D.int)] [] = some (.ret (.bl true) M')) :
    codeAny (model P w) callerA (.call (.ref fa) ⟨[.ref a], []⟩) (fun r s' => r = .ok (.ret (.bool true)) ∧ OldK s₁.heap s'.heap ∧ s'.os = s₁.os ∧ AllBare s'.gens) s₁ := by
  obtain ⟨M', eφ⟩ := hφ
  have rv := vals_ints hi
  -- is the script one of the module's own objects?
  obtain ⟨t, ht⟩ : ∃ t : Bool, (t = true → K.lookup a = none) ∧ (t = false → ∃ o, K.lookup a = some o) := by
    cases e : K.lookup a with
    | none => exact ⟨true, fun _ => rfl, fun z => nomatch z⟩
    | some o => exact ⟨false, (fun z => nomatch z), fun _ => ⟨o, rfl⟩⟩
  have hK : ∀ b, startH a { cls := .type "list", data := .seq vs.toArray } ns t b ≠ none → b = a ∧ K.lookup a = none := fun b hne => by
    cases e : startH a { cls := .type "list", data := .seq vs.toArray } ns t b with
    | none => exact absurd e hne
    | some u =>
      obtain ⟨h1, h2, _⟩ := startH_some e
      exact ⟨h2, ht.1 h1⟩
  generalize hH : startH a { cls := .type "list", data := .seq vs.toArray } ns t = H at hK
  have there : ∀ {b : Addr} {o : Obj}, s₁.heap.get? b = some o → (b = a → K.lookup a = none → False) → (hidT s₁.heap H).get? b = some o := fun {b o} e h => hidT_get e (by
    cases q : H b with
    | none => rfl
    | some u =>
      have := hK b (by rw [q]; exact fun z => nomatch z)
      exact (h this.1 this.2).elim)
  have isDict : ∀ {b : Addr} {m : Str → Option Value}, s₁.heap.Ns b m → (hidT s₁.heap H).Ns b m := fun {b m} ⟨o, es, ep, e, d, r⟩ => ⟨o, es, ep, there e (fun z _ => by
    subst z
    rw [ha] at e
    cases e
    exact nomatch (show Data.seq vs.toArray _ = Data.dict es ep from d)), d, r⟩
  have hKb : K.In (hidT s₁.heap H) := fun b o e => there (KX b o e) fun z n => by
    subst z
    rw [n] at e
    cases e
  obtain ⟨mc, l1, l2⟩ := hlim
  have hok : HOk P w H s₁.heap := fun b u z => by
    subst hH
    obtain ⟨_, rfl, rfl⟩ := startH_some z
    exact ⟨ha, by rw [List.length_map]; exact hl, vs, _, rv, ha⟩
  have e0 : Env0 P w K mg (hidT s₁.heap H) callerA [] s₁ H := ⟨rfl, ⟨hKb, isDict hns, ⟨mb, isDict hb, hbb⟩, mc, isDict l1, l2⟩, fun b o e => of_hidT e, Nat.le_of_eq (hidT_size _ _), trivial, fun b hb => (by cases hb), hok, .of_eq hg⟩
  have hS : SqLF K (fun b => b = a ∧ t = true) H a (ns.map V.int) := by
    cases t with
    | true =>
      refine .inl ⟨⟨rfl, rfl⟩, .inr ⟨{ cls := .type "list", data := .seq vs.toArray }, ?_⟩⟩
      rw [← hH]
      exact if_pos ⟨rfl, rfl⟩
    | false =>
      obtain ⟨o, hk⟩ := ht.2 rfl
      have e := KX a o hk
      rw [ha] at e
      cases e
      exact .inr (.inr ⟨_, vs.toArray, _, hk, rfl, rfl, rfl, by rw [List.size_toArray, hi.length]; exact hl, by simpa using rv⟩)
  have hsp : spD K mg 1 φ [.ref a] H (fun v _ => v = .bl true) (fun _ _ _ => False) := by
    refine ⟨rfl, [], [], fun b => b = a ∧ t = true, [.scr (ns.map D.int)], ok_first fun b hb => ?_, .cons (.scr hS (scr_dns ns)) .nil, ?_⟩
    · obtain ⟨rfl, rfl⟩ := hb
      refine ⟨.frz { cls := .type "list", data := .seq vs.toArray } (.lst (ns.map V.int)), by rw [← hH]; exact if_pos ⟨rfl, rfl⟩, fun _ z => nomatch z⟩
    · rw [eφ]
      intro v ι' S' H' k' dn
      exact (Bn.dn dn).blAt
  refine codeAny_mono ((F _ hKb (isDict hns)).run callerA [] s₁ H ⟨[.ref a], []⟩ [.ref a] [.ref a] _ _ rfl hr e0 (hbind s₁ (.ref a)) (.cons rfl .nil) hsp) fun r s' h => ?_
  cases r with
  | error e =>
    obtain ⟨_, _, _, _, _, _, _, _, _, _, _, _, z⟩ := (show L2.CX P w [] H s₁ (fun _ _ _ => False) e s' from h)
    exact z.elim
  | ok fl =>
    cases fl with
    | next => exact False.elim h
    | brk => exact False.elim h
    | cont => exact False.elim h
    | ret u =>
      obtain ⟨v, H', os, bare, un, hok', r', q⟩ := h
      have q' : v = .bl true := q
      subst q'
      have eu : u = Value.bool true := r'
      subst eu
      refine ⟨rfl, OldK.of_keep fun b o e => ?_, os, bare⟩
      cases q : H b with
      | none => exact un.keep b o e q (fun z => List.not_mem_nil (show b ∈ ([] : List Addr) from z)) (by simp)
      | some u =>
        subst hH
        obtain ⟨_, rfl, rfl⟩ := startH_some q
        have z2 := un.frzs b _ _ q
        obtain ⟨e2, _⟩ := hok' b _ z2
        rw [ha] at e
        cases e
        exact e2
theorem walk_ofD {l : PySem.W.OpenLaw} {n k : Nat} {q : Program} {loose : List Str} {XP : (Str → Option Value) → Heap → Prop} {YP : World → Heap → Prop} {d : DefRec} {x : Str}
    (hn : l.most = some n) (hn2 : n ≤ sizeLine) (hdf : d.params.defaults = []) (hr : Room k callerA)
    (F : ∀ (w : World) (mg : Str → Option Value) (fa : Addr) (h : Heap), YP w h → h.Ns mainGlobals mg → mg d.name = some (.ref fa) →
      ∃ (K : PySem.W.Frag) (fd : FuncData) (φ : DF), K.In h ∧ (∀ (s : Shared) (u : Value), BindsTo s fd ⟨[u], []⟩ [(x, u)]) ∧
        (∀ ns : List Int, ns.length ≤ n → (∀ z ∈ ns, Builtin.Int.intBits z ≤ 1048576) → ∃ M', φ [.scr (ns.map D.int)] [] = some (.ret (.bl true) M')) ∧
        ∀ base : Heap, K.In base → base.Ns mainGlobals mg → FnG l.prog w K mg base (L2.CX l.prog w) k fa fd [x] (spD K mg 1 φ)) :
    PySem.W.WalkO q loose XP YP l.row.toRowW d [] (fun f vs => PySem.call f vs) := by
  refine Att.attach_callB hn hdf fun w s₀ s₁ mg mb fa o pm cd doc a vs ns G Y ho hd hcd hmg hobj hints hlen hbits hg => ?_
  obtain ⟨K, fd, φ, KX, hb, hφ, hF⟩ := F w mg fa _ Y G.T.g hmg
  exact law_callG KX G.T.g G.T.b G.T.builtins G.T.nolimit hg hobj hints (Nat.le_trans hlen hn2) hr hF hb (hφ ns hlen hbits)
end DL
set_option maxHeartbeats 2000000
namespace DL
open PySem PySem.Spec PyProof.Rows L2

/-! ### names in short, for printed texts -/
abbrev subD : D → D → Option D := II subI
abbrev mulD : D → D → Option D := II mulI
abbrev divD : D → D → Option D := II divI
abbrev modD : D → D → Option D := II modI
abbrev powD : D → D → Option D := II powI
abbrev ltD : D → D → Option D := II (cmpI fun i j => decide (i < j))
abbrev leD : D → D → Option D := II (cmpI fun i j => decide (i ≤ j))
abbrev gtD : D → D → Option D := II (cmpI fun i j => decide (j < i))
abbrev geD : D → D → Option D := II (cmpI fun i j => decide (j ≤ i))
theorem tk0 {X : Cx} : Takes X W0 := fun u s' ⟨_, _, _, _, _, _, _, _, _, _, _, _, _, _, _, _, w⟩ => w.elim
section
variable {X : Cx} {N : En} {W : WX}
theorem de_g2 {id : String} {x : Str} {g : D → D → Option D} {e e2 : Expr} {p pos : Pos} {a b : TDE} (h : C2 X (.builtin id) g) (hm : X.mg x = some (.builtin id)) (ha : DB X N W e a) (hb : DB X N W e2 b) (hg : Gl X x := by rfl) (hdb : (x == ("__debug__" : Str)) = false := by decide)
    (he : starEach [e, e2] X.env = (false, eval e X.env) :: starEach [e2] X.env := by rfl) (he2 : starEach [e2] X.env = (false, eval e2 X.env) :: starEach [] X.env := by rfl) (hpl : (backTo pos (starEach [e2] X.env)).any (·.1) = false := by rfl) : DE X N W (.Call (.Name x p) [e, e2] [] pos) (dBin g a b) :=
  let ⟨_, hc, hU⟩ := h.ok
  pe_imp (pe_callBfun hc hg hm (pa_cons ha (pa_cons hb pa_nil he2) he) hdb he hpl) fun σ H Q q => bin_core hU σ H Q q
end
/-- what the module has of a def, with its text -/
def DgD (P : Program) (w : World) (K : PySem.W.Frag) (mg : Str → Option Value) (base : Heap) (x : Str) (st : Stmt) (k : Nat) (ps : List Str) (φ : DF) (dvs : List V) : Prop := ∃ f fd, FunD K x x (defArgs st) (defBody st) (defScope st) dvs [] f fd ∧ Fk P w K mg base x k f fd ps φ
/-- .. an __init__ -/
def Di (P : Program) (w : World) (K : PySem.W.Frag) (mg : Str → Option Value) (base : Heap) (x q : Str) (st : Stmt) (k : Nat) (ps : List Str) (φ : DFI) : Prop := ∃ C f fd, FunD K "__init__" q (defArgs st) (defBody st) (defScope st) [] [] f fd ∧ Fi P w K mg base x k C f fd ps φ
/-- a def, found -/
def DfD (K : PySem.W.Frag) (mg : Str → Option Value) (x : Str) (st : Stmt) (dvs : List V) : Prop := ∃ f fd, FunD K x x (defArgs st) (defBody st) (defScope st) dvs [] f fd ∧ mg x = some (.ref f)
def Dfi (K : PySem.W.Frag) (mg : Str → Option Value) (x q : Str) (st : Stmt) : Prop := ∃ C f fd, FunD K "__init__" q (defArgs st) (defBody st) (defScope st) [] [] f fd ∧ mg x = some (.ref C) ∧ Mk K C f
section
variable {X : Cx} {N : En} {W : WX}
theorem de_int_glob {x : Str} {i : Int} {pos : Pos} (h : ∃ t, X.mg x = some (.int i t)) (hg : Gl X x := by rfl) (hdb : (x == ("__debug__" : Str)) = false := by decide) : DE X N W (.Name x pos) (dC (.int i)) :=
  let ⟨t, h⟩ := h
  de_glob (v := .int i) h ⟨t, rfl⟩ (fun _ _ _ => .int i) hg hdb
theorem de_str_glob {x i : Str} {pos : Pos} (h : ∃ t, X.mg x = some (.str i t)) (hg : Gl X x := by rfl) (hdb : (x == ("__debug__" : Str)) = false := by decide) : DE X N W (.Name x pos) (dC (.str i)) :=
  let ⟨t, h⟩ := h
  de_glob (v := .str i) h ⟨t, rfl⟩ (fun _ _ _ => .str i) hg hdb
/-- == of texts, of other data -/
def eqS (neg : Bool) : D → D → Option D := SS fun a b => some (.bl (xor neg (decide (a = b))))
theorem od_eqS : OpD X (compareOp .Eq) (eqS false) := ⟨_, op_eq, fun N ι M S H own x y d e r Q k b1 b2 q k' => by
  obtain ⟨a, b, rfl, rfl, q2⟩ := SS.get q
  cases q2
  have e1 := b1.strAt
  have e2 := b2.strAt
  subst e1 e2
  refine ⟨rfl, k' _ S H k .refl ?_⟩
  rw [Bool.false_xor, show decide (V.str a = V.str b) = decide (a = b) from by by_cases h : a = b <;> simp [h]]
  exact .bl _⟩
theorem od_neS : OpD X (compareOp .NotEq) (eqS true) := ⟨_, op_ne, fun N ι M S H own x y d e r Q k b1 b2 q k' => by
  obtain ⟨a, b, rfl, rfl, q2⟩ := SS.get q
  cases q2
  have e1 := b1.strAt
  have e2 := b2.strAt
  subst e1 e2
  refine ⟨rfl, k' _ S H k .refl ?_⟩
  rw [Bool.true_xor, show decide (V.str a = V.str b) = decide (a = b) from by by_cases h : a = b <;> simp [h]]
  exact .bl _⟩
def eqA (neg : Bool) : D → D → Option D := fun d e => (eqS neg d e).orElse fun _ => eqD neg d e
theorem od_eqA (hu : X.A.units + 64 < cLine) : OpD X (compareOp .Eq) (eqA false) := od_eqS.or (od_eq hu)
theorem od_neA (hu : X.A.units + 64 < cLine) : OpD X (compareOp .NotEq) (eqA true) := od_neS.or (od_ne hu)
/-- a module's tuple of ints -/
def TupG (K : PySem.W.Frag) (mg : Str → Option Value) (x : Str) (ns : List Int) : Prop := ∃ a, mg x = some (.ref a) ∧ SqT K (fun _ => none) a (ns.map V.int)
theorem de_tup_glob {x : Str} {ns : List Int} {pos : Pos} (h : TupG X.K X.mg x ns) (hg : Gl X x := by rfl) (hdb : (x == ("__debug__" : Str)) = false := by decide) : DE X N W (.Name x pos) (dC (.tup (ns.map D.int))) :=
  let ⟨a, h1, h2⟩ := h
  de_glob (v := .ref a) h1 rfl (fun _ _ _ => .tup (.inr h2) (scr_dns ns)) hg hdb
theorem de_gl_own {T : OwnT} (O : OwnOk X.K X.mg T) {x : Str} {pos : Pos} (hx : x ∈ T.cs := by decide) (hg : Gl X x := by rfl) (hdb : (x == ("__debug__" : Str)) = false := by decide) : DE X N W (.Name x pos) (dC (.gl x)) :=
  let ⟨C, h⟩ := O.ref x hx
  de_gl (v := .ref C) h rfl hg hdb
end
/-- a class's i-th statement -/
def clsAt (s : Stmt) (i : Nat) : Stmt := match s with
  | .ClassDef _ _ _ b _ _ _ _ _ _ _ => b.getD i (.Pass ⟨0, 0, 0, 0⟩)
  | _ => .Pass ⟨0, 0, 0, 0⟩
end DL
set_option maxHeartbeats 2000000
namespace DL
open PySem PySem.Spec PyProof.Rows L2

/-! ### t[::-1] -/
section
variable {prog : Program} {w : World} {A : Around} {E : Value → Shared → Prop} {s : Shared}
theorem back_places (n : Nat) : Builtin.Slice.slicePlaces ((n : Int) - 1) (-1) (-1) = n := by
  have h1 : ¬ ((-1 : Int) > 0) := by omega
  unfold Builtin.Slice.slicePlaces
  rw [if_neg h1]
  by_cases h : n = 0
  · subst h; rfl
  · rw [if_pos (by omega)]
    have e : ((n : Int) - 1 - -1 - 1) / (- -1) + 1 = (n : Int) := by
      rw [show (- -1 : Int) = 1 from rfl, Int.ediv_one]; omega
    rw [e, Int.toNat_natCast]
theorem back_pick (xs : List Value) : ((List.range xs.toArray.size).filterMap fun (k : Nat) => xs.toArray[(((xs.toArray.size : Int) - 1) + (k : Int) * (-1)).toNat]?) = xs.reverse := by
  have h : ∀ k ∈ List.range xs.toArray.size, (fun (k : Nat) => xs.toArray[(((xs.toArray.size : Int) - 1) + (k : Int) * (-1)).toNat]?) k = xs.reverse[k]? := fun k hk => by
    have hk := List.mem_range.mp hk
    rw [List.size_toArray] at hk ⊢
    show xs.toArray[_]? = _
    rw [List.getElem?_reverse hk, show (((xs.length : Int) - 1) + (k : Int) * (-1)).toNat = xs.length - 1 - k by omega]
    simp
  have e : ∀ (l : List Nat) (f g : Nat → Option Value), (∀ k ∈ l, f k = g k) → l.filterMap f = l.filterMap g := fun l f g hfg => by
    induction l with
    | nil => rfl
    | cons a r ih =>
      rw [List.filterMap_cons, List.filterMap_cons, hfg a List.mem_cons_self, ih fun k hk => hfg k (List.mem_cons_of_mem _ hk)]
  rw [e _ _ _ h, List.size_toArray, ← List.length_reverse]
  generalize xs.reverse = ys
  have := PySem.W.krv_all ys.toArray
  simpa using this
theorem getItem_back {t sl : Addr} {its : List Value} {vl vu vs : Value} {Q : Value → Shared → Prop} (ht : IsTup s.heap t its.toArray) (hs : s.heap.IsSliceOf sl vl vu vs) (pl : IsPart vl none) (pu : IsPart vu none) (ps : IsPart vs (some (-1)))
    (h : Q (.ref s.heap.objs.size) { s with heap := s.heap.push { cls := .type "tuple", data := .seq its.reverse.toArray } }) (hsz : its.length ≤ sizeLine) : wpAny (model prog w) A (getItem (.ref t) (.ref sl)) Q E s := by
  have hk : sizeOk (.seq its.reverse.toArray) := by
    show its.reverse.toArray.size ≤ sizeLine
    rw [List.size_toArray, List.length_reverse]
    exact hsz
  obtain ⟨os, hos, hcs, hds⟩ := id hs
  have hT : s.TypeIs (.ref sl) "slice" := ⟨os, hos, hcs⟩
  unfold getItem
  try with_reducible refine wpAny_holding ?_
  first | refine wpAny_bind (wpAny_pure ?_) | skip
  refine wpAny_bind (wpAny_sequenceKey ht.typeIs (by decide) ?_)
  refine wpAny_bind (wpAny_callSpecial?_slot (name := Str.ofString "__getitem__") ht.typeIs PyProof.Rows.slot_tuple_getitem
    (wpAny_call_entry PyProof.Rows.slot_tuple_getitem ht.typeIs PyProof.Rows.entry_tuple_getitem ?_ (PyProof.Rows.args_tuple_getitem _ _)))
  show wpAny _ _ (Builtin.Tuple.tupleItemsOf (.ref t) >>= _) _ _ s
  refine wpAny_bind (PyProof.Rows.tupleItemsOf_ ht ?_)
  refine wpAny_bind (wpAny_typeOf hT ?_)
  rw [if_pos (by decide)]
  refine wpAny_bind ?_
  · unfold Builtin.Slice.sliceApplied Builtin.Slice.sliceFields
    refine wpAny_bind (wpAny_bind (wpAny_field hos hds (x := vl) rfl (wpAny_bind (wpAny_field hos hds (x := vu) rfl (wpAny_bind (wpAny_field hos hds (x := vs) rfl (wpAny_pure ?_)))))))
    refine wpAny_bind (HT.slicePart_ ps ?_)
    show wpAny _ _ (if ((-1 : Int) == 0) = true then _ else _) _ _ s
    rw [if_neg (by decide)]
    refine wpAny_bind (HT.slicePart_ pl (wpAny_bind (HT.slicePart_ pu (wpAny_bind (wpAny_pure ?_)))))
    show wpAny _ _ (pure ((its.toArray.size : Int) - 1, (-1 : Int), Builtin.Slice.slicePlaces ((its.toArray.size : Int) - 1) (-1) (-1))) _ _ s
    rw [back_places]
    refine wpAny_pure ?_
    have hno : ¬ ((((its.toArray.size : Int) - 1) == 0 && (-1 : Int) == 1 && its.toArray.size == its.toArray.size) = true) := by
      intro z
      rw [Bool.and_eq_true, Bool.and_eq_true] at z
      exact absurd z.1.2 (by decide)
    show wpAny _ _ (if (((its.toArray.size : Int) - 1) == 0 && (-1 : Int) == 1 && its.toArray.size == its.toArray.size) = true then _ else _) _ _ s
    rw [if_neg hno, back_pick]
    first
      | exact wpAny_bind (m := Builtin.Tuple.tupleExact _) (wpAny_newObj_type (wpAny_pure ⟨_, rfl, wpAny_pure h⟩) hk)
      | exact wpAny_bind (m := Builtin.Tuple.tupleExact _) (wpAny_newObj_type (wpAny_bind (wpAny_pure (wpAny_pure ⟨_, rfl, wpAny_pure h⟩))) hk)
      | exact wpAny_bind (wpAny_bind (m := Builtin.Tuple.tupleExact _) (wpAny_newObj_type (wpAny_pure (wpAny_pure ⟨_, rfl, wpAny_pure h⟩)) hk))
end
def tRevT (K : PySem.W.Frag) (te : TE) : TE := fun σ H Q => te σ H fun x H1 => ∃ a xs, x = .ref a ∧ SqT K H1 a xs ∧ ∀ p, H1 p = none → Q (.ref p) (upd H1 p (.tup xs.reverse))
section
variable {X : Cx} {N : En} {W : WX}
theorem pe_revT {e : Expr} {te : TE} {k : Nat} {p1 p2 p3 pos : Pos} (he : PE X e te) : PE X (.Subscript e (.Slice none none (some (.UnaryOp .USub (.Constant (.int 1) k p1) p2)) p3) pos) (tRevT X.K te) := by
  refine ⟨fun pins s σ H Q I h => Subscript_ (thn (he.run pins s σ H _ I h) fun v s1 ⟨x, H1, I1, r1, q1⟩ => ?_)⟩
  obtain ⟨a, xs, ex, hx, q⟩ := q1
  subst ex
  cases r1
  have hst : PO X (some (.UnaryOp .USub (.Constant (.int 1) k p1) p2)) (tPart (tUn (rU fun i => .int (-i)) (tC (.int 1)))) := po_some (pe_un un_neg pe_int)
  refine wpAny_Slice (thn (po_none.run pins s1 σ H1 (fun o H2 => o = none ∧ H2 = H1) I1 ⟨rfl, rfl⟩) fun vl s2 ⟨l, H2, I2, pl, el, e2⟩ => ?_)
  cases el
  cases e2
  refine thn (po_none.run pins s2 σ H1 (fun o H3 => o = none ∧ H3 = H1) I2 ⟨rfl, rfl⟩) fun vu s3 ⟨u, H3, I3, pu, eu, e3⟩ => ?_
  cases eu
  cases e3
  refine thn (hst.run pins s3 σ H1 (fun o H4 => o = some (-1) ∧ H4 = H1) I3 ⟨1, rfl, -1, rfl, rfl, rfl⟩) fun vs s4 ⟨o, H4, I4, ps, eo, e4⟩ => ?_
  cases eo
  cases e4
  have I5 : Inv X pins σ H1 { s4 with heap := s4.heap.push { cls := .type "slice", data := .fields #[vl, vu, vs] } } := I4.kept (t' := s4.toks) fun b ob q => Heap.get?_push_of_some _ q
  obtain ⟨its, r, ht, hz⟩ := I5.tuple hx
  show wpAny (model X.prog X.w) X.A (subscriptTail e (.Slice none none (some (.UnaryOp .USub (.Constant (.int 1) k p1) p2)) p3) (.ref a) (.ref s4.heap.objs.size)) (EP X pins σ Q) X.xe { s4 with heap := s4.heap.push { cls := .type "slice", data := .fields #[vl, vu, vs] } }
  refine tail_any (ops := [.ref a, .ref s4.heap.objs.size]) ht.typeIs (PyProof.Rows.slot_tuple_getitem.lookup) ?_ (by with_unfolding_all rfl)
  refine getItem_back ht (Heap.IsSliceOf.new _ vl vu vs) pl pu ps ?_ (by rw [← r.length]; exact hz)
  refine ⟨.ref _, _, I5.laid (t' := s4.toks) (o := .tup xs.reverse) (fun b ob q => Heap.get?_push_of_some _ q) (Nat.le_refl _) ?_, rfl, q _ (I5.hok.fresh (Nat.le_refl _))⟩
  exact ⟨by rw [List.length_reverse]; exact hz, _, r.reverse, IsTup.new _ _⟩
theorem Dns.rev {K : PySem.W.Frag} {mg : Str → Option Value} {S : AP} {ι : List Addr} {H : Hp} : ∀ {xs : List V} {ds : List D}, Dns K mg S ι H xs ds → Dns K mg S ι H xs.reverse ds.reverse
  | _, _, .nil => .nil
  | _, _, .cons h t => by
    rw [List.reverse_cons, List.reverse_cons]
    exact (Dns.rev t).append (.cons h .nil)
def revT : D → Option D
  | .tup ds => some (.tup ds.reverse)
  | _ => none
theorem de_rev {e : Expr} {k : Nat} {p1 p2 p3 pos : Pos} {a : TDE} (ha : DB X N W e a) : DE X N W (.Subscript e (.Slice none none (some (.UnaryOp .USub (.Constant (.int 1) k p1) p2)) p3) pos) (dUn revT a) :=
  pe_imp (pe_revT ha) fun σ H Q q => un_core (R := fun x H Q => ∃ a xs, x = .ref a ∧ SqT X.K H a xs ∧ ∀ p, H p = none → Q (.ref p) (upd H p (.tup xs.reverse))) (fun N ι M S H own x d r Q k b q k' => by
    unfold revT at q
    split at q
    · cases q
      obtain ⟨a, xs, rfl, ha, ta, _⟩ := b.tupAt
      exact ⟨a, xs, rfl, ha, fun p hp => k' _ _ _ (k.alloc hp) ⟨k.alloc_ext hp, fun i a h => ⟨k.hown hp i a h, .inl h⟩⟩ (.tup (.inl ⟨.inr rfl, .inl upd_same⟩) (ta.rev.ext (k.alloc_ext hp)))⟩
    · cases q) σ H Q q
end
end DL
set_option maxHeartbeats 2000000
namespace DL
open PySem PySem.Spec PyProof.Rows L2

/-! ### what the head tells of the classes -/
def TyN.valK (K : PySem.W.Frag) : TyN → Value
  | .ty n => .type n
  | .own c => .ref (He.ga K c)
def TyN.gloB (K : PySem.W.Frag) : TyN → Bool
  | .ty _ => true
  | .own c => (He.Fa.glo c).ok K
def clsB (K : PySem.W.Frag) (c : Str) : Bool := (He.Fa.glo c).ok K && ((He.Fa.cls c).ok K && (He.eqO (PySem.W.findIn K (.ref (He.ga K c)) "__class__") (some (some (.builtin "object.__class__"))) &&
  (He.eqO (PySem.W.specialIn K (.builtin "object.__class__") "__get__") (some (some (.builtin "getset_descriptor.__get__"))) && (decide (PySem.W.takesIn K (.builtin "object.__class__") = some true) && decide (PySem.W.mroIn K (He.ga K c) (.type "object") = some true)))))
def ktB (K : PySem.W.Frag) (e : TyN × TyN × Bool) : Bool := e.1.gloB K && (e.2.1.gloB K && decide (PySem.W.kitOne K (e.1.valK K) (e.2.1.valK K) = some e.2.2))
def atB (K : PySem.W.Frag) (e : Str × Str) : Bool := (He.Fa.glo e.1).ok K && (He.Fa.noat e.1 e.2).ok K
def ownB (K : PySem.W.Frag) (T : OwnT) : Bool := T.cs.all (clsB K) && (T.kt.all (ktB K) && T.at_.all (atB K))
section
variable {K : PySem.W.Frag} {h : Heap} {mg : Str → Option Value} {T : OwnT}
theorem val_of (X : K.In h) (G : h.Ns mainGlobals mg) {a : TyN} (c : a.gloB K = true) {v : Value} (e : a.val mg = some v) : v = a.valK K := by
  cases a with
  | ty n => cases e; rfl
  | own x =>
    have e2 := He.glo_ok X G (show (He.Fa.glo x).ok K = true from c)
    have e : mg x = some v := e
    rw [e2] at e
    cases e
    rfl
theorem own_ok (X : K.In h) (G : h.Ns mainGlobals mg) (c : ownB K T = true) : OwnOk K mg T := by
  obtain ⟨c1, c⟩ := He.ba c
  obtain ⟨c2, c3⟩ := He.ba c
  refine ⟨fun x hx => ?_, fun x hx C hC => ?_, fun a b r hm va vb ea eb => ?_, fun x f hm C hC => ?_⟩
  · exact ⟨_, He.glo_ok X G (He.ba (List.all_eq_true.mp c1 x hx)).1⟩
  · obtain ⟨k1, k⟩ := He.ba (List.all_eq_true.mp c1 x hx)
    rw [He.glo_ok X G k1] at hC
    cases hC
    obtain ⟨k2, k⟩ := He.ba k
    obtain ⟨k3, k⟩ := He.ba k
    obtain ⟨k4, k⟩ := He.ba k
    obtain ⟨k5, k6⟩ := He.ba k
    exact ⟨He.cls_ok k2, He.eqO_ok k3, He.eqO_ok k4, of_decide_eq_true k5, of_decide_eq_true k6⟩
  · obtain ⟨k1, k⟩ := He.ba (List.all_eq_true.mp c2 _ hm)
    obtain ⟨k2, k3⟩ := He.ba k
    rw [val_of X G k1 ea, val_of X G k2 eb]
    exact of_decide_eq_true k3
  · obtain ⟨k1, k2⟩ := He.ba (List.all_eq_true.mp c3 _ hm)
    rw [He.glo_ok X G k1] at hC
    cases hC
    exact He.noat_ok k2
/-- a module's name for a built-in function -/
def bfB (K : PySem.W.Frag) (x : Str) (id : String) : Bool := He.eqO (PySem.W.nsIn K mainGlobals x) (some (some (.builtin id)))
theorem bf_ok (X : K.In h) (G : h.Ns mainGlobals mg) {x : Str} {id : String} (c : bfB K x id = true) : mg x = some (.builtin id) := PySem.W.mg_of X G (He.eqO_ok c)
def tupGB (K : PySem.W.Frag) (x : Str) (ns : List Int) : Bool := (He.Fa.glo x).ok K && He.tupB K x (ns.map He.Dv.int)
theorem tupG_ok (X : K.In h) (G : h.Ns mainGlobals mg) {x : Str} {ns : List Int} (c : tupGB K x ns = true) : TupG K mg x ns := by
  obtain ⟨c1, c2⟩ := He.ba c
  refine ⟨_, He.glo_ok X G c1, ?_⟩
  have e := He.tupB_ok c2 (fun _ => none)
  rw [List.map_map] at e
  exact e
end
end DL
set_option maxHeartbeats 2000000
namespace DL
open PySem PySem.Spec PyProof.Rows L2
/-! ### data's laws, for evaluating -/
theorem line_ge : sizeLine = sizeLine := rfl
theorem addD_int (i j : Int) : addD (.int i) (.int j) = some (.int (i + j)) := rfl
theorem addD_lst (a b : List D) (h : a.length + b.length ≤ sizeLine) : addD (.lst a) (.lst b) = some (.lst (a ++ b)) := by
  show (addL (.lst a) (.lst b)).orElse _ = _
  unfold addL
  simp only [if_pos h]
  rfl
theorem intA_int (i : Int) : intA (.int i) = some (.int i) := rfl
theorem intA_bl (b : Bool) : intA (.bl b) = some (.int (if b then 1 else 0)) := rfl
theorem intD_int (i : Int) : intD (.int i) = some (.int i) := rfl
theorem mulI_ok {i j : Int} (h : mulOk i j) : mulI i j = some (.int (i * j)) := if_pos h
theorem divI_ok {i j : Int} (h : divOk j) : divI i j = some (.int (i.fdiv j)) := if_pos h
theorem modI_ok {i j : Int} (h : j ≠ 0) : modI i j = some (.int (i.fmod j)) := if_pos h
theorem powI_ok {i j : Int} (h : powOk i j) : powI i j = some (.int (i ^ j.toNat)) := if_pos h
theorem atI_nat {α : Type} (xs : List α) (n : Nat) : L2.atI xs (n : Int) = xs[n]? := by
  unfold L2.atI ixN
  by_cases h : n < xs.length
  · simp [h]
  · simp [h]
theorem ix_t0 (a : D) (r : List D) : ixD (.tup (a :: r)) (.int 0) = some a := by
  show L2.atI (a :: r) ((0 : Nat) : Int) = _
  rw [atI_nat]; rfl
theorem ix_t1 (a b : D) (r : List D) : ixD (.tup (a :: b :: r)) (.int 1) = some b := by
  show L2.atI (a :: b :: r) ((1 : Nat) : Int) = _
  rw [atI_nat]; rfl
theorem ix_t2 (a b c : D) (r : List D) : ixD (.tup (a :: b :: c :: r)) (.int 2) = some c := by
  show L2.atI (a :: b :: c :: r) ((2 : Nat) : Int) = _
  rw [atI_nat]; rfl
theorem ix_l0 (a : D) (r : List D) : ixD (.lst (a :: r)) (.int 0) = some a := by
  show L2.atI (a :: r) ((0 : Nat) : Int) = _
  rw [atI_nat]; rfl
theorem ix_l1 (a b : D) (r : List D) : ixD (.lst (a :: b :: r)) (.int 1) = some b := by
  show L2.atI (a :: b :: r) ((1 : Nat) : Int) = _
  rw [atI_nat]; rfl
theorem ix_lnat (ds : List D) (n : Nat) : ixD (.lst ds) (.int (n : Int)) = ds[n]? := atI_nat ds n
theorem eqD_of {n : Bool} {d e : D} {p q : PyData} {r : Bool} (h1 : toPy d = some p) (h2 : toPy e = some q) (s1 : SeqAt.shaped p = true) (s2 : SeqAt.shaped q = true) (h : PyData.eqv p q = r) : eqD n d e = some (.bl (xor n r)) := by
  unfold eqD
  rw [h1, h2]
  show (if SeqAt.shaped p = true ∧ SeqAt.shaped q = true then _ else _) = _
  rw [if_pos ⟨s1, s2⟩, h]
theorem eqD_int (n : Bool) (i j : Int) : eqD n (.int i) (.int j) = some (.bl (xor n (decide (i = j)))) :=
  eqD_of rfl rfl rfl rfl (by simp only [PyData.eqv]; by_cases h : i = j <;> simp [h])
theorem eqD_pair (n : Bool) (a b c d : Int) : eqD n (.tup [.int a, .int b]) (.tup [.int c, .int d]) = some (.bl (xor n (decide (a = c ∧ b = d)))) :=
  eqD_of rfl rfl rfl rfl (by simp only [PyData.eqv, PyData.eqvAll]; by_cases h : a = c <;> by_cases h2 : b = d <;> simp [h, h2])
theorem eqD_bl (n : Bool) (i j : Bool) : eqD n (.bl i) (.bl j) = some (.bl (xor n (i == j))) :=
  eqD_of rfl rfl rfl rfl (by simp only [PyData.eqv])
theorem eqA_int (n : Bool) (i j : Int) : eqA n (.int i) (.int j) = some (.bl (xor n (decide (i = j)))) := eqD_int n i j
theorem eqA_pair (n : Bool) (a b c d : Int) : eqA n (.tup [.int a, .int b]) (.tup [.int c, .int d]) = some (.bl (xor n (decide (a = c ∧ b = d)))) := eqD_pair n a b c d
theorem eqA_bl (n i j : Bool) : eqA n (.bl i) (.bl j) = some (.bl (xor n (i == j))) := eqD_bl n i j
theorem eqA_str (n : Bool) (a b : Str) : eqA n (.str a) (.str b) = some (.bl (xor n (decide (a = b)))) := rfl
theorem eqA_lst (n : Bool) (a : List D) (e : D) : eqA n (.lst a) e = eqD n (.lst a) e := rfl
theorem eqA_tup (n : Bool) (a : List D) (e : D) : eqA n (.tup a) e = eqD n (.tup a) e := rfl
/-! ### calls whose worth is known -/
theorem pcall {φ : DF} {ds : List D} {d : D} (h : ∀ M, φ ds M = some (.ret d M)) : ∀ ρ M, dApp φ ds ρ M = some (.ok d ρ M) := fun ρ M => by
  unfold dApp dRet
  rw [h]
theorem mcall {φ : DF} {ds : List D} {d : D} {M M' : MS} (h : φ ds M = some (.ret d M')) : ∀ ρ, dApp φ ds ρ M = some (.ok d ρ M') := fun ρ => by
  unfold dApp dRet
  rw [h]
theorem call_p {n np : Nat} {a : TDA} {sel : List Src} {dds vs ws : List D} {φ : DF} {ρ ρ1 : DS} {M M1 M2 : MS} {d : D} (h1 : a ρ M = some (.ok vs ρ1 M1)) (h2 : vs.length = n) (h3 : pick sel vs dds [] = ws) (h4 : ws.length = np) (h5 : φ ws M1 = some (.ret d M2)) :
    aBind a (fun ds => fits n ds (fits np (pick sel ds dds []) (dApp φ (pick sel ds dds [])))) ρ M = some (.ok d ρ1 M2) := by
  unfold aBind
  rw [h1]
  show fits n vs (fits np (pick sel vs dds []) (dApp φ (pick sel vs dds []))) ρ1 M1 = _
  unfold fits
  rw [h3, if_pos h2, if_pos h4]
  exact mcall h5 ρ1
theorem bin_p {f : D → D → Option D} {a b : TDE} {ρ ρ1 ρ2 : DS} {M M1 M2 : MS} {x y z : D} (h1 : a ρ M = some (.ok x ρ1 M1)) (h2 : b ρ1 M1 = some (.ok y ρ2 M2)) (h3 : f x y = some z) : dBin f a b ρ M = some (.ok z ρ2 M2) := by
  unfold dBin dBind
  rw [h1]
  show (match b ρ1 M1 with | some (.ok d ρ1 M1) => dOut (f x d) ρ1 M1 | o => o) = _
  rw [h2]
  show dOut (f x y) ρ2 M2 = _
  rw [h3]
  rfl
theorem set_p {i : Nat} {a : TDE} {ρ ρ1 : DS} {M M1 : MS} {d : D} (h : a ρ M = some (.ok d ρ1 M1)) : sSet i a ρ M = some (.nx (ρ1.set i (some (.t d))) M1) := by
  unfold sSet sBind
  rw [h]
/-! ### a comprehension of pure items -/
theorem compL_map {b : TDG} {u : TDE} {ρ : DS} {M : MS} (F : D → D) : ∀ (ds acc : List D), (∀ d ∈ ds, ∃ ρ2, b d ρ = some ρ2 ∧ u ρ2 M = some (.ok (F d) ρ2 M)) → acc.length + ds.length ≤ sizeLine → compL b dYes u ρ ds acc M = some (acc ++ ds.map F, M)
  | [], acc, _, _ => by rw [List.map_nil, List.append_nil]; rfl
  | d :: r, acc, h, hz => by
    obtain ⟨ρ2, h1, h2⟩ := h d List.mem_cons_self
    have hz2 : acc.length < sizeLine := by simp only [List.length_cons] at hz; omega
    have ih := compL_map F r (acc ++ [F d]) (fun x hx => h x (List.mem_cons_of_mem _ hx)) (by simp only [List.length_append, List.length_cons, List.length_nil] at hz ⊢; omega)
    unfold compL
    simp only [h1, dYes, h2]
    rw [if_pos ⟨trivial, trivial, hz2⟩, ih, List.map_cons, List.append_assoc]
    rfl
theorem comp_map {vs : List Nat} {src : TDA} {b : TDG} {u : TDE} {ρ ρ1 : DS} {M M1 : MS} {ds : List D} (F : D → D) (h1 : src ρ M = some (.ok ds ρ1 M1)) (h2 : freeAll ρ1 vs = true) (h3 : vs.all (fun v => decide (v < slotsB)) = true) (h4 : ds.length ≤ sizeLine)
    (h : ∀ d ∈ ds, ∃ ρ2, b d (wipeD (borrow ρ1) vs) = some ρ2 ∧ u ρ2 M1 = some (.ok (F d) ρ2 M1)) : dComp vs src b dYes u ρ M = some (.ok (.lst (ds.map F)) ρ1 M1) := by
  unfold dComp
  rw [h1]
  simp only
  rw [if_pos ⟨h2, h3⟩, compL_map F ds [] h (by simpa using h4)]
  rfl
/-! ### repr -/
theorem leafI {i : Int} (h : i.natAbs.log2 < 1920) : PyData.leavesShort 1921 (.int i) = true := by
  unfold PyData.leavesShort
  refine decide_eq_true ?_
  have e := PySem.int_text_length_le (a := i) (k := 1920) (by decide) h
  show (Str.ofString (toString i)).length ≤ 1921
  rw [PySem.ofString_length]
  exact e
theorem shw_of {p : PyData} (h1 : p.showable = true) (h2 : p.hasDict = false) (h3 : p.depth ≤ 60) (h4 : p.leavesShort 1921 = true) (h5 : p.bulk ≤ 8000) : shwD p := by
  refine ⟨h1, h2, h3, ?_⟩
  have := PyData.shown_le_bulk 1921 (by decide) p h4
  rw [sizeLine_eq]
  omega
theorem repr_of {d : D} {p : PyData} (h : toPy d = some p) (s : shwD p) : reprD d = some (.str p.shown) := by
  unfold reprD
  rw [h]
  exact if_pos s
theorem asg_p {a : TDE} {b : TDG} {ρ ρ1 ρ2 : DS} {M M1 : MS} {d : D} (h : a ρ M = some (.ok d ρ1 M1)) (h2 : b d ρ1 = some ρ2) : sAsg a b ρ M = some (.nx ρ2 M1) := by
  unfold sAsg sBind
  rw [h]
  simp only [h2]
theorem not_tru_p {a : TDE} {ρ ρ1 : DS} {M M1 : MS} (h : a ρ M = some (.ok (.bl true) ρ1 M1)) : dNot (dTru a) ρ M = some (.ok (.bl false) ρ1 M1) := by
  unfold dNot dTru
  rw [h]
  rfl
/-! ### statement by statement -/
theorem seq_nx {t u : TDS} {ρ ρ1 : DS} {M M1 : MS} (h : t ρ M = some (.nx ρ1 M1)) : sSeq t u ρ M = u ρ1 M1 := by
  unfold sSeq
  rw [h]
theorem seq_rt {t u : TDS} {ρ : DS} {M M1 : MS} {d : D} (h : t ρ M = some (.rt d M1)) : sSeq t u ρ M = some (.rt d M1) := by
  unfold sSeq
  rw [h]
theorem dFn_rt {n N : Nat} {t : TDS} {ds : List D} {M M1 : MS} {d : D} (hl : ds.length = n) (h : t (ds.map (fun d => some (.t d)) ++ List.replicate (N - ds.length) none) M = some (.rt d M1)) : dFn n N t ds M = some (.ret d M1) := by
  unfold dFn
  rw [if_pos hl, h]
theorem dFn_nx {n N : Nat} {t : TDS} {ds : List D} {M M1 : MS} {ρ : DS} (hl : ds.length = n) (h : t (ds.map (fun d => some (.t d)) ++ List.replicate (N - ds.length) none) M = some (.nx ρ M1)) : dFn n N t ds M = some (.ret .non M1) := by
  unfold dFn
  rw [if_pos hl, h]
theorem if_t {c : TDE} {u v : TDS} {ρ ρ1 : DS} {M M1 : MS} (h : c ρ M = some (.ok (.bl true) ρ1 M1)) : sIf c u v ρ M = u ρ1 M1 := by
  unfold sIf
  rw [h]
theorem if_f {c : TDE} {u v : TDS} {ρ ρ1 : DS} {M M1 : MS} (h : c ρ M = some (.ok (.bl false) ρ1 M1)) : sIf c u v ρ M = v ρ1 M1 := by
  unfold sIf
  rw [h]
theorem or_f {a b : TDE} {ρ ρ1 : DS} {M M1 : MS} (h : a ρ M = some (.ok (.bl false) ρ1 M1)) : dOrT a b ρ M = b ρ1 M1 := by
  unfold dOrT
  rw [h]
/-! ### while, a turn at a time -/
theorem while_t {c : TDE} {body : TDS} {ρ ρ1 ρ2 : DS} {M M1 M2 : MS} {o : SO} (h1 : c ρ M = some (.ok (.bl true) ρ1 M1)) (h2 : body ρ1 M1 = some (.nx ρ2 M2)) (h3 : sWhile c body ρ2 M2 = some o) : sWhile c body ρ M = some o := by
  obtain ⟨n, hn⟩ := while_get h3
  refine while_of (n := n + 1) ?_
  unfold wh
  rw [h1]
  show (match body ρ1 M1 with | some (.nx ρ2 M2) => wh c body n ρ2 M2 | some (.ct ρ2 M2) => wh c body n ρ2 M2 | some (.bk ρ2 M2) => some (.nx ρ2 M2) | o => o) = _
  rw [h2]
  exact hn
theorem while_f {c : TDE} {body : TDS} {ρ ρ1 : DS} {M M1 : MS} (h1 : c ρ M = some (.ok (.bl false) ρ1 M1)) : sWhile c body ρ M = some (.nx ρ1 M1) := by
  refine while_of (n := 1) ?_
  unfold wh
  rw [h1]
theorem for_eq {src : TDA} {b : TDG} {body : TDS} {ρ ρ1 : DS} {M M1 : MS} {ds : List D} (h : src ρ M = some (.ok ds ρ1 M1)) : sFor src b body ρ M = loopS b body ds ρ1 M1 := by
  unfold sFor
  rw [h]
theorem rng1 {a : TDE} {ρ ρ1 : DS} {M M1 : MS} {j : Int} (h : a ρ M = some (.ok (.int j) ρ1 M1)) (hj : small62 j) : iRange1 a ρ M = some (.ok (rangeL 0 j.toNat) ρ1 M1) := by
  unfold iRange1 iBind
  rw [h]
  simp only
  rw [if_pos hj]
theorem seq_eq {a : TDE} {ρ ρ1 : DS} {M M1 : MS} {d : D} {ds : List D} (h : a ρ M = some (.ok d ρ1 M1)) (hk : itemsD d = some ds) : iBind a itemsD ρ M = some (.ok ds ρ1 M1) := by
  unfold iBind
  rw [h]
  simp only [hk]
theorem rangeL_len (lo : Int) (n : Nat) : (rangeL lo n).length = n := by unfold rangeL; rw [List.length_map, List.length_range]
/-! ### greatness -/
theorem mulOk_of {i j : Int} {n m : Nat} (h1 : i.natAbs < 2 ^ n) (h2 : j.natAbs < 2 ^ m) (h : n + m ≤ 999999 := by omega) : mulOk i j := by
  refine .inr (.inr ?_)
  have k : ∀ {a n : Nat}, a < 2 ^ n → a.log2 ≤ n := fun {a n} h => by
    by_cases z : a = 0
    · subst z; rw [Nat.log2_zero]; omega
    · exact Nat.le_of_lt ((Nat.log2_lt z).mpr h)
  have := k h1
  have := k h2
  omega
theorem divOk_of {j : Int} {n : Nat} (h0 : j ≠ 0) (h : j.natAbs < 2 ^ n) (hn : n < 9000 := by omega) : divOk j := by
  refine ⟨h0, ?_⟩
  have := (Nat.log2_lt (n := j.natAbs) (k := n) (by omega)).mpr h
  omega
theorem line2 : (0 + 1 + 1 ≤ sizeLine) = True := by rw [sizeLine_eq]; decide
theorem line_nat {n : Nat} (h : n ≤ 16777216) : n ≤ sizeLine := by rw [sizeLine_eq]; exact h
theorem le1 : (1 ≤ sizeLine) = True := by rw [sizeLine_eq]; decide
theorem le2 : (2 ≤ sizeLine) = True := by rw [sizeLine_eq]; decide
theorem le3 : (3 ≤ sizeLine) = True := by rw [sizeLine_eq]; decide
theorem le4 : (4 ≤ sizeLine) = True := by rw [sizeLine_eq]; decide
theorem le5 : (5 ≤ sizeLine) = True := by rw [sizeLine_eq]; decide
theorem le8 : (8 ≤ sizeLine) = True := by rw [sizeLine_eq]; decide
theorem le9 : (9 ≤ sizeLine) = True := by rw [sizeLine_eq]; decide
theorem len_lst (ds : List D) : lenA (.lst ds) = some (.int ds.length) := rfl
theorem len_tup (ds : List D) : lenA (.tup ds) = some (.int ds.length) := rfl
end DL
set_option maxHeartbeats 0
namespace L07
open PySem PySem.Spec PyProof.Rows L2 DL
def top (i : Nat) : Stmt := PySem.Challenge.pw_askednear_k07_whole_numbers_of_formats.main.body.getD i (.Pass ⟨0, 0, 0, 0⟩)
def TT : OwnT := ⟨["Format"], [(.ty "int", .ty "int", true),
  (.ty "int", .ty "bool", false),
  (.ty "int", .ty "str", false),
  (.ty "int", .ty "list", false),
  (.ty "int", .ty "tuple", false),
  (.ty "int", .ty "dict", false),
  (.ty "bool", .ty "int", true),
  (.ty "bool", .ty "bool", true),
  (.ty "bool", .ty "str", false),
  (.ty "bool", .ty "list", false),
  (.ty "bool", .ty "tuple", false),
  (.ty "bool", .ty "dict", false),
  (.ty "str", .ty "int", false),
  (.ty "str", .ty "bool", false),
  (.ty "str", .ty "str", true),
  (.ty "str", .ty "list", false),
  (.ty "str", .ty "tuple", false),
  (.ty "str", .ty "dict", false),
  (.ty "list", .ty "int", false),
  (.ty "list", .ty "bool", false),
  (.ty "list", .ty "str", false),
  (.ty "list", .ty "list", true),
  (.ty "list", .ty "tuple", false),
  (.ty "list", .ty "dict", false),
  (.ty "tuple", .ty "int", false),
  (.ty "tuple", .ty "bool", false),
  (.ty "tuple", .ty "str", false),
  (.ty "tuple", .ty "list", false),
  (.ty "tuple", .ty "tuple", true),
  (.ty "tuple", .ty "dict", false),
  (.ty "dict", .ty "int", false),
  (.ty "dict", .ty "bool", false),
  (.ty "dict", .ty "str", false),
  (.ty "dict", .ty "list", false),
  (.ty "dict", .ty "tuple", false),
  (.ty "dict", .ty "dict", true),
  (.ty "NoneType", .ty "int", false),
  (.ty "NoneType", .ty "bool", false),
  (.ty "NoneType", .ty "str", false),
  (.ty "NoneType", .ty "list", false),
  (.ty "NoneType", .ty "tuple", false),
  (.ty "NoneType", .ty "dict", false),
  (.ty "int", .own "Format", false),
  (.ty "bool", .own "Format", false),
  (.ty "str", .own "Format", false),
  (.ty "list", .own "Format", false),
  (.ty "tuple", .own "Format", false),
  (.ty "dict", .own "Format", false),
  (.ty "NoneType", .own "Format", false),
  (.own "Format", .ty "int", false),
  (.own "Format", .ty "bool", false),
  (.own "Format", .ty "str", false),
  (.own "Format", .ty "list", false),
  (.own "Format", .ty "tuple", false),
  (.own "Format", .ty "dict", false),
  (.own "Format", .own "Format", true)], [("Format", "base"), ("Format", "digits")]⟩
structure Fx (K : PySem.W.Frag) (mg : Str → Option Value) : Prop where
  own : OwnOk K mg TT
  f_abs : mg "abs" = none
  f_bool : mg "bool" = none
  f_int : mg "int" = none
  f_isinstance : mg "isinstance" = none
  f_len : mg "len" = none
  f_list : mg "list" = none
  f_range : mg "range" = none
  f_repr : mg "repr" = none
  f_tuple : mg "tuple" = none
  i_gcd : mg "gcd" = some (.builtin "math.gcd")
  c_LEAST_BASE : ∃ t, mg "LEAST_BASE" = some (.int 2 t)
  c_MOST_BASE : ∃ t, mg "MOST_BASE" = some (.int 36 t)
  c_MOST_DIGITS : ∃ t, mg "MOST_DIGITS" = some (.int 60 t)
  c_NOTHING : TupG K mg "NOTHING" [0, 1]
section
variable {P : Program} {w : World} {K : PySem.W.Frag} {mg : Str → Option Value} {base : Heap}
abbrev s__law_pen : Stmt := top 34
theorem sc__law_pen : FnScope ["script", "cell"] ["script"] (defScope s__law_pen) := ⟨rfl, rfl, rfl, by decide +kernel, rfl, by decide +kernel, by decide +kernel⟩
noncomputable def k0__law_pen : TDE := dComp [1] (iBind (dSl (dPeek 0) none (some (dC (.int 63)))) itemsD) (bName 1) dYes (dUn intA (dPeek 1))
noncomputable def m__law_pen : TDS := (sRetObj (aCons (k0__law_pen) (aCons (dC (.int 0)) (aCons (dC (.int 0)) aNil))))
noncomputable def φ__law_pen : DF := dFn 1 2 m__law_pen
theorem ok__law_pen (E : Fx K mg) (H : DfD K mg "_law_pen" s__law_pen []) : DgD P w K mg base "_law_pen" s__law_pen 1 ["script"] φ__law_pen [] := by
  obtain ⟨f, fd, F, hm⟩ := H
  refine ⟨f, fd, F, def_of (Ns := ["script", "cell"]) (ps := ["script"]) (t := m__law_pen) hm F sc__law_pen (by decide) (by decide) fun cdv A outer s H E' N hc hr tk => ?_⟩
  have sc := sc__law_pen
  exact (dss_one (ds_retObj (ps_ret (pe_lst (da_cons (de_lc (N := N) (own := [("cell", 1)]) rfl sc.nd (di_seq (de_sl01 (db_var (pe_var (i := 0) rfl (Or.inl rfl))) (de_b (de_int)))) (blkOk_by (own := [("cell", 1)]) (N := ["script", "cell"]) (sc := defScope s__law_pen) (by decide +kernel)) (gok_name (by decide)) (fun _ _ _ _ _ => (pg_name (i := 1) sc.nd rfl (Or.inl rfl))) (fun _ _ _ _ _ => pts_nil) tYes_of (fun _ _ _ _ _ => (de_t1 c_int E.f_int (db_var (pe_var (i := 1) rfl (Or.inl rfl)))))) (da_cons (de_int) (da_cons (de_int) da_nil)))))))
abbrev s__law_draw : Stmt := top 35
theorem sc__law_draw : FnScope ["pen", "many", "rest", "at", "cell", "mixed"] ["pen", "many"] (defScope s__law_draw) := ⟨rfl, rfl, rfl, by decide +kernel, rfl, by decide +kernel, by decide +kernel⟩
noncomputable def m__law_draw : TDS := (sSeq (sIf (dBin gtD (dObjIx 0 (dC (.int 2))) (dC (.int 0))) (sSeq (sSet 2 (dUn intA (dObjIx 0 (dC (.int 2))))) (sSeq (sObjSet 0 (dC (.int 2)) (dBin divD (dPeek 2) (dPeek 1))) (sRet (dBin modD (dUn intA (dPeek 2)) (dPeek 1))))) sNext) (sSeq (sSet 3 (dObjIx 0 (dC (.int 1)))) (sSeq (sObjSet 0 (dC (.int 1)) (dBin addD (dPeek 3) (dC (.int 1)))) (sSeq (sSet 4 (dBin addD (dBin mulD (dC (.int 91121)) (dPeek 3)) (dC (.int 1051)))) (sSeq (sIf (dBin (eqA true) (dObjIx 0 (dC (.int 0))) (dLst aNil)) (sSet 4 (dBin ixD (dObjIx 0 (dC (.int 0))) (dBin modD (dUn intA (dPeek 3)) (dUn lenA (dObjIx 0 (dC (.int 0))))))) sNext) (sSeq (sIf (dAndT (dBin ltD (dPeek 3) (dUn lenA (dObjIx 0 (dC (.int 0))))) (dBin geD (dUn absD (dPeek 4)) (dBin powD (dC (.int 10)) (dC (.int 18))))) (sSeq (sSet 2 (dBin addD (dBin mulD (dC (.int 2)) (dBin subD (dUn absD (dPeek 4)) (dBin powD (dC (.int 10)) (dC (.int 18))))) (dUn intA (dBin ltD (dPeek 4) (dC (.int 0)))))) (sSeq (sObjSet 0 (dC (.int 2)) (dBin divD (dUn intA (dPeek 2)) (dPeek 1))) (sRet (dBin modD (dUn intA (dPeek 2)) (dPeek 1))))) sNext) (sSeq (sSet 5 (dBin modD (dUn intA (dBin powD (dBin addD (dBin addD (dBin modD (dUn intA (dPeek 4)) (dC (.int 2147483549))) (dBin mulD (dC (.int 91121)) (dPeek 3))) (dC (.int 1051))) (dC (.int 5)))) (dC (.int 2147483587)))) (sSeq (sSet 5 (dBin modD (dUn intA (dBin powD (dBin addD (dBin addD (dBin mulD (dPeek 5) (dBin addD (dBin mulD (dC (.int 2)) (dPeek 3)) (dC (.int 277)))) (dBin mulD (dBin mulD (dC (.int 70067)) (dPeek 3)) (dPeek 3))) (dC (.int 1051))) (dC (.int 3)))) (dC (.int 2147483563)))) (sRet (dBin modD (dUn intA (dBin divD (dPeek 5) (dC (.int 32)))) (dPeek 1)))))))))))
noncomputable def φ__law_draw : DF := dFn 2 6 m__law_draw
theorem ok__law_draw (E : Fx K mg) (H : DfD K mg "_law_draw" s__law_draw []) : DgD P w K mg base "_law_draw" s__law_draw 1 ["pen", "many"] φ__law_draw [] := by
  obtain ⟨f, fd, F, hm⟩ := H
  refine ⟨f, fd, F, def_of (Ns := ["pen", "many", "rest", "at", "cell", "mixed"]) (ps := ["pen", "many"]) (t := m__law_draw) hm F sc__law_draw (by decide) (by decide) fun cdv A outer s H E' N hc hr tk => ?_⟩
  have sc := sc__law_draw
  exact (dss_cons (ds_if (dt_cmp od_gt (de_b (de_objix (pe_var (i := 0) rfl (Or.inl rfl)) (de_int))) (de_b (de_int))) (dss_cons (ds_set (ps_set (i := 2) sc.nd rfl (Or.inl rfl) (de_t1 c_int E.f_int (de_b (de_objix (pe_var (i := 0) rfl (Or.inl rfl)) (de_int)))))) (dss_cons (ds_objset (ps_asg (de_bin od_div (db_var (pe_var (i := 2) rfl (Or.inl rfl))) (db_var (pe_var (i := 1) rfl (Or.inl rfl)))) (pg_sub (pe_var (i := 0) rfl (Or.inl rfl)) (de_int) set_list))) (dss_one (ds_ret (de_bin od_mod (de_b (de_t1 c_int E.f_int (db_var (pe_var (i := 2) rfl (Or.inl rfl))))) (db_var (pe_var (i := 1) rfl (Or.inl rfl)))))))) dss_nil) (dss_cons (ds_set (ps_set (i := 3) sc.nd rfl (Or.inl rfl) (de_objix (pe_var (i := 0) rfl (Or.inl rfl)) (de_int)))) (dss_cons (ds_objset (ps_asg (de_bin od_add (db_var (pe_var (i := 3) rfl (Or.inl rfl))) (de_b (de_int))) (pg_sub (pe_var (i := 0) rfl (Or.inl rfl)) (de_int) set_list))) (dss_cons (ds_set (ps_set (i := 4) sc.nd rfl (Or.inl rfl) (de_bin od_add (de_b (de_bin od_mulI (de_b (de_int)) (db_var (pe_var (i := 3) rfl (Or.inl rfl))))) (de_b (de_int))))) (dss_cons (ds_if (dt_cmp (od_neA hr.units) (de_b (de_objix (pe_var (i := 0) rfl (Or.inl rfl)) (de_int))) (de_b (de_lst da_nil))) (dss_one (ds_set (ps_set (i := 4) sc.nd rfl (Or.inl rfl) (de_ix (de_b (de_objix (pe_var (i := 0) rfl (Or.inl rfl)) (de_int))) (de_b (de_bin od_mod (de_b (de_t1 c_int E.f_int (db_var (pe_var (i := 3) rfl (Or.inl rfl))))) (de_b (de_b1 c_len E.f_len (de_b (de_objix (pe_var (i := 0) rfl (Or.inl rfl)) (de_int))))))))))) dss_nil) (dss_cons (ds_if (dw_t (dw_and (dt_cmp od_lt (db_var (pe_var (i := 3) rfl (Or.inl rfl))) (de_b (de_b1 c_len E.f_len (de_b (de_objix (pe_var (i := 0) rfl (Or.inl rfl)) (de_int)))))) (dw_and1 (dt_cmp od_ge (de_b (de_b1 c_abs E.f_abs (db_var (pe_var (i := 4) rfl (Or.inl rfl))))) (de_b (de_bin od_pow (de_b (de_int)) (de_b (de_int)))))))) (dss_cons (ds_set (ps_set (i := 2) sc.nd rfl (Or.inl rfl) (de_bin od_add (de_b (de_bin od_mulI (de_b (de_int)) (de_b (de_bin od_sub (de_b (de_b1 c_abs E.f_abs (db_var (pe_var (i := 4) rfl (Or.inl rfl))))) (de_b (de_bin od_pow (de_b (de_int)) (de_b (de_int)))))))) (de_b (de_t1 c_int E.f_int (de_b (de_cmp od_lt (db_var (pe_var (i := 4) rfl (Or.inl rfl))) (de_b (de_int))))))))) (dss_cons (ds_objset (ps_asg (de_bin od_div (de_b (de_t1 c_int E.f_int (db_var (pe_var (i := 2) rfl (Or.inl rfl))))) (db_var (pe_var (i := 1) rfl (Or.inl rfl)))) (pg_sub (pe_var (i := 0) rfl (Or.inl rfl)) (de_int) set_list))) (dss_one (ds_ret (de_bin od_mod (de_b (de_t1 c_int E.f_int (db_var (pe_var (i := 2) rfl (Or.inl rfl))))) (db_var (pe_var (i := 1) rfl (Or.inl rfl)))))))) dss_nil) (dss_cons (ds_set (ps_set (i := 5) sc.nd rfl (Or.inl rfl) (de_bin od_mod (de_b (de_t1 c_int E.f_int (de_b (de_bin od_pow (de_b (de_bin od_add (de_b (de_bin od_add (de_b (de_bin od_mod (de_b (de_t1 c_int E.f_int (db_var (pe_var (i := 4) rfl (Or.inl rfl))))) (de_b (de_int)))) (de_b (de_bin od_mulI (de_b (de_int)) (db_var (pe_var (i := 3) rfl (Or.inl rfl))))))) (de_b (de_int)))) (de_b (de_int)))))) (de_b (de_int))))) (dss_cons (ds_set (ps_set (i := 5) sc.nd rfl (Or.inl rfl) (de_bin od_mod (de_b (de_t1 c_int E.f_int (de_b (de_bin od_pow (de_b (de_bin od_add (de_b (de_bin od_add (de_b (de_bin od_mulI (db_var (pe_var (i := 5) rfl (Or.inl rfl))) (de_b (de_bin od_add (de_b (de_bin od_mulI (de_b (de_int)) (db_var (pe_var (i := 3) rfl (Or.inl rfl))))) (de_b (de_int)))))) (de_b (de_bin od_mulI (de_b (de_bin od_mulI (de_b (de_int)) (db_var (pe_var (i := 3) rfl (Or.inl rfl))))) (db_var (pe_var (i := 3) rfl (Or.inl rfl))))))) (de_b (de_int)))) (de_b (de_int)))))) (de_b (de_int))))) (dss_one (ds_ret (de_bin od_mod (de_b (de_t1 c_int E.f_int (de_b (de_bin od_div (db_var (pe_var (i := 5) rfl (Or.inl rfl))) (de_b (de_int)))))) (db_var (pe_var (i := 1) rfl (Or.inl rfl))))))))))))))
abbrev s__law_pick : Stmt := top 36
theorem sc__law_pick : FnScope ["pen", "some"] ["pen", "some"] (defScope s__law_pick) := ⟨rfl, rfl, rfl, by decide +kernel, rfl, by decide +kernel, by decide +kernel⟩
noncomputable def m__law_pick : TDS := (sRet (dBin ixD (dPeek 1) (aBind (aCons (dVar 0) (aCons (dUn lenA (dPeek 1)) aNil)) fun ds => fits 2 ds (fits 2 (pick [.p 0, .p 1] ds [] []) (dApp φ__law_draw (pick [.p 0, .p 1] ds [] []))))))
noncomputable def φ__law_pick : DF := dFn 2 2 m__law_pick
theorem ok__law_pick (E : Fx K mg) (H : DfD K mg "_law_pick" s__law_pick []) (H__law_draw : DgD P w K mg base "_law_draw" s__law_draw 1 ["pen", "many"] φ__law_draw []) : DgD P w K mg base "_law_pick" s__law_pick 2 ["pen", "some"] φ__law_pick [] := by
  obtain ⟨f, fd, F, hm⟩ := H
  obtain ⟨f__law_draw, fd__law_draw, F__law_draw, k__law_draw⟩ := H__law_draw
  refine ⟨f, fd, F, def_of (Ns := ["pen", "some"]) (ps := ["pen", "some"]) (t := m__law_pick) hm F sc__law_pick (by decide) (by decide) fun cdv A outer s H E' N hc hr tk => ?_⟩
  have sc := sc__law_pick
  exact (dss_one (ds_ret (de_ix (db_var (pe_var (i := 1) rfl (Or.inl rfl))) (de_b (de_call (n := 2) (ps := ["pen", "many"]) (sel := [.p 0, .p 1]) (φ := φ__law_draw) (dds := []) k__law_draw hc (hr.mono (by decide)) tk (cb0 F__law_draw 2 [] _ fun _ _ _ _ _ _ us ws hl hw => match us, ws, hl, hw with | [_, _], [], _, _ => rfl) (fun _ _ _ => .nil) rfl (da_cons (de_var (pe_var (i := 0) rfl (Or.inl rfl))) (da_cons (de_b1 c_len E.f_len (db_var (pe_var (i := 1) rfl (Or.inl rfl)))) da_nil)))))))
abbrev s__law_sizes : Stmt := top 40
theorem sc__law_sizes : FnScope ["pen", "base"] ["pen"] (defScope s__law_sizes) := ⟨rfl, rfl, rfl, by decide +kernel, rfl, by decide +kernel, by decide +kernel⟩
noncomputable def m__law_sizes : TDS := (sSeq (sSet 1 (aBind (aCons (dVar 0) (aCons (dLst (aCons (dC (.int 2)) (aCons (dC (.int 2)) (aCons (dC (.int 3)) (aCons (dC (.int 10)) (aCons (dC (.int 10)) (aCons (dC (.int 16)) (aCons (dC (.int 36)) (aCons (dBin addD (dC (.int 2)) (aBind (aCons (dVar 0) (aCons (dC (.int 35)) aNil)) fun ds => fits 2 ds (fits 2 (pick [.p 0, .p 1] ds [] []) (dApp φ__law_draw (pick [.p 0, .p 1] ds [] []))))) aNil))))))))) aNil)) fun ds => fits 2 ds (fits 2 (pick [.p 0, .p 1] ds [] []) (dApp φ__law_pick (pick [.p 0, .p 1] ds [] []))))) (sRet (dTup (aCons (dVar 1) (aCons (aBind (aCons (dVar 0) (aCons (dLst (aCons (dC (.int 1)) (aCons (dC (.int 2)) (aCons (dC (.int 3)) (aCons (dC (.int 4)) (aCons (dBin addD (dC (.int 1)) (aBind (aCons (dVar 0) (aCons (dC (.int 8)) aNil)) fun ds => fits 2 ds (fits 2 (pick [.p 0, .p 1] ds [] []) (dApp φ__law_draw (pick [.p 0, .p 1] ds [] []))))) (aCons (dC (.int 24)) (aCons (dC (.int 53)) (aCons (dC (.int 60)) aNil))))))))) aNil)) fun ds => fits 2 ds (fits 2 (pick [.p 0, .p 1] ds [] []) (dApp φ__law_pick (pick [.p 0, .p 1] ds [] [])))) aNil)))))
noncomputable def φ__law_sizes : DF := dFn 1 2 m__law_sizes
theorem ok__law_sizes (E : Fx K mg) (H : DfD K mg "_law_sizes" s__law_sizes []) (H__law_pick : DgD P w K mg base "_law_pick" s__law_pick 2 ["pen", "some"] φ__law_pick []) (H__law_draw : DgD P w K mg base "_law_draw" s__law_draw 1 ["pen", "many"] φ__law_draw []) : DgD P w K mg base "_law_sizes" s__law_sizes 3 ["pen"] φ__law_sizes [] := by
  obtain ⟨f, fd, F, hm⟩ := H
  obtain ⟨f__law_pick, fd__law_pick, F__law_pick, k__law_pick⟩ := H__law_pick
  obtain ⟨f__law_draw, fd__law_draw, F__law_draw, k__law_draw⟩ := H__law_draw
  refine ⟨f, fd, F, def_of (Ns := ["pen", "base"]) (ps := ["pen"]) (t := m__law_sizes) hm F sc__law_sizes (by decide) (by decide) fun cdv A outer s H E' N hc hr tk => ?_⟩
  have sc := sc__law_sizes
  exact (dss_cons (ds_set (ps_set (i := 1) sc.nd rfl (Or.inl rfl) (de_call (n := 2) (ps := ["pen", "some"]) (sel := [.p 0, .p 1]) (φ := φ__law_pick) (dds := []) k__law_pick hc (hr.mono (by decide)) tk (cb0 F__law_pick 2 [] _ fun _ _ _ _ _ _ us ws hl hw => match us, ws, hl, hw with | [_, _], [], _, _ => rfl) (fun _ _ _ => .nil) rfl (da_cons (de_var (pe_var (i := 0) rfl (Or.inl rfl))) (da_cons (de_lst (da_cons (de_int) (da_cons (de_int) (da_cons (de_int) (da_cons (de_int) (da_cons (de_int) (da_cons (de_int) (da_cons (de_int) (da_cons (de_bin od_add (de_b (de_int)) (de_b (de_call (n := 2) (ps := ["pen", "many"]) (sel := [.p 0, .p 1]) (φ := φ__law_draw) (dds := []) k__law_draw hc (hr.mono (by decide)) tk (cb0 F__law_draw 2 [] _ fun _ _ _ _ _ _ us ws hl hw => match us, ws, hl, hw with | [_, _], [], _, _ => rfl) (fun _ _ _ => .nil) rfl (da_cons (de_var (pe_var (i := 0) rfl (Or.inl rfl))) (da_cons (de_int) da_nil))))) da_nil))))))))) da_nil))))) (dss_one (ds_ret (de_tup (da_cons (de_var (pe_var (i := 1) rfl (Or.inl rfl))) (da_cons (de_call (n := 2) (ps := ["pen", "some"]) (sel := [.p 0, .p 1]) (φ := φ__law_pick) (dds := []) k__law_pick hc (hr.mono (by decide)) tk (cb0 F__law_pick 2 [] _ fun _ _ _ _ _ _ us ws hl hw => match us, ws, hl, hw with | [_, _], [], _, _ => rfl) (fun _ _ _ => .nil) rfl (da_cons (de_var (pe_var (i := 0) rfl (Or.inl rfl))) (da_cons (de_lst (da_cons (de_int) (da_cons (de_int) (da_cons (de_int) (da_cons (de_int) (da_cons (de_bin od_add (de_b (de_int)) (de_b (de_call (n := 2) (ps := ["pen", "many"]) (sel := [.p 0, .p 1]) (φ := φ__law_draw) (dds := []) k__law_draw hc (hr.mono (by decide)) tk (cb0 F__law_draw 2 [] _ fun _ _ _ _ _ _ us ws hl hw => match us, ws, hl, hw with | [_, _], [], _, _ => rfl) (fun _ _ _ => .nil) rfl (da_cons (de_var (pe_var (i := 0) rfl (Or.inl rfl))) (da_cons (de_int) da_nil))))) (da_cons (de_int) (da_cons (de_int) (da_cons (de_int) da_nil))))))))) da_nil))) da_nil))))))
abbrev s_is_integer : Stmt := top 7
theorem sc_is_integer : FnScope ["value"] ["value"] (defScope s_is_integer) := ⟨rfl, rfl, rfl, by decide +kernel, rfl, by decide +kernel, by decide +kernel⟩
noncomputable def m_is_integer : TDS := (sRet (dAndV (dBin (isiD TT) (dPeek 0) (dC (.ty "int"))) (dNot (dTru (dBin (isiD TT) (dPeek 0) (dC (.ty "bool")))))))
noncomputable def φ_is_integer : DF := dFn 1 1 m_is_integer
theorem ok_is_integer (E : Fx K mg) (H : DfD K mg "is_integer" s_is_integer []) : DgD P w K mg base "is_integer" s_is_integer 1 ["value"] φ_is_integer [] := by
  obtain ⟨f, fd, F, hm⟩ := H
  refine ⟨f, fd, F, def_of (Ns := ["value"]) (ps := ["value"]) (t := m_is_integer) hm F sc_is_integer (by decide) (by decide) fun cdv A outer s H E' N hc hr tk => ?_⟩
  have sc := sc_is_integer
  exact (dss_one (ds_ret (de_and (de_b2 (c_isi E.own) E.f_isinstance (db_var (pe_var (i := 0) rfl (Or.inl rfl))) (de_b (de_tyn E.f_int))) (de_one (de_not (de_b (de_b2 (c_isi E.own) E.f_isinstance (db_var (pe_var (i := 0) rfl (Or.inl rfl))) (de_b (de_tyn E.f_bool)))))))))
abbrev s_is_within : Stmt := top 8
theorem sc_is_within : FnScope ["value", "least", "most"] ["value", "least", "most"] (defScope s_is_within) := ⟨rfl, rfl, rfl, by decide +kernel, rfl, by decide +kernel, by decide +kernel⟩
noncomputable def m_is_within : TDS := (sSeq (sIf (dNot (dTru (aBind (aCons (dVar 0) aNil) fun ds => fits 1 ds (fits 1 (pick [.p 0] ds [] []) (dApp φ_is_integer (pick [.p 0] ds [] [])))))) (sRet (dC (.bl false))) sNext) (sRet (dAndV (dOrV (dBin (isA false) (dPeek 1) (dC .non)) (dBin geD (dPeek 0) (dPeek 1))) (dOrV (dBin (isA false) (dPeek 2) (dC .non)) (dBin leD (dPeek 0) (dPeek 2))))))
noncomputable def φ_is_within : DF := dFn 3 3 m_is_within
theorem ok_is_within (E : Fx K mg) (H : DfD K mg "is_within" s_is_within []) (H_is_integer : DgD P w K mg base "is_integer" s_is_integer 1 ["value"] φ_is_integer []) : DgD P w K mg base "is_within" s_is_within 2 ["value", "least", "most"] φ_is_within [] := by
  obtain ⟨f, fd, F, hm⟩ := H
  obtain ⟨f_is_integer, fd_is_integer, F_is_integer, k_is_integer⟩ := H_is_integer
  refine ⟨f, fd, F, def_of (Ns := ["value", "least", "most"]) (ps := ["value", "least", "most"]) (t := m_is_within) hm F sc_is_within (by decide) (by decide) fun cdv A outer s H E' N hc hr tk => ?_⟩
  have sc := sc_is_within
  exact (dss_cons (ds_if (dt_not (dt_truth (de_b (de_call (n := 1) (ps := ["value"]) (sel := [.p 0]) (φ := φ_is_integer) (dds := []) k_is_integer hc (hr.mono (by decide)) tk (cb0 F_is_integer 1 [] _ fun _ _ _ _ _ _ us ws hl hw => match us, ws, hl, hw with | [_], [], _, _ => rfl) (fun _ _ _ => .nil) rfl (da_cons (de_var (pe_var (i := 0) rfl (Or.inl rfl))) da_nil))))) (dss_one (ds_ret (de_bl))) dss_nil) (dss_one (ds_ret (de_and (de_or (de_cmp od_is (db_var (pe_var (i := 1) rfl (Or.inl rfl))) (de_b (de_non))) (de_one (de_cmp od_ge (db_var (pe_var (i := 0) rfl (Or.inl rfl))) (db_var (pe_var (i := 1) rfl (Or.inl rfl)))))) (de_one (de_or (de_cmp od_is (db_var (pe_var (i := 2) rfl (Or.inl rfl))) (de_b (de_non))) (de_one (de_cmp od_le (db_var (pe_var (i := 0) rfl (Or.inl rfl))) (db_var (pe_var (i := 2) rfl (Or.inl rfl)))))))))))
abbrev s_Format_init : Stmt := clsAt (top 21) 0
theorem sc_Format_init : FnScope ["self", "base", "digits"] ["self", "base", "digits"] (defScope s_Format_init) := ⟨rfl, rfl, rfl, by decide +kernel, rfl, by decide +kernel, by decide +kernel⟩
noncomputable def m_Format_init : TDS := (sSeq (sIf (dNot (dTru (aBind (aCons (dVar 1) (aCons (dC (.int 2)) (aCons (dC (.int 36)) aNil))) fun ds => fits 3 ds (fits 3 (pick [.p 0, .p 1, .p 2] ds [] []) (dApp φ_is_within (pick [.p 0, .p 1, .p 2] ds [] [])))))) (sNever) sNext) (sSeq (sIf (dNot (dTru (aBind (aCons (dVar 2) (aCons (dC (.int 1)) (aCons (dC (.int 60)) aNil))) fun ds => fits 3 ds (fits 3 (pick [.p 0, .p 1, .p 2] ds [] []) (dApp φ_is_within (pick [.p 0, .p 1, .p 2] ds [] [])))))) (sNever) sNext) (sSeq (sSelf TT 0 "base" (dVar 1)) (sSelf TT 0 "digits" (dVar 2)))))
noncomputable def φ_Format_init : DFI := dFi 3 3 "Format" m_Format_init
theorem ok_Format_init (E : Fx K mg) (H : Dfi K mg "Format" "Format.__init__" s_Format_init) (H_is_within : DgD P w K mg base "is_within" s_is_within 2 ["value", "least", "most"] φ_is_within []) : Di P w K mg base "Format" "Format.__init__" s_Format_init 3 ["self", "base", "digits"] φ_Format_init := by
  obtain ⟨C, f, fd, F, hm, hk⟩ := H
  obtain ⟨f_is_within, fd_is_within, F_is_within, k_is_within⟩ := H_is_within
  refine ⟨C, f, fd, F, def_ofI (Ns := ["self", "base", "digits"]) (ps := ["self", "base", "digits"]) (t := m_Format_init) hm hk F sc_Format_init (by decide) (by decide) (by decide) fun cdv A outer s H E' N hc hr tk => ?_⟩
  have sc := sc_Format_init
  exact (dss_cons (ds_if (dt_not (dt_truth (de_b (de_call (n := 3) (ps := ["value", "least", "most"]) (sel := [.p 0, .p 1, .p 2]) (φ := φ_is_within) (dds := []) k_is_within hc (hr.mono (by decide)) tk (cb0 F_is_within 3 [] _ fun _ _ _ _ _ _ us ws hl hw => match us, ws, hl, hw with | [_, _, _], [], _, _ => rfl) (fun _ _ _ => .nil) rfl (da_cons (de_var (pe_var (i := 1) rfl (Or.inl rfl))) (da_cons (de_int_glob E.c_LEAST_BASE) (da_cons (de_int_glob E.c_MOST_BASE) da_nil))))))) (dss_one (ds_never)) dss_nil) (dss_cons (ds_if (dt_not (dt_truth (de_b (de_call (n := 3) (ps := ["value", "least", "most"]) (sel := [.p 0, .p 1, .p 2]) (φ := φ_is_within) (dds := []) k_is_within hc (hr.mono (by decide)) tk (cb0 F_is_within 3 [] _ fun _ _ _ _ _ _ us ws hl hw => match us, ws, hl, hw with | [_, _, _], [], _, _ => rfl) (fun _ _ _ => .nil) rfl (da_cons (de_var (pe_var (i := 2) rfl (Or.inl rfl))) (da_cons (de_int) (da_cons (de_int_glob E.c_MOST_DIGITS) da_nil))))))) (dss_one (ds_never)) dss_nil) (dss_cons (ds_self E.own (pe_var (i := 0) rfl (Or.inl rfl)) (de_var (pe_var (i := 1) rfl (Or.inl rfl)))) (dss_one (ds_self E.own (pe_var (i := 0) rfl (Or.inl rfl)) (de_var (pe_var (i := 2) rfl (Or.inl rfl))))))))
abbrev s__law_raised : Stmt := top 39
theorem sc__law_raised : FnScope ["base", "count", "found", "turn"] ["base", "count"] (defScope s__law_raised) := ⟨rfl, rfl, rfl, by decide +kernel, rfl, by decide +kernel, by decide +kernel⟩
noncomputable def s0__law_raised : TDA := (iRange1 (dUn absD (dPeek 1)))
noncomputable def b0__law_raised : TDS := (sSet 2 (dBin mulD (dPeek 2) (dPeek 0)))
noncomputable def m__law_raised : TDS := (sSeq (sSet 2 (dC (.int 1))) (sSeq (sFor s0__law_raised (bName 3) b0__law_raised) (sRet (dIfE (dBin geD (dPeek 1) (dC (.int 0))) (dTup (aCons (dVar 2) (aCons (dC (.int 1)) aNil))) (dTup (aCons (dC (.int 1)) (aCons (dVar 2) aNil)))))))
noncomputable def φ__law_raised : DF := dFn 2 4 m__law_raised
theorem ok__law_raised (E : Fx K mg) (H : DfD K mg "_law_raised" s__law_raised []) : DgD P w K mg base "_law_raised" s__law_raised 1 ["base", "count"] φ__law_raised [] := by
  obtain ⟨f, fd, F, hm⟩ := H
  refine ⟨f, fd, F, def_of (Ns := ["base", "count", "found", "turn"]) (ps := ["base", "count"]) (t := m__law_raised) hm F sc__law_raised (by decide) (by decide) fun cdv A outer s H E' N hc hr tk => ?_⟩
  have sc := sc__law_raised
  exact (dss_cons (ds_set (ps_set (i := 2) sc.nd rfl (Or.inl rfl) (de_int))) (dss_cons (ds_for (passes_of rfl) rfl (di_range1 E.f_range (de_b1 c_abs E.f_abs (db_var (pe_var (i := 1) rfl (Or.inl rfl))))) (dg_name (pg_name (i := 3) sc.nd rfl (Or.inl rfl))) (dss_one (ds_set (ps_set (i := 2) sc.nd rfl (Or.inl rfl) (de_bin od_mulI (db_var (pe_var (i := 2) rfl (Or.inl rfl))) (db_var (pe_var (i := 0) rfl (Or.inl rfl)))))))) (dss_one (ds_ret (de_if (dt_cmp od_ge (db_var (pe_var (i := 1) rfl (Or.inl rfl))) (de_b (de_int))) (de_tup (da_cons (de_var (pe_var (i := 2) rfl (Or.inl rfl))) (da_cons (de_int) da_nil))) (de_tup (da_cons (de_int) (da_cons (de_var (pe_var (i := 2) rfl (Or.inl rfl))) da_nil))))))))
abbrev s__law_written : Stmt := top 43
theorem sc__law_written : FnScope ["pen", "base", "digits", "least", "many"] ["pen", "base", "digits"] (defScope s__law_written) := ⟨rfl, rfl, rfl, by decide +kernel, rfl, by decide +kernel, by decide +kernel⟩
noncomputable def m__law_written : TDS := (sSeq (sSet 3 (dBin ixD (aBind (aCons (dVar 1) (aCons (dBin subD (dPeek 2) (dC (.int 1))) aNil)) fun ds => fits 2 ds (fits 2 (pick [.p 0, .p 1] ds [] []) (dApp φ__law_raised (pick [.p 0, .p 1] ds [] [])))) (dC (.int 0)))) (sSeq (sSet 4 (aBind (aCons (dVar 0) (aCons (dLst (aCons (dVar 3) (aCons (dBin subD (dBin mulD (dPeek 3) (dPeek 1)) (dC (.int 1))) (aCons (dBin addD (dPeek 3) (aBind (aCons (dVar 0) (aCons (dBin subD (dBin mulD (dPeek 3) (dPeek 1)) (dPeek 3)) aNil)) fun ds => fits 2 ds (fits 2 (pick [.p 0, .p 1] ds [] []) (dApp φ__law_draw (pick [.p 0, .p 1] ds [] []))))) (aCons (dBin addD (dPeek 3) (aBind (aCons (dVar 0) (aCons (dBin subD (dBin mulD (dPeek 3) (dPeek 1)) (dPeek 3)) aNil)) fun ds => fits 2 ds (fits 2 (pick [.p 0, .p 1] ds [] []) (dApp φ__law_draw (pick [.p 0, .p 1] ds [] []))))) aNil))))) aNil)) fun ds => fits 2 ds (fits 2 (pick [.p 0, .p 1] ds [] []) (dApp φ__law_pick (pick [.p 0, .p 1] ds [] []))))) (sRet (dTup (aCons (dIfE (dBin gtD (aBind (aCons (dVar 0) (aCons (dC (.int 3)) aNil)) fun ds => fits 2 ds (fits 2 (pick [.p 0, .p 1] ds [] []) (dApp φ__law_draw (pick [.p 0, .p 1] ds [] [])))) (dC (.int 0))) (dVar 4) (dBin subD (dC (.int 0)) (dPeek 4))) (aCons (aBind (aCons (dVar 0) (aCons (dLst (aCons (dC (.int 0)) (aCons (dBin subD (dC (.int 0)) (dPeek 2)) (aCons (dBin subD (dC (.int 1)) (dPeek 2)) (aCons (dBin subD (aBind (aCons (dVar 0) (aCons (dC (.int 12)) aNil)) fun ds => fits 2 ds (fits 2 (pick [.p 0, .p 1] ds [] []) (dApp φ__law_draw (pick [.p 0, .p 1] ds [] [])))) (dC (.int 6))) (aCons (dBin subD (aBind (aCons (dVar 0) (aCons (dC (.int 200)) aNil)) fun ds => fits 2 ds (fits 2 (pick [.p 0, .p 1] ds [] []) (dApp φ__law_draw (pick [.p 0, .p 1] ds [] [])))) (dC (.int 100))) aNil)))))) aNil)) fun ds => fits 2 ds (fits 2 (pick [.p 0, .p 1] ds [] []) (dApp φ__law_pick (pick [.p 0, .p 1] ds [] [])))) aNil))))))
noncomputable def φ__law_written : DF := dFn 3 5 m__law_written
theorem ok__law_written (E : Fx K mg) (H : DfD K mg "_law_written" s__law_written []) (H__law_raised : DgD P w K mg base "_law_raised" s__law_raised 1 ["base", "count"] φ__law_raised []) (H__law_pick : DgD P w K mg base "_law_pick" s__law_pick 2 ["pen", "some"] φ__law_pick []) (H__law_draw : DgD P w K mg base "_law_draw" s__law_draw 1 ["pen", "many"] φ__law_draw []) : DgD P w K mg base "_law_written" s__law_written 3 ["pen", "base", "digits"] φ__law_written [] := by
  obtain ⟨f, fd, F, hm⟩ := H
  obtain ⟨f__law_raised, fd__law_raised, F__law_raised, k__law_raised⟩ := H__law_raised
  obtain ⟨f__law_pick, fd__law_pick, F__law_pick, k__law_pick⟩ := H__law_pick
  obtain ⟨f__law_draw, fd__law_draw, F__law_draw, k__law_draw⟩ := H__law_draw
  refine ⟨f, fd, F, def_of (Ns := ["pen", "base", "digits", "least", "many"]) (ps := ["pen", "base", "digits"]) (t := m__law_written) hm F sc__law_written (by decide) (by decide) fun cdv A outer s H E' N hc hr tk => ?_⟩
  have sc := sc__law_written
  exact (dss_cons (ds_set (ps_set (i := 3) sc.nd rfl (Or.inl rfl) (de_ix (de_b (de_call (n := 2) (ps := ["base", "count"]) (sel := [.p 0, .p 1]) (φ := φ__law_raised) (dds := []) k__law_raised hc (hr.mono (by decide)) tk (cb0 F__law_raised 2 [] _ fun _ _ _ _ _ _ us ws hl hw => match us, ws, hl, hw with | [_, _], [], _, _ => rfl) (fun _ _ _ => .nil) rfl (da_cons (de_var (pe_var (i := 1) rfl (Or.inl rfl))) (da_cons (de_bin od_sub (db_var (pe_var (i := 2) rfl (Or.inl rfl))) (de_b (de_int))) da_nil)))) (de_b (de_int))))) (dss_cons (ds_set (ps_set (i := 4) sc.nd rfl (Or.inl rfl) (de_call (n := 2) (ps := ["pen", "some"]) (sel := [.p 0, .p 1]) (φ := φ__law_pick) (dds := []) k__law_pick hc (hr.mono (by decide)) tk (cb0 F__law_pick 2 [] _ fun _ _ _ _ _ _ us ws hl hw => match us, ws, hl, hw with | [_, _], [], _, _ => rfl) (fun _ _ _ => .nil) rfl (da_cons (de_var (pe_var (i := 0) rfl (Or.inl rfl))) (da_cons (de_lst (da_cons (de_var (pe_var (i := 3) rfl (Or.inl rfl))) (da_cons (de_bin od_sub (de_b (de_bin od_mulI (db_var (pe_var (i := 3) rfl (Or.inl rfl))) (db_var (pe_var (i := 1) rfl (Or.inl rfl))))) (de_b (de_int))) (da_cons (de_bin od_add (db_var (pe_var (i := 3) rfl (Or.inl rfl))) (de_b (de_call (n := 2) (ps := ["pen", "many"]) (sel := [.p 0, .p 1]) (φ := φ__law_draw) (dds := []) k__law_draw hc (hr.mono (by decide)) tk (cb0 F__law_draw 2 [] _ fun _ _ _ _ _ _ us ws hl hw => match us, ws, hl, hw with | [_, _], [], _, _ => rfl) (fun _ _ _ => .nil) rfl (da_cons (de_var (pe_var (i := 0) rfl (Or.inl rfl))) (da_cons (de_bin od_sub (de_b (de_bin od_mulI (db_var (pe_var (i := 3) rfl (Or.inl rfl))) (db_var (pe_var (i := 1) rfl (Or.inl rfl))))) (db_var (pe_var (i := 3) rfl (Or.inl rfl)))) da_nil))))) (da_cons (de_bin od_add (db_var (pe_var (i := 3) rfl (Or.inl rfl))) (de_b (de_call (n := 2) (ps := ["pen", "many"]) (sel := [.p 0, .p 1]) (φ := φ__law_draw) (dds := []) k__law_draw hc (hr.mono (by decide)) tk (cb0 F__law_draw 2 [] _ fun _ _ _ _ _ _ us ws hl hw => match us, ws, hl, hw with | [_, _], [], _, _ => rfl) (fun _ _ _ => .nil) rfl (da_cons (de_var (pe_var (i := 0) rfl (Or.inl rfl))) (da_cons (de_bin od_sub (de_b (de_bin od_mulI (db_var (pe_var (i := 3) rfl (Or.inl rfl))) (db_var (pe_var (i := 1) rfl (Or.inl rfl))))) (db_var (pe_var (i := 3) rfl (Or.inl rfl)))) da_nil))))) da_nil))))) da_nil))))) (dss_one (ds_ret (de_tup (da_cons (de_if (dt_cmp od_gt (de_b (de_call (n := 2) (ps := ["pen", "many"]) (sel := [.p 0, .p 1]) (φ := φ__law_draw) (dds := []) k__law_draw hc (hr.mono (by decide)) tk (cb0 F__law_draw 2 [] _ fun _ _ _ _ _ _ us ws hl hw => match us, ws, hl, hw with | [_, _], [], _, _ => rfl) (fun _ _ _ => .nil) rfl (da_cons (de_var (pe_var (i := 0) rfl (Or.inl rfl))) (da_cons (de_int) da_nil)))) (de_b (de_int))) (de_var (pe_var (i := 4) rfl (Or.inl rfl))) (de_bin od_sub (de_b (de_int)) (db_var (pe_var (i := 4) rfl (Or.inl rfl))))) (da_cons (de_call (n := 2) (ps := ["pen", "some"]) (sel := [.p 0, .p 1]) (φ := φ__law_pick) (dds := []) k__law_pick hc (hr.mono (by decide)) tk (cb0 F__law_pick 2 [] _ fun _ _ _ _ _ _ us ws hl hw => match us, ws, hl, hw with | [_, _], [], _, _ => rfl) (fun _ _ _ => .nil) rfl (da_cons (de_var (pe_var (i := 0) rfl (Or.inl rfl))) (da_cons (de_lst (da_cons (de_int) (da_cons (de_bin od_sub (de_b (de_int)) (db_var (pe_var (i := 2) rfl (Or.inl rfl)))) (da_cons (de_bin od_sub (de_b (de_int)) (db_var (pe_var (i := 2) rfl (Or.inl rfl)))) (da_cons (de_bin od_sub (de_b (de_call (n := 2) (ps := ["pen", "many"]) (sel := [.p 0, .p 1]) (φ := φ__law_draw) (dds := []) k__law_draw hc (hr.mono (by decide)) tk (cb0 F__law_draw 2 [] _ fun _ _ _ _ _ _ us ws hl hw => match us, ws, hl, hw with | [_, _], [], _, _ => rfl) (fun _ _ _ => .nil) rfl (da_cons (de_var (pe_var (i := 0) rfl (Or.inl rfl))) (da_cons (de_int) da_nil)))) (de_b (de_int))) (da_cons (de_bin od_sub (de_b (de_call (n := 2) (ps := ["pen", "many"]) (sel := [.p 0, .p 1]) (φ := φ__law_draw) (dds := []) k__law_draw hc (hr.mono (by decide)) tk (cb0 F__law_draw 2 [] _ fun _ _ _ _ _ _ us ws hl hw => match us, ws, hl, hw with | [_, _], [], _, _ => rfl) (fun _ _ _ => .nil) rfl (da_cons (de_var (pe_var (i := 0) rfl (Or.inl rfl))) (da_cons (de_int) da_nil)))) (de_b (de_int))) da_nil)))))) da_nil))) da_nil)))))))
abbrev s__law_low : Stmt := top 37
theorem sc__law_low : FnScope ["top", "bottom", "one", "other"] ["top", "bottom"] (defScope s__law_low) := ⟨rfl, rfl, rfl, by decide +kernel, rfl, by decide +kernel, by decide +kernel⟩
noncomputable def c0__law_low : TDE := (dBin gtD (dPeek 3) (dC (.int 0)))
noncomputable def b0__law_low : TDS := (sPar 2 3 (aCons (dVar 3) (aCons (dBin modD (dUn intA (dPeek 2)) (dPeek 3)) aNil)))
noncomputable def m__law_low : TDS := (sSeq (sPar 2 3 (aCons (dUn absD (dPeek 0)) (aCons (dUn absD (dPeek 1)) aNil))) (sSeq (sWhile c0__law_low b0__law_low) (sSeq (sIf (dBin ltD (dPeek 1) (dC (.int 0))) (sSet 2 (dBin subD (dC (.int 0)) (dPeek 2))) sNext) (sRet (dTup (aCons (dBin divD (dPeek 0) (dPeek 2)) (aCons (dBin divD (dPeek 1) (dPeek 2)) aNil)))))))
noncomputable def φ__law_low : DF := dFn 2 4 m__law_low
theorem ok__law_low (E : Fx K mg) (H : DfD K mg "_law_low" s__law_low []) : DgD P w K mg base "_law_low" s__law_low 1 ["top", "bottom"] φ__law_low [] := by
  obtain ⟨f, fd, F, hm⟩ := H
  refine ⟨f, fd, F, def_of (Ns := ["top", "bottom", "one", "other"]) (ps := ["top", "bottom"]) (t := m__law_low) hm F sc__law_low (by decide) (by decide) fun cdv A outer s H E' N hc hr tk => ?_⟩
  have sc := sc__law_low
  exact (dss_cons (ds_par (ps_par (i := 2) (j := 3) rfl sc.nd rfl rfl (by decide) rfl rfl (da_cons (de_b1 c_abs E.f_abs (db_var (pe_var (i := 0) rfl (Or.inl rfl)))) (da_cons (de_b1 c_abs E.f_abs (db_var (pe_var (i := 1) rfl (Or.inl rfl)))) da_nil)) rfl)) (dss_cons (ds_while (passes_of rfl) (dt_cmp od_gt (db_var (pe_var (i := 3) rfl (Or.inl rfl))) (de_b (de_int))) (dss_one (ds_par (ps_par (i := 2) (j := 3) rfl sc.nd rfl rfl (by decide) rfl rfl (da_cons (de_var (pe_var (i := 3) rfl (Or.inl rfl))) (da_cons (de_bin od_mod (de_b (de_t1 c_int E.f_int (db_var (pe_var (i := 2) rfl (Or.inl rfl))))) (db_var (pe_var (i := 3) rfl (Or.inl rfl)))) da_nil)) rfl)))) (dss_cons (ds_if (dt_cmp od_lt (db_var (pe_var (i := 1) rfl (Or.inl rfl))) (de_b (de_int))) (dss_one (ds_set (ps_set (i := 2) sc.nd rfl (Or.inl rfl) (de_bin od_sub (de_b (de_int)) (db_var (pe_var (i := 2) rfl (Or.inl rfl))))))) dss_nil) (dss_one (ds_ret (de_tup (da_cons (de_bin od_div (db_var (pe_var (i := 0) rfl (Or.inl rfl))) (db_var (pe_var (i := 2) rfl (Or.inl rfl)))) (da_cons (de_bin od_div (db_var (pe_var (i := 1) rfl (Or.inl rfl))) (db_var (pe_var (i := 2) rfl (Or.inl rfl)))) da_nil))))))))
abbrev s__law_worth : Stmt := top 42
theorem sc__law_worth : FnScope ["many", "base", "exponent", "power"] ["many", "base", "exponent"] (defScope s__law_worth) := ⟨rfl, rfl, rfl, by decide +kernel, rfl, by decide +kernel, by decide +kernel⟩
noncomputable def m__law_worth : TDS := (sSeq (sSet 3 (aBind (aCons (dVar 1) (aCons (dVar 2) aNil)) fun ds => fits 2 ds (fits 2 (pick [.p 0, .p 1] ds [] []) (dApp φ__law_raised (pick [.p 0, .p 1] ds [] []))))) (sRet (aBind (aCons (dBin mulD (dPeek 0) (dBin ixD (dPeek 3) (dC (.int 0)))) (aCons (dBin ixD (dPeek 3) (dC (.int 1))) aNil)) fun ds => fits 2 ds (fits 2 (pick [.p 0, .p 1] ds [] []) (dApp φ__law_low (pick [.p 0, .p 1] ds [] []))))))
noncomputable def φ__law_worth : DF := dFn 3 4 m__law_worth
theorem ok__law_worth (E : Fx K mg) (H : DfD K mg "_law_worth" s__law_worth []) (H__law_raised : DgD P w K mg base "_law_raised" s__law_raised 1 ["base", "count"] φ__law_raised []) (H__law_low : DgD P w K mg base "_law_low" s__law_low 1 ["top", "bottom"] φ__law_low []) : DgD P w K mg base "_law_worth" s__law_worth 2 ["many", "base", "exponent"] φ__law_worth [] := by
  obtain ⟨f, fd, F, hm⟩ := H
  obtain ⟨f__law_raised, fd__law_raised, F__law_raised, k__law_raised⟩ := H__law_raised
  obtain ⟨f__law_low, fd__law_low, F__law_low, k__law_low⟩ := H__law_low
  refine ⟨f, fd, F, def_of (Ns := ["many", "base", "exponent", "power"]) (ps := ["many", "base", "exponent"]) (t := m__law_worth) hm F sc__law_worth (by decide) (by decide) fun cdv A outer s H E' N hc hr tk => ?_⟩
  have sc := sc__law_worth
  exact (dss_cons (ds_set (ps_set (i := 3) sc.nd rfl (Or.inl rfl) (de_call (n := 2) (ps := ["base", "count"]) (sel := [.p 0, .p 1]) (φ := φ__law_raised) (dds := []) k__law_raised hc (hr.mono (by decide)) tk (cb0 F__law_raised 2 [] _ fun _ _ _ _ _ _ us ws hl hw => match us, ws, hl, hw with | [_, _], [], _, _ => rfl) (fun _ _ _ => .nil) rfl (da_cons (de_var (pe_var (i := 1) rfl (Or.inl rfl))) (da_cons (de_var (pe_var (i := 2) rfl (Or.inl rfl))) da_nil))))) (dss_one (ds_ret (de_call (n := 2) (ps := ["top", "bottom"]) (sel := [.p 0, .p 1]) (φ := φ__law_low) (dds := []) k__law_low hc (hr.mono (by decide)) tk (cb0 F__law_low 2 [] _ fun _ _ _ _ _ _ us ws hl hw => match us, ws, hl, hw with | [_, _], [], _, _ => rfl) (fun _ _ _ => .nil) rfl (da_cons (de_bin od_mulI (db_var (pe_var (i := 0) rfl (Or.inl rfl))) (de_b (de_ix (db_var (pe_var (i := 3) rfl (Or.inl rfl))) (de_b (de_int))))) (da_cons (de_ix (db_var (pe_var (i := 3) rfl (Or.inl rfl))) (de_b (de_int))) da_nil))))))
abbrev s__law_near_some : Stmt := top 44
theorem sc__law_near_some : FnScope ["pen", "base", "digits", "many", "exponent", "way", "parts", "share", "power"] ["pen", "base", "digits"] (defScope s__law_near_some) := ⟨rfl, rfl, rfl, by decide +kernel, rfl, by decide +kernel, by decide +kernel⟩
noncomputable def m__law_near_some : TDS := (sSeq (sAsg (aBind (aCons (dVar 0) (aCons (dVar 1) (aCons (dVar 2) aNil))) fun ds => fits 3 ds (fits 3 (pick [.p 0, .p 1, .p 2] ds [] []) (dApp φ__law_written (pick [.p 0, .p 1, .p 2] ds [] [])))) (bTup 2 (bCons (bName 3) (bCons (bName 4) bNil)))) (sSeq (sSet 5 (aBind (aCons (dVar 0) (aCons (dC (.int 5)) aNil)) fun ds => fits 2 ds (fits 2 (pick [.p 0, .p 1] ds [] []) (dApp φ__law_draw (pick [.p 0, .p 1] ds [] []))))) (sSeq (sIf (dBin (eqA false) (dPeek 5) (dC (.int 0))) (sRet (aBind (aCons (dVar 3) (aCons (dVar 1) (aCons (dVar 4) aNil))) fun ds => fits 3 ds (fits 3 (pick [.p 0, .p 1, .p 2] ds [] []) (dApp φ__law_worth (pick [.p 0, .p 1, .p 2] ds [] []))))) sNext) (sSeq (sIf (dBin (eqA false) (dPeek 5) (dC (.int 1))) (sRet (aBind (aCons (dBin subD (aBind (aCons (dVar 0) (aCons (dC (.int 4001)) aNil)) fun ds => fits 2 ds (fits 2 (pick [.p 0, .p 1] ds [] []) (dApp φ__law_draw (pick [.p 0, .p 1] ds [] [])))) (dC (.int 2000))) (aCons (dBin addD (dC (.int 1)) (aBind (aCons (dVar 0) (aCons (dC (.int 600)) aNil)) fun ds => fits 2 ds (fits 2 (pick [.p 0, .p 1] ds [] []) (dApp φ__law_draw (pick [.p 0, .p 1] ds [] []))))) aNil)) fun ds => fits 2 ds (fits 2 (pick [.p 0, .p 1] ds [] []) (dApp φ__law_low (pick [.p 0, .p 1] ds [] []))))) sNext) (sSeq (sSet 6 (dIfE (dBin (eqA false) (dPeek 5) (dC (.int 2))) (dC (.int 2)) (aBind (aCons (dVar 0) (aCons (dLst (aCons (dC (.int 2)) (aCons (dC (.int 3)) (aCons (dC (.int 4)) (aCons (dBin powD (dC (.int 10)) (dC (.int 20))) aNil))))) aNil)) fun ds => fits 2 ds (fits 2 (pick [.p 0, .p 1] ds [] []) (dApp φ__law_pick (pick [.p 0, .p 1] ds [] [])))))) (sSeq (sSet 7 (dIfE (dBin (eqA false) (dPeek 5) (dC (.int 2))) (dC (.int 1)) (aBind (aCons (dVar 0) (aCons (dLst (aCons (dC (.int 1)) (aCons (dBin subD (dPeek 6) (dC (.int 1))) (aCons (dBin addD (dC (.int 1)) (aBind (aCons (dVar 0) (aCons (dBin subD (dPeek 6) (dC (.int 1))) aNil)) fun ds => fits 2 ds (fits 2 (pick [.p 0, .p 1] ds [] []) (dApp φ__law_draw (pick [.p 0, .p 1] ds [] []))))) aNil)))) aNil)) fun ds => fits 2 ds (fits 2 (pick [.p 0, .p 1] ds [] []) (dApp φ__law_pick (pick [.p 0, .p 1] ds [] [])))))) (sSeq (sSet 8 (aBind (aCons (dVar 1) (aCons (dVar 4) aNil)) fun ds => fits 2 ds (fits 2 (pick [.p 0, .p 1] ds [] []) (dApp φ__law_raised (pick [.p 0, .p 1] ds [] []))))) (sRet (aBind (aCons (dBin mulD (dBin addD (dBin mulD (dPeek 3) (dPeek 6)) (dIfE (dBin gtD (dPeek 3) (dC (.int 0))) (dVar 7) (dBin subD (dC (.int 0)) (dPeek 7)))) (dBin ixD (dPeek 8) (dC (.int 0)))) (aCons (dBin mulD (dBin ixD (dPeek 8) (dC (.int 1))) (dPeek 6)) aNil)) fun ds => fits 2 ds (fits 2 (pick [.p 0, .p 1] ds [] []) (dApp φ__law_low (pick [.p 0, .p 1] ds [] []))))))))))))
noncomputable def φ__law_near_some : DF := dFn 3 9 m__law_near_some
theorem ok__law_near_some (E : Fx K mg) (H : DfD K mg "_law_near_some" s__law_near_some []) (H__law_written : DgD P w K mg base "_law_written" s__law_written 3 ["pen", "base", "digits"] φ__law_written []) (H__law_draw : DgD P w K mg base "_law_draw" s__law_draw 1 ["pen", "many"] φ__law_draw []) (H__law_worth : DgD P w K mg base "_law_worth" s__law_worth 2 ["many", "base", "exponent"] φ__law_worth []) (H__law_low : DgD P w K mg base "_law_low" s__law_low 1 ["top", "bottom"] φ__law_low []) (H__law_pick : DgD P w K mg base "_law_pick" s__law_pick 2 ["pen", "some"] φ__law_pick []) (H__law_raised : DgD P w K mg base "_law_raised" s__law_raised 1 ["base", "count"] φ__law_raised []) : DgD P w K mg base "_law_near_some" s__law_near_some 4 ["pen", "base", "digits"] φ__law_near_some [] := by
  obtain ⟨f, fd, F, hm⟩ := H
  obtain ⟨f__law_written, fd__law_written, F__law_written, k__law_written⟩ := H__law_written
  obtain ⟨f__law_draw, fd__law_draw, F__law_draw, k__law_draw⟩ := H__law_draw
  obtain ⟨f__law_worth, fd__law_worth, F__law_worth, k__law_worth⟩ := H__law_worth
  obtain ⟨f__law_low, fd__law_low, F__law_low, k__law_low⟩ := H__law_low
  obtain ⟨f__law_pick, fd__law_pick, F__law_pick, k__law_pick⟩ := H__law_pick
  obtain ⟨f__law_raised, fd__law_raised, F__law_raised, k__law_raised⟩ := H__law_raised
  refine ⟨f, fd, F, def_of (Ns := ["pen", "base", "digits", "many", "exponent", "way", "parts", "share", "power"]) (ps := ["pen", "base", "digits"]) (t := m__law_near_some) hm F sc__law_near_some (by decide) (by decide) fun cdv A outer s H E' N hc hr tk => ?_⟩
  have sc := sc__law_near_some
  exact (dss_cons (ds_asg (de_call (n := 3) (ps := ["pen", "base", "digits"]) (sel := [.p 0, .p 1, .p 2]) (φ := φ__law_written) (dds := []) k__law_written hc (hr.mono (by decide)) tk (cb0 F__law_written 3 [] _ fun _ _ _ _ _ _ us ws hl hw => match us, ws, hl, hw with | [_, _, _], [], _, _ => rfl) (fun _ _ _ => .nil) rfl (da_cons (de_var (pe_var (i := 0) rfl (Or.inl rfl))) (da_cons (de_var (pe_var (i := 1) rfl (Or.inl rfl))) (da_cons (de_var (pe_var (i := 2) rfl (Or.inl rfl))) da_nil)))) (dg_tup rfl (dgs_cons (dg_name (pg_name (i := 3) sc.nd rfl (Or.inl rfl))) (dgs_cons (dg_name (pg_name (i := 4) sc.nd rfl (Or.inl rfl))) dgs_nil)))) (dss_cons (ds_set (ps_set (i := 5) sc.nd rfl (Or.inl rfl) (de_call (n := 2) (ps := ["pen", "many"]) (sel := [.p 0, .p 1]) (φ := φ__law_draw) (dds := []) k__law_draw hc (hr.mono (by decide)) tk (cb0 F__law_draw 2 [] _ fun _ _ _ _ _ _ us ws hl hw => match us, ws, hl, hw with | [_, _], [], _, _ => rfl) (fun _ _ _ => .nil) rfl (da_cons (de_var (pe_var (i := 0) rfl (Or.inl rfl))) (da_cons (de_int) da_nil))))) (dss_cons (ds_if (dt_cmp (od_eqA hr.units) (db_var (pe_var (i := 5) rfl (Or.inl rfl))) (de_b (de_int))) (dss_one (ds_ret (de_call (n := 3) (ps := ["many", "base", "exponent"]) (sel := [.p 0, .p 1, .p 2]) (φ := φ__law_worth) (dds := []) k__law_worth hc (hr.mono (by decide)) tk (cb0 F__law_worth 3 [] _ fun _ _ _ _ _ _ us ws hl hw => match us, ws, hl, hw with | [_, _, _], [], _, _ => rfl) (fun _ _ _ => .nil) rfl (da_cons (de_var (pe_var (i := 3) rfl (Or.inl rfl))) (da_cons (de_var (pe_var (i := 1) rfl (Or.inl rfl))) (da_cons (de_var (pe_var (i := 4) rfl (Or.inl rfl))) da_nil)))))) dss_nil) (dss_cons (ds_if (dt_cmp (od_eqA hr.units) (db_var (pe_var (i := 5) rfl (Or.inl rfl))) (de_b (de_int))) (dss_one (ds_ret (de_call (n := 2) (ps := ["top", "bottom"]) (sel := [.p 0, .p 1]) (φ := φ__law_low) (dds := []) k__law_low hc (hr.mono (by decide)) tk (cb0 F__law_low 2 [] _ fun _ _ _ _ _ _ us ws hl hw => match us, ws, hl, hw with | [_, _], [], _, _ => rfl) (fun _ _ _ => .nil) rfl (da_cons (de_bin od_sub (de_b (de_call (n := 2) (ps := ["pen", "many"]) (sel := [.p 0, .p 1]) (φ := φ__law_draw) (dds := []) k__law_draw hc (hr.mono (by decide)) tk (cb0 F__law_draw 2 [] _ fun _ _ _ _ _ _ us ws hl hw => match us, ws, hl, hw with | [_, _], [], _, _ => rfl) (fun _ _ _ => .nil) rfl (da_cons (de_var (pe_var (i := 0) rfl (Or.inl rfl))) (da_cons (de_int) da_nil)))) (de_b (de_int))) (da_cons (de_bin od_add (de_b (de_int)) (de_b (de_call (n := 2) (ps := ["pen", "many"]) (sel := [.p 0, .p 1]) (φ := φ__law_draw) (dds := []) k__law_draw hc (hr.mono (by decide)) tk (cb0 F__law_draw 2 [] _ fun _ _ _ _ _ _ us ws hl hw => match us, ws, hl, hw with | [_, _], [], _, _ => rfl) (fun _ _ _ => .nil) rfl (da_cons (de_var (pe_var (i := 0) rfl (Or.inl rfl))) (da_cons (de_int) da_nil))))) da_nil))))) dss_nil) (dss_cons (ds_set (ps_set (i := 6) sc.nd rfl (Or.inl rfl) (de_if (dt_cmp (od_eqA hr.units) (db_var (pe_var (i := 5) rfl (Or.inl rfl))) (de_b (de_int))) (de_int) (de_call (n := 2) (ps := ["pen", "some"]) (sel := [.p 0, .p 1]) (φ := φ__law_pick) (dds := []) k__law_pick hc (hr.mono (by decide)) tk (cb0 F__law_pick 2 [] _ fun _ _ _ _ _ _ us ws hl hw => match us, ws, hl, hw with | [_, _], [], _, _ => rfl) (fun _ _ _ => .nil) rfl (da_cons (de_var (pe_var (i := 0) rfl (Or.inl rfl))) (da_cons (de_lst (da_cons (de_int) (da_cons (de_int) (da_cons (de_int) (da_cons (de_bin od_pow (de_b (de_int)) (de_b (de_int))) da_nil))))) da_nil)))))) (dss_cons (ds_set (ps_set (i := 7) sc.nd rfl (Or.inl rfl) (de_if (dt_cmp (od_eqA hr.units) (db_var (pe_var (i := 5) rfl (Or.inl rfl))) (de_b (de_int))) (de_int) (de_call (n := 2) (ps := ["pen", "some"]) (sel := [.p 0, .p 1]) (φ := φ__law_pick) (dds := []) k__law_pick hc (hr.mono (by decide)) tk (cb0 F__law_pick 2 [] _ fun _ _ _ _ _ _ us ws hl hw => match us, ws, hl, hw with | [_, _], [], _, _ => rfl) (fun _ _ _ => .nil) rfl (da_cons (de_var (pe_var (i := 0) rfl (Or.inl rfl))) (da_cons (de_lst (da_cons (de_int) (da_cons (de_bin od_sub (db_var (pe_var (i := 6) rfl (Or.inl rfl))) (de_b (de_int))) (da_cons (de_bin od_add (de_b (de_int)) (de_b (de_call (n := 2) (ps := ["pen", "many"]) (sel := [.p 0, .p 1]) (φ := φ__law_draw) (dds := []) k__law_draw hc (hr.mono (by decide)) tk (cb0 F__law_draw 2 [] _ fun _ _ _ _ _ _ us ws hl hw => match us, ws, hl, hw with | [_, _], [], _, _ => rfl) (fun _ _ _ => .nil) rfl (da_cons (de_var (pe_var (i := 0) rfl (Or.inl rfl))) (da_cons (de_bin od_sub (db_var (pe_var (i := 6) rfl (Or.inl rfl))) (de_b (de_int))) da_nil))))) da_nil)))) da_nil)))))) (dss_cons (ds_set (ps_set (i := 8) sc.nd rfl (Or.inl rfl) (de_call (n := 2) (ps := ["base", "count"]) (sel := [.p 0, .p 1]) (φ := φ__law_raised) (dds := []) k__law_raised hc (hr.mono (by decide)) tk (cb0 F__law_raised 2 [] _ fun _ _ _ _ _ _ us ws hl hw => match us, ws, hl, hw with | [_, _], [], _, _ => rfl) (fun _ _ _ => .nil) rfl (da_cons (de_var (pe_var (i := 1) rfl (Or.inl rfl))) (da_cons (de_var (pe_var (i := 4) rfl (Or.inl rfl))) da_nil))))) (dss_one (ds_ret (de_call (n := 2) (ps := ["top", "bottom"]) (sel := [.p 0, .p 1]) (φ := φ__law_low) (dds := []) k__law_low hc (hr.mono (by decide)) tk (cb0 F__law_low 2 [] _ fun _ _ _ _ _ _ us ws hl hw => match us, ws, hl, hw with | [_, _], [], _, _ => rfl) (fun _ _ _ => .nil) rfl (da_cons (de_bin od_mulI (de_b (de_bin od_add (de_b (de_bin od_mulI (db_var (pe_var (i := 3) rfl (Or.inl rfl))) (db_var (pe_var (i := 6) rfl (Or.inl rfl))))) (de_b (de_if (dt_cmp od_gt (db_var (pe_var (i := 3) rfl (Or.inl rfl))) (de_b (de_int))) (de_var (pe_var (i := 7) rfl (Or.inl rfl))) (de_bin od_sub (de_b (de_int)) (db_var (pe_var (i := 7) rfl (Or.inl rfl)))))))) (de_b (de_ix (db_var (pe_var (i := 8) rfl (Or.inl rfl))) (de_b (de_int))))) (da_cons (de_bin od_mulI (de_b (de_ix (db_var (pe_var (i := 8) rfl (Or.inl rfl))) (de_b (de_int)))) (db_var (pe_var (i := 6) rfl (Or.inl rfl)))) da_nil))))))))))))
abbrev s__law_sides : Stmt := top 41
theorem sc__law_sides : FnScope ["base", "digits", "pair", "top", "bottom", "exponent", "most"] ["base", "digits", "pair"] (defScope s__law_sides) := ⟨rfl, rfl, rfl, by decide +kernel, rfl, by decide +kernel, by decide +kernel⟩
noncomputable def c0__law_sides : TDE := (dBin geD (dPeek 3) (dBin mulD (dPeek 6) (dPeek 4)))
noncomputable def b0__law_sides : TDS := (sPar 4 5 (aCons (dBin mulD (dPeek 4) (dPeek 0)) (aCons (dBin addD (dPeek 5) (dC (.int 1))) aNil)))
noncomputable def c1__law_sides : TDE := (dBin ltD (dBin mulD (dPeek 3) (dPeek 0)) (dBin mulD (dPeek 6) (dPeek 4)))
noncomputable def b1__law_sides : TDS := (sPar 3 5 (aCons (dBin mulD (dPeek 3) (dPeek 0)) (aCons (dBin subD (dPeek 5) (dC (.int 1))) aNil)))
noncomputable def m__law_sides : TDS := (sSeq (sPar3 3 4 5 (aCons (dUn absD (dBin ixD (dPeek 2) (dC (.int 0)))) (aCons (dBin ixD (dPeek 2) (dC (.int 1))) (aCons (dC (.int 0)) aNil)))) (sSeq (sSet 6 (dBin ixD (aBind (aCons (dVar 0) (aCons (dVar 1) aNil)) fun ds => fits 2 ds (fits 2 (pick [.p 0, .p 1] ds [] []) (dApp φ__law_raised (pick [.p 0, .p 1] ds [] [])))) (dC (.int 0)))) (sSeq (sWhile c0__law_sides b0__law_sides) (sSeq (sWhile c1__law_sides b1__law_sides) (sRet (dTup (aCons (dVar 5) (aCons (dBin divD (dPeek 3) (dPeek 4)) (aCons (dBin (eqA false) (dBin modD (dUn intA (dPeek 3)) (dPeek 4)) (dC (.int 0))) aNil)))))))))
noncomputable def φ__law_sides : DF := dFn 3 7 m__law_sides
theorem ok__law_sides (E : Fx K mg) (H : DfD K mg "_law_sides" s__law_sides []) (H__law_raised : DgD P w K mg base "_law_raised" s__law_raised 1 ["base", "count"] φ__law_raised []) : DgD P w K mg base "_law_sides" s__law_sides 2 ["base", "digits", "pair"] φ__law_sides [] := by
  obtain ⟨f, fd, F, hm⟩ := H
  obtain ⟨f__law_raised, fd__law_raised, F__law_raised, k__law_raised⟩ := H__law_raised
  refine ⟨f, fd, F, def_of (Ns := ["base", "digits", "pair", "top", "bottom", "exponent", "most"]) (ps := ["base", "digits", "pair"]) (t := m__law_sides) hm F sc__law_sides (by decide) (by decide) fun cdv A outer s H E' N hc hr tk => ?_⟩
  have sc := sc__law_sides
  exact (dss_cons (ds_par3 (ps_par3 (i := 3) (j := 4) (l := 5) rfl sc.nd rfl rfl rfl (by decide) (by decide) (by decide) rfl rfl rfl (da_cons (de_b1 c_abs E.f_abs (de_b (de_ix (db_var (pe_var (i := 2) rfl (Or.inl rfl))) (de_b (de_int))))) (da_cons (de_ix (db_var (pe_var (i := 2) rfl (Or.inl rfl))) (de_b (de_int))) (da_cons (de_int) da_nil))) rfl)) (dss_cons (ds_set (ps_set (i := 6) sc.nd rfl (Or.inl rfl) (de_ix (de_b (de_call (n := 2) (ps := ["base", "count"]) (sel := [.p 0, .p 1]) (φ := φ__law_raised) (dds := []) k__law_raised hc (hr.mono (by decide)) tk (cb0 F__law_raised 2 [] _ fun _ _ _ _ _ _ us ws hl hw => match us, ws, hl, hw with | [_, _], [], _, _ => rfl) (fun _ _ _ => .nil) rfl (da_cons (de_var (pe_var (i := 0) rfl (Or.inl rfl))) (da_cons (de_var (pe_var (i := 1) rfl (Or.inl rfl))) da_nil)))) (de_b (de_int))))) (dss_cons (ds_while (passes_of rfl) (dt_cmp od_ge (db_var (pe_var (i := 3) rfl (Or.inl rfl))) (de_b (de_bin od_mulI (db_var (pe_var (i := 6) rfl (Or.inl rfl))) (db_var (pe_var (i := 4) rfl (Or.inl rfl)))))) (dss_one (ds_par (ps_par (i := 4) (j := 5) rfl sc.nd rfl rfl (by decide) rfl rfl (da_cons (de_bin od_mulI (db_var (pe_var (i := 4) rfl (Or.inl rfl))) (db_var (pe_var (i := 0) rfl (Or.inl rfl)))) (da_cons (de_bin od_add (db_var (pe_var (i := 5) rfl (Or.inl rfl))) (de_b (de_int))) da_nil)) rfl)))) (dss_cons (ds_while (passes_of rfl) (dt_cmp od_lt (de_b (de_bin od_mulI (db_var (pe_var (i := 3) rfl (Or.inl rfl))) (db_var (pe_var (i := 0) rfl (Or.inl rfl))))) (de_b (de_bin od_mulI (db_var (pe_var (i := 6) rfl (Or.inl rfl))) (db_var (pe_var (i := 4) rfl (Or.inl rfl)))))) (dss_one (ds_par (ps_par (i := 3) (j := 5) rfl sc.nd rfl rfl (by decide) rfl rfl (da_cons (de_bin od_mulI (db_var (pe_var (i := 3) rfl (Or.inl rfl))) (db_var (pe_var (i := 0) rfl (Or.inl rfl)))) (da_cons (de_bin od_sub (db_var (pe_var (i := 5) rfl (Or.inl rfl))) (de_b (de_int))) da_nil)) rfl)))) (dss_one (ds_ret (de_tup (da_cons (de_var (pe_var (i := 5) rfl (Or.inl rfl))) (da_cons (de_bin od_div (db_var (pe_var (i := 3) rfl (Or.inl rfl))) (db_var (pe_var (i := 4) rfl (Or.inl rfl)))) (da_cons (de_cmp (od_eqA hr.units) (de_b (de_bin od_mod (de_b (de_t1 c_int E.f_int (db_var (pe_var (i := 3) rfl (Or.inl rfl))))) (db_var (pe_var (i := 4) rfl (Or.inl rfl))))) (de_b (de_int))) da_nil))))))))))
abbrev s_need_format : Stmt := top 29
theorem sc_need_format : FnScope ["value"] ["value"] (defScope s_need_format) := ⟨rfl, rfl, rfl, by decide +kernel, rfl, by decide +kernel, by decide +kernel⟩
noncomputable def m_need_format : TDS := (sIf (dNot (dTru (dBin (isiD TT) (dPeek 0) (dC (.gl "Format"))))) (sNever) sNext)
noncomputable def φ_need_format : DF := dFn 1 1 m_need_format
theorem ok_need_format (E : Fx K mg) (H : DfD K mg "need_format" s_need_format []) : DgD P w K mg base "need_format" s_need_format 1 ["value"] φ_need_format [] := by
  obtain ⟨f, fd, F, hm⟩ := H
  refine ⟨f, fd, F, def_of (Ns := ["value"]) (ps := ["value"]) (t := m_need_format) hm F sc_need_format (by decide) (by decide) fun cdv A outer s H E' N hc hr tk => ?_⟩
  have sc := sc_need_format
  exact (dss_one (ds_if (dt_not (dt_truth (de_b (de_b2 (c_isi E.own) E.f_isinstance (db_var (pe_var (i := 0) rfl (Or.inl rfl))) (de_b (de_gl_own E.own)))))) (dss_one (ds_never)) dss_nil))
abbrev s_int_power : Stmt := top 12
theorem sc_int_power : FnScope ["base", "count", "found", "square", "left"] ["base", "count"] (defScope s_int_power) := ⟨rfl, rfl, rfl, by decide +kernel, rfl, by decide +kernel, by decide +kernel⟩
noncomputable def c0_int_power : TDE := (dBin gtD (dPeek 4) (dC (.int 0)))
noncomputable def b0_int_power : TDS := (sSeq (sIf (dBin (eqA false) (dBin modD (dPeek 4) (dC (.int 2))) (dC (.int 1))) (sSet 2 (dBin mulD (dPeek 2) (dPeek 3))) sNext) (sSeq (sSet 3 (dIfE (dBin gtD (dPeek 4) (dC (.int 1))) (dBin mulD (dPeek 3) (dPeek 3)) (dVar 3))) (sSet 4 (dBin divD (dPeek 4) (dC (.int 2))))))
noncomputable def m_int_power : TDS := (sSeq (sPar3 2 3 4 (aCons (dC (.int 1)) (aCons (dVar 0) (aCons (dVar 1) aNil)))) (sSeq (sWhile c0_int_power b0_int_power) (sRet (dVar 2))))
noncomputable def φ_int_power : DF := dFn 2 5 m_int_power
theorem ok_int_power (E : Fx K mg) (H : DfD K mg "int_power" s_int_power []) : DgD P w K mg base "int_power" s_int_power 1 ["base", "count"] φ_int_power [] := by
  obtain ⟨f, fd, F, hm⟩ := H
  refine ⟨f, fd, F, def_of (Ns := ["base", "count", "found", "square", "left"]) (ps := ["base", "count"]) (t := m_int_power) hm F sc_int_power (by decide) (by decide) fun cdv A outer s H E' N hc hr tk => ?_⟩
  have sc := sc_int_power
  exact (dss_cons (ds_par3 (ps_par3 (i := 2) (j := 3) (l := 4) rfl sc.nd rfl rfl rfl (by decide) (by decide) (by decide) rfl rfl rfl (da_cons (de_int) (da_cons (de_var (pe_var (i := 0) rfl (Or.inl rfl))) (da_cons (de_var (pe_var (i := 1) rfl (Or.inl rfl))) da_nil))) rfl)) (dss_cons (ds_while (passes_of rfl) (dt_cmp od_gt (db_var (pe_var (i := 4) rfl (Or.inl rfl))) (de_b (de_int))) (dss_cons (ds_if (dt_cmp (od_eqA hr.units) (de_b (de_bin od_mod (db_var (pe_var (i := 4) rfl (Or.inl rfl))) (de_b (de_int)))) (de_b (de_int))) (dss_one (ds_set (ps_set (i := 2) sc.nd rfl (Or.inl rfl) (de_bin od_mulI (db_var (pe_var (i := 2) rfl (Or.inl rfl))) (db_var (pe_var (i := 3) rfl (Or.inl rfl))))))) dss_nil) (dss_cons (ds_set (ps_set (i := 3) sc.nd rfl (Or.inl rfl) (de_if (dt_cmp od_gt (db_var (pe_var (i := 4) rfl (Or.inl rfl))) (de_b (de_int))) (de_bin od_mulI (db_var (pe_var (i := 3) rfl (Or.inl rfl))) (db_var (pe_var (i := 3) rfl (Or.inl rfl)))) (de_var (pe_var (i := 3) rfl (Or.inl rfl)))))) (dss_one (ds_set (ps_set (i := 4) sc.nd rfl (Or.inl rfl) (de_bin od_div (db_var (pe_var (i := 4) rfl (Or.inl rfl))) (de_b (de_int))))))))) (dss_one (ds_ret (de_var (pe_var (i := 2) rfl (Or.inl rfl)))))))
abbrev s_fits_under : Stmt := top 23
theorem sc_fits_under : FnScope ["top", "bottom", "base", "exponent"] ["top", "bottom", "base", "exponent"] (defScope s_fits_under) := ⟨rfl, rfl, rfl, by decide +kernel, rfl, by decide +kernel, by decide +kernel⟩
noncomputable def m_fits_under : TDS := (sSeq (sIf (dBin geD (dPeek 3) (dC (.int 0))) (sRet (dBin ltD (dPeek 0) (dBin mulD (dPeek 1) (aBind (aCons (dVar 2) (aCons (dVar 3) aNil)) fun ds => fits 2 ds (fits 2 (pick [.p 0, .p 1] ds [] []) (dApp φ_int_power (pick [.p 0, .p 1] ds [] []))))))) sNext) (sRet (dBin ltD (dBin mulD (dPeek 0) (aBind (aCons (dVar 2) (aCons (dUn negD (dPeek 3)) aNil)) fun ds => fits 2 ds (fits 2 (pick [.p 0, .p 1] ds [] []) (dApp φ_int_power (pick [.p 0, .p 1] ds [] []))))) (dPeek 1))))
noncomputable def φ_fits_under : DF := dFn 4 4 m_fits_under
theorem ok_fits_under (E : Fx K mg) (H : DfD K mg "fits_under" s_fits_under []) (H_int_power : DgD P w K mg base "int_power" s_int_power 1 ["base", "count"] φ_int_power []) : DgD P w K mg base "fits_under" s_fits_under 2 ["top", "bottom", "base", "exponent"] φ_fits_under [] := by
  obtain ⟨f, fd, F, hm⟩ := H
  obtain ⟨f_int_power, fd_int_power, F_int_power, k_int_power⟩ := H_int_power
  refine ⟨f, fd, F, def_of (Ns := ["top", "bottom", "base", "exponent"]) (ps := ["top", "bottom", "base", "exponent"]) (t := m_fits_under) hm F sc_fits_under (by decide) (by decide) fun cdv A outer s H E' N hc hr tk => ?_⟩
  have sc := sc_fits_under
  exact (dss_cons (ds_if (dt_cmp od_ge (db_var (pe_var (i := 3) rfl (Or.inl rfl))) (de_b (de_int))) (dss_one (ds_ret (de_cmp od_lt (db_var (pe_var (i := 0) rfl (Or.inl rfl))) (de_b (de_bin od_mulI (db_var (pe_var (i := 1) rfl (Or.inl rfl))) (de_b (de_call (n := 2) (ps := ["base", "count"]) (sel := [.p 0, .p 1]) (φ := φ_int_power) (dds := []) k_int_power hc (hr.mono (by decide)) tk (cb0 F_int_power 2 [] _ fun _ _ _ _ _ _ us ws hl hw => match us, ws, hl, hw with | [_, _], [], _, _ => rfl) (fun _ _ _ => .nil) rfl (da_cons (de_var (pe_var (i := 2) rfl (Or.inl rfl))) (da_cons (de_var (pe_var (i := 3) rfl (Or.inl rfl))) da_nil))))))))) dss_nil) (dss_one (ds_ret (de_cmp od_lt (de_b (de_bin od_mulI (db_var (pe_var (i := 0) rfl (Or.inl rfl))) (de_b (de_call (n := 2) (ps := ["base", "count"]) (sel := [.p 0, .p 1]) (φ := φ_int_power) (dds := []) k_int_power hc (hr.mono (by decide)) tk (cb0 F_int_power 2 [] _ fun _ _ _ _ _ _ us ws hl hw => match us, ws, hl, hw with | [_, _], [], _, _ => rfl) (fun _ _ _ => .nil) rfl (da_cons (de_var (pe_var (i := 2) rfl (Or.inl rfl))) (da_cons (de_neg (db_var (pe_var (i := 3) rfl (Or.inl rfl)))) da_nil)))))) (db_var (pe_var (i := 1) rfl (Or.inl rfl)))))))
abbrev s_exponent_of : Stmt := top 24
theorem sc_exponent_of : FnScope ["base", "digits", "pair", "top", "bottom", "many", "guess"] ["base", "digits", "pair"] (defScope s_exponent_of) := ⟨rfl, rfl, rfl, by decide +kernel, rfl, by decide +kernel, by decide +kernel⟩
noncomputable def c0_exponent_of : TDE := (dNot (dTru (aBind (aCons (dVar 3) (aCons (dVar 4) (aCons (dVar 0) (aCons (dVar 6) aNil)))) fun ds => fits 4 ds (fits 4 (pick [.p 0, .p 1, .p 2, .p 3] ds [] []) (dApp φ_fits_under (pick [.p 0, .p 1, .p 2, .p 3] ds [] []))))))
noncomputable def b0_exponent_of : TDS := (sSet 6 (dBin addD (dPeek 6) (dC (.int 1))))
noncomputable def c1_exponent_of : TDE := (dTru (aBind (aCons (dVar 3) (aCons (dVar 4) (aCons (dVar 0) (aCons (dBin subD (dPeek 6) (dC (.int 1))) aNil)))) fun ds => fits 4 ds (fits 4 (pick [.p 0, .p 1, .p 2, .p 3] ds [] []) (dApp φ_fits_under (pick [.p 0, .p 1, .p 2, .p 3] ds [] [])))))
noncomputable def b1_exponent_of : TDS := (sSet 6 (dBin subD (dPeek 6) (dC (.int 1))))
noncomputable def m_exponent_of : TDS := (sSeq (sPar 3 4 (aCons (dUn absD (dBin ixD (dPeek 2) (dC (.int 0)))) (aCons (dBin ixD (dPeek 2) (dC (.int 1))) aNil))) (sSeq (sSet 5 (dBin subD (dUn bitsD (aBind (aCons (dVar 0) (aCons (dC (.int 64)) aNil)) fun ds => fits 2 ds (fits 2 (pick [.p 0, .p 1] ds [] []) (dApp φ_int_power (pick [.p 0, .p 1] ds [] []))))) (dC (.int 1)))) (sSeq (sSet 6 (dBin divD (dBin mulD (dC (.int 64)) (dBin subD (dUn bitsD (dPeek 3)) (dUn bitsD (dPeek 4)))) (dPeek 5))) (sSeq (sWhile c0_exponent_of b0_exponent_of) (sSeq (sWhile c1_exponent_of b1_exponent_of) (sRet (dBin subD (dPeek 6) (dPeek 1))))))))
noncomputable def φ_exponent_of : DF := dFn 3 7 m_exponent_of
theorem ok_exponent_of (E : Fx K mg) (H : DfD K mg "exponent_of" s_exponent_of []) (H_int_power : DgD P w K mg base "int_power" s_int_power 1 ["base", "count"] φ_int_power []) (H_fits_under : DgD P w K mg base "fits_under" s_fits_under 2 ["top", "bottom", "base", "exponent"] φ_fits_under []) : DgD P w K mg base "exponent_of" s_exponent_of 3 ["base", "digits", "pair"] φ_exponent_of [] := by
  obtain ⟨f, fd, F, hm⟩ := H
  obtain ⟨f_int_power, fd_int_power, F_int_power, k_int_power⟩ := H_int_power
  obtain ⟨f_fits_under, fd_fits_under, F_fits_under, k_fits_under⟩ := H_fits_under
  refine ⟨f, fd, F, def_of (Ns := ["base", "digits", "pair", "top", "bottom", "many", "guess"]) (ps := ["base", "digits", "pair"]) (t := m_exponent_of) hm F sc_exponent_of (by decide) (by decide) fun cdv A outer s H E' N hc hr tk => ?_⟩
  have sc := sc_exponent_of
  exact (dss_cons (ds_par (ps_par (i := 3) (j := 4) rfl sc.nd rfl rfl (by decide) rfl rfl (da_cons (de_b1 c_abs E.f_abs (de_b (de_ix (db_var (pe_var (i := 2) rfl (Or.inl rfl))) (de_b (de_int))))) (da_cons (de_ix (db_var (pe_var (i := 2) rfl (Or.inl rfl))) (de_b (de_int))) da_nil)) rfl)) (dss_cons (ds_set (ps_set (i := 5) sc.nd rfl (Or.inl rfl) (de_bin od_sub (de_b (de_bits (de_b (de_call (n := 2) (ps := ["base", "count"]) (sel := [.p 0, .p 1]) (φ := φ_int_power) (dds := []) k_int_power hc (hr.mono (by decide)) tk (cb0 F_int_power 2 [] _ fun _ _ _ _ _ _ us ws hl hw => match us, ws, hl, hw with | [_, _], [], _, _ => rfl) (fun _ _ _ => .nil) rfl (da_cons (de_var (pe_var (i := 0) rfl (Or.inl rfl))) (da_cons (de_int) da_nil)))))) (de_b (de_int))))) (dss_cons (ds_set (ps_set (i := 6) sc.nd rfl (Or.inl rfl) (de_bin od_div (de_b (de_bin od_mulI (de_b (de_int)) (de_b (de_bin od_sub (de_b (de_bits (db_var (pe_var (i := 3) rfl (Or.inl rfl))))) (de_b (de_bits (db_var (pe_var (i := 4) rfl (Or.inl rfl))))))))) (db_var (pe_var (i := 5) rfl (Or.inl rfl)))))) (dss_cons (ds_while (passes_of rfl) (dt_not (dt_truth (de_b (de_call (n := 4) (ps := ["top", "bottom", "base", "exponent"]) (sel := [.p 0, .p 1, .p 2, .p 3]) (φ := φ_fits_under) (dds := []) k_fits_under hc (hr.mono (by decide)) tk (cb0 F_fits_under 4 [] _ fun _ _ _ _ _ _ us ws hl hw => match us, ws, hl, hw with | [_, _, _, _], [], _, _ => rfl) (fun _ _ _ => .nil) rfl (da_cons (de_var (pe_var (i := 3) rfl (Or.inl rfl))) (da_cons (de_var (pe_var (i := 4) rfl (Or.inl rfl))) (da_cons (de_var (pe_var (i := 0) rfl (Or.inl rfl))) (da_cons (de_var (pe_var (i := 6) rfl (Or.inl rfl))) da_nil)))))))) (dss_one (ds_set (ps_set (i := 6) sc.nd rfl (Or.inl rfl) (de_bin od_add (db_var (pe_var (i := 6) rfl (Or.inl rfl))) (de_b (de_int))))))) (dss_cons (ds_while (passes_of rfl) (dt_truth (de_b (de_call (n := 4) (ps := ["top", "bottom", "base", "exponent"]) (sel := [.p 0, .p 1, .p 2, .p 3]) (φ := φ_fits_under) (dds := []) k_fits_under hc (hr.mono (by decide)) tk (cb0 F_fits_under 4 [] _ fun _ _ _ _ _ _ us ws hl hw => match us, ws, hl, hw with | [_, _, _, _], [], _, _ => rfl) (fun _ _ _ => .nil) rfl (da_cons (de_var (pe_var (i := 3) rfl (Or.inl rfl))) (da_cons (de_var (pe_var (i := 4) rfl (Or.inl rfl))) (da_cons (de_var (pe_var (i := 0) rfl (Or.inl rfl))) (da_cons (de_bin od_sub (db_var (pe_var (i := 6) rfl (Or.inl rfl))) (de_b (de_int))) da_nil))))))) (dss_one (ds_set (ps_set (i := 6) sc.nd rfl (Or.inl rfl) (de_bin od_sub (db_var (pe_var (i := 6) rfl (Or.inl rfl))) (de_b (de_int))))))) (dss_one (ds_ret (de_bin od_sub (db_var (pe_var (i := 6) rfl (Or.inl rfl))) (db_var (pe_var (i := 1) rfl (Or.inl rfl)))))))))))
abbrev s_scaled : Stmt := top 25
theorem sc_scaled : FnScope ["pair", "base", "exponent", "top", "bottom"] ["pair", "base", "exponent"] (defScope s_scaled) := ⟨rfl, rfl, rfl, by decide +kernel, rfl, by decide +kernel, by decide +kernel⟩
noncomputable def m_scaled : TDS := (sSeq (sPar 3 4 (aCons (dUn absD (dBin ixD (dPeek 0) (dC (.int 0)))) (aCons (dBin ixD (dPeek 0) (dC (.int 1))) aNil))) (sSeq (sIf (dBin geD (dPeek 2) (dC (.int 0))) (sSet 4 (dBin mulD (dPeek 4) (aBind (aCons (dVar 1) (aCons (dVar 2) aNil)) fun ds => fits 2 ds (fits 2 (pick [.p 0, .p 1] ds [] []) (dApp φ_int_power (pick [.p 0, .p 1] ds [] [])))))) (sSet 3 (dBin mulD (dPeek 3) (aBind (aCons (dVar 1) (aCons (dUn negD (dPeek 2)) aNil)) fun ds => fits 2 ds (fits 2 (pick [.p 0, .p 1] ds [] []) (dApp φ_int_power (pick [.p 0, .p 1] ds [] []))))))) (sRet (dTup (aCons (dBin divD (dPeek 3) (dPeek 4)) (aCons (dBin modD (dPeek 3) (dPeek 4)) (aCons (dVar 4) aNil)))))))
noncomputable def φ_scaled : DF := dFn 3 5 m_scaled
theorem ok_scaled (E : Fx K mg) (H : DfD K mg "scaled" s_scaled []) (H_int_power : DgD P w K mg base "int_power" s_int_power 1 ["base", "count"] φ_int_power []) : DgD P w K mg base "scaled" s_scaled 2 ["pair", "base", "exponent"] φ_scaled [] := by
  obtain ⟨f, fd, F, hm⟩ := H
  obtain ⟨f_int_power, fd_int_power, F_int_power, k_int_power⟩ := H_int_power
  refine ⟨f, fd, F, def_of (Ns := ["pair", "base", "exponent", "top", "bottom"]) (ps := ["pair", "base", "exponent"]) (t := m_scaled) hm F sc_scaled (by decide) (by decide) fun cdv A outer s H E' N hc hr tk => ?_⟩
  have sc := sc_scaled
  exact (dss_cons (ds_par (ps_par (i := 3) (j := 4) rfl sc.nd rfl rfl (by decide) rfl rfl (da_cons (de_b1 c_abs E.f_abs (de_b (de_ix (db_var (pe_var (i := 0) rfl (Or.inl rfl))) (de_b (de_int))))) (da_cons (de_ix (db_var (pe_var (i := 0) rfl (Or.inl rfl))) (de_b (de_int))) da_nil)) rfl)) (dss_cons (ds_if (dt_cmp od_ge (db_var (pe_var (i := 2) rfl (Or.inl rfl))) (de_b (de_int))) (dss_one (ds_set (ps_set (i := 4) sc.nd rfl (Or.inl rfl) (de_bin od_mulI (db_var (pe_var (i := 4) rfl (Or.inl rfl))) (de_b (de_call (n := 2) (ps := ["base", "count"]) (sel := [.p 0, .p 1]) (φ := φ_int_power) (dds := []) k_int_power hc (hr.mono (by decide)) tk (cb0 F_int_power 2 [] _ fun _ _ _ _ _ _ us ws hl hw => match us, ws, hl, hw with | [_, _], [], _, _ => rfl) (fun _ _ _ => .nil) rfl (da_cons (de_var (pe_var (i := 1) rfl (Or.inl rfl))) (da_cons (de_var (pe_var (i := 2) rfl (Or.inl rfl))) da_nil)))))))) (dss_one (ds_set (ps_set (i := 3) sc.nd rfl (Or.inl rfl) (de_bin od_mulI (db_var (pe_var (i := 3) rfl (Or.inl rfl))) (de_b (de_call (n := 2) (ps := ["base", "count"]) (sel := [.p 0, .p 1]) (φ := φ_int_power) (dds := []) k_int_power hc (hr.mono (by decide)) tk (cb0 F_int_power 2 [] _ fun _ _ _ _ _ _ us ws hl hw => match us, ws, hl, hw with | [_, _], [], _, _ => rfl) (fun _ _ _ => .nil) rfl (da_cons (de_var (pe_var (i := 1) rfl (Or.inl rfl))) (da_cons (de_neg (db_var (pe_var (i := 2) rfl (Or.inl rfl)))) da_nil))))))))) (dss_one (ds_ret (de_tup (da_cons (de_bin od_div (db_var (pe_var (i := 3) rfl (Or.inl rfl))) (db_var (pe_var (i := 4) rfl (Or.inl rfl)))) (da_cons (de_bin od_mod (db_var (pe_var (i := 3) rfl (Or.inl rfl))) (db_var (pe_var (i := 4) rfl (Or.inl rfl)))) (da_cons (de_var (pe_var (i := 4) rfl (Or.inl rfl))) da_nil))))))))
abbrev s_low : Stmt := top 13
theorem sc_low : FnScope ["top", "bottom", "shared"] ["top", "bottom"] (defScope s_low) := ⟨rfl, rfl, rfl, by decide +kernel, rfl, by decide +kernel, by decide +kernel⟩
noncomputable def m_low : TDS := (sSeq (sSet 2 (dBin (II gcdI) (dPeek 0) (dPeek 1))) (sSeq (sIf (dBin ltD (dPeek 1) (dC (.int 0))) (sSet 2 (dUn negD (dPeek 2))) sNext) (sRet (dTup (aCons (dBin divD (dPeek 0) (dPeek 2)) (aCons (dBin divD (dPeek 1) (dPeek 2)) aNil))))))
noncomputable def φ_low : DF := dFn 2 3 m_low
theorem ok_low (E : Fx K mg) (H : DfD K mg "low" s_low []) : DgD P w K mg base "low" s_low 1 ["top", "bottom"] φ_low [] := by
  obtain ⟨f, fd, F, hm⟩ := H
  refine ⟨f, fd, F, def_of (Ns := ["top", "bottom", "shared"]) (ps := ["top", "bottom"]) (t := m_low) hm F sc_low (by decide) (by decide) fun cdv A outer s H E' N hc hr tk => ?_⟩
  have sc := sc_low
  exact (dss_cons (ds_set (ps_set (i := 2) sc.nd rfl (Or.inl rfl) (de_g2 c_gcd E.i_gcd (db_var (pe_var (i := 0) rfl (Or.inl rfl))) (db_var (pe_var (i := 1) rfl (Or.inl rfl)))))) (dss_cons (ds_if (dt_cmp od_lt (db_var (pe_var (i := 1) rfl (Or.inl rfl))) (de_b (de_int))) (dss_one (ds_set (ps_set (i := 2) sc.nd rfl (Or.inl rfl) (de_neg (db_var (pe_var (i := 2) rfl (Or.inl rfl))))))) dss_nil) (dss_one (ds_ret (de_tup (da_cons (de_bin od_div (db_var (pe_var (i := 0) rfl (Or.inl rfl))) (db_var (pe_var (i := 2) rfl (Or.inl rfl)))) (da_cons (de_bin od_div (db_var (pe_var (i := 1) rfl (Or.inl rfl))) (db_var (pe_var (i := 2) rfl (Or.inl rfl)))) da_nil)))))))
abbrev s_times_power : Stmt := top 26
theorem sc_times_power : FnScope ["many", "base", "exponent"] ["many", "base", "exponent"] (defScope s_times_power) := ⟨rfl, rfl, rfl, by decide +kernel, rfl, by decide +kernel, by decide +kernel⟩
noncomputable def m_times_power : TDS := (sSeq (sIf (dBin geD (dPeek 2) (dC (.int 0))) (sRet (dTup (aCons (dBin mulD (dPeek 0) (aBind (aCons (dVar 1) (aCons (dVar 2) aNil)) fun ds => fits 2 ds (fits 2 (pick [.p 0, .p 1] ds [] []) (dApp φ_int_power (pick [.p 0, .p 1] ds [] []))))) (aCons (dC (.int 1)) aNil)))) sNext) (sRet (aBind (aCons (dVar 0) (aCons (aBind (aCons (dVar 1) (aCons (dUn negD (dPeek 2)) aNil)) fun ds => fits 2 ds (fits 2 (pick [.p 0, .p 1] ds [] []) (dApp φ_int_power (pick [.p 0, .p 1] ds [] [])))) aNil)) fun ds => fits 2 ds (fits 2 (pick [.p 0, .p 1] ds [] []) (dApp φ_low (pick [.p 0, .p 1] ds [] []))))))
noncomputable def φ_times_power : DF := dFn 3 3 m_times_power
theorem ok_times_power (E : Fx K mg) (H : DfD K mg "times_power" s_times_power []) (H_int_power : DgD P w K mg base "int_power" s_int_power 1 ["base", "count"] φ_int_power []) (H_low : DgD P w K mg base "low" s_low 1 ["top", "bottom"] φ_low []) : DgD P w K mg base "times_power" s_times_power 2 ["many", "base", "exponent"] φ_times_power [] := by
  obtain ⟨f, fd, F, hm⟩ := H
  obtain ⟨f_int_power, fd_int_power, F_int_power, k_int_power⟩ := H_int_power
  obtain ⟨f_low, fd_low, F_low, k_low⟩ := H_low
  refine ⟨f, fd, F, def_of (Ns := ["many", "base", "exponent"]) (ps := ["many", "base", "exponent"]) (t := m_times_power) hm F sc_times_power (by decide) (by decide) fun cdv A outer s H E' N hc hr tk => ?_⟩
  have sc := sc_times_power
  exact (dss_cons (ds_if (dt_cmp od_ge (db_var (pe_var (i := 2) rfl (Or.inl rfl))) (de_b (de_int))) (dss_one (ds_ret (de_tup (da_cons (de_bin od_mulI (db_var (pe_var (i := 0) rfl (Or.inl rfl))) (de_b (de_call (n := 2) (ps := ["base", "count"]) (sel := [.p 0, .p 1]) (φ := φ_int_power) (dds := []) k_int_power hc (hr.mono (by decide)) tk (cb0 F_int_power 2 [] _ fun _ _ _ _ _ _ us ws hl hw => match us, ws, hl, hw with | [_, _], [], _, _ => rfl) (fun _ _ _ => .nil) rfl (da_cons (de_var (pe_var (i := 1) rfl (Or.inl rfl))) (da_cons (de_var (pe_var (i := 2) rfl (Or.inl rfl))) da_nil))))) (da_cons (de_int) da_nil))))) dss_nil) (dss_one (ds_ret (de_call (n := 2) (ps := ["top", "bottom"]) (sel := [.p 0, .p 1]) (φ := φ_low) (dds := []) k_low hc (hr.mono (by decide)) tk (cb0 F_low 2 [] _ fun _ _ _ _ _ _ us ws hl hw => match us, ws, hl, hw with | [_, _], [], _, _ => rfl) (fun _ _ _ => .nil) rfl (da_cons (de_var (pe_var (i := 0) rfl (Or.inl rfl))) (da_cons (de_call (n := 2) (ps := ["base", "count"]) (sel := [.p 0, .p 1]) (φ := φ_int_power) (dds := []) k_int_power hc (hr.mono (by decide)) tk (cb0 F_int_power 2 [] _ fun _ _ _ _ _ _ us ws hl hw => match us, ws, hl, hw with | [_, _], [], _, _ => rfl) (fun _ _ _ => .nil) rfl (da_cons (de_var (pe_var (i := 1) rfl (Or.inl rfl))) (da_cons (de_neg (db_var (pe_var (i := 2) rfl (Or.inl rfl)))) da_nil))) da_nil))))))
abbrev s_turn_pair : Stmt := top 14
theorem sc_turn_pair : FnScope ["one"] ["one"] (defScope s_turn_pair) := ⟨rfl, rfl, rfl, by decide +kernel, rfl, by decide +kernel, by decide +kernel⟩
noncomputable def m_turn_pair : TDS := (sRet (dTup (aCons (dUn negD (dBin ixD (dPeek 0) (dC (.int 0)))) (aCons (dBin ixD (dPeek 0) (dC (.int 1))) aNil))))
noncomputable def φ_turn_pair : DF := dFn 1 1 m_turn_pair
theorem ok_turn_pair (E : Fx K mg) (H : DfD K mg "turn_pair" s_turn_pair []) : DgD P w K mg base "turn_pair" s_turn_pair 1 ["one"] φ_turn_pair [] := by
  obtain ⟨f, fd, F, hm⟩ := H
  refine ⟨f, fd, F, def_of (Ns := ["one"]) (ps := ["one"]) (t := m_turn_pair) hm F sc_turn_pair (by decide) (by decide) fun cdv A outer s H E' N hc hr tk => ?_⟩
  have sc := sc_turn_pair
  exact (dss_one (ds_ret (de_tup (da_cons (de_neg (de_b (de_ix (db_var (pe_var (i := 0) rfl (Or.inl rfl))) (de_b (de_int))))) (da_cons (de_ix (db_var (pe_var (i := 0) rfl (Or.inl rfl))) (de_b (de_int))) da_nil)))))
abbrev s_both_sides : Stmt := top 27
theorem sc_both_sides : FnScope ["form", "pair", "exponent", "whole", "rest", "divisor", "near", "far"] ["form", "pair"] (defScope s_both_sides) := ⟨rfl, rfl, rfl, by decide +kernel, rfl, by decide +kernel, by decide +kernel⟩
noncomputable def m_both_sides : TDS := (sSeq (sIf (dBin (eqA false) (dPeek 1) (dC (.tup ([0, 1].map D.int)))) (sRet (dTup (aCons (dC (.tup ([0, 1].map D.int))) (aCons (dC (.tup ([0, 1].map D.int))) aNil)))) sNext) (sSeq (sSet 2 (aBind (aCons (dUn (fldD TT "base") (dPeek 0)) (aCons (dUn (fldD TT "digits") (dPeek 0)) (aCons (dVar 1) aNil))) fun ds => fits 3 ds (fits 3 (pick [.p 0, .p 1, .p 2] ds [] []) (dApp φ_exponent_of (pick [.p 0, .p 1, .p 2] ds [] []))))) (sSeq (sAsg (aBind (aCons (dVar 1) (aCons (dUn (fldD TT "base") (dPeek 0)) (aCons (dVar 2) aNil))) fun ds => fits 3 ds (fits 3 (pick [.p 0, .p 1, .p 2] ds [] []) (dApp φ_scaled (pick [.p 0, .p 1, .p 2] ds [] [])))) (bTup 3 (bCons (bName 3) (bCons (bName 4) (bCons (bName 5) bNil))))) (sSeq (sSet 6 (aBind (aCons (dVar 3) (aCons (dUn (fldD TT "base") (dPeek 0)) (aCons (dVar 2) aNil))) fun ds => fits 3 ds (fits 3 (pick [.p 0, .p 1, .p 2] ds [] []) (dApp φ_times_power (pick [.p 0, .p 1, .p 2] ds [] []))))) (sSeq (sSet 7 (dIfE (dBin (eqA false) (dPeek 4) (dC (.int 0))) (dVar 6) (aBind (aCons (dBin addD (dPeek 3) (dC (.int 1))) (aCons (dUn (fldD TT "base") (dPeek 0)) (aCons (dVar 2) aNil))) fun ds => fits 3 ds (fits 3 (pick [.p 0, .p 1, .p 2] ds [] []) (dApp φ_times_power (pick [.p 0, .p 1, .p 2] ds [] [])))))) (sRet (dIfE (dBin gtD (dBin ixD (dPeek 1) (dC (.int 0))) (dC (.int 0))) (dTup (aCons (dVar 6) (aCons (dVar 7) aNil))) (dTup (aCons (aBind (aCons (dVar 7) aNil) fun ds => fits 1 ds (fits 1 (pick [.p 0] ds [] []) (dApp φ_turn_pair (pick [.p 0] ds [] [])))) (aCons (aBind (aCons (dVar 6) aNil) fun ds => fits 1 ds (fits 1 (pick [.p 0] ds [] []) (dApp φ_turn_pair (pick [.p 0] ds [] [])))) aNil))))))))))
noncomputable def φ_both_sides : DF := dFn 2 8 m_both_sides
theorem ok_both_sides (E : Fx K mg) (H : DfD K mg "both_sides" s_both_sides []) (H_exponent_of : DgD P w K mg base "exponent_of" s_exponent_of 3 ["base", "digits", "pair"] φ_exponent_of []) (H_scaled : DgD P w K mg base "scaled" s_scaled 2 ["pair", "base", "exponent"] φ_scaled []) (H_times_power : DgD P w K mg base "times_power" s_times_power 2 ["many", "base", "exponent"] φ_times_power []) (H_turn_pair : DgD P w K mg base "turn_pair" s_turn_pair 1 ["one"] φ_turn_pair []) : DgD P w K mg base "both_sides" s_both_sides 4 ["form", "pair"] φ_both_sides [] := by
  obtain ⟨f, fd, F, hm⟩ := H
  obtain ⟨f_exponent_of, fd_exponent_of, F_exponent_of, k_exponent_of⟩ := H_exponent_of
  obtain ⟨f_scaled, fd_scaled, F_scaled, k_scaled⟩ := H_scaled
  obtain ⟨f_times_power, fd_times_power, F_times_power, k_times_power⟩ := H_times_power
  obtain ⟨f_turn_pair, fd_turn_pair, F_turn_pair, k_turn_pair⟩ := H_turn_pair
  refine ⟨f, fd, F, def_of (Ns := ["form", "pair", "exponent", "whole", "rest", "divisor", "near", "far"]) (ps := ["form", "pair"]) (t := m_both_sides) hm F sc_both_sides (by decide) (by decide) fun cdv A outer s H E' N hc hr tk => ?_⟩
  have sc := sc_both_sides
  exact (dss_cons (ds_if (dt_cmp (od_eqA hr.units) (db_var (pe_var (i := 1) rfl (Or.inl rfl))) (de_b (de_tup_glob E.c_NOTHING))) (dss_one (ds_ret (de_tup (da_cons (de_tup_glob E.c_NOTHING) (da_cons (de_tup_glob E.c_NOTHING) da_nil))))) dss_nil) (dss_cons (ds_set (ps_set (i := 2) sc.nd rfl (Or.inl rfl) (de_call (n := 3) (ps := ["base", "digits", "pair"]) (sel := [.p 0, .p 1, .p 2]) (φ := φ_exponent_of) (dds := []) k_exponent_of hc (hr.mono (by decide)) tk (cb0 F_exponent_of 3 [] _ fun _ _ _ _ _ _ us ws hl hw => match us, ws, hl, hw with | [_, _, _], [], _, _ => rfl) (fun _ _ _ => .nil) rfl (da_cons (de_fld E.own (db_var (pe_var (i := 0) rfl (Or.inl rfl)))) (da_cons (de_fld E.own (db_var (pe_var (i := 0) rfl (Or.inl rfl)))) (da_cons (de_var (pe_var (i := 1) rfl (Or.inl rfl))) da_nil)))))) (dss_cons (ds_asg (de_call (n := 3) (ps := ["pair", "base", "exponent"]) (sel := [.p 0, .p 1, .p 2]) (φ := φ_scaled) (dds := []) k_scaled hc (hr.mono (by decide)) tk (cb0 F_scaled 3 [] _ fun _ _ _ _ _ _ us ws hl hw => match us, ws, hl, hw with | [_, _, _], [], _, _ => rfl) (fun _ _ _ => .nil) rfl (da_cons (de_var (pe_var (i := 1) rfl (Or.inl rfl))) (da_cons (de_fld E.own (db_var (pe_var (i := 0) rfl (Or.inl rfl)))) (da_cons (de_var (pe_var (i := 2) rfl (Or.inl rfl))) da_nil)))) (dg_tup rfl (dgs_cons (dg_name (pg_name (i := 3) sc.nd rfl (Or.inl rfl))) (dgs_cons (dg_name (pg_name (i := 4) sc.nd rfl (Or.inl rfl))) (dgs_cons (dg_name (pg_name (i := 5) sc.nd rfl (Or.inl rfl))) dgs_nil))))) (dss_cons (ds_set (ps_set (i := 6) sc.nd rfl (Or.inl rfl) (de_call (n := 3) (ps := ["many", "base", "exponent"]) (sel := [.p 0, .p 1, .p 2]) (φ := φ_times_power) (dds := []) k_times_power hc (hr.mono (by decide)) tk (cb0 F_times_power 3 [] _ fun _ _ _ _ _ _ us ws hl hw => match us, ws, hl, hw with | [_, _, _], [], _, _ => rfl) (fun _ _ _ => .nil) rfl (da_cons (de_var (pe_var (i := 3) rfl (Or.inl rfl))) (da_cons (de_fld E.own (db_var (pe_var (i := 0) rfl (Or.inl rfl)))) (da_cons (de_var (pe_var (i := 2) rfl (Or.inl rfl))) da_nil)))))) (dss_cons (ds_set (ps_set (i := 7) sc.nd rfl (Or.inl rfl) (de_if (dt_cmp (od_eqA hr.units) (db_var (pe_var (i := 4) rfl (Or.inl rfl))) (de_b (de_int))) (de_var (pe_var (i := 6) rfl (Or.inl rfl))) (de_call (n := 3) (ps := ["many", "base", "exponent"]) (sel := [.p 0, .p 1, .p 2]) (φ := φ_times_power) (dds := []) k_times_power hc (hr.mono (by decide)) tk (cb0 F_times_power 3 [] _ fun _ _ _ _ _ _ us ws hl hw => match us, ws, hl, hw with | [_, _, _], [], _, _ => rfl) (fun _ _ _ => .nil) rfl (da_cons (de_bin od_add (db_var (pe_var (i := 3) rfl (Or.inl rfl))) (de_b (de_int))) (da_cons (de_fld E.own (db_var (pe_var (i := 0) rfl (Or.inl rfl)))) (da_cons (de_var (pe_var (i := 2) rfl (Or.inl rfl))) da_nil))))))) (dss_one (ds_ret (de_if (dt_cmp od_gt (de_b (de_ix (db_var (pe_var (i := 1) rfl (Or.inl rfl))) (de_b (de_int)))) (de_b (de_int))) (de_tup (da_cons (de_var (pe_var (i := 6) rfl (Or.inl rfl))) (da_cons (de_var (pe_var (i := 7) rfl (Or.inl rfl))) da_nil))) (de_tup (da_cons (de_call (n := 1) (ps := ["one"]) (sel := [.p 0]) (φ := φ_turn_pair) (dds := []) k_turn_pair hc (hr.mono (by decide)) tk (cb0 F_turn_pair 1 [] _ fun _ _ _ _ _ _ us ws hl hw => match us, ws, hl, hw with | [_], [], _, _ => rfl) (fun _ _ _ => .nil) rfl (da_cons (de_var (pe_var (i := 7) rfl (Or.inl rfl))) da_nil)) (da_cons (de_call (n := 1) (ps := ["one"]) (sel := [.p 0]) (φ := φ_turn_pair) (dds := []) k_turn_pair hc (hr.mono (by decide)) tk (cb0 F_turn_pair 1 [] _ fun _ _ _ _ _ _ us ws hl hw => match us, ws, hl, hw with | [_], [], _, _ => rfl) (fun _ _ _ => .nil) rfl (da_cons (de_var (pe_var (i := 6) rfl (Or.inl rfl))) da_nil)) da_nil)))))))))))
abbrev s_is_row : Stmt := top 9
theorem sc_is_row : FnScope ["value"] ["value"] (defScope s_is_row) := ⟨rfl, rfl, rfl, by decide +kernel, rfl, by decide +kernel, by decide +kernel⟩
noncomputable def m_is_row : TDS := (sRet (dBin (isiD TT) (dPeek 0) (dTup (aCons (dC (.ty "list")) (aCons (dC (.ty "tuple")) aNil)))))
noncomputable def φ_is_row : DF := dFn 1 1 m_is_row
theorem ok_is_row (E : Fx K mg) (H : DfD K mg "is_row" s_is_row []) : DgD P w K mg base "is_row" s_is_row 1 ["value"] φ_is_row [] := by
  obtain ⟨f, fd, F, hm⟩ := H
  refine ⟨f, fd, F, def_of (Ns := ["value"]) (ps := ["value"]) (t := m_is_row) hm F sc_is_row (by decide) (by decide) fun cdv A outer s H E' N hc hr tk => ?_⟩
  have sc := sc_is_row
  exact (dss_one (ds_ret (de_b2 (c_isi E.own) E.f_isinstance (db_var (pe_var (i := 0) rfl (Or.inl rfl))) (de_b (de_tup (da_cons (de_tyn E.f_list) (da_cons (de_tyn E.f_tuple) da_nil)))))))
abbrev s_is_number : Stmt := top 15
theorem sc_is_number : FnScope ["value"] ["value"] (defScope s_is_number) := ⟨rfl, rfl, rfl, by decide +kernel, rfl, by decide +kernel, by decide +kernel⟩
noncomputable def m_is_number : TDS := (sSeq (sIf (dTru (aBind (aCons (dVar 0) aNil) fun ds => fits 1 ds (fits 1 (pick [.p 0] ds [] []) (dApp φ_is_integer (pick [.p 0] ds [] []))))) (sRet (dC (.bl true))) sNext) (sRet (dAndV (aBind (aCons (dVar 0) aNil) fun ds => fits 1 ds (fits 1 (pick [.p 0] ds [] []) (dApp φ_is_row (pick [.p 0] ds [] [])))) (dAndV (dBin (eqA false) (dUn lenA (dPeek 0)) (dC (.int 2))) (dAndV (aBind (aCons (dBin ixD (dPeek 0) (dC (.int 0))) aNil) fun ds => fits 1 ds (fits 1 (pick [.p 0] ds [] []) (dApp φ_is_integer (pick [.p 0] ds [] [])))) (dAndV (aBind (aCons (dBin ixD (dPeek 0) (dC (.int 1))) aNil) fun ds => fits 1 ds (fits 1 (pick [.p 0] ds [] []) (dApp φ_is_integer (pick [.p 0] ds [] [])))) (dBin gtD (dBin ixD (dPeek 0) (dC (.int 1))) (dC (.int 0)))))))))
noncomputable def φ_is_number : DF := dFn 1 1 m_is_number
theorem ok_is_number (E : Fx K mg) (H : DfD K mg "is_number" s_is_number []) (H_is_integer : DgD P w K mg base "is_integer" s_is_integer 1 ["value"] φ_is_integer []) (H_is_row : DgD P w K mg base "is_row" s_is_row 1 ["value"] φ_is_row []) : DgD P w K mg base "is_number" s_is_number 2 ["value"] φ_is_number [] := by
  obtain ⟨f, fd, F, hm⟩ := H
  obtain ⟨f_is_integer, fd_is_integer, F_is_integer, k_is_integer⟩ := H_is_integer
  obtain ⟨f_is_row, fd_is_row, F_is_row, k_is_row⟩ := H_is_row
  refine ⟨f, fd, F, def_of (Ns := ["value"]) (ps := ["value"]) (t := m_is_number) hm F sc_is_number (by decide) (by decide) fun cdv A outer s H E' N hc hr tk => ?_⟩
  have sc := sc_is_number
  exact (dss_cons (ds_if (dt_truth (de_b (de_call (n := 1) (ps := ["value"]) (sel := [.p 0]) (φ := φ_is_integer) (dds := []) k_is_integer hc (hr.mono (by decide)) tk (cb0 F_is_integer 1 [] _ fun _ _ _ _ _ _ us ws hl hw => match us, ws, hl, hw with | [_], [], _, _ => rfl) (fun _ _ _ => .nil) rfl (da_cons (de_var (pe_var (i := 0) rfl (Or.inl rfl))) da_nil)))) (dss_one (ds_ret (de_bl))) dss_nil) (dss_one (ds_ret (de_and (de_call (n := 1) (ps := ["value"]) (sel := [.p 0]) (φ := φ_is_row) (dds := []) k_is_row hc (hr.mono (by decide)) tk (cb0 F_is_row 1 [] _ fun _ _ _ _ _ _ us ws hl hw => match us, ws, hl, hw with | [_], [], _, _ => rfl) (fun _ _ _ => .nil) rfl (da_cons (de_var (pe_var (i := 0) rfl (Or.inl rfl))) da_nil)) (de_and (de_cmp (od_eqA hr.units) (de_b (de_b1 c_len E.f_len (db_var (pe_var (i := 0) rfl (Or.inl rfl))))) (de_b (de_int))) (de_and (de_call (n := 1) (ps := ["value"]) (sel := [.p 0]) (φ := φ_is_integer) (dds := []) k_is_integer hc (hr.mono (by decide)) tk (cb0 F_is_integer 1 [] _ fun _ _ _ _ _ _ us ws hl hw => match us, ws, hl, hw with | [_], [], _, _ => rfl) (fun _ _ _ => .nil) rfl (da_cons (de_ix (db_var (pe_var (i := 0) rfl (Or.inl rfl))) (de_b (de_int))) da_nil)) (de_and (de_call (n := 1) (ps := ["value"]) (sel := [.p 0]) (φ := φ_is_integer) (dds := []) k_is_integer hc (hr.mono (by decide)) tk (cb0 F_is_integer 1 [] _ fun _ _ _ _ _ _ us ws hl hw => match us, ws, hl, hw with | [_], [], _, _ => rfl) (fun _ _ _ => .nil) rfl (da_cons (de_ix (db_var (pe_var (i := 0) rfl (Or.inl rfl))) (de_b (de_int))) da_nil)) (de_one (de_cmp od_gt (de_b (de_ix (db_var (pe_var (i := 0) rfl (Or.inl rfl))) (de_b (de_int)))) (de_b (de_int)))))))))))
abbrev s_number_of : Stmt := top 16
theorem sc_number_of : FnScope ["value", "part"] ["value", "part"] (defScope s_number_of) := ⟨rfl, rfl, rfl, by decide +kernel, rfl, by decide +kernel, by decide +kernel⟩
noncomputable def m_number_of : TDS := (sSeq (sIf (dNot (dTru (aBind (aCons (dVar 0) aNil) fun ds => fits 1 ds (fits 1 (pick [.p 0] ds [] []) (dApp φ_is_number (pick [.p 0] ds [] [])))))) (sNever) sNext) (sRet (dIfE (dTru (aBind (aCons (dVar 0) aNil) fun ds => fits 1 ds (fits 1 (pick [.p 0] ds [] []) (dApp φ_is_integer (pick [.p 0] ds [] []))))) (dTup (aCons (dVar 0) (aCons (dC (.int 1)) aNil))) (aBind (aCons (dBin ixD (dPeek 0) (dC (.int 0))) (aCons (dBin ixD (dPeek 0) (dC (.int 1))) aNil)) fun ds => fits 2 ds (fits 2 (pick [.p 0, .p 1] ds [] []) (dApp φ_low (pick [.p 0, .p 1] ds [] [])))))))
noncomputable def φ_number_of : DF := dFn 2 2 m_number_of
theorem ok_number_of (E : Fx K mg) (H : DfD K mg "number_of" s_number_of [.str "number"]) (H_is_number : DgD P w K mg base "is_number" s_is_number 2 ["value"] φ_is_number []) (H_is_integer : DgD P w K mg base "is_integer" s_is_integer 1 ["value"] φ_is_integer []) (H_low : DgD P w K mg base "low" s_low 1 ["top", "bottom"] φ_low []) : DgD P w K mg base "number_of" s_number_of 3 ["value", "part"] φ_number_of [.str "number"] := by
  obtain ⟨f, fd, F, hm⟩ := H
  obtain ⟨f_is_number, fd_is_number, F_is_number, k_is_number⟩ := H_is_number
  obtain ⟨f_is_integer, fd_is_integer, F_is_integer, k_is_integer⟩ := H_is_integer
  obtain ⟨f_low, fd_low, F_low, k_low⟩ := H_low
  refine ⟨f, fd, F, def_of (Ns := ["value", "part"]) (ps := ["value", "part"]) (t := m_number_of) hm F sc_number_of (by decide) (by decide) fun cdv A outer s H E' N hc hr tk => ?_⟩
  have sc := sc_number_of
  exact (dss_cons (ds_if (dt_not (dt_truth (de_b (de_call (n := 1) (ps := ["value"]) (sel := [.p 0]) (φ := φ_is_number) (dds := []) k_is_number hc (hr.mono (by decide)) tk (cb0 F_is_number 1 [] _ fun _ _ _ _ _ _ us ws hl hw => match us, ws, hl, hw with | [_], [], _, _ => rfl) (fun _ _ _ => .nil) rfl (da_cons (de_var (pe_var (i := 0) rfl (Or.inl rfl))) da_nil))))) (dss_one (ds_never)) dss_nil) (dss_one (ds_ret (de_if (dt_truth (de_b (de_call (n := 1) (ps := ["value"]) (sel := [.p 0]) (φ := φ_is_integer) (dds := []) k_is_integer hc (hr.mono (by decide)) tk (cb0 F_is_integer 1 [] _ fun _ _ _ _ _ _ us ws hl hw => match us, ws, hl, hw with | [_], [], _, _ => rfl) (fun _ _ _ => .nil) rfl (da_cons (de_var (pe_var (i := 0) rfl (Or.inl rfl))) da_nil)))) (de_tup (da_cons (de_var (pe_var (i := 0) rfl (Or.inl rfl))) (da_cons (de_int) da_nil))) (de_call (n := 2) (ps := ["top", "bottom"]) (sel := [.p 0, .p 1]) (φ := φ_low) (dds := []) k_low hc (hr.mono (by decide)) tk (cb0 F_low 2 [] _ fun _ _ _ _ _ _ us ws hl hw => match us, ws, hl, hw with | [_, _], [], _, _ => rfl) (fun _ _ _ => .nil) rfl (da_cons (de_ix (db_var (pe_var (i := 0) rfl (Or.inl rfl))) (de_b (de_int))) (da_cons (de_ix (db_var (pe_var (i := 0) rfl (Or.inl rfl))) (de_b (de_int))) da_nil)))))))
abbrev s_neighbours : Stmt := top 31
theorem sc_neighbours : FnScope ["format", "number"] ["format", "number"] (defScope s_neighbours) := ⟨rfl, rfl, rfl, by decide +kernel, rfl, by decide +kernel, by decide +kernel⟩
noncomputable def m_neighbours : TDS := (sSeq (sDrop (aBind (aCons (dVar 0) aNil) fun ds => fits 1 ds (fits 1 (pick [.p 0] ds [] []) (dApp φ_need_format (pick [.p 0] ds [] []))))) (sRet (aBind (aCons (dVar 0) (aCons (aBind (aCons (dVar 1) aNil) fun ds => fits 1 ds (fits 2 (pick [.p 0, .d 0] ds [.str "number"] []) (dApp φ_number_of (pick [.p 0, .d 0] ds [.str "number"] [])))) aNil)) fun ds => fits 2 ds (fits 2 (pick [.p 0, .p 1] ds [] []) (dApp φ_both_sides (pick [.p 0, .p 1] ds [] []))))))
noncomputable def φ_neighbours : DF := dFn 2 2 m_neighbours
theorem ok_neighbours (E : Fx K mg) (H : DfD K mg "neighbours" s_neighbours []) (H_need_format : DgD P w K mg base "need_format" s_need_format 1 ["value"] φ_need_format []) (H_both_sides : DgD P w K mg base "both_sides" s_both_sides 4 ["form", "pair"] φ_both_sides []) (H_number_of : DgD P w K mg base "number_of" s_number_of 3 ["value", "part"] φ_number_of [.str "number"]) : DgD P w K mg base "neighbours" s_neighbours 5 ["format", "number"] φ_neighbours [] := by
  obtain ⟨f, fd, F, hm⟩ := H
  obtain ⟨f_need_format, fd_need_format, F_need_format, k_need_format⟩ := H_need_format
  obtain ⟨f_both_sides, fd_both_sides, F_both_sides, k_both_sides⟩ := H_both_sides
  obtain ⟨f_number_of, fd_number_of, F_number_of, k_number_of⟩ := H_number_of
  refine ⟨f, fd, F, def_of (Ns := ["format", "number"]) (ps := ["format", "number"]) (t := m_neighbours) hm F sc_neighbours (by decide) (by decide) fun cdv A outer s H E' N hc hr tk => ?_⟩
  have sc := sc_neighbours
  exact (dss_cons (ds_expr (de_call (n := 1) (ps := ["value"]) (sel := [.p 0]) (φ := φ_need_format) (dds := []) k_need_format hc (hr.mono (by decide)) tk (cb0 F_need_format 1 [] _ fun _ _ _ _ _ _ us ws hl hw => match us, ws, hl, hw with | [_], [], _, _ => rfl) (fun _ _ _ => .nil) rfl (da_cons (de_var (pe_var (i := 0) rfl (Or.inl rfl))) da_nil))) (dss_one (ds_ret (de_call (n := 2) (ps := ["form", "pair"]) (sel := [.p 0, .p 1]) (φ := φ_both_sides) (dds := []) k_both_sides hc (hr.mono (by decide)) tk (cb0 F_both_sides 2 [] _ fun _ _ _ _ _ _ us ws hl hw => match us, ws, hl, hw with | [_, _], [], _, _ => rfl) (fun _ _ _ => .nil) rfl (da_cons (de_var (pe_var (i := 0) rfl (Or.inl rfl))) (da_cons (de_call (n := 1) (ps := ["value", "part"]) (sel := [.p 0, .d 0]) (φ := φ_number_of) (dds := [.str "number"]) k_number_of hc (hr.mono (by decide)) tk (cbD F_number_of 1 [] _ (by simp) fun T _ _ _ _ _ _ us its ws hl hi hw => match us, its, ws, hl, hi, hw with | [_], [_], [], _, _, _ => ⟨_, rfl, rfl⟩) (fun _ _ _ => (.cons (.str _) .nil)) rfl (da_cons (de_var (pe_var (i := 1) rfl (Or.inl rfl))) da_nil)) da_nil))))))
abbrev s_raised : Stmt := top 22
theorem sc_raised : FnScope ["base", "exponent"] ["base", "exponent"] (defScope s_raised) := ⟨rfl, rfl, rfl, by decide +kernel, rfl, by decide +kernel, by decide +kernel⟩
noncomputable def m_raised : TDS := (sRet (dIfE (dBin geD (dPeek 1) (dC (.int 0))) (dTup (aCons (aBind (aCons (dVar 0) (aCons (dVar 1) aNil)) fun ds => fits 2 ds (fits 2 (pick [.p 0, .p 1] ds [] []) (dApp φ_int_power (pick [.p 0, .p 1] ds [] [])))) (aCons (dC (.int 1)) aNil))) (dTup (aCons (dC (.int 1)) (aCons (aBind (aCons (dVar 0) (aCons (dUn negD (dPeek 1)) aNil)) fun ds => fits 2 ds (fits 2 (pick [.p 0, .p 1] ds [] []) (dApp φ_int_power (pick [.p 0, .p 1] ds [] [])))) aNil)))))
noncomputable def φ_raised : DF := dFn 2 2 m_raised
theorem ok_raised (E : Fx K mg) (H : DfD K mg "raised" s_raised []) (H_int_power : DgD P w K mg base "int_power" s_int_power 1 ["base", "count"] φ_int_power []) : DgD P w K mg base "raised" s_raised 2 ["base", "exponent"] φ_raised [] := by
  obtain ⟨f, fd, F, hm⟩ := H
  obtain ⟨f_int_power, fd_int_power, F_int_power, k_int_power⟩ := H_int_power
  refine ⟨f, fd, F, def_of (Ns := ["base", "exponent"]) (ps := ["base", "exponent"]) (t := m_raised) hm F sc_raised (by decide) (by decide) fun cdv A outer s H E' N hc hr tk => ?_⟩
  have sc := sc_raised
  exact (dss_one (ds_ret (de_if (dt_cmp od_ge (db_var (pe_var (i := 1) rfl (Or.inl rfl))) (de_b (de_int))) (de_tup (da_cons (de_call (n := 2) (ps := ["base", "count"]) (sel := [.p 0, .p 1]) (φ := φ_int_power) (dds := []) k_int_power hc (hr.mono (by decide)) tk (cb0 F_int_power 2 [] _ fun _ _ _ _ _ _ us ws hl hw => match us, ws, hl, hw with | [_, _], [], _, _ => rfl) (fun _ _ _ => .nil) rfl (da_cons (de_var (pe_var (i := 0) rfl (Or.inl rfl))) (da_cons (de_var (pe_var (i := 1) rfl (Or.inl rfl))) da_nil))) (da_cons (de_int) da_nil))) (de_tup (da_cons (de_int) (da_cons (de_call (n := 2) (ps := ["base", "count"]) (sel := [.p 0, .p 1]) (φ := φ_int_power) (dds := []) k_int_power hc (hr.mono (by decide)) tk (cb0 F_int_power 2 [] _ fun _ _ _ _ _ _ us ws hl hw => match us, ws, hl, hw with | [_, _], [], _, _ => rfl) (fun _ _ _ => .nil) rfl (da_cons (de_var (pe_var (i := 0) rfl (Or.inl rfl))) (da_cons (de_neg (db_var (pe_var (i := 1) rfl (Or.inl rfl)))) da_nil))) da_nil))))))
abbrev s_ulp : Stmt := top 32
theorem sc_ulp : FnScope ["format", "number", "pair"] ["format", "number"] (defScope s_ulp) := ⟨rfl, rfl, rfl, by decide +kernel, rfl, by decide +kernel, by decide +kernel⟩
noncomputable def m_ulp : TDS := (sSeq (sDrop (aBind (aCons (dVar 0) aNil) fun ds => fits 1 ds (fits 1 (pick [.p 0] ds [] []) (dApp φ_need_format (pick [.p 0] ds [] []))))) (sSeq (sSet 2 (aBind (aCons (dVar 1) aNil) fun ds => fits 1 ds (fits 2 (pick [.p 0, .d 0] ds [.str "number"] []) (dApp φ_number_of (pick [.p 0, .d 0] ds [.str "number"] []))))) (sSeq (sIf (dBin (eqA false) (dPeek 2) (dC (.tup ([0, 1].map D.int)))) (sNever) sNext) (sRet (aBind (aCons (dUn (fldD TT "base") (dPeek 0)) (aCons (aBind (aCons (dUn (fldD TT "base") (dPeek 0)) (aCons (dUn (fldD TT "digits") (dPeek 0)) (aCons (dVar 2) aNil))) fun ds => fits 3 ds (fits 3 (pick [.p 0, .p 1, .p 2] ds [] []) (dApp φ_exponent_of (pick [.p 0, .p 1, .p 2] ds [] [])))) aNil)) fun ds => fits 2 ds (fits 2 (pick [.p 0, .p 1] ds [] []) (dApp φ_raised (pick [.p 0, .p 1] ds [] []))))))))
noncomputable def φ_ulp : DF := dFn 2 3 m_ulp
theorem ok_ulp (E : Fx K mg) (H : DfD K mg "ulp" s_ulp []) (H_need_format : DgD P w K mg base "need_format" s_need_format 1 ["value"] φ_need_format []) (H_number_of : DgD P w K mg base "number_of" s_number_of 3 ["value", "part"] φ_number_of [.str "number"]) (H_raised : DgD P w K mg base "raised" s_raised 2 ["base", "exponent"] φ_raised []) (H_exponent_of : DgD P w K mg base "exponent_of" s_exponent_of 3 ["base", "digits", "pair"] φ_exponent_of []) : DgD P w K mg base "ulp" s_ulp 4 ["format", "number"] φ_ulp [] := by
  obtain ⟨f, fd, F, hm⟩ := H
  obtain ⟨f_need_format, fd_need_format, F_need_format, k_need_format⟩ := H_need_format
  obtain ⟨f_number_of, fd_number_of, F_number_of, k_number_of⟩ := H_number_of
  obtain ⟨f_raised, fd_raised, F_raised, k_raised⟩ := H_raised
  obtain ⟨f_exponent_of, fd_exponent_of, F_exponent_of, k_exponent_of⟩ := H_exponent_of
  refine ⟨f, fd, F, def_of (Ns := ["format", "number", "pair"]) (ps := ["format", "number"]) (t := m_ulp) hm F sc_ulp (by decide) (by decide) fun cdv A outer s H E' N hc hr tk => ?_⟩
  have sc := sc_ulp
  exact (dss_cons (ds_expr (de_call (n := 1) (ps := ["value"]) (sel := [.p 0]) (φ := φ_need_format) (dds := []) k_need_format hc (hr.mono (by decide)) tk (cb0 F_need_format 1 [] _ fun _ _ _ _ _ _ us ws hl hw => match us, ws, hl, hw with | [_], [], _, _ => rfl) (fun _ _ _ => .nil) rfl (da_cons (de_var (pe_var (i := 0) rfl (Or.inl rfl))) da_nil))) (dss_cons (ds_set (ps_set (i := 2) sc.nd rfl (Or.inl rfl) (de_call (n := 1) (ps := ["value", "part"]) (sel := [.p 0, .d 0]) (φ := φ_number_of) (dds := [.str "number"]) k_number_of hc (hr.mono (by decide)) tk (cbD F_number_of 1 [] _ (by simp) fun T _ _ _ _ _ _ us its ws hl hi hw => match us, its, ws, hl, hi, hw with | [_], [_], [], _, _, _ => ⟨_, rfl, rfl⟩) (fun _ _ _ => (.cons (.str _) .nil)) rfl (da_cons (de_var (pe_var (i := 1) rfl (Or.inl rfl))) da_nil)))) (dss_cons (ds_if (dt_cmp (od_eqA hr.units) (db_var (pe_var (i := 2) rfl (Or.inl rfl))) (de_b (de_tup_glob E.c_NOTHING))) (dss_one (ds_never)) dss_nil) (dss_one (ds_ret (de_call (n := 2) (ps := ["base", "exponent"]) (sel := [.p 0, .p 1]) (φ := φ_raised) (dds := []) k_raised hc (hr.mono (by decide)) tk (cb0 F_raised 2 [] _ fun _ _ _ _ _ _ us ws hl hw => match us, ws, hl, hw with | [_, _], [], _, _ => rfl) (fun _ _ _ => .nil) rfl (da_cons (de_fld E.own (db_var (pe_var (i := 0) rfl (Or.inl rfl)))) (da_cons (de_call (n := 3) (ps := ["base", "digits", "pair"]) (sel := [.p 0, .p 1, .p 2]) (φ := φ_exponent_of) (dds := []) k_exponent_of hc (hr.mono (by decide)) tk (cb0 F_exponent_of 3 [] _ fun _ _ _ _ _ _ us ws hl hw => match us, ws, hl, hw with | [_, _, _], [], _, _ => rfl) (fun _ _ _ => .nil) rfl (da_cons (de_fld E.own (db_var (pe_var (i := 0) rfl (Or.inl rfl)))) (da_cons (de_fld E.own (db_var (pe_var (i := 0) rfl (Or.inl rfl)))) (da_cons (de_var (pe_var (i := 2) rfl (Or.inl rfl))) da_nil)))) da_nil))))))))
abbrev s_is_inside : Stmt := top 28
theorem sc_is_inside : FnScope ["form", "pair"] ["form", "pair"] (defScope s_is_inside) := ⟨rfl, rfl, rfl, by decide +kernel, rfl, by decide +kernel, by decide +kernel⟩
noncomputable def m_is_inside : TDS := (sSeq (sIf (dBin (eqA false) (dPeek 1) (dC (.tup ([0, 1].map D.int)))) (sRet (dC (.bl true))) sNext) (sRet (dBin (eqA false) (dBin ixD (aBind (aCons (dVar 1) (aCons (dUn (fldD TT "base") (dPeek 0)) (aCons (aBind (aCons (dUn (fldD TT "base") (dPeek 0)) (aCons (dUn (fldD TT "digits") (dPeek 0)) (aCons (dVar 1) aNil))) fun ds => fits 3 ds (fits 3 (pick [.p 0, .p 1, .p 2] ds [] []) (dApp φ_exponent_of (pick [.p 0, .p 1, .p 2] ds [] [])))) aNil))) fun ds => fits 3 ds (fits 3 (pick [.p 0, .p 1, .p 2] ds [] []) (dApp φ_scaled (pick [.p 0, .p 1, .p 2] ds [] [])))) (dC (.int 1))) (dC (.int 0)))))
noncomputable def φ_is_inside : DF := dFn 2 2 m_is_inside
theorem ok_is_inside (E : Fx K mg) (H : DfD K mg "is_inside" s_is_inside []) (H_scaled : DgD P w K mg base "scaled" s_scaled 2 ["pair", "base", "exponent"] φ_scaled []) (H_exponent_of : DgD P w K mg base "exponent_of" s_exponent_of 3 ["base", "digits", "pair"] φ_exponent_of []) : DgD P w K mg base "is_inside" s_is_inside 4 ["form", "pair"] φ_is_inside [] := by
  obtain ⟨f, fd, F, hm⟩ := H
  obtain ⟨f_scaled, fd_scaled, F_scaled, k_scaled⟩ := H_scaled
  obtain ⟨f_exponent_of, fd_exponent_of, F_exponent_of, k_exponent_of⟩ := H_exponent_of
  refine ⟨f, fd, F, def_of (Ns := ["form", "pair"]) (ps := ["form", "pair"]) (t := m_is_inside) hm F sc_is_inside (by decide) (by decide) fun cdv A outer s H E' N hc hr tk => ?_⟩
  have sc := sc_is_inside
  exact (dss_cons (ds_if (dt_cmp (od_eqA hr.units) (db_var (pe_var (i := 1) rfl (Or.inl rfl))) (de_b (de_tup_glob E.c_NOTHING))) (dss_one (ds_ret (de_bl))) dss_nil) (dss_one (ds_ret (de_cmp (od_eqA hr.units) (de_b (de_ix (de_b (de_call (n := 3) (ps := ["pair", "base", "exponent"]) (sel := [.p 0, .p 1, .p 2]) (φ := φ_scaled) (dds := []) k_scaled hc (hr.mono (by decide)) tk (cb0 F_scaled 3 [] _ fun _ _ _ _ _ _ us ws hl hw => match us, ws, hl, hw with | [_, _, _], [], _, _ => rfl) (fun _ _ _ => .nil) rfl (da_cons (de_var (pe_var (i := 1) rfl (Or.inl rfl))) (da_cons (de_fld E.own (db_var (pe_var (i := 0) rfl (Or.inl rfl)))) (da_cons (de_call (n := 3) (ps := ["base", "digits", "pair"]) (sel := [.p 0, .p 1, .p 2]) (φ := φ_exponent_of) (dds := []) k_exponent_of hc (hr.mono (by decide)) tk (cb0 F_exponent_of 3 [] _ fun _ _ _ _ _ _ us ws hl hw => match us, ws, hl, hw with | [_, _, _], [], _, _ => rfl) (fun _ _ _ => .nil) rfl (da_cons (de_fld E.own (db_var (pe_var (i := 0) rfl (Or.inl rfl)))) (da_cons (de_fld E.own (db_var (pe_var (i := 0) rfl (Or.inl rfl)))) (da_cons (de_var (pe_var (i := 1) rfl (Or.inl rfl))) da_nil)))) da_nil))))) (de_b (de_int)))) (de_b (de_int))))))
abbrev s_is_in : Stmt := top 30
theorem sc_is_in : FnScope ["format", "number"] ["format", "number"] (defScope s_is_in) := ⟨rfl, rfl, rfl, by decide +kernel, rfl, by decide +kernel, by decide +kernel⟩
noncomputable def m_is_in : TDS := (sSeq (sDrop (aBind (aCons (dVar 0) aNil) fun ds => fits 1 ds (fits 1 (pick [.p 0] ds [] []) (dApp φ_need_format (pick [.p 0] ds [] []))))) (sRet (aBind (aCons (dVar 0) (aCons (aBind (aCons (dVar 1) aNil) fun ds => fits 1 ds (fits 2 (pick [.p 0, .d 0] ds [.str "number"] []) (dApp φ_number_of (pick [.p 0, .d 0] ds [.str "number"] [])))) aNil)) fun ds => fits 2 ds (fits 2 (pick [.p 0, .p 1] ds [] []) (dApp φ_is_inside (pick [.p 0, .p 1] ds [] []))))))
noncomputable def φ_is_in : DF := dFn 2 2 m_is_in
theorem ok_is_in (E : Fx K mg) (H : DfD K mg "is_in" s_is_in []) (H_need_format : DgD P w K mg base "need_format" s_need_format 1 ["value"] φ_need_format []) (H_is_inside : DgD P w K mg base "is_inside" s_is_inside 4 ["form", "pair"] φ_is_inside []) (H_number_of : DgD P w K mg base "number_of" s_number_of 3 ["value", "part"] φ_number_of [.str "number"]) : DgD P w K mg base "is_in" s_is_in 5 ["format", "number"] φ_is_in [] := by
  obtain ⟨f, fd, F, hm⟩ := H
  obtain ⟨f_need_format, fd_need_format, F_need_format, k_need_format⟩ := H_need_format
  obtain ⟨f_is_inside, fd_is_inside, F_is_inside, k_is_inside⟩ := H_is_inside
  obtain ⟨f_number_of, fd_number_of, F_number_of, k_number_of⟩ := H_number_of
  refine ⟨f, fd, F, def_of (Ns := ["format", "number"]) (ps := ["format", "number"]) (t := m_is_in) hm F sc_is_in (by decide) (by decide) fun cdv A outer s H E' N hc hr tk => ?_⟩
  have sc := sc_is_in
  exact (dss_cons (ds_expr (de_call (n := 1) (ps := ["value"]) (sel := [.p 0]) (φ := φ_need_format) (dds := []) k_need_format hc (hr.mono (by decide)) tk (cb0 F_need_format 1 [] _ fun _ _ _ _ _ _ us ws hl hw => match us, ws, hl, hw with | [_], [], _, _ => rfl) (fun _ _ _ => .nil) rfl (da_cons (de_var (pe_var (i := 0) rfl (Or.inl rfl))) da_nil))) (dss_one (ds_ret (de_call (n := 2) (ps := ["form", "pair"]) (sel := [.p 0, .p 1]) (φ := φ_is_inside) (dds := []) k_is_inside hc (hr.mono (by decide)) tk (cb0 F_is_inside 2 [] _ fun _ _ _ _ _ _ us ws hl hw => match us, ws, hl, hw with | [_, _], [], _, _ => rfl) (fun _ _ _ => .nil) rfl (da_cons (de_var (pe_var (i := 0) rfl (Or.inl rfl))) (da_cons (de_call (n := 1) (ps := ["value", "part"]) (sel := [.p 0, .d 0]) (φ := φ_number_of) (dds := [.str "number"]) k_number_of hc (hr.mono (by decide)) tk (cbD F_number_of 1 [] _ (by simp) fun T _ _ _ _ _ _ us its ws hl hi hw => match us, its, ws, hl, hi, hw with | [_], [_], [], _, _, _ => ⟨_, rfl, rfl⟩) (fun _ _ _ => (.cons (.str _) .nil)) rfl (da_cons (de_var (pe_var (i := 1) rfl (Or.inl rfl))) da_nil)) da_nil))))))
abbrev s__law_cmp : Stmt := top 38
theorem sc__law_cmp : FnScope ["one", "other", "left", "right"] ["one", "other"] (defScope s__law_cmp) := ⟨rfl, rfl, rfl, by decide +kernel, rfl, by decide +kernel, by decide +kernel⟩
noncomputable def m__law_cmp : TDS := (sSeq (sPar 2 3 (aCons (dBin mulD (dBin ixD (dPeek 0) (dC (.int 0))) (dBin ixD (dPeek 1) (dC (.int 1)))) (aCons (dBin mulD (dBin ixD (dPeek 1) (dC (.int 0))) (dBin ixD (dPeek 0) (dC (.int 1)))) aNil))) (sRet (dBin subD (dUn intA (dBin gtD (dPeek 2) (dPeek 3))) (dUn intA (dBin ltD (dPeek 2) (dPeek 3))))))
noncomputable def φ__law_cmp : DF := dFn 2 4 m__law_cmp
theorem ok__law_cmp (E : Fx K mg) (H : DfD K mg "_law_cmp" s__law_cmp []) : DgD P w K mg base "_law_cmp" s__law_cmp 1 ["one", "other"] φ__law_cmp [] := by
  obtain ⟨f, fd, F, hm⟩ := H
  refine ⟨f, fd, F, def_of (Ns := ["one", "other", "left", "right"]) (ps := ["one", "other"]) (t := m__law_cmp) hm F sc__law_cmp (by decide) (by decide) fun cdv A outer s H E' N hc hr tk => ?_⟩
  have sc := sc__law_cmp
  exact (dss_cons (ds_par (ps_par (i := 2) (j := 3) rfl sc.nd rfl rfl (by decide) rfl rfl (da_cons (de_bin od_mulI (de_b (de_ix (db_var (pe_var (i := 0) rfl (Or.inl rfl))) (de_b (de_int)))) (de_b (de_ix (db_var (pe_var (i := 1) rfl (Or.inl rfl))) (de_b (de_int))))) (da_cons (de_bin od_mulI (de_b (de_ix (db_var (pe_var (i := 1) rfl (Or.inl rfl))) (de_b (de_int)))) (de_b (de_ix (db_var (pe_var (i := 0) rfl (Or.inl rfl))) (de_b (de_int))))) da_nil)) rfl)) (dss_one (ds_ret (de_bin od_sub (de_b (de_t1 c_int E.f_int (de_b (de_cmp od_gt (db_var (pe_var (i := 2) rfl (Or.inl rfl))) (db_var (pe_var (i := 3) rfl (Or.inl rfl))))))) (de_b (de_t1 c_int E.f_int (de_b (de_cmp od_lt (db_var (pe_var (i := 2) rfl (Or.inl rfl))) (db_var (pe_var (i := 3) rfl (Or.inl rfl)))))))))))
abbrev s__law_one_right : Stmt := top 45
theorem sc__law_one_right : FnScope ["one", "base", "digits", "pair", "exponent", "many", "is_inside_v", "ahead", "near", "far", "due", "told", "less", "turned", "each"] ["one", "base", "digits", "pair"] (defScope s__law_one_right) := ⟨rfl, rfl, rfl, by decide +kernel, rfl, by decide +kernel, by decide +kernel⟩
noncomputable def k0__law_one_right : TDE := dComp [14] (iBind (dUn revT (dPeek 11)) itemsD) (bName 14) dYes (dTup (aCons (dBin subD (dC (.int 0)) (dBin ixD (dPeek 14) (dC (.int 0)))) (aCons (dBin ixD (dPeek 14) (dC (.int 1))) aNil)))
noncomputable def m__law_one_right : TDS := (sSeq (sAsg (aBind (aCons (dVar 1) (aCons (dVar 2) (aCons (dVar 3) aNil))) fun ds => fits 3 ds (fits 3 (pick [.p 0, .p 1, .p 2] ds [] []) (dApp φ__law_sides (pick [.p 0, .p 1, .p 2] ds [] [])))) (bTup 3 (bCons (bName 4) (bCons (bName 5) (bCons (bName 6) bNil))))) (sSeq (sSet 7 (dIfE (dBin gtD (dBin ixD (dPeek 3) (dC (.int 0))) (dC (.int 0))) (dC (.int 1)) (dUn negD (dC (.int 1))))) (sSeq (sPar 8 9 (aCons (aBind (aCons (dBin mulD (dPeek 7) (dPeek 5)) (aCons (dVar 1) (aCons (dVar 4) aNil))) fun ds => fits 3 ds (fits 3 (pick [.p 0, .p 1, .p 2] ds [] []) (dApp φ__law_worth (pick [.p 0, .p 1, .p 2] ds [] [])))) (aCons (aBind (aCons (dBin mulD (dPeek 7) (dIfE (dTru (dPeek 6)) (dVar 5) (dBin addD (dPeek 5) (dC (.int 1))))) (aCons (dVar 1) (aCons (dVar 4) aNil))) fun ds => fits 3 ds (fits 3 (pick [.p 0, .p 1, .p 2] ds [] []) (dApp φ__law_worth (pick [.p 0, .p 1, .p 2] ds [] [])))) aNil))) (sSeq (sSet 10 (dIfE (dBin gtD (dPeek 7) (dC (.int 0))) (dTup (aCons (dVar 8) (aCons (dVar 9) aNil))) (dTup (aCons (dVar 9) (aCons (dVar 8) aNil))))) (sSeq (sSet 11 (aBind (aCons (dVar 0) (aCons (dVar 3) aNil)) fun ds => fits 2 ds (fits 2 (pick [.p 0, .p 1] ds [] []) (dApp φ_neighbours (pick [.p 0, .p 1] ds [] []))))) (sSeq (sIf (dBin (eqA true) (dUn reprD (dLst (aCons (aBind (aCons (dVar 0) (aCons (dVar 3) aNil)) fun ds => fits 2 ds (fits 2 (pick [.p 0, .p 1] ds [] []) (dApp φ_is_in (pick [.p 0, .p 1] ds [] [])))) (aCons (dVar 11) (aCons (aBind (aCons (dVar 0) (aCons (dVar 3) aNil)) fun ds => fits 2 ds (fits 2 (pick [.p 0, .p 1] ds [] []) (dApp φ_ulp (pick [.p 0, .p 1] ds [] [])))) aNil))))) (dUn reprD (dLst (aCons (dVar 6) (aCons (dVar 10) (aCons (aBind (aCons (dC (.int 1)) (aCons (dVar 1) (aCons (dVar 4) aNil))) fun ds => fits 3 ds (fits 3 (pick [.p 0, .p 1, .p 2] ds [] []) (dApp φ__law_worth (pick [.p 0, .p 1, .p 2] ds [] [])))) aNil)))))) (sRet (dC (.bl false))) sNext) (sSeq (sIf (dOrT (dBin gtD (aBind (aCons (dBin ixD (dPeek 11) (dC (.int 0))) (aCons (dVar 3) aNil)) fun ds => fits 2 ds (fits 2 (pick [.p 0, .p 1] ds [] []) (dApp φ__law_cmp (pick [.p 0, .p 1] ds [] [])))) (dC (.int 0))) (dOrT (dBin ltD (aBind (aCons (dBin ixD (dPeek 11) (dC (.int 1))) (aCons (dVar 3) aNil)) fun ds => fits 2 ds (fits 2 (pick [.p 0, .p 1] ds [] []) (dApp φ__law_cmp (pick [.p 0, .p 1] ds [] [])))) (dC (.int 0))) (dOrT (dBin (isA true) (aBind (aCons (dBin ixD (dPeek 11) (dC (.int 0))) (aCons (dVar 0) aNil)) fun bs => fits 2 bs (fits 2 (pick [.k 1, .k 0] [] [] bs) (dApp φ_is_in (pick [.k 1, .k 0] [] [] bs)))) (dC (.bl true))) (dBin (isA true) (aBind (aCons (dVar 0) (aCons (dBin ixD (dPeek 11) (dC (.int 1))) aNil)) fun ds => fits 2 ds (fits 2 (pick [.p 0, .p 1] ds [] []) (dApp φ_is_in (pick [.p 0, .p 1] ds [] [])))) (dC (.bl true)))))) (sRet (dC (.bl false))) sNext) (sSeq (sSet 12 (dTup (aCons (dBin subD (dC (.int 0)) (dBin ixD (dPeek 3) (dC (.int 0)))) (aCons (dBin ixD (dPeek 3) (dC (.int 1))) aNil)))) (sSeq (sSet 13 (dUn tupleD (k0__law_one_right))) (sRet (dBin (eqA false) (dUn reprD (dLst (aCons (aBind (aCons (dVar 12) (aCons (dVar 0) aNil)) fun bs => fits 2 bs (fits 2 (pick [.k 1, .k 0] [] [] bs) (dApp φ_neighbours (pick [.k 1, .k 0] [] [] bs)))) (aCons (aBind (aCons (dVar 0) (aCons (dVar 12) aNil)) fun ds => fits 2 ds (fits 2 (pick [.p 0, .p 1] ds [] []) (dApp φ_is_in (pick [.p 0, .p 1] ds [] [])))) (aCons (aBind (aCons (dVar 12) (aCons (dVar 0) aNil)) fun bs => fits 2 bs (fits 2 (pick [.k 1, .k 0] [] [] bs) (dApp φ_ulp (pick [.k 1, .k 0] [] [] bs)))) aNil))))) (dUn reprD (dLst (aCons (dVar 13) (aCons (dVar 6) (aCons (aBind (aCons (dVar 0) (aCons (dVar 3) aNil)) fun ds => fits 2 ds (fits 2 (pick [.p 0, .p 1] ds [] []) (dApp φ_ulp (pick [.p 0, .p 1] ds [] [])))) aNil))))))))))))))))
noncomputable def φ__law_one_right : DF := dFn 4 15 m__law_one_right
theorem ok__law_one_right (E : Fx K mg) (H : DfD K mg "_law_one_right" s__law_one_right []) (H__law_sides : DgD P w K mg base "_law_sides" s__law_sides 2 ["base", "digits", "pair"] φ__law_sides []) (H__law_worth : DgD P w K mg base "_law_worth" s__law_worth 2 ["many", "base", "exponent"] φ__law_worth []) (H_neighbours : DgD P w K mg base "neighbours" s_neighbours 5 ["format", "number"] φ_neighbours []) (H_ulp : DgD P w K mg base "ulp" s_ulp 4 ["format", "number"] φ_ulp []) (H_is_in : DgD P w K mg base "is_in" s_is_in 5 ["format", "number"] φ_is_in []) (H__law_cmp : DgD P w K mg base "_law_cmp" s__law_cmp 1 ["one", "other"] φ__law_cmp []) : DgD P w K mg base "_law_one_right" s__law_one_right 6 ["one", "base", "digits", "pair"] φ__law_one_right [] := by
  obtain ⟨f, fd, F, hm⟩ := H
  obtain ⟨f__law_sides, fd__law_sides, F__law_sides, k__law_sides⟩ := H__law_sides
  obtain ⟨f__law_worth, fd__law_worth, F__law_worth, k__law_worth⟩ := H__law_worth
  obtain ⟨f_neighbours, fd_neighbours, F_neighbours, k_neighbours⟩ := H_neighbours
  obtain ⟨f_ulp, fd_ulp, F_ulp, k_ulp⟩ := H_ulp
  obtain ⟨f_is_in, fd_is_in, F_is_in, k_is_in⟩ := H_is_in
  obtain ⟨f__law_cmp, fd__law_cmp, F__law_cmp, k__law_cmp⟩ := H__law_cmp
  refine ⟨f, fd, F, def_of (Ns := ["one", "base", "digits", "pair", "exponent", "many", "is_inside_v", "ahead", "near", "far", "due", "told", "less", "turned", "each"]) (ps := ["one", "base", "digits", "pair"]) (t := m__law_one_right) hm F sc__law_one_right (by decide) (by decide) fun cdv A outer s H E' N hc hr tk => ?_⟩
  have sc := sc__law_one_right
  exact (dss_cons (ds_asg (de_call (n := 3) (ps := ["base", "digits", "pair"]) (sel := [.p 0, .p 1, .p 2]) (φ := φ__law_sides) (dds := []) k__law_sides hc (hr.mono (by decide)) tk (cb0 F__law_sides 3 [] _ fun _ _ _ _ _ _ us ws hl hw => match us, ws, hl, hw with | [_, _, _], [], _, _ => rfl) (fun _ _ _ => .nil) rfl (da_cons (de_var (pe_var (i := 1) rfl (Or.inl rfl))) (da_cons (de_var (pe_var (i := 2) rfl (Or.inl rfl))) (da_cons (de_var (pe_var (i := 3) rfl (Or.inl rfl))) da_nil)))) (dg_tup rfl (dgs_cons (dg_name (pg_name (i := 4) sc.nd rfl (Or.inl rfl))) (dgs_cons (dg_name (pg_name (i := 5) sc.nd rfl (Or.inl rfl))) (dgs_cons (dg_name (pg_name (i := 6) sc.nd rfl (Or.inl rfl))) dgs_nil))))) (dss_cons (ds_set (ps_set (i := 7) sc.nd rfl (Or.inl rfl) (de_if (dt_cmp od_gt (de_b (de_ix (db_var (pe_var (i := 3) rfl (Or.inl rfl))) (de_b (de_int)))) (de_b (de_int))) (de_int) (de_neg (de_b (de_int)))))) (dss_cons (ds_par (ps_par (i := 8) (j := 9) rfl sc.nd rfl rfl (by decide) rfl rfl (da_cons (de_call (n := 3) (ps := ["many", "base", "exponent"]) (sel := [.p 0, .p 1, .p 2]) (φ := φ__law_worth) (dds := []) k__law_worth hc (hr.mono (by decide)) tk (cb0 F__law_worth 3 [] _ fun _ _ _ _ _ _ us ws hl hw => match us, ws, hl, hw with | [_, _, _], [], _, _ => rfl) (fun _ _ _ => .nil) rfl (da_cons (de_bin od_mulI (db_var (pe_var (i := 7) rfl (Or.inl rfl))) (db_var (pe_var (i := 5) rfl (Or.inl rfl)))) (da_cons (de_var (pe_var (i := 1) rfl (Or.inl rfl))) (da_cons (de_var (pe_var (i := 4) rfl (Or.inl rfl))) da_nil)))) (da_cons (de_call (n := 3) (ps := ["many", "base", "exponent"]) (sel := [.p 0, .p 1, .p 2]) (φ := φ__law_worth) (dds := []) k__law_worth hc (hr.mono (by decide)) tk (cb0 F__law_worth 3 [] _ fun _ _ _ _ _ _ us ws hl hw => match us, ws, hl, hw with | [_, _, _], [], _, _ => rfl) (fun _ _ _ => .nil) rfl (da_cons (de_bin od_mulI (db_var (pe_var (i := 7) rfl (Or.inl rfl))) (de_b (de_if (dt_truth (db_var (pe_var (i := 6) rfl (Or.inl rfl)))) (de_var (pe_var (i := 5) rfl (Or.inl rfl))) (de_bin od_add (db_var (pe_var (i := 5) rfl (Or.inl rfl))) (de_b (de_int)))))) (da_cons (de_var (pe_var (i := 1) rfl (Or.inl rfl))) (da_cons (de_var (pe_var (i := 4) rfl (Or.inl rfl))) da_nil)))) da_nil)) rfl)) (dss_cons (ds_set (ps_set (i := 10) sc.nd rfl (Or.inl rfl) (de_if (dt_cmp od_gt (db_var (pe_var (i := 7) rfl (Or.inl rfl))) (de_b (de_int))) (de_tup (da_cons (de_var (pe_var (i := 8) rfl (Or.inl rfl))) (da_cons (de_var (pe_var (i := 9) rfl (Or.inl rfl))) da_nil))) (de_tup (da_cons (de_var (pe_var (i := 9) rfl (Or.inl rfl))) (da_cons (de_var (pe_var (i := 8) rfl (Or.inl rfl))) da_nil)))))) (dss_cons (ds_set (ps_set (i := 11) sc.nd rfl (Or.inl rfl) (de_call (n := 2) (ps := ["format", "number"]) (sel := [.p 0, .p 1]) (φ := φ_neighbours) (dds := []) k_neighbours hc (hr.mono (by decide)) tk (cb0 F_neighbours 2 [] _ fun _ _ _ _ _ _ us ws hl hw => match us, ws, hl, hw with | [_, _], [], _, _ => rfl) (fun _ _ _ => .nil) rfl (da_cons (de_var (pe_var (i := 0) rfl (Or.inl rfl))) (da_cons (de_var (pe_var (i := 3) rfl (Or.inl rfl))) da_nil))))) (dss_cons (ds_if (dt_cmp (od_neA hr.units) (de_b (de_b1 (c_repr hr.units hc) E.f_repr (de_b (de_lst (da_cons (de_call (n := 2) (ps := ["format", "number"]) (sel := [.p 0, .p 1]) (φ := φ_is_in) (dds := []) k_is_in hc (hr.mono (by decide)) tk (cb0 F_is_in 2 [] _ fun _ _ _ _ _ _ us ws hl hw => match us, ws, hl, hw with | [_, _], [], _, _ => rfl) (fun _ _ _ => .nil) rfl (da_cons (de_var (pe_var (i := 0) rfl (Or.inl rfl))) (da_cons (de_var (pe_var (i := 3) rfl (Or.inl rfl))) da_nil))) (da_cons (de_var (pe_var (i := 11) rfl (Or.inl rfl))) (da_cons (de_call (n := 2) (ps := ["format", "number"]) (sel := [.p 0, .p 1]) (φ := φ_ulp) (dds := []) k_ulp hc (hr.mono (by decide)) tk (cb0 F_ulp 2 [] _ fun _ _ _ _ _ _ us ws hl hw => match us, ws, hl, hw with | [_, _], [], _, _ => rfl) (fun _ _ _ => .nil) rfl (da_cons (de_var (pe_var (i := 0) rfl (Or.inl rfl))) (da_cons (de_var (pe_var (i := 3) rfl (Or.inl rfl))) da_nil))) da_nil))))))) (de_b (de_b1 (c_repr hr.units hc) E.f_repr (de_b (de_lst (da_cons (de_var (pe_var (i := 6) rfl (Or.inl rfl))) (da_cons (de_var (pe_var (i := 10) rfl (Or.inl rfl))) (da_cons (de_call (n := 3) (ps := ["many", "base", "exponent"]) (sel := [.p 0, .p 1, .p 2]) (φ := φ__law_worth) (dds := []) k__law_worth hc (hr.mono (by decide)) tk (cb0 F__law_worth 3 [] _ fun _ _ _ _ _ _ us ws hl hw => match us, ws, hl, hw with | [_, _, _], [], _, _ => rfl) (fun _ _ _ => .nil) rfl (da_cons (de_int) (da_cons (de_var (pe_var (i := 1) rfl (Or.inl rfl))) (da_cons (de_var (pe_var (i := 4) rfl (Or.inl rfl))) da_nil)))) da_nil)))))))) (dss_one (ds_ret (de_bl))) dss_nil) (dss_cons (ds_if (dw_t (dw_or (dt_cmp od_gt (de_b (de_call (n := 2) (ps := ["one", "other"]) (sel := [.p 0, .p 1]) (φ := φ__law_cmp) (dds := []) k__law_cmp hc (hr.mono (by decide)) tk (cb0 F__law_cmp 2 [] _ fun _ _ _ _ _ _ us ws hl hw => match us, ws, hl, hw with | [_, _], [], _, _ => rfl) (fun _ _ _ => .nil) rfl (da_cons (de_ix (db_var (pe_var (i := 11) rfl (Or.inl rfl))) (de_b (de_int))) (da_cons (de_var (pe_var (i := 3) rfl (Or.inl rfl))) da_nil)))) (de_b (de_int))) (dw_or (dt_cmp od_lt (de_b (de_call (n := 2) (ps := ["one", "other"]) (sel := [.p 0, .p 1]) (φ := φ__law_cmp) (dds := []) k__law_cmp hc (hr.mono (by decide)) tk (cb0 F__law_cmp 2 [] _ fun _ _ _ _ _ _ us ws hl hw => match us, ws, hl, hw with | [_, _], [], _, _ => rfl) (fun _ _ _ => .nil) rfl (da_cons (de_ix (db_var (pe_var (i := 11) rfl (Or.inl rfl))) (de_b (de_int))) (da_cons (de_var (pe_var (i := 3) rfl (Or.inl rfl))) da_nil)))) (de_b (de_int))) (dw_or (dt_cmp od_not (de_b (de_callK0 (ps := ["format", "number"]) (ks := ["number", "format"]) (sel := [.k 1, .k 0]) (φ := φ_is_in) (dds := []) k_is_in hc (hr.mono (by decide)) tk (cb0 F_is_in 0 ["number", "format"] _ fun _ _ _ _ _ _ us ws hl hw => match us, ws, hl, hw with | [], [_, _], _, _ => rfl) (fun _ _ _ => .nil) (dk_cons (de_ix (db_var (pe_var (i := 11) rfl (Or.inl rfl))) (de_b (de_int))) (dk_cons (de_var (pe_var (i := 0) rfl (Or.inl rfl))) dk_nil)))) (de_b (de_bl))) (dw_or1 (dt_cmp od_not (de_b (de_call (n := 2) (ps := ["format", "number"]) (sel := [.p 0, .p 1]) (φ := φ_is_in) (dds := []) k_is_in hc (hr.mono (by decide)) tk (cb0 F_is_in 2 [] _ fun _ _ _ _ _ _ us ws hl hw => match us, ws, hl, hw with | [_, _], [], _, _ => rfl) (fun _ _ _ => .nil) rfl (da_cons (de_var (pe_var (i := 0) rfl (Or.inl rfl))) (da_cons (de_ix (db_var (pe_var (i := 11) rfl (Or.inl rfl))) (de_b (de_int))) da_nil)))) (de_b (de_bl)))))))) (dss_one (ds_ret (de_bl))) dss_nil) (dss_cons (ds_set (ps_set (i := 12) sc.nd rfl (Or.inl rfl) (de_tup (da_cons (de_bin od_sub (de_b (de_int)) (de_b (de_ix (db_var (pe_var (i := 3) rfl (Or.inl rfl))) (de_b (de_int))))) (da_cons (de_ix (db_var (pe_var (i := 3) rfl (Or.inl rfl))) (de_b (de_int))) da_nil))))) (dss_cons (ds_set (ps_set (i := 13) sc.nd rfl (Or.inl rfl) (de_t1 c_tuple E.f_tuple (de_b (de_lc (N := N) (own := [("each", 14)]) rfl sc.nd (di_seq (de_rev (db_var (pe_var (i := 11) rfl (Or.inl rfl))))) (blkOk_by (own := [("each", 14)]) (N := ["one", "base", "digits", "pair", "exponent", "many", "is_inside_v", "ahead", "near", "far", "due", "told", "less", "turned", "each"]) (sc := defScope s__law_one_right) (by decide +kernel)) (gok_name (by decide)) (fun _ _ _ _ _ => (pg_name (i := 14) sc.nd rfl (Or.inl rfl))) (fun _ _ _ _ _ => pts_nil) tYes_of (fun _ _ _ _ _ => (de_tup (da_cons (de_bin od_sub (de_b (de_int)) (de_b (de_ix (db_var (pe_var (i := 14) rfl (Or.inl rfl))) (de_b (de_int))))) (da_cons (de_ix (db_var (pe_var (i := 14) rfl (Or.inl rfl))) (de_b (de_int))) da_nil))))))))) (dss_one (ds_ret (de_cmp (od_eqA hr.units) (de_b (de_b1 (c_repr hr.units hc) E.f_repr (de_b (de_lst (da_cons (de_callK0 (ps := ["format", "number"]) (ks := ["number", "format"]) (sel := [.k 1, .k 0]) (φ := φ_neighbours) (dds := []) k_neighbours hc (hr.mono (by decide)) tk (cb0 F_neighbours 0 ["number", "format"] _ fun _ _ _ _ _ _ us ws hl hw => match us, ws, hl, hw with | [], [_, _], _, _ => rfl) (fun _ _ _ => .nil) (dk_cons (de_var (pe_var (i := 12) rfl (Or.inl rfl))) (dk_cons (de_var (pe_var (i := 0) rfl (Or.inl rfl))) dk_nil))) (da_cons (de_call (n := 2) (ps := ["format", "number"]) (sel := [.p 0, .p 1]) (φ := φ_is_in) (dds := []) k_is_in hc (hr.mono (by decide)) tk (cb0 F_is_in 2 [] _ fun _ _ _ _ _ _ us ws hl hw => match us, ws, hl, hw with | [_, _], [], _, _ => rfl) (fun _ _ _ => .nil) rfl (da_cons (de_var (pe_var (i := 0) rfl (Or.inl rfl))) (da_cons (de_var (pe_var (i := 12) rfl (Or.inl rfl))) da_nil))) (da_cons (de_callK0 (ps := ["format", "number"]) (ks := ["number", "format"]) (sel := [.k 1, .k 0]) (φ := φ_ulp) (dds := []) k_ulp hc (hr.mono (by decide)) tk (cb0 F_ulp 0 ["number", "format"] _ fun _ _ _ _ _ _ us ws hl hw => match us, ws, hl, hw with | [], [_, _], _, _ => rfl) (fun _ _ _ => .nil) (dk_cons (de_var (pe_var (i := 12) rfl (Or.inl rfl))) (dk_cons (de_var (pe_var (i := 0) rfl (Or.inl rfl))) dk_nil))) da_nil))))))) (de_b (de_b1 (c_repr hr.units hc) E.f_repr (de_b (de_lst (da_cons (de_var (pe_var (i := 13) rfl (Or.inl rfl))) (da_cons (de_var (pe_var (i := 6) rfl (Or.inl rfl))) (da_cons (de_call (n := 2) (ps := ["format", "number"]) (sel := [.p 0, .p 1]) (φ := φ_ulp) (dds := []) k_ulp hc (hr.mono (by decide)) tk (cb0 F_ulp 2 [] _ fun _ _ _ _ _ _ us ws hl hw => match us, ws, hl, hw with | [_, _], [], _, _ => rfl) (fun _ _ _ => .nil) rfl (da_cons (de_var (pe_var (i := 0) rfl (Or.inl rfl))) (da_cons (de_var (pe_var (i := 3) rfl (Or.inl rfl))) da_nil))) da_nil)))))))))))))))))))
abbrev s_law : Stmt := top 46
theorem sc_law : FnScope ["script", "pen", "turn", "base", "digits", "one", "lap", "pair", "count", "power", "moved", "told", "later", "most", "each"] ["script"] (defScope s_law) := ⟨rfl, rfl, rfl, by decide +kernel, rfl, by decide +kernel, by decide +kernel⟩
noncomputable def s0_law : TDA := (iRange1 (dC (.int 6)))
noncomputable def s1_law : TDA := (iRange1 (dC (.int 3)))
noncomputable def k0_law : TDE := dComp [14] (iBind (dVar 11) itemsD) (bName 14) dYes (aBind (aCons (dBin mulD (dBin ixD (dPeek 14) (dC (.int 0))) (dBin ixD (dPeek 9) (dC (.int 0)))) (aCons (dBin mulD (dBin ixD (dPeek 14) (dC (.int 1))) (dBin ixD (dPeek 9) (dC (.int 1)))) aNil)) fun ds => fits 2 ds (fits 2 (pick [.p 0, .p 1] ds [] []) (dApp φ__law_low (pick [.p 0, .p 1] ds [] []))))
noncomputable def b1_law : TDS := (sSeq (sSet 7 (aBind (aCons (dVar 1) (aCons (dVar 3) (aCons (dVar 4) aNil))) fun ds => fits 3 ds (fits 3 (pick [.p 0, .p 1, .p 2] ds [] []) (dApp φ__law_near_some (pick [.p 0, .p 1, .p 2] ds [] []))))) (sSeq (sIf (dBin (eqA false) (dBin ixD (dPeek 7) (dC (.int 0))) (dC (.int 0))) (sSet 7 (dTup (aCons (dC (.int 1)) (aCons (dC (.int 7)) aNil)))) sNext) (sSeq (sIf (dNot (dTru (aBind (aCons (dVar 5) (aCons (dVar 3) (aCons (dVar 4) (aCons (dVar 7) aNil)))) fun ds => fits 4 ds (fits 4 (pick [.p 0, .p 1, .p 2, .p 3] ds [] []) (dApp φ__law_one_right (pick [.p 0, .p 1, .p 2, .p 3] ds [] [])))))) (sRet (dC (.bl false))) sNext) (sSeq (sSet 8 (dBin subD (aBind (aCons (dVar 1) (aCons (dC (.int 40)) aNil)) fun ds => fits 2 ds (fits 2 (pick [.p 0, .p 1] ds [] []) (dApp φ__law_draw (pick [.p 0, .p 1] ds [] [])))) (dC (.int 20)))) (sSeq (sSet 9 (aBind (aCons (dVar 3) (aCons (dVar 8) aNil)) fun ds => fits 2 ds (fits 2 (pick [.p 0, .p 1] ds [] []) (dApp φ__law_raised (pick [.p 0, .p 1] ds [] []))))) (sSeq (sSet 9 (dIfE (dBin geD (dPeek 8) (dC (.int 0))) (dVar 9) (dTup (aCons (dC (.int 1)) (aCons (dBin ixD (dPeek 9) (dC (.int 1))) aNil))))) (sSeq (sSet 10 (aBind (aCons (dBin mulD (dBin ixD (dPeek 7) (dC (.int 0))) (dBin ixD (dPeek 9) (dC (.int 0)))) (aCons (dBin mulD (dBin ixD (dPeek 7) (dC (.int 1))) (dBin ixD (dPeek 9) (dC (.int 1)))) aNil)) fun ds => fits 2 ds (fits 2 (pick [.p 0, .p 1] ds [] []) (dApp φ__law_low (pick [.p 0, .p 1] ds [] []))))) (sSeq (sPar 11 12 (aCons (aBind (aCons (dVar 5) (aCons (dVar 7) aNil)) fun ds => fits 2 ds (fits 2 (pick [.p 0, .p 1] ds [] []) (dApp φ_neighbours (pick [.p 0, .p 1] ds [] [])))) (aCons (aBind (aCons (dVar 5) (aCons (dVar 10) aNil)) fun ds => fits 2 ds (fits 2 (pick [.p 0, .p 1] ds [] []) (dApp φ_neighbours (pick [.p 0, .p 1] ds [] [])))) aNil))) (sIf (dOrT (dBin (eqA true) (dPeek 12) (dUn tupleD (k0_law))) (dBin (eqA true) (aBind (aCons (dVar 5) (aCons (dVar 10) aNil)) fun ds => fits 2 ds (fits 2 (pick [.p 0, .p 1] ds [] []) (dApp φ_is_in (pick [.p 0, .p 1] ds [] [])))) (aBind (aCons (dVar 5) (aCons (dVar 7) aNil)) fun ds => fits 2 ds (fits 2 (pick [.p 0, .p 1] ds [] []) (dApp φ_is_in (pick [.p 0, .p 1] ds [] [])))))) (sRet (dC (.bl false))) sNext)))))))))
noncomputable def b0_law : TDS := (sSeq (sAsg (aBind (aCons (dVar 1) aNil) fun ds => fits 1 ds (fits 1 (pick [.p 0] ds [] []) (dApp φ__law_sizes (pick [.p 0] ds [] [])))) (bTup 2 (bCons (bName 3) (bCons (bName 4) bNil)))) (sSeq (sSet 5 (aBind (aCons (dVar 3) (aCons (dVar 4) aNil)) fun ds => fits 2 ds (fits 2 (pick [.p 0, .p 1] ds [] []) (dInit "Format" φ_Format_init (pick [.p 0, .p 1] ds [] []))))) (sSeq (sFor s1_law (bName 6) b1_law) (sSeq (sIf (dBin (eqA true) (dUn reprD (dLst (aCons (aBind (aCons (dVar 5) (aCons (dC (.int 0)) aNil)) fun ds => fits 2 ds (fits 2 (pick [.p 0, .p 1] ds [] []) (dApp φ_is_in (pick [.p 0, .p 1] ds [] [])))) (aCons (aBind (aCons (dVar 5) (aCons (dC (.int 0)) aNil)) fun ds => fits 2 ds (fits 2 (pick [.p 0, .p 1] ds [] []) (dApp φ_neighbours (pick [.p 0, .p 1] ds [] [])))) (aCons (aBind (aCons (dVar 5) (aCons (dTup (aCons (dC (.int 0)) (aCons (dC (.int 5)) aNil))) aNil)) fun ds => fits 2 ds (fits 2 (pick [.p 0, .p 1] ds [] []) (dApp φ_is_in (pick [.p 0, .p 1] ds [] [])))) (aCons (aBind (aCons (dVar 5) (aCons (dVar 3) aNil)) fun ds => fits 2 ds (fits 2 (pick [.p 0, .p 1] ds [] []) (dApp φ_is_in (pick [.p 0, .p 1] ds [] [])))) (aCons (aBind (aCons (dVar 5) (aCons (dC (.int 1)) aNil)) fun ds => fits 2 ds (fits 2 (pick [.p 0, .p 1] ds [] []) (dApp φ_is_in (pick [.p 0, .p 1] ds [] [])))) aNil))))))) (dUn reprD (dLst (aCons (dC (.bl true)) (aCons (dTup (aCons (dTup (aCons (dC (.int 0)) (aCons (dC (.int 1)) aNil))) (aCons (dTup (aCons (dC (.int 0)) (aCons (dC (.int 1)) aNil))) aNil))) (aCons (dC (.bl true)) (aCons (dC (.bl true)) (aCons (dC (.bl true)) aNil)))))))) (sRet (dC (.bl false))) sNext) (sSeq (sSet 13 (dBin ixD (aBind (aCons (dVar 3) (aCons (dVar 4) aNil)) fun ds => fits 2 ds (fits 2 (pick [.p 0, .p 1] ds [] []) (dApp φ__law_raised (pick [.p 0, .p 1] ds [] [])))) (dC (.int 0)))) (sIf (dBin (eqA true) (dLst (aCons (aBind (aCons (dVar 5) (aCons (dBin subD (dPeek 13) (dC (.int 1))) aNil)) fun ds => fits 2 ds (fits 2 (pick [.p 0, .p 1] ds [] []) (dApp φ_is_in (pick [.p 0, .p 1] ds [] [])))) (aCons (aBind (aCons (dVar 5) (aCons (dBin addD (dPeek 13) (dC (.int 1))) aNil)) fun ds => fits 2 ds (fits 2 (pick [.p 0, .p 1] ds [] []) (dApp φ_is_in (pick [.p 0, .p 1] ds [] [])))) (aCons (aBind (aCons (dVar 5) (aCons (dVar 13) aNil)) fun ds => fits 2 ds (fits 2 (pick [.p 0, .p 1] ds [] []) (dApp φ_is_in (pick [.p 0, .p 1] ds [] [])))) aNil)))) (dLst (aCons (dC (.bl true)) (aCons (dC (.bl false)) (aCons (dC (.bl true)) aNil))))) (sRet (dC (.bl false))) sNext))))))
noncomputable def m_law : TDS := (sSeq (sSet 1 (aBind (aCons (dVar 0) aNil) fun ds => fits 1 ds (fits 1 (pick [.p 0] ds [] []) (dApp φ__law_pen (pick [.p 0] ds [] []))))) (sSeq (sFor s0_law (bName 2) b0_law) (sRet (dC (.bl true)))))
noncomputable def φ_law : DF := dFn 1 15 m_law
theorem ok_law (E : Fx K mg) {f : Addr} {fd : FuncData} (F : FunD K "law" "law" (defArgs s_law) (defBody s_law) (defScope s_law) [] [] f fd) (hm : mg "law" = some (.ref f)) (H__law_pen : DgD P w K mg base "_law_pen" s__law_pen 1 ["script"] φ__law_pen []) (H__law_sizes : DgD P w K mg base "_law_sizes" s__law_sizes 3 ["pen"] φ__law_sizes []) (H_Format_init : Di P w K mg base "Format" "Format.__init__" s_Format_init 3 ["self", "base", "digits"] φ_Format_init) (H__law_near_some : DgD P w K mg base "_law_near_some" s__law_near_some 4 ["pen", "base", "digits"] φ__law_near_some []) (H__law_one_right : DgD P w K mg base "_law_one_right" s__law_one_right 6 ["one", "base", "digits", "pair"] φ__law_one_right []) (H__law_draw : DgD P w K mg base "_law_draw" s__law_draw 1 ["pen", "many"] φ__law_draw []) (H__law_raised : DgD P w K mg base "_law_raised" s__law_raised 1 ["base", "count"] φ__law_raised []) (H__law_low : DgD P w K mg base "_law_low" s__law_low 1 ["top", "bottom"] φ__law_low []) (H_neighbours : DgD P w K mg base "neighbours" s_neighbours 5 ["format", "number"] φ_neighbours []) (H_is_in : DgD P w K mg base "is_in" s_is_in 5 ["format", "number"] φ_is_in []) : Fk P w K mg base "law" 7 f fd ["script"] φ_law := by
  obtain ⟨f__law_pen, fd__law_pen, F__law_pen, k__law_pen⟩ := H__law_pen
  obtain ⟨f__law_sizes, fd__law_sizes, F__law_sizes, k__law_sizes⟩ := H__law_sizes
  obtain ⟨C_Format, f_Format_init, fd_Format_init, F_Format, k_Format⟩ := H_Format_init
  obtain ⟨f__law_near_some, fd__law_near_some, F__law_near_some, k__law_near_some⟩ := H__law_near_some
  obtain ⟨f__law_one_right, fd__law_one_right, F__law_one_right, k__law_one_right⟩ := H__law_one_right
  obtain ⟨f__law_draw, fd__law_draw, F__law_draw, k__law_draw⟩ := H__law_draw
  obtain ⟨f__law_raised, fd__law_raised, F__law_raised, k__law_raised⟩ := H__law_raised
  obtain ⟨f__law_low, fd__law_low, F__law_low, k__law_low⟩ := H__law_low
  obtain ⟨f_neighbours, fd_neighbours, F_neighbours, k_neighbours⟩ := H_neighbours
  obtain ⟨f_is_in, fd_is_in, F_is_in, k_is_in⟩ := H_is_in
  refine def_of (Ns := ["script", "pen", "turn", "base", "digits", "one", "lap", "pair", "count", "power", "moved", "told", "later", "most", "each"]) (ps := ["script"]) (t := m_law) hm F sc_law (by decide) (by decide) fun cdv A outer s H E' N hc hr tk => ?_
  have sc := sc_law
  exact (dss_cons (ds_set (ps_set (i := 1) sc.nd rfl (Or.inl rfl) (de_call (n := 1) (ps := ["script"]) (sel := [.p 0]) (φ := φ__law_pen) (dds := []) k__law_pen hc (hr.mono (by decide)) tk (cb0 F__law_pen 1 [] _ fun _ _ _ _ _ _ us ws hl hw => match us, ws, hl, hw with | [_], [], _, _ => rfl) (fun _ _ _ => .nil) rfl (da_cons (de_var (pe_var (i := 0) rfl (Or.inl rfl))) da_nil)))) (dss_cons (ds_for (passes_of rfl) rfl (di_range1 E.f_range (de_int)) (dg_name (pg_name (i := 2) sc.nd rfl (Or.inl rfl))) (dss_cons (ds_asg (de_call (n := 1) (ps := ["pen"]) (sel := [.p 0]) (φ := φ__law_sizes) (dds := []) k__law_sizes hc (hr.mono (by decide)) tk (cb0 F__law_sizes 1 [] _ fun _ _ _ _ _ _ us ws hl hw => match us, ws, hl, hw with | [_], [], _, _ => rfl) (fun _ _ _ => .nil) rfl (da_cons (de_var (pe_var (i := 1) rfl (Or.inl rfl))) da_nil)) (dg_tup rfl (dgs_cons (dg_name (pg_name (i := 3) sc.nd rfl (Or.inl rfl))) (dgs_cons (dg_name (pg_name (i := 4) sc.nd rfl (Or.inl rfl))) dgs_nil)))) (dss_cons (ds_set (ps_set (i := 5) sc.nd rfl (Or.inl rfl) (de_make (n := 2) (ps := ["self", "base", "digits"]) (sel := [.p 0, .p 1]) (φ := φ_Format_init) (dds := []) k_Format hc (hr.mono (by decide)) tk (cb0 F_Format 3 [] _ fun _ _ _ _ _ _ us ws hl hw => match us, ws, hl, hw with | [_, _, _], [], _, _ => rfl) (fun _ _ _ => .nil) (da_cons (de_var (pe_var (i := 3) rfl (Or.inl rfl))) (da_cons (de_var (pe_var (i := 4) rfl (Or.inl rfl))) da_nil))))) (dss_cons (ds_for (passes_of rfl) rfl (di_range1 E.f_range (de_int)) (dg_name (pg_name (i := 6) sc.nd rfl (Or.inl rfl))) (dss_cons (ds_set (ps_set (i := 7) sc.nd rfl (Or.inl rfl) (de_call (n := 3) (ps := ["pen", "base", "digits"]) (sel := [.p 0, .p 1, .p 2]) (φ := φ__law_near_some) (dds := []) k__law_near_some hc (hr.mono (by decide)) tk (cb0 F__law_near_some 3 [] _ fun _ _ _ _ _ _ us ws hl hw => match us, ws, hl, hw with | [_, _, _], [], _, _ => rfl) (fun _ _ _ => .nil) rfl (da_cons (de_var (pe_var (i := 1) rfl (Or.inl rfl))) (da_cons (de_var (pe_var (i := 3) rfl (Or.inl rfl))) (da_cons (de_var (pe_var (i := 4) rfl (Or.inl rfl))) da_nil)))))) (dss_cons (ds_if (dt_cmp (od_eqA hr.units) (de_b (de_ix (db_var (pe_var (i := 7) rfl (Or.inl rfl))) (de_b (de_int)))) (de_b (de_int))) (dss_one (ds_set (ps_set (i := 7) sc.nd rfl (Or.inl rfl) (de_tup (da_cons (de_int) (da_cons (de_int) da_nil)))))) dss_nil) (dss_cons (ds_if (dt_not (dt_truth (de_b (de_call (n := 4) (ps := ["one", "base", "digits", "pair"]) (sel := [.p 0, .p 1, .p 2, .p 3]) (φ := φ__law_one_right) (dds := []) k__law_one_right hc (hr.mono (by decide)) tk (cb0 F__law_one_right 4 [] _ fun _ _ _ _ _ _ us ws hl hw => match us, ws, hl, hw with | [_, _, _, _], [], _, _ => rfl) (fun _ _ _ => .nil) rfl (da_cons (de_var (pe_var (i := 5) rfl (Or.inl rfl))) (da_cons (de_var (pe_var (i := 3) rfl (Or.inl rfl))) (da_cons (de_var (pe_var (i := 4) rfl (Or.inl rfl))) (da_cons (de_var (pe_var (i := 7) rfl (Or.inl rfl))) da_nil)))))))) (dss_one (ds_ret (de_bl))) dss_nil) (dss_cons (ds_set (ps_set (i := 8) sc.nd rfl (Or.inl rfl) (de_bin od_sub (de_b (de_call (n := 2) (ps := ["pen", "many"]) (sel := [.p 0, .p 1]) (φ := φ__law_draw) (dds := []) k__law_draw hc (hr.mono (by decide)) tk (cb0 F__law_draw 2 [] _ fun _ _ _ _ _ _ us ws hl hw => match us, ws, hl, hw with | [_, _], [], _, _ => rfl) (fun _ _ _ => .nil) rfl (da_cons (de_var (pe_var (i := 1) rfl (Or.inl rfl))) (da_cons (de_int) da_nil)))) (de_b (de_int))))) (dss_cons (ds_set (ps_set (i := 9) sc.nd rfl (Or.inr rfl) (de_call (n := 2) (ps := ["base", "count"]) (sel := [.p 0, .p 1]) (φ := φ__law_raised) (dds := []) k__law_raised hc (hr.mono (by decide)) tk (cb0 F__law_raised 2 [] _ fun _ _ _ _ _ _ us ws hl hw => match us, ws, hl, hw with | [_, _], [], _, _ => rfl) (fun _ _ _ => .nil) rfl (da_cons (de_var (pe_var (i := 3) rfl (Or.inl rfl))) (da_cons (de_var (pe_var (i := 8) rfl (Or.inl rfl))) da_nil))))) (dss_cons (ds_set (ps_set (i := 9) sc.nd rfl (Or.inr rfl) (de_if (dt_cmp od_ge (db_var (pe_var (i := 8) rfl (Or.inl rfl))) (de_b (de_int))) (de_var (pe_var (i := 9) rfl (Or.inr (Or.inl rfl)))) (de_tup (da_cons (de_int) (da_cons (de_ix (db_var (pe_var (i := 9) rfl (Or.inr (Or.inl rfl)))) (de_b (de_int))) da_nil)))))) (dss_cons (ds_set (ps_set (i := 10) sc.nd rfl (Or.inl rfl) (de_call (n := 2) (ps := ["top", "bottom"]) (sel := [.p 0, .p 1]) (φ := φ__law_low) (dds := []) k__law_low hc (hr.mono (by decide)) tk (cb0 F__law_low 2 [] _ fun _ _ _ _ _ _ us ws hl hw => match us, ws, hl, hw with | [_, _], [], _, _ => rfl) (fun _ _ _ => .nil) rfl (da_cons (de_bin od_mulI (de_b (de_ix (db_var (pe_var (i := 7) rfl (Or.inl rfl))) (de_b (de_int)))) (de_b (de_ix (db_var (pe_var (i := 9) rfl (Or.inr (Or.inl rfl)))) (de_b (de_int))))) (da_cons (de_bin od_mulI (de_b (de_ix (db_var (pe_var (i := 7) rfl (Or.inl rfl))) (de_b (de_int)))) (de_b (de_ix (db_var (pe_var (i := 9) rfl (Or.inr (Or.inl rfl)))) (de_b (de_int))))) da_nil))))) (dss_cons (ds_par (ps_par (i := 11) (j := 12) rfl sc.nd rfl rfl (by decide) rfl rfl (da_cons (de_call (n := 2) (ps := ["format", "number"]) (sel := [.p 0, .p 1]) (φ := φ_neighbours) (dds := []) k_neighbours hc (hr.mono (by decide)) tk (cb0 F_neighbours 2 [] _ fun _ _ _ _ _ _ us ws hl hw => match us, ws, hl, hw with | [_, _], [], _, _ => rfl) (fun _ _ _ => .nil) rfl (da_cons (de_var (pe_var (i := 5) rfl (Or.inl rfl))) (da_cons (de_var (pe_var (i := 7) rfl (Or.inl rfl))) da_nil))) (da_cons (de_call (n := 2) (ps := ["format", "number"]) (sel := [.p 0, .p 1]) (φ := φ_neighbours) (dds := []) k_neighbours hc (hr.mono (by decide)) tk (cb0 F_neighbours 2 [] _ fun _ _ _ _ _ _ us ws hl hw => match us, ws, hl, hw with | [_, _], [], _, _ => rfl) (fun _ _ _ => .nil) rfl (da_cons (de_var (pe_var (i := 5) rfl (Or.inl rfl))) (da_cons (de_var (pe_var (i := 10) rfl (Or.inl rfl))) da_nil))) da_nil)) rfl)) (dss_one (ds_if (dw_t (dw_or (dt_cmp (od_neA hr.units) (db_var (pe_var (i := 12) rfl (Or.inl rfl))) (de_b (de_t1 c_tuple E.f_tuple (de_b (de_lc (N := N) (own := [("each", 14)]) rfl sc.nd (di_seq (de_var (pe_var (i := 11) rfl (Or.inl rfl)))) (blkOk_by (own := [("each", 14)]) (N := ["script", "pen", "turn", "base", "digits", "one", "lap", "pair", "count", "power", "moved", "told", "later", "most", "each"]) (sc := defScope s_law) (by decide +kernel)) (gok_name (by decide)) (fun _ _ _ _ _ => (pg_name (i := 14) sc.nd rfl (Or.inl rfl))) (fun _ _ _ _ _ => pts_nil) tYes_of (fun _ _ _ _ _ => (de_call (n := 2) (ps := ["top", "bottom"]) (sel := [.p 0, .p 1]) (φ := φ__law_low) (dds := []) k__law_low hc (hr.mono (by decide)) tk0 (cb0 F__law_low 2 [] _ fun _ _ _ _ _ _ us ws hl hw => match us, ws, hl, hw with | [_, _], [], _, _ => rfl) (fun _ _ _ => .nil) rfl (da_cons (de_bin od_mulI (de_b (de_ix (db_var (pe_var (i := 14) rfl (Or.inl rfl))) (de_b (de_int)))) (de_b (de_ix (db_var (pe_var (i := 9) rfl (Or.inr (Or.inl rfl)))) (de_b (de_int))))) (da_cons (de_bin od_mulI (de_b (de_ix (db_var (pe_var (i := 14) rfl (Or.inl rfl))) (de_b (de_int)))) (de_b (de_ix (db_var (pe_var (i := 9) rfl (Or.inr (Or.inl rfl)))) (de_b (de_int))))) da_nil))))))))) (dw_or1 (dt_cmp (od_neA hr.units) (de_b (de_call (n := 2) (ps := ["format", "number"]) (sel := [.p 0, .p 1]) (φ := φ_is_in) (dds := []) k_is_in hc (hr.mono (by decide)) tk (cb0 F_is_in 2 [] _ fun _ _ _ _ _ _ us ws hl hw => match us, ws, hl, hw with | [_, _], [], _, _ => rfl) (fun _ _ _ => .nil) rfl (da_cons (de_var (pe_var (i := 5) rfl (Or.inl rfl))) (da_cons (de_var (pe_var (i := 10) rfl (Or.inl rfl))) da_nil)))) (de_b (de_call (n := 2) (ps := ["format", "number"]) (sel := [.p 0, .p 1]) (φ := φ_is_in) (dds := []) k_is_in hc (hr.mono (by decide)) tk (cb0 F_is_in 2 [] _ fun _ _ _ _ _ _ us ws hl hw => match us, ws, hl, hw with | [_, _], [], _, _ => rfl) (fun _ _ _ => .nil) rfl (da_cons (de_var (pe_var (i := 5) rfl (Or.inl rfl))) (da_cons (de_var (pe_var (i := 7) rfl (Or.inl rfl))) da_nil)))))))) (dss_one (ds_ret (de_bl))) dss_nil))))))))))) (dss_cons (ds_if (dt_cmp (od_neA hr.units) (de_b (de_b1 (c_repr hr.units hc) E.f_repr (de_b (de_lst (da_cons (de_call (n := 2) (ps := ["format", "number"]) (sel := [.p 0, .p 1]) (φ := φ_is_in) (dds := []) k_is_in hc (hr.mono (by decide)) tk (cb0 F_is_in 2 [] _ fun _ _ _ _ _ _ us ws hl hw => match us, ws, hl, hw with | [_, _], [], _, _ => rfl) (fun _ _ _ => .nil) rfl (da_cons (de_var (pe_var (i := 5) rfl (Or.inl rfl))) (da_cons (de_int) da_nil))) (da_cons (de_call (n := 2) (ps := ["format", "number"]) (sel := [.p 0, .p 1]) (φ := φ_neighbours) (dds := []) k_neighbours hc (hr.mono (by decide)) tk (cb0 F_neighbours 2 [] _ fun _ _ _ _ _ _ us ws hl hw => match us, ws, hl, hw with | [_, _], [], _, _ => rfl) (fun _ _ _ => .nil) rfl (da_cons (de_var (pe_var (i := 5) rfl (Or.inl rfl))) (da_cons (de_int) da_nil))) (da_cons (de_call (n := 2) (ps := ["format", "number"]) (sel := [.p 0, .p 1]) (φ := φ_is_in) (dds := []) k_is_in hc (hr.mono (by decide)) tk (cb0 F_is_in 2 [] _ fun _ _ _ _ _ _ us ws hl hw => match us, ws, hl, hw with | [_, _], [], _, _ => rfl) (fun _ _ _ => .nil) rfl (da_cons (de_var (pe_var (i := 5) rfl (Or.inl rfl))) (da_cons (de_tup (da_cons (de_int) (da_cons (de_int) da_nil))) da_nil))) (da_cons (de_call (n := 2) (ps := ["format", "number"]) (sel := [.p 0, .p 1]) (φ := φ_is_in) (dds := []) k_is_in hc (hr.mono (by decide)) tk (cb0 F_is_in 2 [] _ fun _ _ _ _ _ _ us ws hl hw => match us, ws, hl, hw with | [_, _], [], _, _ => rfl) (fun _ _ _ => .nil) rfl (da_cons (de_var (pe_var (i := 5) rfl (Or.inl rfl))) (da_cons (de_var (pe_var (i := 3) rfl (Or.inl rfl))) da_nil))) (da_cons (de_call (n := 2) (ps := ["format", "number"]) (sel := [.p 0, .p 1]) (φ := φ_is_in) (dds := []) k_is_in hc (hr.mono (by decide)) tk (cb0 F_is_in 2 [] _ fun _ _ _ _ _ _ us ws hl hw => match us, ws, hl, hw with | [_, _], [], _, _ => rfl) (fun _ _ _ => .nil) rfl (da_cons (de_var (pe_var (i := 5) rfl (Or.inl rfl))) (da_cons (de_int) da_nil))) da_nil))))))))) (de_b (de_b1 (c_repr hr.units hc) E.f_repr (de_b (de_lst (da_cons (de_bl) (da_cons (de_tup (da_cons (de_tup (da_cons (de_int) (da_cons (de_int) da_nil))) (da_cons (de_tup (da_cons (de_int) (da_cons (de_int) da_nil))) da_nil))) (da_cons (de_bl) (da_cons (de_bl) (da_cons (de_bl) da_nil)))))))))) (dss_one (ds_ret (de_bl))) dss_nil) (dss_cons (ds_set (ps_set (i := 13) sc.nd rfl (Or.inl rfl) (de_ix (de_b (de_call (n := 2) (ps := ["base", "count"]) (sel := [.p 0, .p 1]) (φ := φ__law_raised) (dds := []) k__law_raised hc (hr.mono (by decide)) tk (cb0 F__law_raised 2 [] _ fun _ _ _ _ _ _ us ws hl hw => match us, ws, hl, hw with | [_, _], [], _, _ => rfl) (fun _ _ _ => .nil) rfl (da_cons (de_var (pe_var (i := 3) rfl (Or.inl rfl))) (da_cons (de_var (pe_var (i := 4) rfl (Or.inl rfl))) da_nil)))) (de_b (de_int))))) (dss_one (ds_if (dt_cmp (od_neA hr.units) (de_b (de_lst (da_cons (de_call (n := 2) (ps := ["format", "number"]) (sel := [.p 0, .p 1]) (φ := φ_is_in) (dds := []) k_is_in hc (hr.mono (by decide)) tk (cb0 F_is_in 2 [] _ fun _ _ _ _ _ _ us ws hl hw => match us, ws, hl, hw with | [_, _], [], _, _ => rfl) (fun _ _ _ => .nil) rfl (da_cons (de_var (pe_var (i := 5) rfl (Or.inl rfl))) (da_cons (de_bin od_sub (db_var (pe_var (i := 13) rfl (Or.inl rfl))) (de_b (de_int))) da_nil))) (da_cons (de_call (n := 2) (ps := ["format", "number"]) (sel := [.p 0, .p 1]) (φ := φ_is_in) (dds := []) k_is_in hc (hr.mono (by decide)) tk (cb0 F_is_in 2 [] _ fun _ _ _ _ _ _ us ws hl hw => match us, ws, hl, hw with | [_, _], [], _, _ => rfl) (fun _ _ _ => .nil) rfl (da_cons (de_var (pe_var (i := 5) rfl (Or.inl rfl))) (da_cons (de_bin od_add (db_var (pe_var (i := 13) rfl (Or.inl rfl))) (de_b (de_int))) da_nil))) (da_cons (de_call (n := 2) (ps := ["format", "number"]) (sel := [.p 0, .p 1]) (φ := φ_is_in) (dds := []) k_is_in hc (hr.mono (by decide)) tk (cb0 F_is_in 2 [] _ fun _ _ _ _ _ _ us ws hl hw => match us, ws, hl, hw with | [_, _], [], _, _ => rfl) (fun _ _ _ => .nil) rfl (da_cons (de_var (pe_var (i := 5) rfl (Or.inl rfl))) (da_cons (de_var (pe_var (i := 13) rfl (Or.inl rfl))) da_nil))) da_nil))))) (de_b (de_lst (da_cons (de_bl) (da_cons (de_bl) (da_cons (de_bl) da_nil)))))) (dss_one (ds_ret (de_bl))) dss_nil)))))))) (dss_one (ds_ret (de_bl)))))
end
end L07
namespace PA
/-! ### plain arithmetic: numbers as pairs in lowest terms; factors and exponents -/
theorem nn (a b : Int) : (a * b).natAbs = a.natAbs * b.natAbs := Int.natAbs_mul a b
/-- a pair in lowest terms -/
def lowP (t u : Int) : Int × Int := (t / ((Nat.gcd t.natAbs u.natAbs : Nat) : Int), u / ((Nat.gcd t.natAbs u.natAbs : Nat) : Int))
theorem g_pos {t u : Int} (hu : 0 < u) : 0 < Nat.gcd t.natAbs u.natAbs := Nat.gcd_pos_of_pos_right _ (by omega)
theorem low_mul {t u : Int} : (lowP t u).1 * ((Nat.gcd t.natAbs u.natAbs : Nat) : Int) = t ∧ (lowP t u).2 * ((Nat.gcd t.natAbs u.natAbs : Nat) : Int) = u :=
  ⟨Int.ediv_mul_cancel (Int.ofNat_dvd_left.mpr (Nat.gcd_dvd_left _ _)), Int.ediv_mul_cancel (Int.ofNat_dvd_left.mpr (Nat.gcd_dvd_right _ _))⟩
theorem low_pos {t u : Int} (hu : 0 < u) : 0 < (lowP t u).2 := by
  have h := (low_mul (t := t) (u := u)).2
  have g := g_pos (t := t) hu
  rcases Int.lt_trichotomy 0 (lowP t u).2 with h1 | h1 | h1
  · exact h1
  · rw [← h1] at h; omega
  · have := Int.mul_neg_of_neg_of_pos h1 (show (0 : Int) < ((Nat.gcd t.natAbs u.natAbs : Nat) : Int) by omega)
    omega
theorem low_co {t u : Int} (hu : 0 < u) : Nat.Coprime (lowP t u).1.natAbs (lowP t u).2.natAbs := by
  have e1 : (lowP t u).1.natAbs = t.natAbs / Nat.gcd t.natAbs u.natAbs := by
    unfold lowP
    show (t / ((Nat.gcd t.natAbs u.natAbs : Nat) : Int)).natAbs = _
    rw [Int.natAbs_ediv_of_dvd (Int.ofNat_dvd_left.mpr (Nat.gcd_dvd_left _ _)), Int.natAbs_natCast]
  have e2 : (lowP t u).2.natAbs = u.natAbs / Nat.gcd t.natAbs u.natAbs := by
    unfold lowP
    show (u / ((Nat.gcd t.natAbs u.natAbs : Nat) : Int)).natAbs = _
    rw [Int.natAbs_ediv_of_dvd (Int.ofNat_dvd_left.mpr (Nat.gcd_dvd_right _ _)), Int.natAbs_natCast]
  rw [e1, e2]
  exact Nat.coprime_div_gcd_div_gcd (g_pos hu)
/-- two reduced pairs of one worth are one -/
theorem co_unique {a b c d : Int} (hb : 0 < b) (hd : 0 < d) (h1 : Nat.Coprime a.natAbs b.natAbs) (h2 : Nat.Coprime c.natAbs d.natAbs) (h : a * d = c * b) : a = c ∧ b = d := by
  have e := congrArg Int.natAbs h
  rw [nn, nn] at e
  have d1 : b.natAbs ∣ d.natAbs := h1.symm.dvd_of_dvd_mul_left (by rw [e]; exact Nat.dvd_mul_left _ _)
  have d2 : d.natAbs ∣ b.natAbs := h2.symm.dvd_of_dvd_mul_left (by rw [← e]; exact Nat.dvd_mul_left _ _)
  have e2 := Nat.dvd_antisymm d1 d2
  have e3 : b = d := by omega
  subst e3
  exact ⟨Int.eq_of_mul_eq_mul_right (by omega) h, rfl⟩
theorem low_eq {x u y v : Int} (hu : 0 < u) (hv : 0 < v) (h : x * v = y * u) : lowP x u = lowP y v := by
  obtain ⟨a1, a2⟩ := low_mul (t := x) (u := u)
  obtain ⟨b1, b2⟩ := low_mul (t := y) (u := v)
  have g1 := g_pos (t := x) hu
  have g2 := g_pos (t := y) hv
  have k : (lowP x u).1 * (lowP y v).2 = (lowP y v).1 * (lowP x u).2 := by
    generalize hg : ((Nat.gcd x.natAbs u.natAbs : Nat) : Int) = g at a1 a2
    generalize hk : ((Nat.gcd y.natAbs v.natAbs : Nat) : Int) = k at b1 b2
    have hg0 : g ≠ 0 := by omega
    have hk0 : k ≠ 0 := by omega
    have e : (lowP x u).1 * (lowP y v).2 * (g * k) = (lowP y v).1 * (lowP x u).2 * (g * k) := by
      have e1 : (lowP x u).1 * (lowP y v).2 * (g * k) = ((lowP x u).1 * g) * ((lowP y v).2 * k) := by
        rw [Int.mul_assoc, Int.mul_assoc]; congr 1
        rw [Int.mul_left_comm]
      have e2 : (lowP y v).1 * (lowP x u).2 * (g * k) = ((lowP y v).1 * k) * ((lowP x u).2 * g) := by
        rw [Int.mul_assoc, Int.mul_assoc]; congr 1
        rw [Int.mul_comm g k, Int.mul_left_comm]
      rw [e1, e2, a1, b2, b1, a2, h]
    exact Int.eq_of_mul_eq_mul_right (Int.mul_ne_zero hg0 hk0) e
  obtain ⟨q1, q2⟩ := co_unique (low_pos hu) (low_pos hv) (low_co hu) (low_co hv) k
  exact Prod.ext q1 q2
/-- what is reduced stays -/
theorem low_self {a b : Int} (hb : 0 < b) (h : Nat.Coprime a.natAbs b.natAbs) : lowP a b = (a, b) := by
  unfold lowP
  rw [show Nat.gcd a.natAbs b.natAbs = 1 from h]
  simp
theorem low_low {t u : Int} (hu : 0 < u) : lowP (lowP t u).1 (lowP t u).2 = lowP t u := by
  rw [low_self (low_pos hu) (low_co hu)]
/-- cross products of a reduced pair -/
theorem low_cross {t u : Int} : (lowP t u).1 * u = t * (lowP t u).2 := by
  obtain ⟨a1, a2⟩ := low_mul (t := t) (u := u)
  generalize ((Nat.gcd t.natAbs u.natAbs : Nat) : Int) = g at a1 a2
  calc (lowP t u).1 * u = (lowP t u).1 * ((lowP t u).2 * g) := by rw [a2]
    _ = ((lowP t u).1 * g) * (lowP t u).2 := by rw [Int.mul_comm (lowP t u).2 g, Int.mul_assoc]
    _ = t * (lowP t u).2 := by rw [a1]
theorem low_neg {t u : Int} : lowP (-t) u = (-(lowP t u).1, (lowP t u).2) := by
  unfold lowP
  rw [Int.natAbs_neg, Int.neg_ediv_of_dvd (Int.ofNat_dvd_left.mpr (Nat.gcd_dvd_left _ _))]
/-! ### exponents -/
def up (b : Nat) (e : Int) : Nat := b ^ e.toNat
def dn (b : Nat) (e : Int) : Nat := b ^ (-e).toNat
theorem up_pos {b : Nat} (hb : 2 ≤ b) (e : Int) : 0 < up b e := Nat.pow_pos (by omega)
theorem dn_pos {b : Nat} (hb : 2 ≤ b) (e : Int) : 0 < dn b e := Nat.pow_pos (by omega)
/-- b^k = b^(k-e) b^e, crosswise -/
theorem up_dn {b : Nat} {e k : Int} (h : e ≤ k) : up b k * dn b e = b ^ (k - e).toNat * (up b e * dn b k) := by
  unfold up dn
  rw [← Nat.pow_add, ← Nat.pow_add, ← Nat.pow_add]
  congr 1
  omega
theorem up_add {b : Nat} (e c : Int) : up b (e + c) * (dn b e * dn b c) = up b e * up b c * dn b (e + c) := by
  unfold up dn
  rw [← Nat.pow_add, ← Nat.pow_add, ← Nat.pow_add, ← Nat.pow_add]
  congr 1
  omega
/-- T / U lies below b^e -/
def Und (b T U : Nat) (e : Int) : Prop := T * dn b e < U * up b e
theorem und_mono {b T U : Nat} {e k : Int} (hb : 2 ≤ b) (h : e ≤ k) (hu : Und b T U e) : Und b T U k := by
  unfold Und at *
  have e1 := up_dn (b := b) h
  have p1 := dn_pos hb e
  have p2 := dn_pos hb k
  have p3 : 0 < b ^ (k - e).toNat := Nat.pow_pos (by omega)
  -- multiply by dn e
  refine Nat.lt_of_mul_lt_mul_right (a := dn b e) ?_
  calc T * dn b k * dn b e = (T * dn b e) * dn b k := by rw [Nat.mul_assoc, Nat.mul_comm (dn b k), Nat.mul_assoc]
    _ < (U * up b e) * dn b k := Nat.mul_lt_mul_of_pos_right hu p2
    _ ≤ b ^ (k - e).toNat * ((U * up b e) * dn b k) := Nat.le_mul_of_pos_left _ p3
    _ = U * (b ^ (k - e).toNat * (up b e * dn b k)) := by rw [Nat.mul_assoc U, Nat.mul_left_comm]
    _ = U * (up b k * dn b e) := by rw [e1]
    _ = U * up b k * dn b e := by rw [Nat.mul_assoc]
/-- the exponent: what lies below b^g, not below b^(g-1) -/
def Ex (b T U : Nat) (g : Int) : Prop := Und b T U g ∧ ¬ Und b T U (g - 1)
theorem ex_unique {b T U : Nat} {g k : Int} (hb : 2 ≤ b) (h : Ex b T U g) (h' : Ex b T U k) : g = k := by
  rcases Int.lt_trichotomy g k with q | q | q
  · exact absurd (und_mono hb (by omega) h.1) h'.2
  · exact q
  · exact absurd (und_mono hb (by omega) h'.1) h.2
theorem und_iff {b T U : Nat} (hb : 2 ≤ b) (e : Int) (n : Nat) : Und b T U (e + n) ↔ T * dn b e < b ^ n * (U * up b e) := by
  have k := up_dn (b := b) (e := e) (k := e + n) (by omega)
  rw [show (e + (n : Int) - e).toNat = n by omega] at k
  have p1 := dn_pos hb e
  have p2 := dn_pos hb (e + n)
  unfold Und
  have q : U * up b (e + n) * dn b e = b ^ n * (U * up b e) * dn b (e + n) := by
    calc U * up b (e + n) * dn b e = U * (up b (e + n) * dn b e) := Nat.mul_assoc _ _ _
      _ = U * (b ^ n * (up b e * dn b (e + n))) := by rw [k]
      _ = b ^ n * (U * up b e) * dn b (e + n) := by rw [Nat.mul_left_comm, Nat.mul_assoc, Nat.mul_assoc]
  constructor
  · intro h
    refine Nat.lt_of_mul_lt_mul_right (a := dn b (e + n)) ?_
    rw [← q]
    calc T * dn b e * dn b (e + n) = T * dn b (e + n) * dn b e := by rw [Nat.mul_assoc, Nat.mul_comm (dn b e), Nat.mul_assoc]
      _ < U * up b (e + n) * dn b e := Nat.mul_lt_mul_of_pos_right h p1
  · intro h
    refine Nat.lt_of_mul_lt_mul_right (a := dn b e) ?_
    rw [q]
    calc T * dn b (e + n) * dn b e = T * dn b e * dn b (e + n) := by rw [Nat.mul_assoc, Nat.mul_comm (dn b (e + n)), Nat.mul_assoc]
      _ < b ^ n * (U * up b e) * dn b (e + n) := Nat.mul_lt_mul_of_pos_right h p2
/-- the whole part by the exponent -/
def whole (b T U : Nat) (e : Int) : Nat := T * dn b e / (U * up b e)
def inside (b T U : Nat) (e : Int) : Bool := T * dn b e % (U * up b e) == 0
theorem ex_bounds {b T U d : Nat} {e : Int} (hb : 2 ≤ b) (hd : 1 ≤ d) (h : Ex b T U (e + d)) : T * dn b e < b ^ d * (U * up b e) ∧ b ^ (d - 1) * (U * up b e) ≤ T * dn b e := by
  refine ⟨(und_iff hb e d).mp h.1, ?_⟩
  have h2 := h.2
  rw [show e + (d : Int) - 1 = e + ((d - 1 : Nat) : Int) by omega, und_iff hb] at h2
  omega
theorem ex_of {b T U d : Nat} {e : Int} (hb : 2 ≤ b) (hd : 1 ≤ d) (h1 : T * dn b e < b ^ d * (U * up b e)) (h2 : b ^ (d - 1) * (U * up b e) ≤ T * dn b e) : Ex b T U (e + d) := by
  refine ⟨(und_iff hb e d).mpr h1, fun h => ?_⟩
  rw [show e + (d : Int) - 1 = e + ((d - 1 : Nat) : Int) by omega, und_iff hb] at h
  omega
theorem whole_bounds {b T U d : Nat} {e : Int} (hb : 2 ≤ b) (hd : 1 ≤ d) (hU : 0 < U) (h : Ex b T U (e + d)) : b ^ (d - 1) ≤ whole b T U e ∧ whole b T U e < b ^ d := by
  obtain ⟨h1, h2⟩ := ex_bounds hb hd h
  have p : 0 < U * up b e := Nat.mul_pos hU (up_pos hb e)
  unfold whole
  exact ⟨(Nat.le_div_iff_mul_le p).mpr h2, (Nat.div_lt_iff_lt_mul p).mpr h1⟩
theorem inside_iff {b T U : Nat} {e : Int} : inside b T U e = true ↔ T * dn b e = whole b T U e * (U * up b e) := by
  unfold inside whole
  rw [beq_iff_eq]
  constructor
  · intro h
    have := Nat.div_add_mod (T * dn b e) (U * up b e)
    rw [h, Nat.add_zero, Nat.mul_comm] at this
    exact this.symm
  · intro h
    rw [h]
    exact Nat.mul_mod_left _ _
/-- m b^k is a number of the format -/
theorem in1 {b T U d m : Nat} {e k : Int} (hb : 2 ≤ b) (hd : 1 ≤ d) (hU : 0 < U) (h : Ex b T U (e + d)) (hm : m < b ^ d) (he : T * dn b k = m * (U * up b k)) : e ≤ k ∧ T * dn b e = m * b ^ (k - e).toNat * (U * up b e) := by
  have hk : e ≤ k := by
    by_cases q : e ≤ k
    case neg =>
      refine absurd (und_mono hb (show k + (d : Int) ≤ e + d - 1 by omega) ((und_iff hb k d).mpr ?_)) h.2
      rw [he]
      exact Nat.mul_lt_mul_of_pos_right hm (Nat.mul_pos hU (up_pos hb k))
    case pos => exact q
  refine ⟨hk, Nat.eq_of_mul_eq_mul_right (dn_pos hb k) ?_⟩
  have q := up_dn (b := b) hk
  calc T * dn b e * dn b k = T * dn b k * dn b e := by rw [Nat.mul_assoc, Nat.mul_comm (dn b e), Nat.mul_assoc]
    _ = m * (U * up b k) * dn b e := by rw [he]
    _ = m * U * (up b k * dn b e) := by rw [← Nat.mul_assoc, Nat.mul_assoc (m * U)]
    _ = m * U * (b ^ (k - e).toNat * (up b e * dn b k)) := by rw [q]
    _ = m * b ^ (k - e).toNat * (U * up b e) * dn b k := by simp only [Nat.mul_assoc, Nat.mul_left_comm]
theorem in_full {b T U d m : Nat} {e k : Int} (hb : 2 ≤ b) (hd : 1 ≤ d) (hU : 0 < U) (h : Ex b T U (e + d)) (hm : m ≤ b ^ d) (he : T * dn b k = m * (U * up b k)) : inside b T U e = true := by
  have fin : ∀ n : Nat, T * dn b e = n * (U * up b e) → inside b T U e = true := fun n hn => by
    unfold inside
    rw [hn, Nat.mul_mod_left]; rfl
  rcases Nat.lt_or_ge m (b ^ d) with q | q
  · exact fin _ (in1 hb hd hU h q he).2
  · have hm2 : m = b ^ d := by omega
    have h1 : 1 < b ^ d := Nat.one_lt_pow (by omega) (by omega)
    refine fin _ (in1 (m := 1) (k := k + d) hb hd hU h h1 (Nat.eq_of_mul_eq_mul_right (dn_pos hb k) ?_)).2
    have q2 := up_dn (b := b) (e := k) (k := k + d) (by omega)
    rw [show (k + (d : Int) - k).toNat = d by omega] at q2
    calc T * dn b (k + d) * dn b k = T * dn b k * dn b (k + d) := by rw [Nat.mul_assoc, Nat.mul_comm (dn b (k + d)), Nat.mul_assoc]
      _ = b ^ d * (U * up b k) * dn b (k + d) := by rw [he, hm2]
      _ = U * (b ^ d * (up b k * dn b (k + d))) := by simp only [Nat.mul_assoc, Nat.mul_left_comm]
      _ = U * (up b (k + d) * dn b k) := by rw [q2]
      _ = 1 * (U * up b (k + d)) * dn b k := by rw [Nat.one_mul, Nat.mul_assoc]
/-! ### equal fractions -/
theorem fr_lt {p q p' q' : Nat} (hq : 0 < q) (hq' : 0 < q') (h : p' * q = p * q') : p < q ↔ p' < q' := by
  constructor
  · intro z
    refine Nat.lt_of_mul_lt_mul_right (a := q) ?_
    rw [h, Nat.mul_comm q' q]
    exact Nat.mul_lt_mul_of_pos_right z hq'
  · intro z
    refine Nat.lt_of_mul_lt_mul_right (a := q') ?_
    rw [← h, Nat.mul_comm q q']
    exact Nat.mul_lt_mul_of_pos_right z hq
theorem fr_div {p q p' q' : Nat} (hq : 0 < q) (hq' : 0 < q') (h : p' * q = p * q') : p' / q' = p / q := by
  rw [← Nat.mul_div_mul_right p' q' hq, h, Nat.mul_comm q' q, Nat.mul_div_mul_right p q hq']
theorem fr_mod {p q p' q' : Nat} (hq : 0 < q) (hq' : 0 < q') (h : p' * q = p * q') : (p' % q' == 0) = (p % q == 0) := by
  have e : p' % q' * q = p % q * q' := by
    rw [← Nat.mul_mod_mul_right q p' q', ← Nat.mul_mod_mul_right q' p q, h, Nat.mul_comm q' q]
  by_cases z : p % q = 0
  · rw [z, Nat.zero_mul] at e
    have : p' % q' = 0 := by
      rcases Nat.mul_eq_zero.mp e with y | y
      · exact y
      · omega
    rw [z, this]
  · have : p' % q' ≠ 0 := fun y => by
      rw [y, Nat.zero_mul] at e
      rcases Nat.mul_eq_zero.mp e.symm with x | x
      · exact z x
      · omega
    rw [beq_eq_false_iff_ne.mpr z, beq_eq_false_iff_ne.mpr this]
/-- T' / U' = T / U b^c -/
theorem shift {b T U T' U' : Nat} {c : Int} (hb : 2 ≤ b) (h : T' * (U * dn b c) = T * up b c * U') (e : Int) : T' * dn b (e + c) * (U * up b e) = T * dn b e * (U' * up b (e + c)) := by
  refine Nat.eq_of_mul_eq_mul_right (dn_pos hb c) ?_
  have q := up_add (b := b) e c
  calc T' * dn b (e + c) * (U * up b e) * dn b c = T' * (U * dn b c) * (dn b (e + c) * up b e) := by simp only [Nat.mul_assoc, Nat.mul_left_comm, Nat.mul_comm]
    _ = T * up b c * U' * (dn b (e + c) * up b e) := by rw [h]
    _ = T * U' * (up b e * up b c * dn b (e + c)) := by simp only [Nat.mul_assoc, Nat.mul_left_comm, Nat.mul_comm]
    _ = T * U' * (up b (e + c) * (dn b e * dn b c)) := by rw [q]
    _ = T * dn b e * (U' * up b (e + c)) * dn b c := by simp only [Nat.mul_assoc, Nat.mul_left_comm, Nat.mul_comm]
theorem ex_shift {b T U T' U' : Nat} {c g : Int} (hb : 2 ≤ b) (hU : 0 < U) (hU' : 0 < U') (h : T' * (U * dn b c) = T * up b c * U') (x : Ex b T U g) : Ex b T' U' (g + c) := by
  have k : ∀ e : Int, Und b T U e ↔ Und b T' U' (e + c) := fun e => fr_lt (Nat.mul_pos hU (up_pos hb e)) (Nat.mul_pos hU' (up_pos hb _)) (shift hb h e)
  exact ⟨(k g).mp x.1, fun z => x.2 ((k (g - 1)).mpr (by rw [show g - 1 + c = g + c - 1 by omega]; exact z))⟩
theorem whole_shift {b T U T' U' : Nat} {c : Int} (hb : 2 ≤ b) (hU : 0 < U) (hU' : 0 < U') (h : T' * (U * dn b c) = T * up b c * U') (e : Int) : whole b T' U' (e + c) = whole b T U e ∧ inside b T' U' (e + c) = inside b T U e :=
  ⟨fr_div (Nat.mul_pos hU (up_pos hb e)) (Nat.mul_pos hU' (up_pos hb _)) (shift hb h e), fr_mod (Nat.mul_pos hU (up_pos hb e)) (Nat.mul_pos hU' (up_pos hb _)) (shift hb h e)⟩
/-! ### an exponent there is -/
theorem up_nat {b : Nat} (n : Nat) : up b (n : Int) = b ^ n ∧ dn b (n : Int) = 1 := by
  unfold up dn
  rw [show (n : Int).toNat = n by omega, show (-(n : Int)).toNat = 0 by omega]
  exact ⟨rfl, rfl⟩
theorem dn_nat {b : Nat} (n : Nat) : up b (-(n : Int)) = 1 ∧ dn b (-(n : Int)) = b ^ n := by
  unfold up dn
  rw [show (-(n : Int)).toNat = 0 by omega, show (- -(n : Int)).toNat = n by omega]
  exact ⟨rfl, rfl⟩
theorem und_far {b T U : Nat} (hb : 2 ≤ b) (hU : 0 < U) {n : Nat} (h : T < 2 ^ n) : Und b T U n := by
  unfold Und
  rw [(up_nat n).1, (up_nat n).2, Nat.mul_one]
  calc T < 2 ^ n := h
    _ ≤ b ^ n := Nat.pow_le_pow_left hb n
    _ ≤ U * b ^ n := Nat.le_mul_of_pos_left _ hU
theorem not_und_far {b T U : Nat} (hb : 2 ≤ b) (hT : 0 < T) {n : Nat} (h : U < 2 ^ n) : ¬ Und b T U (-(n : Int)) := by
  unfold Und
  rw [(dn_nat n).1, (dn_nat n).2, Nat.mul_one]
  have : U < T * b ^ n := calc U < 2 ^ n := h
    _ ≤ b ^ n := Nat.pow_le_pow_left hb n
    _ ≤ T * b ^ n := Nat.le_mul_of_pos_left _ hT
  omega
end PA
set_option maxHeartbeats 2000000
namespace L07
open PySem PySem.Spec PyProof.Rows L2 DL PA
abbrev I (n : Nat) : D := .int (n : Int)
theorem nat_lt {n k : Nat} (h : n < k) : ((n : Int)).natAbs < k := by rw [Int.natAbs_natCast]; exact h
theorem pw_lt {b n : Nat} (hb : b < 64) (hn : n ≤ 50000) : b ^ n < 2 ^ 300001 := by
  calc b ^ n ≤ 64 ^ n := Nat.pow_le_pow_left (by omega) n
    _ = 2 ^ (6 * n) := by rw [Nat.pow_mul]
    _ < 2 ^ 300001 := Nat.pow_lt_pow_right (by omega) (by omega)
theorem w_int_power (b n : Nat) (h1 : 1 ≤ b) (hb : b < 64) (hn : n ≤ 50000) (M : MS) : ∀ k left found square : Nat, left ≤ k → 1 ≤ found → 1 ≤ square → found * square ^ left = b ^ n →
    ∃ s l, sWhile c0_int_power b0_int_power [some (.t (I b)), some (.t (I n)), some (.t (I found)), some (.t (I square)), some (.t (I left))] M = some (.nx [some (.t (I b)), some (.t (I n)), some (.t (I (b ^ n))), s, l] M) := by
  intro k
  induction k with
  | zero =>
    intro left found square hl hf hs he
    have : left = 0 := by omega
    subst this
    rw [Nat.pow_zero, Nat.mul_one] at he
    subst he
    exact ⟨some (.t (I square)), some (.t (I 0)), while_f (by unfold c0_int_power; simp only [decide_eq_false (show ¬ ((0 : Int) < ((0 : Nat) : Int)) by omega), DL.dFn, DL.dFi, DL.sSeq, DL.sSet, DL.sIf, DL.sRet, DL.sRetN, DL.sDrop, DL.sBind, DL.sAsg, DL.sPar, DL.sPar3, DL.sNext, DL.dC, DL.dVar, DL.dPeek, DL.dBind, DL.dOut, DL.dUn, DL.dBin, DL.dTru, DL.dNot, DL.dAndT, DL.dOrT, DL.dAndV, DL.dOrV, DL.dIfE, DL.aNil, DL.aCons, DL.aBind, DL.fits, DL.dApp, DL.dRet, DL.dTup, DL.dLst, DL.truD, DL.bName, DL.bTup, DL.bCons, DL.bNil, DL.pick_eq, DL.Src.get, List.filterMap_cons, List.filterMap_nil, List.getElem?_cons_zero, List.getElem?_cons_succ, List.length_cons, List.length_nil, List.set_cons_zero, List.set_cons_succ, List.map_cons, List.map_nil, List.cons_append, List.nil_append, List.append_nil, List.append_assoc, List.reduceReplicate, Nat.reduceAdd, Nat.reduceSub, Nat.reduceLeDiff, Nat.reduceEqDiff, ↓reduceIte, DL.subD, DL.mulD, DL.divD, DL.modD, DL.powD, DL.ltD, DL.leD, DL.gtD, DL.geD, DL.II, DL.subI, DL.cmpI, DL.negD, DL.addD_int, DL.ix_t0, DL.ix_t1, DL.ix_t2, DL.eqA_int, DL.eqA_pair, DL.intD_int, DL.intA_int, DL.intA_bl, DL.absD, DL.le1, DL.le2, DL.le3, DL.le4, DL.le5, DL.le8, DL.le9, Nat.zero_le, Bool.not_true, Bool.not_false, Bool.false_eq_true, DL.eqA_bl, eq_self, Int.reduceEq, Int.reduceLT, Int.reduceNeg, Bool.false_xor, Bool.true_xor, decide_true, decide_false, decide_eq_true_eq])⟩
  | succ k ih =>
    intro left found square hl hf hs he
    by_cases h0 : left = 0
    · subst h0
      rw [Nat.pow_zero, Nat.mul_one] at he
      subst he
      exact ⟨some (.t (I square)), some (.t (I 0)), while_f (by unfold c0_int_power; simp only [decide_eq_false (show ¬ ((0 : Int) < ((0 : Nat) : Int)) by omega), DL.dFn, DL.dFi, DL.sSeq, DL.sSet, DL.sIf, DL.sRet, DL.sRetN, DL.sDrop, DL.sBind, DL.sAsg, DL.sPar, DL.sPar3, DL.sNext, DL.dC, DL.dVar, DL.dPeek, DL.dBind, DL.dOut, DL.dUn, DL.dBin, DL.dTru, DL.dNot, DL.dAndT, DL.dOrT, DL.dAndV, DL.dOrV, DL.dIfE, DL.aNil, DL.aCons, DL.aBind, DL.fits, DL.dApp, DL.dRet, DL.dTup, DL.dLst, DL.truD, DL.bName, DL.bTup, DL.bCons, DL.bNil, DL.pick_eq, DL.Src.get, List.filterMap_cons, List.filterMap_nil, List.getElem?_cons_zero, List.getElem?_cons_succ, List.length_cons, List.length_nil, List.set_cons_zero, List.set_cons_succ, List.map_cons, List.map_nil, List.cons_append, List.nil_append, List.append_nil, List.append_assoc, List.reduceReplicate, Nat.reduceAdd, Nat.reduceSub, Nat.reduceLeDiff, Nat.reduceEqDiff, ↓reduceIte, DL.subD, DL.mulD, DL.divD, DL.modD, DL.powD, DL.ltD, DL.leD, DL.gtD, DL.geD, DL.II, DL.subI, DL.cmpI, DL.negD, DL.addD_int, DL.ix_t0, DL.ix_t1, DL.ix_t2, DL.eqA_int, DL.eqA_pair, DL.intD_int, DL.intA_int, DL.intA_bl, DL.absD, DL.le1, DL.le2, DL.le3, DL.le4, DL.le5, DL.le8, DL.le9, Nat.zero_le, Bool.not_true, Bool.not_false, Bool.false_eq_true, DL.eqA_bl, eq_self, Int.reduceEq, Int.reduceLT, Int.reduceNeg, Bool.false_xor, Bool.true_xor, decide_true, decide_false, decide_eq_true_eq])⟩
    · have c1 : c0_int_power [some (.t (I b)), some (.t (I n)), some (.t (I found)), some (.t (I square)), some (.t (I left))] M = some (.ok (.bl true) [some (.t (I b)), some (.t (I n)), some (.t (I found)), some (.t (I square)), some (.t (I left))] M) := by
        unfold c0_int_power; simp only [decide_eq_true (show ((0 : Int) < ((left : Nat) : Int)) by omega), DL.dFn, DL.dFi, DL.sSeq, DL.sSet, DL.sIf, DL.sRet, DL.sRetN, DL.sDrop, DL.sBind, DL.sAsg, DL.sPar, DL.sPar3, DL.sNext, DL.dC, DL.dVar, DL.dPeek, DL.dBind, DL.dOut, DL.dUn, DL.dBin, DL.dTru, DL.dNot, DL.dAndT, DL.dOrT, DL.dAndV, DL.dOrV, DL.dIfE, DL.aNil, DL.aCons, DL.aBind, DL.fits, DL.dApp, DL.dRet, DL.dTup, DL.dLst, DL.truD, DL.bName, DL.bTup, DL.bCons, DL.bNil, DL.pick_eq, DL.Src.get, List.filterMap_cons, List.filterMap_nil, List.getElem?_cons_zero, List.getElem?_cons_succ, List.length_cons, List.length_nil, List.set_cons_zero, List.set_cons_succ, List.map_cons, List.map_nil, List.cons_append, List.nil_append, List.append_nil, List.append_assoc, List.reduceReplicate, Nat.reduceAdd, Nat.reduceSub, Nat.reduceLeDiff, Nat.reduceEqDiff, ↓reduceIte, DL.subD, DL.mulD, DL.divD, DL.modD, DL.powD, DL.ltD, DL.leD, DL.gtD, DL.geD, DL.II, DL.subI, DL.cmpI, DL.negD, DL.addD_int, DL.ix_t0, DL.ix_t1, DL.ix_t2, DL.eqA_int, DL.eqA_pair, DL.intD_int, DL.intA_int, DL.intA_bl, DL.absD, DL.le1, DL.le2, DL.le3, DL.le4, DL.le5, DL.le8, DL.le9, Nat.zero_le, Bool.not_true, Bool.not_false, Bool.false_eq_true, DL.eqA_bl, eq_self, Int.reduceEq, Int.reduceLT, Int.reduceNeg, Bool.false_xor, Bool.true_xor, decide_true, decide_false, decide_eq_true_eq]
      have hB := pw_lt hb hn
      -- what is multiplied is at most b^n
      have sq : square ≤ square ^ left := by
        calc square = square ^ 1 := (Nat.pow_one _).symm
          _ ≤ square ^ left := Nat.pow_le_pow_right hs (by omega)
      have sle : square ≤ b ^ n := by
        rw [← he]
        exact Nat.le_trans sq (Nat.le_mul_of_pos_left _ hf)
      have fle : found ≤ b ^ n := by
        rw [← he]
        exact Nat.le_mul_of_pos_right _ (Nat.pow_pos hs)
      have m1 : mulOk (found : Int) (square : Int) := mulOk_of (nat_lt (n := found) (Nat.lt_of_le_of_lt fle hB)) (nat_lt (n := square) (Nat.lt_of_le_of_lt sle hB))
      have m2 : mulOk (square : Int) (square : Int) := mulOk_of (nat_lt (n := square) (Nat.lt_of_le_of_lt sle hB)) (nat_lt (n := square) (Nat.lt_of_le_of_lt sle hB))
      have d2 : Int.fdiv (left : Int) 2 = ((left / 2 : Nat) : Int) := by
        rw [Int.fdiv_eq_ediv_of_nonneg _ (by decide)]; omega
      have dk : divOk 2 := divOk_of (n := 2) (by decide) (by decide)
      have m0 : (2 : Int) ≠ 0 := by decide
      have step : ∀ found' square' : Nat, 1 ≤ found' → 1 ≤ square' → found' * square' ^ (left / 2) = b ^ n →
          b0_int_power [some (.t (I b)), some (.t (I n)), some (.t (I found)), some (.t (I square)), some (.t (I left))] M = some (.nx [some (.t (I b)), some (.t (I n)), some (.t (I found')), some (.t (I square')), some (.t (I (left / 2)))] M) →
          ∃ s l, sWhile c0_int_power b0_int_power [some (.t (I b)), some (.t (I n)), some (.t (I found)), some (.t (I square)), some (.t (I left))] M = some (.nx [some (.t (I b)), some (.t (I n)), some (.t (I (b ^ n))), s, l] M) := fun f' s' p1 p2 p3 hb => by
        obtain ⟨s, l, q⟩ := ih (left / 2) f' s' (by omega) p1 p2 p3
        exact ⟨s, l, while_t c1 hb q⟩
      have e2 : left = left % 2 + 2 * (left / 2) := by omega
      by_cases hodd : left % 2 = 1
      · have f2 : Int.fmod (left : Int) 2 = 1 := by rw [Int.fmod_eq_emod_of_nonneg _ (by decide)]; omega
        by_cases hg : 1 < left
        · refine step (found * square) (square * square) (Nat.mul_pos hf hs) (Nat.mul_pos hs hs) ?_ ?_
          · rw [← he, ← Nat.pow_two, ← Nat.pow_mul, Nat.mul_assoc, ← Nat.pow_succ']
            congr 2
            omega
          · unfold b0_int_power
            simp only [modI_ok m0, f2, mulI_ok m1, mulI_ok m2, divI_ok dk, d2, decide_eq_true (show ((1 : Int) < (left : Int)) by omega), I, Int.natCast_mul, DL.dFn, DL.dFi, DL.sSeq, DL.sSet, DL.sIf, DL.sRet, DL.sRetN, DL.sDrop, DL.sBind, DL.sAsg, DL.sPar, DL.sPar3, DL.sNext, DL.dC, DL.dVar, DL.dPeek, DL.dBind, DL.dOut, DL.dUn, DL.dBin, DL.dTru, DL.dNot, DL.dAndT, DL.dOrT, DL.dAndV, DL.dOrV, DL.dIfE, DL.aNil, DL.aCons, DL.aBind, DL.fits, DL.dApp, DL.dRet, DL.dTup, DL.dLst, DL.truD, DL.bName, DL.bTup, DL.bCons, DL.bNil, DL.pick_eq, DL.Src.get, List.filterMap_cons, List.filterMap_nil, List.getElem?_cons_zero, List.getElem?_cons_succ, List.length_cons, List.length_nil, List.set_cons_zero, List.set_cons_succ, List.map_cons, List.map_nil, List.cons_append, List.nil_append, List.append_nil, List.append_assoc, List.reduceReplicate, Nat.reduceAdd, Nat.reduceSub, Nat.reduceLeDiff, Nat.reduceEqDiff, ↓reduceIte, DL.subD, DL.mulD, DL.divD, DL.modD, DL.powD, DL.ltD, DL.leD, DL.gtD, DL.geD, DL.II, DL.subI, DL.cmpI, DL.negD, DL.addD_int, DL.ix_t0, DL.ix_t1, DL.ix_t2, DL.eqA_int, DL.eqA_pair, DL.intD_int, DL.intA_int, DL.intA_bl, DL.absD, DL.le1, DL.le2, DL.le3, DL.le4, DL.le5, DL.le8, DL.le9, Nat.zero_le, Bool.not_true, Bool.not_false, Bool.false_eq_true, DL.eqA_bl, eq_self, Int.reduceEq, Int.reduceLT, Int.reduceNeg, Bool.false_xor, Bool.true_xor, decide_true, decide_false, decide_eq_true_eq]
        · have : left = 1 := by omega
          subst this
          refine step (found * square) square (Nat.mul_pos hf hs) hs ?_ ?_
          · rw [← he]; simp
          · unfold b0_int_power
            simp only [modI_ok m0, f2, mulI_ok m1, mulI_ok m2, divI_ok dk, d2, decide_eq_false (show ¬ ((1 : Int) < ((1 : Nat) : Int)) by omega), I, Int.natCast_mul, DL.dFn, DL.dFi, DL.sSeq, DL.sSet, DL.sIf, DL.sRet, DL.sRetN, DL.sDrop, DL.sBind, DL.sAsg, DL.sPar, DL.sPar3, DL.sNext, DL.dC, DL.dVar, DL.dPeek, DL.dBind, DL.dOut, DL.dUn, DL.dBin, DL.dTru, DL.dNot, DL.dAndT, DL.dOrT, DL.dAndV, DL.dOrV, DL.dIfE, DL.aNil, DL.aCons, DL.aBind, DL.fits, DL.dApp, DL.dRet, DL.dTup, DL.dLst, DL.truD, DL.bName, DL.bTup, DL.bCons, DL.bNil, DL.pick_eq, DL.Src.get, List.filterMap_cons, List.filterMap_nil, List.getElem?_cons_zero, List.getElem?_cons_succ, List.length_cons, List.length_nil, List.set_cons_zero, List.set_cons_succ, List.map_cons, List.map_nil, List.cons_append, List.nil_append, List.append_nil, List.append_assoc, List.reduceReplicate, Nat.reduceAdd, Nat.reduceSub, Nat.reduceLeDiff, Nat.reduceEqDiff, ↓reduceIte, DL.subD, DL.mulD, DL.divD, DL.modD, DL.powD, DL.ltD, DL.leD, DL.gtD, DL.geD, DL.II, DL.subI, DL.cmpI, DL.negD, DL.addD_int, DL.ix_t0, DL.ix_t1, DL.ix_t2, DL.eqA_int, DL.eqA_pair, DL.intD_int, DL.intA_int, DL.intA_bl, DL.absD, DL.le1, DL.le2, DL.le3, DL.le4, DL.le5, DL.le8, DL.le9, Nat.zero_le, Bool.not_true, Bool.not_false, Bool.false_eq_true, DL.eqA_bl, eq_self, Int.reduceEq, Int.reduceLT, Int.reduceNeg, Bool.false_xor, Bool.true_xor, decide_true, decide_false, decide_eq_true_eq]
      · have f2 : Int.fmod (left : Int) 2 = 0 := by rw [Int.fmod_eq_emod_of_nonneg _ (by decide)]; omega
        have hg : 1 < left := by omega
        refine step found (square * square) hf (Nat.mul_pos hs hs) ?_ ?_
        · rw [← he, ← Nat.pow_two, ← Nat.pow_mul]
          congr 2
          omega
        · unfold b0_int_power
          simp only [modI_ok m0, f2, mulI_ok m1, mulI_ok m2, divI_ok dk, d2, decide_eq_true (show ((1 : Int) < (left : Int)) by omega), I, Int.natCast_mul, DL.dFn, DL.dFi, DL.sSeq, DL.sSet, DL.sIf, DL.sRet, DL.sRetN, DL.sDrop, DL.sBind, DL.sAsg, DL.sPar, DL.sPar3, DL.sNext, DL.dC, DL.dVar, DL.dPeek, DL.dBind, DL.dOut, DL.dUn, DL.dBin, DL.dTru, DL.dNot, DL.dAndT, DL.dOrT, DL.dAndV, DL.dOrV, DL.dIfE, DL.aNil, DL.aCons, DL.aBind, DL.fits, DL.dApp, DL.dRet, DL.dTup, DL.dLst, DL.truD, DL.bName, DL.bTup, DL.bCons, DL.bNil, DL.pick_eq, DL.Src.get, List.filterMap_cons, List.filterMap_nil, List.getElem?_cons_zero, List.getElem?_cons_succ, List.length_cons, List.length_nil, List.set_cons_zero, List.set_cons_succ, List.map_cons, List.map_nil, List.cons_append, List.nil_append, List.append_nil, List.append_assoc, List.reduceReplicate, Nat.reduceAdd, Nat.reduceSub, Nat.reduceLeDiff, Nat.reduceEqDiff, ↓reduceIte, DL.subD, DL.mulD, DL.divD, DL.modD, DL.powD, DL.ltD, DL.leD, DL.gtD, DL.geD, DL.II, DL.subI, DL.cmpI, DL.negD, DL.addD_int, DL.ix_t0, DL.ix_t1, DL.ix_t2, DL.eqA_int, DL.eqA_pair, DL.intD_int, DL.intA_int, DL.intA_bl, DL.absD, DL.le1, DL.le2, DL.le3, DL.le4, DL.le5, DL.le8, DL.le9, Nat.zero_le, Bool.not_true, Bool.not_false, Bool.false_eq_true, DL.eqA_bl, eq_self, Int.reduceEq, Int.reduceLT, Int.reduceNeg, Bool.false_xor, Bool.true_xor, decide_true, decide_false, decide_eq_true_eq]
theorem r_int_power (b n : Nat) (h1 : 1 ≤ b) (hb : b < 64) (hn : n ≤ 50000) (M : MS) : φ_int_power [I b, I n] M = some (.ret (I (b ^ n)) M) := by
  obtain ⟨s, l, q⟩ := w_int_power b n h1 hb hn M n n 1 b (Nat.le_refl n) (Nat.le_refl 1) h1 (Nat.one_mul _)
  unfold φ_int_power m_int_power
  simp only [DL.dFn, DL.dFi, DL.sSeq, DL.sSet, DL.sIf, DL.sRet, DL.sRetN, DL.sDrop, DL.sBind, DL.sAsg, DL.sPar, DL.sPar3, DL.sNext, DL.dC, DL.dVar, DL.dPeek, DL.dBind, DL.dOut, DL.dUn, DL.dBin, DL.dTru, DL.dNot, DL.dAndT, DL.dOrT, DL.dAndV, DL.dOrV, DL.dIfE, DL.aNil, DL.aCons, DL.aBind, DL.fits, DL.dApp, DL.dRet, DL.dTup, DL.dLst, DL.truD, DL.bName, DL.bTup, DL.bCons, DL.bNil, DL.pick_eq, DL.Src.get, List.filterMap_cons, List.filterMap_nil, List.getElem?_cons_zero, List.getElem?_cons_succ, List.length_cons, List.length_nil, List.set_cons_zero, List.set_cons_succ, List.map_cons, List.map_nil, List.cons_append, List.nil_append, List.append_nil, List.append_assoc, List.reduceReplicate, Nat.reduceAdd, Nat.reduceSub, Nat.reduceLeDiff, Nat.reduceEqDiff, ↓reduceIte, DL.subD, DL.mulD, DL.divD, DL.modD, DL.powD, DL.ltD, DL.leD, DL.gtD, DL.geD, DL.II, DL.subI, DL.cmpI, DL.negD, DL.addD_int, DL.ix_t0, DL.ix_t1, DL.ix_t2, DL.eqA_int, DL.eqA_pair, DL.intD_int, DL.intA_int, DL.intA_bl, DL.absD, DL.le1, DL.le2, DL.le3, DL.le4, DL.le5, DL.le8, DL.le9, Nat.zero_le, Bool.not_true, Bool.not_false, Bool.false_eq_true, DL.eqA_bl, eq_self, Int.reduceEq, Int.reduceLT, Int.reduceNeg, Bool.false_xor, Bool.true_xor, decide_true, decide_false, decide_eq_true_eq]
  rw [show (D.int 1) = I 1 from rfl, q]
  rfl
/-! ### reducing -/
abbrev P2 (p : Int × Int) : D := .tup [.int p.1, .int p.2]
theorem gcd_lt {t u : Int} (hu : 0 < u) : Nat.gcd t.natAbs u.natAbs ≤ u.natAbs := Nat.le_of_dvd (by omega) (Nat.gcd_dvd_right _ _)
theorem fdiv_g {x g : Int} (h : 0 ≤ g) : Int.fdiv x g = x / g := Int.fdiv_eq_ediv_of_nonneg _ h
theorem r_low (t u : Int) (hu : 0 < u) (hs : u.natAbs < 2 ^ 8000) (M : MS) : φ_low [.int t, .int u] M = some (.ret (P2 (lowP t u)) M) := by
  have g0 := g_pos (t := t) hu
  have dk : divOk ((Nat.gcd t.natAbs u.natAbs : Nat) : Int) := divOk_of (n := 8000) (by omega) (nat_lt (Nat.lt_of_le_of_lt (gcd_lt hu) hs))
  unfold φ_low m_low
  simp only [gcdI, decide_eq_false (show ¬ (u < 0) by omega), divI_ok dk, fdiv_g (show (0 : Int) ≤ ((Nat.gcd t.natAbs u.natAbs : Nat) : Int) by omega), line2, DL.dFn, DL.dFi, DL.sSeq, DL.sSet, DL.sIf, DL.sRet, DL.sRetN, DL.sDrop, DL.sBind, DL.sAsg, DL.sPar, DL.sPar3, DL.sNext, DL.dC, DL.dVar, DL.dPeek, DL.dBind, DL.dOut, DL.dUn, DL.dBin, DL.dTru, DL.dNot, DL.dAndT, DL.dOrT, DL.dAndV, DL.dOrV, DL.dIfE, DL.aNil, DL.aCons, DL.aBind, DL.fits, DL.dApp, DL.dRet, DL.dTup, DL.dLst, DL.truD, DL.bName, DL.bTup, DL.bCons, DL.bNil, DL.pick_eq, DL.Src.get, List.filterMap_cons, List.filterMap_nil, List.getElem?_cons_zero, List.getElem?_cons_succ, List.length_cons, List.length_nil, List.set_cons_zero, List.set_cons_succ, List.map_cons, List.map_nil, List.cons_append, List.nil_append, List.append_nil, List.append_assoc, List.reduceReplicate, Nat.reduceAdd, Nat.reduceSub, Nat.reduceLeDiff, Nat.reduceEqDiff, ↓reduceIte, DL.subD, DL.mulD, DL.divD, DL.modD, DL.powD, DL.ltD, DL.leD, DL.gtD, DL.geD, DL.II, DL.subI, DL.cmpI, DL.negD, DL.addD_int, DL.ix_t0, DL.ix_t1, DL.ix_t2, DL.eqA_int, DL.eqA_pair, DL.intD_int, DL.intA_int, DL.intA_bl, DL.absD, DL.le1, DL.le2, DL.le3, DL.le4, DL.le5, DL.le8, DL.le9, Nat.zero_le, Bool.not_true, Bool.not_false, Bool.false_eq_true, DL.eqA_bl, eq_self, Int.reduceEq, Int.reduceLT, Int.reduceNeg, Bool.false_xor, Bool.true_xor, decide_true, decide_false, decide_eq_true_eq]
  rfl
/-- the law's own: by rests -/
theorem w_law_low (t u : Int) (M : MS) : ∀ k a c : Nat, c ≤ k → ∃ l, sWhile c0__law_low b0__law_low [some (SV.t (.int t)), some (SV.t (.int u)), some (SV.t (I a)), some (SV.t (I c))] M = some (.nx [some (.t (.int t)), some (.t (.int u)), some (.t (I (Nat.gcd a c))), l] M) := by
  intro k
  induction k with
  | zero =>
    intro a c hc
    have : c = 0 := by omega
    subst this
    rw [Nat.gcd_zero_right]
    exact ⟨some (.t (I 0)), while_f (by unfold c0__law_low; simp only [decide_eq_false (show ¬ ((0 : Int) < ((0 : Nat) : Int)) by omega), DL.dFn, DL.dFi, DL.sSeq, DL.sSet, DL.sIf, DL.sRet, DL.sRetN, DL.sDrop, DL.sBind, DL.sAsg, DL.sPar, DL.sPar3, DL.sNext, DL.dC, DL.dVar, DL.dPeek, DL.dBind, DL.dOut, DL.dUn, DL.dBin, DL.dTru, DL.dNot, DL.dAndT, DL.dOrT, DL.dAndV, DL.dOrV, DL.dIfE, DL.aNil, DL.aCons, DL.aBind, DL.fits, DL.dApp, DL.dRet, DL.dTup, DL.dLst, DL.truD, DL.bName, DL.bTup, DL.bCons, DL.bNil, DL.pick_eq, DL.Src.get, List.filterMap_cons, List.filterMap_nil, List.getElem?_cons_zero, List.getElem?_cons_succ, List.length_cons, List.length_nil, List.set_cons_zero, List.set_cons_succ, List.map_cons, List.map_nil, List.cons_append, List.nil_append, List.append_nil, List.append_assoc, List.reduceReplicate, Nat.reduceAdd, Nat.reduceSub, Nat.reduceLeDiff, Nat.reduceEqDiff, ↓reduceIte, DL.subD, DL.mulD, DL.divD, DL.modD, DL.powD, DL.ltD, DL.leD, DL.gtD, DL.geD, DL.II, DL.subI, DL.cmpI, DL.negD, DL.addD_int, DL.ix_t0, DL.ix_t1, DL.ix_t2, DL.eqA_int, DL.eqA_pair, DL.intD_int, DL.intA_int, DL.intA_bl, DL.absD, DL.le1, DL.le2, DL.le3, DL.le4, DL.le5, DL.le8, DL.le9, Nat.zero_le, Bool.not_true, Bool.not_false, Bool.false_eq_true, DL.eqA_bl, eq_self, Int.reduceEq, Int.reduceLT, Int.reduceNeg, Bool.false_xor, Bool.true_xor, decide_true, decide_false, decide_eq_true_eq])⟩
  | succ k ih =>
    intro a c hc
    by_cases h0 : c = 0
    · subst h0
      rw [Nat.gcd_zero_right]
      exact ⟨some (.t (I 0)), while_f (by unfold c0__law_low; simp only [decide_eq_false (show ¬ ((0 : Int) < ((0 : Nat) : Int)) by omega), DL.dFn, DL.dFi, DL.sSeq, DL.sSet, DL.sIf, DL.sRet, DL.sRetN, DL.sDrop, DL.sBind, DL.sAsg, DL.sPar, DL.sPar3, DL.sNext, DL.dC, DL.dVar, DL.dPeek, DL.dBind, DL.dOut, DL.dUn, DL.dBin, DL.dTru, DL.dNot, DL.dAndT, DL.dOrT, DL.dAndV, DL.dOrV, DL.dIfE, DL.aNil, DL.aCons, DL.aBind, DL.fits, DL.dApp, DL.dRet, DL.dTup, DL.dLst, DL.truD, DL.bName, DL.bTup, DL.bCons, DL.bNil, DL.pick_eq, DL.Src.get, List.filterMap_cons, List.filterMap_nil, List.getElem?_cons_zero, List.getElem?_cons_succ, List.length_cons, List.length_nil, List.set_cons_zero, List.set_cons_succ, List.map_cons, List.map_nil, List.cons_append, List.nil_append, List.append_nil, List.append_assoc, List.reduceReplicate, Nat.reduceAdd, Nat.reduceSub, Nat.reduceLeDiff, Nat.reduceEqDiff, ↓reduceIte, DL.subD, DL.mulD, DL.divD, DL.modD, DL.powD, DL.ltD, DL.leD, DL.gtD, DL.geD, DL.II, DL.subI, DL.cmpI, DL.negD, DL.addD_int, DL.ix_t0, DL.ix_t1, DL.ix_t2, DL.eqA_int, DL.eqA_pair, DL.intD_int, DL.intA_int, DL.intA_bl, DL.absD, DL.le1, DL.le2, DL.le3, DL.le4, DL.le5, DL.le8, DL.le9, Nat.zero_le, Bool.not_true, Bool.not_false, Bool.false_eq_true, DL.eqA_bl, eq_self, Int.reduceEq, Int.reduceLT, Int.reduceNeg, Bool.false_xor, Bool.true_xor, decide_true, decide_false, decide_eq_true_eq])⟩
    · obtain ⟨l, q⟩ := ih c (a % c) (by have := Nat.mod_lt a (show c > 0 by omega); omega)
      have e : Nat.gcd a c = Nat.gcd c (a % c) := by rw [Nat.gcd_comm a c, Nat.gcd_rec c a, Nat.gcd_comm]
      rw [e]
      refine ⟨l, while_t (ρ1 := [some (SV.t (.int t)), some (SV.t (.int u)), some (SV.t (I a)), some (SV.t (I c))]) (M1 := M) (by unfold c0__law_low; simp only [decide_eq_true (show ((0 : Int) < (c : Int)) by omega), DL.dFn, DL.dFi, DL.sSeq, DL.sSet, DL.sIf, DL.sRet, DL.sRetN, DL.sDrop, DL.sBind, DL.sAsg, DL.sPar, DL.sPar3, DL.sNext, DL.dC, DL.dVar, DL.dPeek, DL.dBind, DL.dOut, DL.dUn, DL.dBin, DL.dTru, DL.dNot, DL.dAndT, DL.dOrT, DL.dAndV, DL.dOrV, DL.dIfE, DL.aNil, DL.aCons, DL.aBind, DL.fits, DL.dApp, DL.dRet, DL.dTup, DL.dLst, DL.truD, DL.bName, DL.bTup, DL.bCons, DL.bNil, DL.pick_eq, DL.Src.get, List.filterMap_cons, List.filterMap_nil, List.getElem?_cons_zero, List.getElem?_cons_succ, List.length_cons, List.length_nil, List.set_cons_zero, List.set_cons_succ, List.map_cons, List.map_nil, List.cons_append, List.nil_append, List.append_nil, List.append_assoc, List.reduceReplicate, Nat.reduceAdd, Nat.reduceSub, Nat.reduceLeDiff, Nat.reduceEqDiff, ↓reduceIte, DL.subD, DL.mulD, DL.divD, DL.modD, DL.powD, DL.ltD, DL.leD, DL.gtD, DL.geD, DL.II, DL.subI, DL.cmpI, DL.negD, DL.addD_int, DL.ix_t0, DL.ix_t1, DL.ix_t2, DL.eqA_int, DL.eqA_pair, DL.intD_int, DL.intA_int, DL.intA_bl, DL.absD, DL.le1, DL.le2, DL.le3, DL.le4, DL.le5, DL.le8, DL.le9, Nat.zero_le, Bool.not_true, Bool.not_false, Bool.false_eq_true, DL.eqA_bl, eq_self, Int.reduceEq, Int.reduceLT, Int.reduceNeg, Bool.false_xor, Bool.true_xor, decide_true, decide_false, decide_eq_true_eq]) ?_ q⟩
      have f2 : Int.fmod (a : Int) (c : Int) = ((a % c : Nat) : Int) := by rw [Int.fmod_eq_emod_of_nonneg _ (by omega)]; omega
      unfold b0__law_low
      simp only [modI_ok (show (c : Int) ≠ 0 by omega), f2, DL.dFn, DL.dFi, DL.sSeq, DL.sSet, DL.sIf, DL.sRet, DL.sRetN, DL.sDrop, DL.sBind, DL.sAsg, DL.sPar, DL.sPar3, DL.sNext, DL.dC, DL.dVar, DL.dPeek, DL.dBind, DL.dOut, DL.dUn, DL.dBin, DL.dTru, DL.dNot, DL.dAndT, DL.dOrT, DL.dAndV, DL.dOrV, DL.dIfE, DL.aNil, DL.aCons, DL.aBind, DL.fits, DL.dApp, DL.dRet, DL.dTup, DL.dLst, DL.truD, DL.bName, DL.bTup, DL.bCons, DL.bNil, DL.pick_eq, DL.Src.get, List.filterMap_cons, List.filterMap_nil, List.getElem?_cons_zero, List.getElem?_cons_succ, List.length_cons, List.length_nil, List.set_cons_zero, List.set_cons_succ, List.map_cons, List.map_nil, List.cons_append, List.nil_append, List.append_nil, List.append_assoc, List.reduceReplicate, Nat.reduceAdd, Nat.reduceSub, Nat.reduceLeDiff, Nat.reduceEqDiff, ↓reduceIte, DL.subD, DL.mulD, DL.divD, DL.modD, DL.powD, DL.ltD, DL.leD, DL.gtD, DL.geD, DL.II, DL.subI, DL.cmpI, DL.negD, DL.addD_int, DL.ix_t0, DL.ix_t1, DL.ix_t2, DL.eqA_int, DL.eqA_pair, DL.intD_int, DL.intA_int, DL.intA_bl, DL.absD, DL.le1, DL.le2, DL.le3, DL.le4, DL.le5, DL.le8, DL.le9, Nat.zero_le, Bool.not_true, Bool.not_false, Bool.false_eq_true, DL.eqA_bl, eq_self, Int.reduceEq, Int.reduceLT, Int.reduceNeg, Bool.false_xor, Bool.true_xor, decide_true, decide_false, decide_eq_true_eq]
theorem abs_nat (t : Int) : (if t < 0 then -t else t) = ((t.natAbs : Nat) : Int) := by split <;> omega
theorem r_law_low (t u : Int) (hu : 0 < u) (hs : u.natAbs < 2 ^ 8000) (M : MS) : φ__law_low [.int t, .int u] M = some (.ret (P2 (lowP t u)) M) := by
  have g0 := g_pos (t := t) hu
  have dk : divOk ((Nat.gcd t.natAbs u.natAbs : Nat) : Int) := divOk_of (n := 8000) (by omega) (nat_lt (Nat.lt_of_le_of_lt (gcd_lt hu) hs))
  obtain ⟨l, q⟩ := w_law_low t u M u.natAbs t.natAbs u.natAbs (Nat.le_refl _)
  unfold φ__law_low m__law_low
  simp only [abs_nat, DL.dFn, DL.dFi, DL.sSeq, DL.sSet, DL.sIf, DL.sRet, DL.sRetN, DL.sDrop, DL.sBind, DL.sAsg, DL.sPar, DL.sPar3, DL.sNext, DL.dC, DL.dVar, DL.dPeek, DL.dBind, DL.dOut, DL.dUn, DL.dBin, DL.dTru, DL.dNot, DL.dAndT, DL.dOrT, DL.dAndV, DL.dOrV, DL.dIfE, DL.aNil, DL.aCons, DL.aBind, DL.fits, DL.dApp, DL.dRet, DL.dTup, DL.dLst, DL.truD, DL.bName, DL.bTup, DL.bCons, DL.bNil, DL.pick_eq, DL.Src.get, List.filterMap_cons, List.filterMap_nil, List.getElem?_cons_zero, List.getElem?_cons_succ, List.length_cons, List.length_nil, List.set_cons_zero, List.set_cons_succ, List.map_cons, List.map_nil, List.cons_append, List.nil_append, List.append_nil, List.append_assoc, List.reduceReplicate, Nat.reduceAdd, Nat.reduceSub, Nat.reduceLeDiff, Nat.reduceEqDiff, ↓reduceIte, DL.subD, DL.mulD, DL.divD, DL.modD, DL.powD, DL.ltD, DL.leD, DL.gtD, DL.geD, DL.II, DL.subI, DL.cmpI, DL.negD, DL.addD_int, DL.ix_t0, DL.ix_t1, DL.ix_t2, DL.eqA_int, DL.eqA_pair, DL.intD_int, DL.intA_int, DL.intA_bl, DL.absD, DL.le1, DL.le2, DL.le3, DL.le4, DL.le5, DL.le8, DL.le9, Nat.zero_le, Bool.not_true, Bool.not_false, Bool.false_eq_true, DL.eqA_bl, eq_self, Int.reduceEq, Int.reduceLT, Int.reduceNeg, Bool.false_xor, Bool.true_xor, decide_true, decide_false, decide_eq_true_eq]
  rw [q]
  simp only [decide_eq_false (show ¬ (u < 0) by omega), divI_ok dk, fdiv_g (show (0 : Int) ≤ ((Nat.gcd t.natAbs u.natAbs : Nat) : Int) by omega), line2, DL.dFn, DL.dFi, DL.sSeq, DL.sSet, DL.sIf, DL.sRet, DL.sRetN, DL.sDrop, DL.sBind, DL.sAsg, DL.sPar, DL.sPar3, DL.sNext, DL.dC, DL.dVar, DL.dPeek, DL.dBind, DL.dOut, DL.dUn, DL.dBin, DL.dTru, DL.dNot, DL.dAndT, DL.dOrT, DL.dAndV, DL.dOrV, DL.dIfE, DL.aNil, DL.aCons, DL.aBind, DL.fits, DL.dApp, DL.dRet, DL.dTup, DL.dLst, DL.truD, DL.bName, DL.bTup, DL.bCons, DL.bNil, DL.pick_eq, DL.Src.get, List.filterMap_cons, List.filterMap_nil, List.getElem?_cons_zero, List.getElem?_cons_succ, List.length_cons, List.length_nil, List.set_cons_zero, List.set_cons_succ, List.map_cons, List.map_nil, List.cons_append, List.nil_append, List.append_nil, List.append_assoc, List.reduceReplicate, Nat.reduceAdd, Nat.reduceSub, Nat.reduceLeDiff, Nat.reduceEqDiff, ↓reduceIte, DL.subD, DL.mulD, DL.divD, DL.modD, DL.powD, DL.ltD, DL.leD, DL.gtD, DL.geD, DL.II, DL.subI, DL.cmpI, DL.negD, DL.addD_int, DL.ix_t0, DL.ix_t1, DL.ix_t2, DL.eqA_int, DL.eqA_pair, DL.intD_int, DL.intA_int, DL.intA_bl, DL.absD, DL.le1, DL.le2, DL.le3, DL.le4, DL.le5, DL.le8, DL.le9, Nat.zero_le, Bool.not_true, Bool.not_false, Bool.false_eq_true, DL.eqA_bl, eq_self, Int.reduceEq, Int.reduceLT, Int.reduceNeg, Bool.false_xor, Bool.true_xor, decide_true, decide_false, decide_eq_true_eq]
  rfl
end L07
set_option maxHeartbeats 2000000
namespace L07
open PySem PySem.Spec PyProof.Rows L2 DL PA
/-! ### what is a number, a format -/
theorem isi_int (i : Int) : isiD TT (.int i) (.ty "int") = some (.bl true) := rfl
theorem isi_intb (i : Int) : isiD TT (.int i) (.ty "bool") = some (.bl false) := rfl
theorem isi_tupi (ds : List D) : isiD TT (.tup ds) (.ty "int") = some (.bl false) := rfl
theorem isi_row_t (ds : List D) : isiD TT (.tup ds) (.tup [.ty "list", .ty "tuple"]) = some (.bl true) := rfl
abbrev Fm (b d : Nat) : D := .ins "Format" ["base", "digits"] [I b, I d]
theorem isi_fm (b d : Nat) : isiD TT (Fm b d) (.gl "Format") = some (.bl true) := rfl
theorem fld_base (b d : Nat) : fldD TT "base" (Fm b d) = some (I b) := rfl
theorem fld_digits (b d : Nat) : fldD TT "digits" (Fm b d) = some (I d) := rfl
theorem isA_int (i : Int) : isA false (.int i) .non = some (.bl false) := rfl
theorem r_is_integer (i : Int) (M : MS) : φ_is_integer [.int i] M = some (.ret (.bl true) M) := by
  unfold φ_is_integer m_is_integer
  simp only [isi_int, isi_intb, DL.dFn, DL.dFi, DL.sSeq, DL.sSet, DL.sIf, DL.sRet, DL.sRetN, DL.sDrop, DL.sBind, DL.sAsg, DL.sPar, DL.sPar3, DL.sNext, DL.dC, DL.dVar, DL.dPeek, DL.dBind, DL.dOut, DL.dUn, DL.dBin, DL.dTru, DL.dNot, DL.dAndT, DL.dOrT, DL.dAndV, DL.dOrV, DL.dIfE, DL.aNil, DL.aCons, DL.aBind, DL.fits, DL.dApp, DL.dRet, DL.dTup, DL.dLst, DL.truD, DL.bName, DL.bTup, DL.bCons, DL.bNil, DL.pick_eq, DL.Src.get, List.filterMap_cons, List.filterMap_nil, List.getElem?_cons_zero, List.getElem?_cons_succ, List.length_cons, List.length_nil, List.set_cons_zero, List.set_cons_succ, List.map_cons, List.map_nil, List.cons_append, List.nil_append, List.append_nil, List.append_assoc, List.reduceReplicate, Nat.reduceAdd, Nat.reduceSub, Nat.reduceLeDiff, Nat.reduceEqDiff, ↓reduceIte, DL.subD, DL.mulD, DL.divD, DL.modD, DL.powD, DL.ltD, DL.leD, DL.gtD, DL.geD, DL.II, DL.subI, DL.cmpI, DL.negD, DL.addD_int, DL.ix_t0, DL.ix_t1, DL.ix_t2, DL.eqA_int, DL.eqA_pair, DL.intD_int, DL.intA_int, DL.intA_bl, DL.absD, DL.le1, DL.le2, DL.le3, DL.le4, DL.le5, DL.le8, DL.le9, Nat.zero_le, Bool.not_true, Bool.not_false, Bool.false_eq_true, DL.eqA_bl, eq_self, Int.reduceEq, Int.reduceLT, Int.reduceNeg, Bool.false_xor, Bool.true_xor, decide_true, decide_false, decide_eq_true_eq]
theorem r_is_integer_t (ds : List D) (M : MS) : φ_is_integer [.tup ds] M = some (.ret (.bl false) M) := by
  unfold φ_is_integer m_is_integer
  simp only [isi_tupi, DL.dFn, DL.dFi, DL.sSeq, DL.sSet, DL.sIf, DL.sRet, DL.sRetN, DL.sDrop, DL.sBind, DL.sAsg, DL.sPar, DL.sPar3, DL.sNext, DL.dC, DL.dVar, DL.dPeek, DL.dBind, DL.dOut, DL.dUn, DL.dBin, DL.dTru, DL.dNot, DL.dAndT, DL.dOrT, DL.dAndV, DL.dOrV, DL.dIfE, DL.aNil, DL.aCons, DL.aBind, DL.fits, DL.dApp, DL.dRet, DL.dTup, DL.dLst, DL.truD, DL.bName, DL.bTup, DL.bCons, DL.bNil, DL.pick_eq, DL.Src.get, List.filterMap_cons, List.filterMap_nil, List.getElem?_cons_zero, List.getElem?_cons_succ, List.length_cons, List.length_nil, List.set_cons_zero, List.set_cons_succ, List.map_cons, List.map_nil, List.cons_append, List.nil_append, List.append_nil, List.append_assoc, List.reduceReplicate, Nat.reduceAdd, Nat.reduceSub, Nat.reduceLeDiff, Nat.reduceEqDiff, ↓reduceIte, DL.subD, DL.mulD, DL.divD, DL.modD, DL.powD, DL.ltD, DL.leD, DL.gtD, DL.geD, DL.II, DL.subI, DL.cmpI, DL.negD, DL.addD_int, DL.ix_t0, DL.ix_t1, DL.ix_t2, DL.eqA_int, DL.eqA_pair, DL.intD_int, DL.intA_int, DL.intA_bl, DL.absD, DL.le1, DL.le2, DL.le3, DL.le4, DL.le5, DL.le8, DL.le9, Nat.zero_le, Bool.not_true, Bool.not_false, Bool.false_eq_true, DL.eqA_bl, eq_self, Int.reduceEq, Int.reduceLT, Int.reduceNeg, Bool.false_xor, Bool.true_xor, decide_true, decide_false, decide_eq_true_eq]
theorem r_is_within (v lo hi : Int) (h1 : lo ≤ v) (h2 : v ≤ hi) (M : MS) : φ_is_within [.int v, .int lo, .int hi] M = some (.ret (.bl true) M) := by
  unfold φ_is_within m_is_within
  simp only [r_is_integer, isA_int, decide_eq_true h1, decide_eq_true h2, DL.dFn, DL.dFi, DL.sSeq, DL.sSet, DL.sIf, DL.sRet, DL.sRetN, DL.sDrop, DL.sBind, DL.sAsg, DL.sPar, DL.sPar3, DL.sNext, DL.dC, DL.dVar, DL.dPeek, DL.dBind, DL.dOut, DL.dUn, DL.dBin, DL.dTru, DL.dNot, DL.dAndT, DL.dOrT, DL.dAndV, DL.dOrV, DL.dIfE, DL.aNil, DL.aCons, DL.aBind, DL.fits, DL.dApp, DL.dRet, DL.dTup, DL.dLst, DL.truD, DL.bName, DL.bTup, DL.bCons, DL.bNil, DL.pick_eq, DL.Src.get, List.filterMap_cons, List.filterMap_nil, List.getElem?_cons_zero, List.getElem?_cons_succ, List.length_cons, List.length_nil, List.set_cons_zero, List.set_cons_succ, List.map_cons, List.map_nil, List.cons_append, List.nil_append, List.append_nil, List.append_assoc, List.reduceReplicate, Nat.reduceAdd, Nat.reduceSub, Nat.reduceLeDiff, Nat.reduceEqDiff, ↓reduceIte, DL.subD, DL.mulD, DL.divD, DL.modD, DL.powD, DL.ltD, DL.leD, DL.gtD, DL.geD, DL.II, DL.subI, DL.cmpI, DL.negD, DL.addD_int, DL.ix_t0, DL.ix_t1, DL.ix_t2, DL.eqA_int, DL.eqA_pair, DL.intD_int, DL.intA_int, DL.intA_bl, DL.absD, DL.le1, DL.le2, DL.le3, DL.le4, DL.le5, DL.le8, DL.le9, Nat.zero_le, Bool.not_true, Bool.not_false, Bool.false_eq_true, DL.eqA_bl, eq_self, Int.reduceEq, Int.reduceLT, Int.reduceNeg, Bool.false_xor, Bool.true_xor, decide_true, decide_false, decide_eq_true_eq]
theorem self_put (T : OwnT) (i : Nat) (f : Str) (a : TDE) (ρ ρ1 : DS) (M M1 : MS) (d : D) (p : Addr) (c : Str) (ks : List Str) (ds : List D) (h1 : a ρ M = some (.ok d ρ1 M1)) (h2 : ρ1[i]? = some (some (.owi p c ks ds)))
    (h3 : c ∈ T.cs ∧ (c, f) ∈ T.at_ ∧ ks.length < 1000 ∧ ds.length = ks.length) : sSelf T i f a ρ M = some (.nx (ρ1.set i (some (.owi p c (putK f ks) (putX f d ks ds)))) M1) := by
  unfold sSelf
  rw [h1]
  simp only [h2]
  rw [if_pos h3]
theorem r_init (p : Addr) (b d : Nat) (h1 : 2 ≤ b) (h2 : b ≤ 36) (h3 : 1 ≤ d) (h4 : d ≤ 60) (M : MS) : φ_Format_init p [I b, I d] M = some (.ret ["base", "digits"] [I b, I d] M) := by
  unfold φ_Format_init m_Format_init
  simp only [r_is_within b 2 36 (by omega) (by omega), r_is_within d 1 60 (by omega) (by omega), DL.dFn, DL.dFi, DL.sSeq, DL.sSet, DL.sIf, DL.sRet, DL.sRetN, DL.sDrop, DL.sBind, DL.sAsg, DL.sPar, DL.sPar3, DL.sNext, DL.dC, DL.dVar, DL.dPeek, DL.dBind, DL.dOut, DL.dUn, DL.dBin, DL.dTru, DL.dNot, DL.dAndT, DL.dOrT, DL.dAndV, DL.dOrV, DL.dIfE, DL.aNil, DL.aCons, DL.aBind, DL.fits, DL.dApp, DL.dRet, DL.dTup, DL.dLst, DL.truD, DL.bName, DL.bTup, DL.bCons, DL.bNil, DL.pick_eq, DL.Src.get, List.filterMap_cons, List.filterMap_nil, List.getElem?_cons_zero, List.getElem?_cons_succ, List.length_cons, List.length_nil, List.set_cons_zero, List.set_cons_succ, List.map_cons, List.map_nil, List.cons_append, List.nil_append, List.append_nil, List.append_assoc, List.reduceReplicate, Nat.reduceAdd, Nat.reduceSub, Nat.reduceLeDiff, Nat.reduceEqDiff, ↓reduceIte, DL.subD, DL.mulD, DL.divD, DL.modD, DL.powD, DL.ltD, DL.leD, DL.gtD, DL.geD, DL.II, DL.subI, DL.cmpI, DL.negD, DL.addD_int, DL.ix_t0, DL.ix_t1, DL.ix_t2, DL.eqA_int, DL.eqA_pair, DL.intD_int, DL.intA_int, DL.intA_bl, DL.absD, DL.le1, DL.le2, DL.le3, DL.le4, DL.le5, DL.le8, DL.le9, Nat.zero_le, Bool.not_true, Bool.not_false, Bool.false_eq_true, DL.eqA_bl, eq_self, Int.reduceEq, Int.reduceLT, Int.reduceNeg, Bool.false_xor, Bool.true_xor, decide_true, decide_false, decide_eq_true_eq]
  rw [self_put TT 0 "base" (dVar 1) [some (.owi p "Format" [] []), some (.t (I b)), some (.t (I d))] [some (.owi p "Format" [] []), some (.t (I b)), some (.t (I d))] M M (I b) p "Format" [] [] (by simp only [DL.dFn, DL.dFi, DL.sSeq, DL.sSet, DL.sIf, DL.sRet, DL.sRetN, DL.sDrop, DL.sBind, DL.sAsg, DL.sPar, DL.sPar3, DL.sNext, DL.dC, DL.dVar, DL.dPeek, DL.dBind, DL.dOut, DL.dUn, DL.dBin, DL.dTru, DL.dNot, DL.dAndT, DL.dOrT, DL.dAndV, DL.dOrV, DL.dIfE, DL.aNil, DL.aCons, DL.aBind, DL.fits, DL.dApp, DL.dRet, DL.dTup, DL.dLst, DL.truD, DL.bName, DL.bTup, DL.bCons, DL.bNil, DL.pick_eq, DL.Src.get, List.filterMap_cons, List.filterMap_nil, List.getElem?_cons_zero, List.getElem?_cons_succ, List.length_cons, List.length_nil, List.set_cons_zero, List.set_cons_succ, List.map_cons, List.map_nil, List.cons_append, List.nil_append, List.append_nil, List.append_assoc, List.reduceReplicate, Nat.reduceAdd, Nat.reduceSub, Nat.reduceLeDiff, Nat.reduceEqDiff, ↓reduceIte, DL.subD, DL.mulD, DL.divD, DL.modD, DL.powD, DL.ltD, DL.leD, DL.gtD, DL.geD, DL.II, DL.subI, DL.cmpI, DL.negD, DL.addD_int, DL.ix_t0, DL.ix_t1, DL.ix_t2, DL.eqA_int, DL.eqA_pair, DL.intD_int, DL.intA_int, DL.intA_bl, DL.absD, DL.le1, DL.le2, DL.le3, DL.le4, DL.le5, DL.le8, DL.le9, Nat.zero_le, Bool.not_true, Bool.not_false, Bool.false_eq_true, DL.eqA_bl, eq_self, Int.reduceEq, Int.reduceLT, Int.reduceNeg, Bool.false_xor, Bool.true_xor, decide_true, decide_false, decide_eq_true_eq]) rfl (by decide)]
  simp only [DL.dFn, DL.dFi, DL.sSeq, DL.sSet, DL.sIf, DL.sRet, DL.sRetN, DL.sDrop, DL.sBind, DL.sAsg, DL.sPar, DL.sPar3, DL.sNext, DL.dC, DL.dVar, DL.dPeek, DL.dBind, DL.dOut, DL.dUn, DL.dBin, DL.dTru, DL.dNot, DL.dAndT, DL.dOrT, DL.dAndV, DL.dOrV, DL.dIfE, DL.aNil, DL.aCons, DL.aBind, DL.fits, DL.dApp, DL.dRet, DL.dTup, DL.dLst, DL.truD, DL.bName, DL.bTup, DL.bCons, DL.bNil, DL.pick_eq, DL.Src.get, List.filterMap_cons, List.filterMap_nil, List.getElem?_cons_zero, List.getElem?_cons_succ, List.length_cons, List.length_nil, List.set_cons_zero, List.set_cons_succ, List.map_cons, List.map_nil, List.cons_append, List.nil_append, List.append_nil, List.append_assoc, List.reduceReplicate, Nat.reduceAdd, Nat.reduceSub, Nat.reduceLeDiff, Nat.reduceEqDiff, ↓reduceIte, DL.subD, DL.mulD, DL.divD, DL.modD, DL.powD, DL.ltD, DL.leD, DL.gtD, DL.geD, DL.II, DL.subI, DL.cmpI, DL.negD, DL.addD_int, DL.ix_t0, DL.ix_t1, DL.ix_t2, DL.eqA_int, DL.eqA_pair, DL.intD_int, DL.intA_int, DL.intA_bl, DL.absD, DL.le1, DL.le2, DL.le3, DL.le4, DL.le5, DL.le8, DL.le9, Nat.zero_le, Bool.not_true, Bool.not_false, Bool.false_eq_true, DL.eqA_bl, eq_self, Int.reduceEq, Int.reduceLT, Int.reduceNeg, Bool.false_xor, Bool.true_xor, decide_true, decide_false, decide_eq_true_eq]
  rw [show DL.putK "base" [] = (["base"] : List Str) from rfl, show putX "base" (I b) [] [] = [I b] from rfl]
  rw [self_put TT 0 "digits" (dVar 2) [some (.owi p "Format" ["base"] [I b]), some (.t (I b)), some (.t (I d))] [some (.owi p "Format" ["base"] [I b]), some (.t (I b)), some (.t (I d))] M M (I d) p "Format" ["base"] [I b] (by simp only [DL.dFn, DL.dFi, DL.sSeq, DL.sSet, DL.sIf, DL.sRet, DL.sRetN, DL.sDrop, DL.sBind, DL.sAsg, DL.sPar, DL.sPar3, DL.sNext, DL.dC, DL.dVar, DL.dPeek, DL.dBind, DL.dOut, DL.dUn, DL.dBin, DL.dTru, DL.dNot, DL.dAndT, DL.dOrT, DL.dAndV, DL.dOrV, DL.dIfE, DL.aNil, DL.aCons, DL.aBind, DL.fits, DL.dApp, DL.dRet, DL.dTup, DL.dLst, DL.truD, DL.bName, DL.bTup, DL.bCons, DL.bNil, DL.pick_eq, DL.Src.get, List.filterMap_cons, List.filterMap_nil, List.getElem?_cons_zero, List.getElem?_cons_succ, List.length_cons, List.length_nil, List.set_cons_zero, List.set_cons_succ, List.map_cons, List.map_nil, List.cons_append, List.nil_append, List.append_nil, List.append_assoc, List.reduceReplicate, Nat.reduceAdd, Nat.reduceSub, Nat.reduceLeDiff, Nat.reduceEqDiff, ↓reduceIte, DL.subD, DL.mulD, DL.divD, DL.modD, DL.powD, DL.ltD, DL.leD, DL.gtD, DL.geD, DL.II, DL.subI, DL.cmpI, DL.negD, DL.addD_int, DL.ix_t0, DL.ix_t1, DL.ix_t2, DL.eqA_int, DL.eqA_pair, DL.intD_int, DL.intA_int, DL.intA_bl, DL.absD, DL.le1, DL.le2, DL.le3, DL.le4, DL.le5, DL.le8, DL.le9, Nat.zero_le, Bool.not_true, Bool.not_false, Bool.false_eq_true, DL.eqA_bl, eq_self, Int.reduceEq, Int.reduceLT, Int.reduceNeg, Bool.false_xor, Bool.true_xor, decide_true, decide_false, decide_eq_true_eq]) rfl ⟨by decide, by decide, by decide, rfl⟩]
  show (if ("Format" : Str) = "Format" ∧ p = p then some (IO.ret (DL.putK "digits" ["base"]) (putX "digits" (I d) ["base"] [I b]) M) else none) = _
  rw [if_pos ⟨rfl, rfl⟩]
  rfl
theorem r_need_format (b d : Nat) (M : MS) : φ_need_format [Fm b d] M = some (.ret .non M) := by
  unfold φ_need_format m_need_format
  simp only [isi_fm, DL.dFn, DL.dFi, DL.sSeq, DL.sSet, DL.sIf, DL.sRet, DL.sRetN, DL.sDrop, DL.sBind, DL.sAsg, DL.sPar, DL.sPar3, DL.sNext, DL.dC, DL.dVar, DL.dPeek, DL.dBind, DL.dOut, DL.dUn, DL.dBin, DL.dTru, DL.dNot, DL.dAndT, DL.dOrT, DL.dAndV, DL.dOrV, DL.dIfE, DL.aNil, DL.aCons, DL.aBind, DL.fits, DL.dApp, DL.dRet, DL.dTup, DL.dLst, DL.truD, DL.bName, DL.bTup, DL.bCons, DL.bNil, DL.pick_eq, DL.Src.get, List.filterMap_cons, List.filterMap_nil, List.getElem?_cons_zero, List.getElem?_cons_succ, List.length_cons, List.length_nil, List.set_cons_zero, List.set_cons_succ, List.map_cons, List.map_nil, List.cons_append, List.nil_append, List.append_nil, List.append_assoc, List.reduceReplicate, Nat.reduceAdd, Nat.reduceSub, Nat.reduceLeDiff, Nat.reduceEqDiff, ↓reduceIte, DL.subD, DL.mulD, DL.divD, DL.modD, DL.powD, DL.ltD, DL.leD, DL.gtD, DL.geD, DL.II, DL.subI, DL.cmpI, DL.negD, DL.addD_int, DL.ix_t0, DL.ix_t1, DL.ix_t2, DL.eqA_int, DL.eqA_pair, DL.intD_int, DL.intA_int, DL.intA_bl, DL.absD, DL.le1, DL.le2, DL.le3, DL.le4, DL.le5, DL.le8, DL.le9, Nat.zero_le, Bool.not_true, Bool.not_false, Bool.false_eq_true, DL.eqA_bl, eq_self, Int.reduceEq, Int.reduceLT, Int.reduceNeg, Bool.false_xor, Bool.true_xor, decide_true, decide_false, decide_eq_true_eq]
theorem r_is_row (ds : List D) (M : MS) : φ_is_row [.tup ds] M = some (.ret (.bl true) M) := by
  unfold φ_is_row m_is_row
  simp only [isi_row_t, DL.dFn, DL.dFi, DL.sSeq, DL.sSet, DL.sIf, DL.sRet, DL.sRetN, DL.sDrop, DL.sBind, DL.sAsg, DL.sPar, DL.sPar3, DL.sNext, DL.dC, DL.dVar, DL.dPeek, DL.dBind, DL.dOut, DL.dUn, DL.dBin, DL.dTru, DL.dNot, DL.dAndT, DL.dOrT, DL.dAndV, DL.dOrV, DL.dIfE, DL.aNil, DL.aCons, DL.aBind, DL.fits, DL.dApp, DL.dRet, DL.dTup, DL.dLst, DL.truD, DL.bName, DL.bTup, DL.bCons, DL.bNil, DL.pick_eq, DL.Src.get, List.filterMap_cons, List.filterMap_nil, List.getElem?_cons_zero, List.getElem?_cons_succ, List.length_cons, List.length_nil, List.set_cons_zero, List.set_cons_succ, List.map_cons, List.map_nil, List.cons_append, List.nil_append, List.append_nil, List.append_assoc, List.reduceReplicate, Nat.reduceAdd, Nat.reduceSub, Nat.reduceLeDiff, Nat.reduceEqDiff, ↓reduceIte, DL.subD, DL.mulD, DL.divD, DL.modD, DL.powD, DL.ltD, DL.leD, DL.gtD, DL.geD, DL.II, DL.subI, DL.cmpI, DL.negD, DL.addD_int, DL.ix_t0, DL.ix_t1, DL.ix_t2, DL.eqA_int, DL.eqA_pair, DL.intD_int, DL.intA_int, DL.intA_bl, DL.absD, DL.le1, DL.le2, DL.le3, DL.le4, DL.le5, DL.le8, DL.le9, Nat.zero_le, Bool.not_true, Bool.not_false, Bool.false_eq_true, DL.eqA_bl, eq_self, Int.reduceEq, Int.reduceLT, Int.reduceNeg, Bool.false_xor, Bool.true_xor, decide_true, decide_false, decide_eq_true_eq]
theorem r_is_number_i (i : Int) (M : MS) : φ_is_number [.int i] M = some (.ret (.bl true) M) := by
  unfold φ_is_number m_is_number
  simp only [r_is_integer, DL.dFn, DL.dFi, DL.sSeq, DL.sSet, DL.sIf, DL.sRet, DL.sRetN, DL.sDrop, DL.sBind, DL.sAsg, DL.sPar, DL.sPar3, DL.sNext, DL.dC, DL.dVar, DL.dPeek, DL.dBind, DL.dOut, DL.dUn, DL.dBin, DL.dTru, DL.dNot, DL.dAndT, DL.dOrT, DL.dAndV, DL.dOrV, DL.dIfE, DL.aNil, DL.aCons, DL.aBind, DL.fits, DL.dApp, DL.dRet, DL.dTup, DL.dLst, DL.truD, DL.bName, DL.bTup, DL.bCons, DL.bNil, DL.pick_eq, DL.Src.get, List.filterMap_cons, List.filterMap_nil, List.getElem?_cons_zero, List.getElem?_cons_succ, List.length_cons, List.length_nil, List.set_cons_zero, List.set_cons_succ, List.map_cons, List.map_nil, List.cons_append, List.nil_append, List.append_nil, List.append_assoc, List.reduceReplicate, Nat.reduceAdd, Nat.reduceSub, Nat.reduceLeDiff, Nat.reduceEqDiff, ↓reduceIte, DL.subD, DL.mulD, DL.divD, DL.modD, DL.powD, DL.ltD, DL.leD, DL.gtD, DL.geD, DL.II, DL.subI, DL.cmpI, DL.negD, DL.addD_int, DL.ix_t0, DL.ix_t1, DL.ix_t2, DL.eqA_int, DL.eqA_pair, DL.intD_int, DL.intA_int, DL.intA_bl, DL.absD, DL.le1, DL.le2, DL.le3, DL.le4, DL.le5, DL.le8, DL.le9, Nat.zero_le, Bool.not_true, Bool.not_false, Bool.false_eq_true, DL.eqA_bl, eq_self, Int.reduceEq, Int.reduceLT, Int.reduceNeg, Bool.false_xor, Bool.true_xor, decide_true, decide_false, decide_eq_true_eq]
theorem r_is_number (t u : Int) (hu : 0 < u) (M : MS) : φ_is_number [.tup [.int t, .int u]] M = some (.ret (.bl true) M) := by
  unfold φ_is_number m_is_number
  simp only [r_is_integer, r_is_integer_t, r_is_row, len_tup, decide_eq_true hu, DL.dFn, DL.dFi, DL.sSeq, DL.sSet, DL.sIf, DL.sRet, DL.sRetN, DL.sDrop, DL.sBind, DL.sAsg, DL.sPar, DL.sPar3, DL.sNext, DL.dC, DL.dVar, DL.dPeek, DL.dBind, DL.dOut, DL.dUn, DL.dBin, DL.dTru, DL.dNot, DL.dAndT, DL.dOrT, DL.dAndV, DL.dOrV, DL.dIfE, DL.aNil, DL.aCons, DL.aBind, DL.fits, DL.dApp, DL.dRet, DL.dTup, DL.dLst, DL.truD, DL.bName, DL.bTup, DL.bCons, DL.bNil, DL.pick_eq, DL.Src.get, List.filterMap_cons, List.filterMap_nil, List.getElem?_cons_zero, List.getElem?_cons_succ, List.length_cons, List.length_nil, List.set_cons_zero, List.set_cons_succ, List.map_cons, List.map_nil, List.cons_append, List.nil_append, List.append_nil, List.append_assoc, List.reduceReplicate, Nat.reduceAdd, Nat.reduceSub, Nat.reduceLeDiff, Nat.reduceEqDiff, ↓reduceIte, DL.subD, DL.mulD, DL.divD, DL.modD, DL.powD, DL.ltD, DL.leD, DL.gtD, DL.geD, DL.II, DL.subI, DL.cmpI, DL.negD, DL.addD_int, DL.ix_t0, DL.ix_t1, DL.ix_t2, DL.eqA_int, DL.eqA_pair, DL.intD_int, DL.intA_int, DL.intA_bl, DL.absD, DL.le1, DL.le2, DL.le3, DL.le4, DL.le5, DL.le8, DL.le9, Nat.zero_le, Bool.not_true, Bool.not_false, Bool.false_eq_true, DL.eqA_bl, eq_self, Int.reduceEq, Int.reduceLT, Int.reduceNeg, Bool.false_xor, Bool.true_xor, decide_true, decide_false, decide_eq_true_eq]
  rfl
theorem r_number_i (i : Int) (x : D) (M : MS) : φ_number_of [.int i, x] M = some (.ret (.tup [.int i, .int 1]) M) := by
  unfold φ_number_of m_number_of
  simp only [r_is_integer, r_is_number_i, DL.dFn, DL.dFi, DL.sSeq, DL.sSet, DL.sIf, DL.sRet, DL.sRetN, DL.sDrop, DL.sBind, DL.sAsg, DL.sPar, DL.sPar3, DL.sNext, DL.dC, DL.dVar, DL.dPeek, DL.dBind, DL.dOut, DL.dUn, DL.dBin, DL.dTru, DL.dNot, DL.dAndT, DL.dOrT, DL.dAndV, DL.dOrV, DL.dIfE, DL.aNil, DL.aCons, DL.aBind, DL.fits, DL.dApp, DL.dRet, DL.dTup, DL.dLst, DL.truD, DL.bName, DL.bTup, DL.bCons, DL.bNil, DL.pick_eq, DL.Src.get, List.filterMap_cons, List.filterMap_nil, List.getElem?_cons_zero, List.getElem?_cons_succ, List.length_cons, List.length_nil, List.set_cons_zero, List.set_cons_succ, List.map_cons, List.map_nil, List.cons_append, List.nil_append, List.append_nil, List.append_assoc, List.reduceReplicate, Nat.reduceAdd, Nat.reduceSub, Nat.reduceLeDiff, Nat.reduceEqDiff, ↓reduceIte, DL.subD, DL.mulD, DL.divD, DL.modD, DL.powD, DL.ltD, DL.leD, DL.gtD, DL.geD, DL.II, DL.subI, DL.cmpI, DL.negD, DL.addD_int, DL.ix_t0, DL.ix_t1, DL.ix_t2, DL.eqA_int, DL.eqA_pair, DL.intD_int, DL.intA_int, DL.intA_bl, DL.absD, DL.le1, DL.le2, DL.le3, DL.le4, DL.le5, DL.le8, DL.le9, Nat.zero_le, Bool.not_true, Bool.not_false, Bool.false_eq_true, DL.eqA_bl, eq_self, Int.reduceEq, Int.reduceLT, Int.reduceNeg, Bool.false_xor, Bool.true_xor, decide_true, decide_false, decide_eq_true_eq]
theorem r_number (t u : Int) (hu : 0 < u) (hs : u.natAbs < 2 ^ 8000) (x : D) (M : MS) : φ_number_of [.tup [.int t, .int u], x] M = some (.ret (P2 (lowP t u)) M) := by
  unfold φ_number_of m_number_of
  simp only [r_is_integer_t, r_is_number t u hu, r_low t u hu hs, DL.dFn, DL.dFi, DL.sSeq, DL.sSet, DL.sIf, DL.sRet, DL.sRetN, DL.sDrop, DL.sBind, DL.sAsg, DL.sPar, DL.sPar3, DL.sNext, DL.dC, DL.dVar, DL.dPeek, DL.dBind, DL.dOut, DL.dUn, DL.dBin, DL.dTru, DL.dNot, DL.dAndT, DL.dOrT, DL.dAndV, DL.dOrV, DL.dIfE, DL.aNil, DL.aCons, DL.aBind, DL.fits, DL.dApp, DL.dRet, DL.dTup, DL.dLst, DL.truD, DL.bName, DL.bTup, DL.bCons, DL.bNil, DL.pick_eq, DL.Src.get, List.filterMap_cons, List.filterMap_nil, List.getElem?_cons_zero, List.getElem?_cons_succ, List.length_cons, List.length_nil, List.set_cons_zero, List.set_cons_succ, List.map_cons, List.map_nil, List.cons_append, List.nil_append, List.append_nil, List.append_assoc, List.reduceReplicate, Nat.reduceAdd, Nat.reduceSub, Nat.reduceLeDiff, Nat.reduceEqDiff, ↓reduceIte, DL.subD, DL.mulD, DL.divD, DL.modD, DL.powD, DL.ltD, DL.leD, DL.gtD, DL.geD, DL.II, DL.subI, DL.cmpI, DL.negD, DL.addD_int, DL.ix_t0, DL.ix_t1, DL.ix_t2, DL.eqA_int, DL.eqA_pair, DL.intD_int, DL.intA_int, DL.intA_bl, DL.absD, DL.le1, DL.le2, DL.le3, DL.le4, DL.le5, DL.le8, DL.le9, Nat.zero_le, Bool.not_true, Bool.not_false, Bool.false_eq_true, DL.eqA_bl, eq_self, Int.reduceEq, Int.reduceLT, Int.reduceNeg, Bool.false_xor, Bool.true_xor, decide_true, decide_false, decide_eq_true_eq]
/-! ### powers -/
theorem neg_toNat (e : Int) (h : e ≤ 0) : -e = (((-e).toNat : Nat) : Int) := by omega
theorem pos_toNat (e : Int) (h : 0 ≤ e) : e = ((e.toNat : Nat) : Int) := by omega
theorem r_pw (b : Nat) (e : Int) (h1 : 1 ≤ b) (hb : b < 64) (h0 : 0 ≤ e) (hn : e ≤ 50000) (M : MS) : φ_int_power [I b, .int e] M = some (.ret (I (up b e)) M) := by
  have q := r_int_power b e.toNat h1 hb (by omega) M
  rw [show (I e.toNat) = D.int e from congrArg D.int (show ((e.toNat : Nat) : Int) = e by omega)] at q
  exact q
theorem r_pwn (b : Nat) (e : Int) (h1 : 1 ≤ b) (hb : b < 64) (h0 : e ≤ 0) (hn : -50000 ≤ e) (M : MS) : φ_int_power [I b, .int (-e)] M = some (.ret (I (dn b e)) M) :=
  r_pw b (-e) h1 hb (by omega) (by omega) M
theorem up_lt {b : Nat} {e : Int} (hb : b < 64) (hn : e ≤ 50000) : up b e < 2 ^ 300001 := pw_lt hb (by omega)
theorem dn_lt {b : Nat} {e : Int} (hb : b < 64) (hn : -50000 ≤ e) : dn b e < 2 ^ 300001 := pw_lt hb (by omega)
theorem up1 {b : Nat} {e : Int} (h : e ≤ 0) : up b e = 1 := by unfold up; rw [show e.toNat = 0 by omega]; rfl
theorem dn1 {b : Nat} {e : Int} (h : 0 ≤ e) : dn b e = 1 := by unfold dn; rw [show (-e).toNat = 0 by omega]; rfl
instance (b T U : Nat) (e : Int) : Decidable (Und b T U e) := Nat.decLt _ _
theorem r_fits_under (T U b : Nat) (e : Int) (h1 : 1 ≤ b) (hb : b < 64) (h2 : -50000 ≤ e) (h3 : e ≤ 50000) (hT : T < 2 ^ 5000) (hU : U < 2 ^ 5000) (M : MS) : φ_fits_under [I T, I U, I b, .int e] M = some (.ret (.bl (decide (Und b T U e))) M) := by
  have m1 : mulOk (U : Int) ((up b e : Nat) : Int) := mulOk_of (nat_lt hU) (nat_lt (up_lt hb h3))
  have m2 : mulOk (T : Int) ((dn b e : Nat) : Int) := mulOk_of (nat_lt hT) (nat_lt (dn_lt hb h2))
  unfold φ_fits_under m_fits_under
  by_cases h : 0 ≤ e
  · simp only [decide_eq_true h, r_pw b e h1 hb h h3, mulI_ok m1, DL.dFn, DL.dFi, DL.sSeq, DL.sSet, DL.sIf, DL.sRet, DL.sRetN, DL.sDrop, DL.sBind, DL.sAsg, DL.sPar, DL.sPar3, DL.sNext, DL.dC, DL.dVar, DL.dPeek, DL.dBind, DL.dOut, DL.dUn, DL.dBin, DL.dTru, DL.dNot, DL.dAndT, DL.dOrT, DL.dAndV, DL.dOrV, DL.dIfE, DL.aNil, DL.aCons, DL.aBind, DL.fits, DL.dApp, DL.dRet, DL.dTup, DL.dLst, DL.truD, DL.bName, DL.bTup, DL.bCons, DL.bNil, DL.pick_eq, DL.Src.get, List.filterMap_cons, List.filterMap_nil, List.getElem?_cons_zero, List.getElem?_cons_succ, List.length_cons, List.length_nil, List.set_cons_zero, List.set_cons_succ, List.map_cons, List.map_nil, List.cons_append, List.nil_append, List.append_nil, List.append_assoc, List.reduceReplicate, Nat.reduceAdd, Nat.reduceSub, Nat.reduceLeDiff, Nat.reduceEqDiff, ↓reduceIte, DL.subD, DL.mulD, DL.divD, DL.modD, DL.powD, DL.ltD, DL.leD, DL.gtD, DL.geD, DL.II, DL.subI, DL.cmpI, DL.negD, DL.addD_int, DL.ix_t0, DL.ix_t1, DL.ix_t2, DL.eqA_int, DL.eqA_pair, DL.intD_int, DL.intA_int, DL.intA_bl, DL.absD, DL.le1, DL.le2, DL.le3, DL.le4, DL.le5, DL.le8, DL.le9, Nat.zero_le, Bool.not_true, Bool.not_false, Bool.false_eq_true, DL.eqA_bl, eq_self, Int.reduceEq, Int.reduceLT, Int.reduceNeg, Bool.false_xor, Bool.true_xor, decide_true, decide_false, decide_eq_true_eq]
    refine congrArg (fun z => some (FO.ret (D.bl z) M)) (decide_eq_decide.mpr ?_)
    unfold Und
    rw [dn1 h, Nat.mul_one, ← Int.natCast_mul, Int.ofNat_lt]
  · simp only [decide_eq_false h, r_pwn b e h1 hb (by omega) h2, mulI_ok m2, DL.dFn, DL.dFi, DL.sSeq, DL.sSet, DL.sIf, DL.sRet, DL.sRetN, DL.sDrop, DL.sBind, DL.sAsg, DL.sPar, DL.sPar3, DL.sNext, DL.dC, DL.dVar, DL.dPeek, DL.dBind, DL.dOut, DL.dUn, DL.dBin, DL.dTru, DL.dNot, DL.dAndT, DL.dOrT, DL.dAndV, DL.dOrV, DL.dIfE, DL.aNil, DL.aCons, DL.aBind, DL.fits, DL.dApp, DL.dRet, DL.dTup, DL.dLst, DL.truD, DL.bName, DL.bTup, DL.bCons, DL.bNil, DL.pick_eq, DL.Src.get, List.filterMap_cons, List.filterMap_nil, List.getElem?_cons_zero, List.getElem?_cons_succ, List.length_cons, List.length_nil, List.set_cons_zero, List.set_cons_succ, List.map_cons, List.map_nil, List.cons_append, List.nil_append, List.append_nil, List.append_assoc, List.reduceReplicate, Nat.reduceAdd, Nat.reduceSub, Nat.reduceLeDiff, Nat.reduceEqDiff, ↓reduceIte, DL.subD, DL.mulD, DL.divD, DL.modD, DL.powD, DL.ltD, DL.leD, DL.gtD, DL.geD, DL.II, DL.subI, DL.cmpI, DL.negD, DL.addD_int, DL.ix_t0, DL.ix_t1, DL.ix_t2, DL.eqA_int, DL.eqA_pair, DL.intD_int, DL.intA_int, DL.intA_bl, DL.absD, DL.le1, DL.le2, DL.le3, DL.le4, DL.le5, DL.le8, DL.le9, Nat.zero_le, Bool.not_true, Bool.not_false, Bool.false_eq_true, DL.eqA_bl, eq_self, Int.reduceEq, Int.reduceLT, Int.reduceNeg, Bool.false_xor, Bool.true_xor, decide_true, decide_false, decide_eq_true_eq]
    refine congrArg (fun z => some (FO.ret (D.bl z) M)) (decide_eq_decide.mpr ?_)
    unfold Und
    rw [up1 (by omega), Nat.mul_one, ← Int.natCast_mul, Int.ofNat_lt]
theorem r_raised (b : Nat) (e : Int) (h1 : 1 ≤ b) (hb : b < 64) (h2 : -50000 ≤ e) (h3 : e ≤ 50000) (M : MS) : φ_raised [I b, .int e] M = some (.ret (.tup [I (up b e), I (dn b e)]) M) := by
  unfold φ_raised m_raised
  by_cases h : 0 ≤ e
  · simp only [decide_eq_true h, r_pw b e h1 hb h h3, dn1 h, DL.dFn, DL.dFi, DL.sSeq, DL.sSet, DL.sIf, DL.sRet, DL.sRetN, DL.sDrop, DL.sBind, DL.sAsg, DL.sPar, DL.sPar3, DL.sNext, DL.dC, DL.dVar, DL.dPeek, DL.dBind, DL.dOut, DL.dUn, DL.dBin, DL.dTru, DL.dNot, DL.dAndT, DL.dOrT, DL.dAndV, DL.dOrV, DL.dIfE, DL.aNil, DL.aCons, DL.aBind, DL.fits, DL.dApp, DL.dRet, DL.dTup, DL.dLst, DL.truD, DL.bName, DL.bTup, DL.bCons, DL.bNil, DL.pick_eq, DL.Src.get, List.filterMap_cons, List.filterMap_nil, List.getElem?_cons_zero, List.getElem?_cons_succ, List.length_cons, List.length_nil, List.set_cons_zero, List.set_cons_succ, List.map_cons, List.map_nil, List.cons_append, List.nil_append, List.append_nil, List.append_assoc, List.reduceReplicate, Nat.reduceAdd, Nat.reduceSub, Nat.reduceLeDiff, Nat.reduceEqDiff, ↓reduceIte, DL.subD, DL.mulD, DL.divD, DL.modD, DL.powD, DL.ltD, DL.leD, DL.gtD, DL.geD, DL.II, DL.subI, DL.cmpI, DL.negD, DL.addD_int, DL.ix_t0, DL.ix_t1, DL.ix_t2, DL.eqA_int, DL.eqA_pair, DL.intD_int, DL.intA_int, DL.intA_bl, DL.absD, DL.le1, DL.le2, DL.le3, DL.le4, DL.le5, DL.le8, DL.le9, Nat.zero_le, Bool.not_true, Bool.not_false, Bool.false_eq_true, DL.eqA_bl, eq_self, Int.reduceEq, Int.reduceLT, Int.reduceNeg, Bool.false_xor, Bool.true_xor, decide_true, decide_false, decide_eq_true_eq]
    rfl
  · simp only [decide_eq_false h, r_pwn b e h1 hb (by omega) h2, up1 (show e ≤ 0 by omega), DL.dFn, DL.dFi, DL.sSeq, DL.sSet, DL.sIf, DL.sRet, DL.sRetN, DL.sDrop, DL.sBind, DL.sAsg, DL.sPar, DL.sPar3, DL.sNext, DL.dC, DL.dVar, DL.dPeek, DL.dBind, DL.dOut, DL.dUn, DL.dBin, DL.dTru, DL.dNot, DL.dAndT, DL.dOrT, DL.dAndV, DL.dOrV, DL.dIfE, DL.aNil, DL.aCons, DL.aBind, DL.fits, DL.dApp, DL.dRet, DL.dTup, DL.dLst, DL.truD, DL.bName, DL.bTup, DL.bCons, DL.bNil, DL.pick_eq, DL.Src.get, List.filterMap_cons, List.filterMap_nil, List.getElem?_cons_zero, List.getElem?_cons_succ, List.length_cons, List.length_nil, List.set_cons_zero, List.set_cons_succ, List.map_cons, List.map_nil, List.cons_append, List.nil_append, List.append_nil, List.append_assoc, List.reduceReplicate, Nat.reduceAdd, Nat.reduceSub, Nat.reduceLeDiff, Nat.reduceEqDiff, ↓reduceIte, DL.subD, DL.mulD, DL.divD, DL.modD, DL.powD, DL.ltD, DL.leD, DL.gtD, DL.geD, DL.II, DL.subI, DL.cmpI, DL.negD, DL.addD_int, DL.ix_t0, DL.ix_t1, DL.ix_t2, DL.eqA_int, DL.eqA_pair, DL.intD_int, DL.intA_int, DL.intA_bl, DL.absD, DL.le1, DL.le2, DL.le3, DL.le4, DL.le5, DL.le8, DL.le9, Nat.zero_le, Bool.not_true, Bool.not_false, Bool.false_eq_true, DL.eqA_bl, eq_self, Int.reduceEq, Int.reduceLT, Int.reduceNeg, Bool.false_xor, Bool.true_xor, decide_true, decide_false, decide_eq_true_eq]
    rfl
theorem r_scaled (t : Int) (U b : Nat) (e : Int) (h1 : 2 ≤ b) (hb : b < 64) (h2 : -50000 ≤ e) (h3 : e ≤ 50000) (hT : t.natAbs < 2 ^ 5000) (hU0 : 0 < U) (hU : U < 2 ^ 5000) (hd : (U * up b e) < 2 ^ 8000) (M : MS) :
    φ_scaled [.tup [.int t, I U], I b, .int e] M = some (.ret (.tup [I (whole b t.natAbs U e), I (t.natAbs * dn b e % (U * up b e)), I (U * up b e)]) M) := by
  have m1 : mulOk (U : Int) ((up b e : Nat) : Int) := mulOk_of (nat_lt hU) (nat_lt (up_lt hb h3))
  have m2 : mulOk (t.natAbs : Int) ((dn b e : Nat) : Int) := mulOk_of (nat_lt hT) (nat_lt (dn_lt hb h2))
  have p : 0 < U * up b e := Nat.mul_pos hU0 (up_pos h1 e)
  have dk : divOk ((U * up b e : Nat) : Int) := divOk_of (n := 8000) (by omega) (nat_lt hd)
  have hne : ((U * up b e : Nat) : Int) ≠ 0 := by omega
  have q1 : Int.fdiv ((t.natAbs * dn b e : Nat) : Int) ((U * up b e : Nat) : Int) = ((t.natAbs * dn b e / (U * up b e) : Nat) : Int) := by rw [Int.fdiv_eq_ediv_of_nonneg _ (by omega)]; rfl
  have q2 : Int.fmod ((t.natAbs * dn b e : Nat) : Int) ((U * up b e : Nat) : Int) = ((t.natAbs * dn b e % (U * up b e) : Nat) : Int) := by rw [Int.fmod_eq_emod_of_nonneg _ (by omega)]; rfl
  unfold φ_scaled m_scaled whole
  by_cases h : 0 ≤ e
  · have d1 := dn1 (b := b) h
    rw [d1, Nat.mul_one] at q1 q2
    rw [d1, Nat.mul_one]
    simp only [abs_nat, decide_eq_true h, r_pw b e (by omega) hb h h3, mulI_ok m1, ← Int.natCast_mul, divI_ok dk, modI_ok hne, q1, q2, DL.dFn, DL.dFi, DL.sSeq, DL.sSet, DL.sIf, DL.sRet, DL.sRetN, DL.sDrop, DL.sBind, DL.sAsg, DL.sPar, DL.sPar3, DL.sNext, DL.dC, DL.dVar, DL.dPeek, DL.dBind, DL.dOut, DL.dUn, DL.dBin, DL.dTru, DL.dNot, DL.dAndT, DL.dOrT, DL.dAndV, DL.dOrV, DL.dIfE, DL.aNil, DL.aCons, DL.aBind, DL.fits, DL.dApp, DL.dRet, DL.dTup, DL.dLst, DL.truD, DL.bName, DL.bTup, DL.bCons, DL.bNil, DL.pick_eq, DL.Src.get, List.filterMap_cons, List.filterMap_nil, List.getElem?_cons_zero, List.getElem?_cons_succ, List.length_cons, List.length_nil, List.set_cons_zero, List.set_cons_succ, List.map_cons, List.map_nil, List.cons_append, List.nil_append, List.append_nil, List.append_assoc, List.reduceReplicate, Nat.reduceAdd, Nat.reduceSub, Nat.reduceLeDiff, Nat.reduceEqDiff, ↓reduceIte, DL.subD, DL.mulD, DL.divD, DL.modD, DL.powD, DL.ltD, DL.leD, DL.gtD, DL.geD, DL.II, DL.subI, DL.cmpI, DL.negD, DL.addD_int, DL.ix_t0, DL.ix_t1, DL.ix_t2, DL.eqA_int, DL.eqA_pair, DL.intD_int, DL.intA_int, DL.intA_bl, DL.absD, DL.le1, DL.le2, DL.le3, DL.le4, DL.le5, DL.le8, DL.le9, Nat.zero_le, Bool.not_true, Bool.not_false, Bool.false_eq_true, DL.eqA_bl, eq_self, Int.reduceEq, Int.reduceLT, Int.reduceNeg, Bool.false_xor, Bool.true_xor, decide_true, decide_false, decide_eq_true_eq]
  · have d1 := up1 (b := b) (e := e) (by omega)
    rw [d1, Nat.mul_one] at q1 q2 dk hne
    rw [d1, Nat.mul_one]
    simp only [abs_nat, decide_eq_false h, r_pwn b e (by omega) hb (by omega) h2, mulI_ok m2, ← Int.natCast_mul, divI_ok dk, modI_ok hne, q1, q2, DL.dFn, DL.dFi, DL.sSeq, DL.sSet, DL.sIf, DL.sRet, DL.sRetN, DL.sDrop, DL.sBind, DL.sAsg, DL.sPar, DL.sPar3, DL.sNext, DL.dC, DL.dVar, DL.dPeek, DL.dBind, DL.dOut, DL.dUn, DL.dBin, DL.dTru, DL.dNot, DL.dAndT, DL.dOrT, DL.dAndV, DL.dOrV, DL.dIfE, DL.aNil, DL.aCons, DL.aBind, DL.fits, DL.dApp, DL.dRet, DL.dTup, DL.dLst, DL.truD, DL.bName, DL.bTup, DL.bCons, DL.bNil, DL.pick_eq, DL.Src.get, List.filterMap_cons, List.filterMap_nil, List.getElem?_cons_zero, List.getElem?_cons_succ, List.length_cons, List.length_nil, List.set_cons_zero, List.set_cons_succ, List.map_cons, List.map_nil, List.cons_append, List.nil_append, List.append_nil, List.append_assoc, List.reduceReplicate, Nat.reduceAdd, Nat.reduceSub, Nat.reduceLeDiff, Nat.reduceEqDiff, ↓reduceIte, DL.subD, DL.mulD, DL.divD, DL.modD, DL.powD, DL.ltD, DL.leD, DL.gtD, DL.geD, DL.II, DL.subI, DL.cmpI, DL.negD, DL.addD_int, DL.ix_t0, DL.ix_t1, DL.ix_t2, DL.eqA_int, DL.eqA_pair, DL.intD_int, DL.intA_int, DL.intA_bl, DL.absD, DL.le1, DL.le2, DL.le3, DL.le4, DL.le5, DL.le8, DL.le9, Nat.zero_le, Bool.not_true, Bool.not_false, Bool.false_eq_true, DL.eqA_bl, eq_self, Int.reduceEq, Int.reduceLT, Int.reduceNeg, Bool.false_xor, Bool.true_xor, decide_true, decide_false, decide_eq_true_eq]
end L07
set_option maxHeartbeats 2000000
namespace L07
open PySem PySem.Spec PyProof.Rows L2 DL PA
/-! ### the exponent -/
theorem und_ex {b T U : Nat} {g q : Int} (hb : 2 ≤ b) (h : Ex b T U g) : Und b T U q ↔ g ≤ q := by
  constructor
  · intro z
    by_cases k : g ≤ q
    · exact k
    · exact absurd (und_mono hb (show q ≤ g - 1 by omega) z) h.2
  · intro k
    exact und_mono hb k h.1
theorem ex_range {b T U : Nat} {g : Int} {n : Nat} (hb : 2 ≤ b) (hT : 0 < T) (hU : 0 < U) (h1 : T < 2 ^ n) (h2 : U < 2 ^ n) (h : Ex b T U g) : -(n : Int) < g ∧ g ≤ n := by
  constructor
  · by_cases k : -(n : Int) < g
    · exact k
    · exact absurd ((und_ex hb h).mpr (show g ≤ -(n : Int) by omega)) (not_und_far hb hT h2)
  · exact (und_ex hb h).mp (und_far hb hU h1)
theorem ex_exists {b T U : Nat} {n : Nat} (hb : 2 ≤ b) (hT : 0 < T) (hU : 0 < U) (h1 : T < 2 ^ n) (h2 : U < 2 ^ n) : ∃ g, Ex b T U g := by
  have key : ∀ k : Nat, Und b T U (k - (n : Int)) → ∃ g, Ex b T U g := fun k => by
    induction k with
    | zero =>
      intro h
      exact absurd (by simpa using h) (not_und_far hb hT h2)
    | succ k ih =>
      intro h
      by_cases z : Und b T U (k - (n : Int))
      · exact ih z
      · refine ⟨_, h, ?_⟩
        rw [show ((k + 1 : Nat) : Int) - (n : Int) - 1 = (k : Int) - (n : Int) by omega]
        exact z
  refine key (n + n) ?_
  rw [show ((n + n : Nat) : Int) - (n : Int) = (n : Int) by omega]
  exact und_far hb hU h1
section
variable (b d T U : Nat) (P : D) (m : D) (M : MS) (h1 : 2 ≤ b) (hb : b < 64) (hT : T < 2 ^ 5000) (hU : U < 2 ^ 5000) (g : Int) (hg : Ex b T U g)
include h1 hb hT hU hg
theorem c0_exp (q : Int) (h2 : -40000 ≤ q) (h3 : q ≤ 40000) : c0_exponent_of [some (SV.t (I b)), some (SV.t (I d)), some (SV.t (P)), some (SV.t (I T)), some (SV.t (I U)), some (SV.t (m)), some (SV.t (.int q))] M = some (.ok (.bl (!decide (g ≤ q))) [some (SV.t (I b)), some (SV.t (I d)), some (SV.t (P)), some (SV.t (I T)), some (SV.t (I U)), some (SV.t (m)), some (SV.t (.int q))] M) := by
  unfold c0_exponent_of
  simp only [r_fits_under T U b q (by omega) hb (by omega) (by omega) hT hU, DL.dFn, DL.dFi, DL.sSeq, DL.sSet, DL.sIf, DL.sRet, DL.sRetN, DL.sDrop, DL.sBind, DL.sAsg, DL.sPar, DL.sPar3, DL.sNext, DL.dC, DL.dVar, DL.dPeek, DL.dBind, DL.dOut, DL.dUn, DL.dBin, DL.dTru, DL.dNot, DL.dAndT, DL.dOrT, DL.dAndV, DL.dOrV, DL.dIfE, DL.aNil, DL.aCons, DL.aBind, DL.fits, DL.dApp, DL.dRet, DL.dTup, DL.dLst, DL.truD, DL.bName, DL.bTup, DL.bCons, DL.bNil, DL.pick_eq, DL.Src.get, List.filterMap_cons, List.filterMap_nil, List.getElem?_cons_zero, List.getElem?_cons_succ, List.length_cons, List.length_nil, List.set_cons_zero, List.set_cons_succ, List.map_cons, List.map_nil, List.cons_append, List.nil_append, List.append_nil, List.append_assoc, List.reduceReplicate, Nat.reduceAdd, Nat.reduceSub, Nat.reduceLeDiff, Nat.reduceEqDiff, ↓reduceIte, DL.subD, DL.mulD, DL.divD, DL.modD, DL.powD, DL.ltD, DL.leD, DL.gtD, DL.geD, DL.II, DL.subI, DL.cmpI, DL.negD, DL.addD_int, DL.ix_t0, DL.ix_t1, DL.ix_t2, DL.eqA_int, DL.eqA_pair, DL.intD_int, DL.intA_int, DL.intA_bl, DL.absD, DL.le1, DL.le2, DL.le3, DL.le4, DL.le5, DL.le8, DL.le9, Nat.zero_le, Bool.not_true, Bool.not_false, Bool.false_eq_true, DL.eqA_bl, eq_self, Int.reduceEq, Int.reduceLT, Int.reduceNeg, Bool.false_xor, Bool.true_xor, decide_true, decide_false, decide_eq_true_eq]
  refine congrArg (fun z => some (EO.ok (D.bl (!z)) _ M)) (decide_eq_decide.mpr (und_ex h1 hg))
theorem c1_exp (q : Int) (h2 : -40000 ≤ q) (h3 : q ≤ 40000) : c1_exponent_of [some (SV.t (I b)), some (SV.t (I d)), some (SV.t (P)), some (SV.t (I T)), some (SV.t (I U)), some (SV.t (m)), some (SV.t (.int q))] M = some (.ok (.bl (decide (g ≤ q - 1))) [some (SV.t (I b)), some (SV.t (I d)), some (SV.t (P)), some (SV.t (I T)), some (SV.t (I U)), some (SV.t (m)), some (SV.t (.int q))] M) := by
  unfold c1_exponent_of
  simp only [r_fits_under T U b (q - 1) (by omega) hb (by omega) (by omega) hT hU, DL.dFn, DL.dFi, DL.sSeq, DL.sSet, DL.sIf, DL.sRet, DL.sRetN, DL.sDrop, DL.sBind, DL.sAsg, DL.sPar, DL.sPar3, DL.sNext, DL.dC, DL.dVar, DL.dPeek, DL.dBind, DL.dOut, DL.dUn, DL.dBin, DL.dTru, DL.dNot, DL.dAndT, DL.dOrT, DL.dAndV, DL.dOrV, DL.dIfE, DL.aNil, DL.aCons, DL.aBind, DL.fits, DL.dApp, DL.dRet, DL.dTup, DL.dLst, DL.truD, DL.bName, DL.bTup, DL.bCons, DL.bNil, DL.pick_eq, DL.Src.get, List.filterMap_cons, List.filterMap_nil, List.getElem?_cons_zero, List.getElem?_cons_succ, List.length_cons, List.length_nil, List.set_cons_zero, List.set_cons_succ, List.map_cons, List.map_nil, List.cons_append, List.nil_append, List.append_nil, List.append_assoc, List.reduceReplicate, Nat.reduceAdd, Nat.reduceSub, Nat.reduceLeDiff, Nat.reduceEqDiff, ↓reduceIte, DL.subD, DL.mulD, DL.divD, DL.modD, DL.powD, DL.ltD, DL.leD, DL.gtD, DL.geD, DL.II, DL.subI, DL.cmpI, DL.negD, DL.addD_int, DL.ix_t0, DL.ix_t1, DL.ix_t2, DL.eqA_int, DL.eqA_pair, DL.intD_int, DL.intA_int, DL.intA_bl, DL.absD, DL.le1, DL.le2, DL.le3, DL.le4, DL.le5, DL.le8, DL.le9, Nat.zero_le, Bool.not_true, Bool.not_false, Bool.false_eq_true, DL.eqA_bl, eq_self, Int.reduceEq, Int.reduceLT, Int.reduceNeg, Bool.false_xor, Bool.true_xor, decide_true, decide_false, decide_eq_true_eq]
  refine congrArg (fun z => some (EO.ok (D.bl z) _ M)) (decide_eq_decide.mpr (und_ex h1 hg))
theorem l0_exp : ∀ (k : Nat) (q : Int), g - q ≤ k → -20000 ≤ q → q ≤ 20000 → g ≤ 20000 → ∃ r, sWhile c0_exponent_of b0_exponent_of [some (SV.t (I b)), some (SV.t (I d)), some (SV.t (P)), some (SV.t (I T)), some (SV.t (I U)), some (SV.t (m)), some (SV.t (.int q))] M = some (.nx [some (SV.t (I b)), some (SV.t (I d)), some (SV.t (P)), some (SV.t (I T)), some (SV.t (I U)), some (SV.t (m)), some (SV.t (.int r))] M) ∧ g ≤ r ∧ r ≤ 20000 := by
  intro k
  induction k with
  | zero =>
    intro q hk h2 h3 h4
    refine ⟨q, while_f ?_, by omega, h3⟩
    rw [c0_exp b d T U P m M h1 hb hT hU g hg q (by omega) (by omega), decide_eq_true (show g ≤ q by omega)]
    rfl
  | succ k ih =>
    intro q hk h2 h3 h4
    by_cases z : g ≤ q
    · refine ⟨q, while_f ?_, z, h3⟩
      rw [c0_exp b d T U P m M h1 hb hT hU g hg q (by omega) (by omega), decide_eq_true z]
      rfl
    · obtain ⟨r, e1, e2, e3⟩ := ih (q + 1) (by omega) (by omega) (by omega) h4
      refine ⟨r, while_t (ρ1 := [some (SV.t (I b)), some (SV.t (I d)), some (SV.t (P)), some (SV.t (I T)), some (SV.t (I U)), some (SV.t (m)), some (SV.t (.int q))]) (M1 := M) ?_ ?_ e1, e2, e3⟩
      · rw [c0_exp b d T U P m M h1 hb hT hU g hg q (by omega) (by omega), decide_eq_false z]
        rfl
      · unfold b0_exponent_of
        simp only [DL.dFn, DL.dFi, DL.sSeq, DL.sSet, DL.sIf, DL.sRet, DL.sRetN, DL.sDrop, DL.sBind, DL.sAsg, DL.sPar, DL.sPar3, DL.sNext, DL.dC, DL.dVar, DL.dPeek, DL.dBind, DL.dOut, DL.dUn, DL.dBin, DL.dTru, DL.dNot, DL.dAndT, DL.dOrT, DL.dAndV, DL.dOrV, DL.dIfE, DL.aNil, DL.aCons, DL.aBind, DL.fits, DL.dApp, DL.dRet, DL.dTup, DL.dLst, DL.truD, DL.bName, DL.bTup, DL.bCons, DL.bNil, DL.pick_eq, DL.Src.get, List.filterMap_cons, List.filterMap_nil, List.getElem?_cons_zero, List.getElem?_cons_succ, List.length_cons, List.length_nil, List.set_cons_zero, List.set_cons_succ, List.map_cons, List.map_nil, List.cons_append, List.nil_append, List.append_nil, List.append_assoc, List.reduceReplicate, Nat.reduceAdd, Nat.reduceSub, Nat.reduceLeDiff, Nat.reduceEqDiff, ↓reduceIte, DL.subD, DL.mulD, DL.divD, DL.modD, DL.powD, DL.ltD, DL.leD, DL.gtD, DL.geD, DL.II, DL.subI, DL.cmpI, DL.negD, DL.addD_int, DL.ix_t0, DL.ix_t1, DL.ix_t2, DL.eqA_int, DL.eqA_pair, DL.intD_int, DL.intA_int, DL.intA_bl, DL.absD, DL.le1, DL.le2, DL.le3, DL.le4, DL.le5, DL.le8, DL.le9, Nat.zero_le, Bool.not_true, Bool.not_false, Bool.false_eq_true, DL.eqA_bl, eq_self, Int.reduceEq, Int.reduceLT, Int.reduceNeg, Bool.false_xor, Bool.true_xor, decide_true, decide_false, decide_eq_true_eq]
theorem l1_exp : ∀ (k : Nat) (q : Int), q - g ≤ k → g ≤ q → -20000 ≤ g → q ≤ 20000 → sWhile c1_exponent_of b1_exponent_of [some (SV.t (I b)), some (SV.t (I d)), some (SV.t (P)), some (SV.t (I T)), some (SV.t (I U)), some (SV.t (m)), some (SV.t (.int q))] M = some (.nx [some (SV.t (I b)), some (SV.t (I d)), some (SV.t (P)), some (SV.t (I T)), some (SV.t (I U)), some (SV.t (m)), some (SV.t (.int g))] M) := by
  intro k
  induction k with
  | zero =>
    intro q hk h2 h3 h4
    have : q = g := by omega
    subst this
    refine while_f ?_
    rw [c1_exp b d T U P m M h1 hb hT hU q hg q (by omega) (by omega), decide_eq_false (show ¬ (q ≤ q - 1) by omega)]
  | succ k ih =>
    intro q hk h2 h3 h4
    by_cases z : g ≤ q - 1
    · refine while_t (ρ1 := [some (SV.t (I b)), some (SV.t (I d)), some (SV.t (P)), some (SV.t (I T)), some (SV.t (I U)), some (SV.t (m)), some (SV.t (.int q))]) (M1 := M) ?_ ?_ (ih (q - 1) (by omega) (by omega) (by omega) (by omega))
      · rw [c1_exp b d T U P m M h1 hb hT hU g hg q (by omega) (by omega), decide_eq_true z]
      · unfold b1_exponent_of
        simp only [DL.dFn, DL.dFi, DL.sSeq, DL.sSet, DL.sIf, DL.sRet, DL.sRetN, DL.sDrop, DL.sBind, DL.sAsg, DL.sPar, DL.sPar3, DL.sNext, DL.dC, DL.dVar, DL.dPeek, DL.dBind, DL.dOut, DL.dUn, DL.dBin, DL.dTru, DL.dNot, DL.dAndT, DL.dOrT, DL.dAndV, DL.dOrV, DL.dIfE, DL.aNil, DL.aCons, DL.aBind, DL.fits, DL.dApp, DL.dRet, DL.dTup, DL.dLst, DL.truD, DL.bName, DL.bTup, DL.bCons, DL.bNil, DL.pick_eq, DL.Src.get, List.filterMap_cons, List.filterMap_nil, List.getElem?_cons_zero, List.getElem?_cons_succ, List.length_cons, List.length_nil, List.set_cons_zero, List.set_cons_succ, List.map_cons, List.map_nil, List.cons_append, List.nil_append, List.append_nil, List.append_assoc, List.reduceReplicate, Nat.reduceAdd, Nat.reduceSub, Nat.reduceLeDiff, Nat.reduceEqDiff, ↓reduceIte, DL.subD, DL.mulD, DL.divD, DL.modD, DL.powD, DL.ltD, DL.leD, DL.gtD, DL.geD, DL.II, DL.subI, DL.cmpI, DL.negD, DL.addD_int, DL.ix_t0, DL.ix_t1, DL.ix_t2, DL.eqA_int, DL.eqA_pair, DL.intD_int, DL.intA_int, DL.intA_bl, DL.absD, DL.le1, DL.le2, DL.le3, DL.le4, DL.le5, DL.le8, DL.le9, Nat.zero_le, Bool.not_true, Bool.not_false, Bool.false_eq_true, DL.eqA_bl, eq_self, Int.reduceEq, Int.reduceLT, Int.reduceNeg, Bool.false_xor, Bool.true_xor, decide_true, decide_false, decide_eq_true_eq]
    · have : q = g := by omega
      subst this
      refine while_f ?_
      rw [c1_exp b d T U P m M h1 hb hT hU q hg q (by omega) (by omega), decide_eq_false z]
end
theorem bits_le {n k : Nat} (h : n < 2 ^ k) : (Builtin.Int.intBits (n : Int) : Nat) ≤ k := PyProof.Rows.intBits_le (by rw [Int.natAbs_natCast]; exact h)
theorem bits_ge {n k : Nat} (h : 2 ^ k ≤ n) : k + 1 ≤ Builtin.Int.intBits (n : Int) := by
  have h0 : n ≠ 0 := by have := Nat.pow_pos (n := k) (show 0 < 2 by decide); omega
  unfold Builtin.Int.intBits
  rw [if_neg (by simpa using h0), Int.natAbs_natCast]
  have := (Nat.le_log2 h0).mpr h
  omega
theorem r_exp (b d U : Nat) (t e : Int) (h1 : 2 ≤ b) (hb : b ≤ 36) (h2 : 1 ≤ d) (h3 : d ≤ 60) (ht : t ≠ 0) (hU0 : 0 < U) (hT : t.natAbs < 2 ^ 1500) (hU : U < 2 ^ 1500) (h : Ex b t.natAbs U (e + d)) (M : MS) :
    φ_exponent_of [I b, I d, .tup [.int t, I U]] M = some (.ret (.int e) M) := by
  obtain ⟨g1, g2⟩ := ex_range h1 (by omega) hU0 hT hU h
  have hT2 : t.natAbs < 2 ^ 5000 := Nat.lt_trans hT (Nat.pow_lt_pow_right (by omega) (by omega))
  have hU2 : U < 2 ^ 5000 := Nat.lt_trans hU (Nat.pow_lt_pow_right (by omega) (by omega))
  have k1 := bits_le hT
  have k2 := bits_le hU
  have k3 : 65 ≤ Builtin.Int.intBits ((b ^ 64 : Nat) : Int) := bits_ge (Nat.pow_le_pow_left h1 64)
  have k4 : (Builtin.Int.intBits ((b ^ 64 : Nat) : Int) : Nat) ≤ 384 := bits_le (by
    calc b ^ 64 ≤ 36 ^ 64 := Nat.pow_le_pow_left hb 64
      _ < 2 ^ 384 := by decide)
  generalize hx : Builtin.Int.intBits ((t.natAbs : Nat) : Int) = x at k1
  generalize hy : Builtin.Int.intBits ((U : Nat) : Int) = y at k2
  generalize hz : Builtin.Int.intBits ((b ^ 64 : Nat) : Int) = z at k3 k4
  have dk : divOk ((z : Int) - 1) := divOk_of (n := 10) (by omega) (by omega)
  have mk : mulOk 64 ((x : Int) - (y : Int)) := .inl (by decide)
  obtain ⟨w, hw, w1, w2⟩ : ∃ w, Int.fdiv (64 * ((x : Int) - (y : Int))) ((z : Int) - 1) = w ∧ -1600 ≤ w ∧ w ≤ 1600 := by
    refine ⟨_, rfl, ?_, ?_⟩
    · rw [Int.fdiv_eq_ediv_of_nonneg _ (by omega)]
      refine Int.le_ediv_of_mul_le (by omega) ?_
      have : (1600 : Int) * 64 ≤ 1600 * ((z : Int) - 1) := Int.mul_le_mul_of_nonneg_left (by omega) (by omega)
      rw [Int.neg_mul]
      omega
    · rw [Int.fdiv_eq_ediv_of_nonneg _ (by omega)]
      have : (1600 : Int) * 64 ≤ 1600 * ((z : Int) - 1) := Int.mul_le_mul_of_nonneg_left (by omega) (by omega)
      exact Int.ediv_le_of_le_mul (by omega) (by omega)
  have e64 : ∀ M, φ_int_power [I b, .int 64] M = some (.ret (I (b ^ 64)) M) := r_int_power b 64 (by omega) (by omega) (by omega)
  obtain ⟨r, q1, q2, q3⟩ := l0_exp b d t.natAbs U (.tup [.int t, I U]) (.int ((z : Int) - 1)) M h1 (by omega) hT2 hU2 (e + d) h 40000 w (by omega) (by omega) (by omega) (by omega)
  have q4 := l1_exp b d t.natAbs U (.tup [.int t, I U]) (.int ((z : Int) - 1)) M h1 (by omega) hT2 hU2 (e + d) h 40000 r (by omega) q2 (by omega) q3
  unfold φ_exponent_of m_exponent_of
  simp only [abs_nat, bitsD, hx, hy, e64, hz, mulI_ok mk, divI_ok dk, hw, DL.dFn, DL.dFi, DL.sSeq, DL.sSet, DL.sIf, DL.sRet, DL.sRetN, DL.sDrop, DL.sBind, DL.sAsg, DL.sPar, DL.sPar3, DL.sNext, DL.dC, DL.dVar, DL.dPeek, DL.dBind, DL.dOut, DL.dUn, DL.dBin, DL.dTru, DL.dNot, DL.dAndT, DL.dOrT, DL.dAndV, DL.dOrV, DL.dIfE, DL.aNil, DL.aCons, DL.aBind, DL.fits, DL.dApp, DL.dRet, DL.dTup, DL.dLst, DL.truD, DL.bName, DL.bTup, DL.bCons, DL.bNil, DL.pick_eq, DL.Src.get, List.filterMap_cons, List.filterMap_nil, List.getElem?_cons_zero, List.getElem?_cons_succ, List.length_cons, List.length_nil, List.set_cons_zero, List.set_cons_succ, List.map_cons, List.map_nil, List.cons_append, List.nil_append, List.append_nil, List.append_assoc, List.reduceReplicate, Nat.reduceAdd, Nat.reduceSub, Nat.reduceLeDiff, Nat.reduceEqDiff, ↓reduceIte, DL.subD, DL.mulD, DL.divD, DL.modD, DL.powD, DL.ltD, DL.leD, DL.gtD, DL.geD, DL.II, DL.subI, DL.cmpI, DL.negD, DL.addD_int, DL.ix_t0, DL.ix_t1, DL.ix_t2, DL.eqA_int, DL.eqA_pair, DL.intD_int, DL.intA_int, DL.intA_bl, DL.absD, DL.le1, DL.le2, DL.le3, DL.le4, DL.le5, DL.le8, DL.le9, Nat.zero_le, Bool.not_true, Bool.not_false, Bool.false_eq_true, DL.eqA_bl, eq_self, Int.reduceEq, Int.reduceLT, Int.reduceNeg, Bool.false_xor, Bool.true_xor, decide_true, decide_false, decide_eq_true_eq]
  rw [q1]
  simp only [DL.dFn, DL.dFi, DL.sSeq, DL.sSet, DL.sIf, DL.sRet, DL.sRetN, DL.sDrop, DL.sBind, DL.sAsg, DL.sPar, DL.sPar3, DL.sNext, DL.dC, DL.dVar, DL.dPeek, DL.dBind, DL.dOut, DL.dUn, DL.dBin, DL.dTru, DL.dNot, DL.dAndT, DL.dOrT, DL.dAndV, DL.dOrV, DL.dIfE, DL.aNil, DL.aCons, DL.aBind, DL.fits, DL.dApp, DL.dRet, DL.dTup, DL.dLst, DL.truD, DL.bName, DL.bTup, DL.bCons, DL.bNil, DL.pick_eq, DL.Src.get, List.filterMap_cons, List.filterMap_nil, List.getElem?_cons_zero, List.getElem?_cons_succ, List.length_cons, List.length_nil, List.set_cons_zero, List.set_cons_succ, List.map_cons, List.map_nil, List.cons_append, List.nil_append, List.append_nil, List.append_assoc, List.reduceReplicate, Nat.reduceAdd, Nat.reduceSub, Nat.reduceLeDiff, Nat.reduceEqDiff, ↓reduceIte, DL.subD, DL.mulD, DL.divD, DL.modD, DL.powD, DL.ltD, DL.leD, DL.gtD, DL.geD, DL.II, DL.subI, DL.cmpI, DL.negD, DL.addD_int, DL.ix_t0, DL.ix_t1, DL.ix_t2, DL.eqA_int, DL.eqA_pair, DL.intD_int, DL.intA_int, DL.intA_bl, DL.absD, DL.le1, DL.le2, DL.le3, DL.le4, DL.le5, DL.le8, DL.le9, Nat.zero_le, Bool.not_true, Bool.not_false, Bool.false_eq_true, DL.eqA_bl, eq_self, Int.reduceEq, Int.reduceLT, Int.reduceNeg, Bool.false_xor, Bool.true_xor, decide_true, decide_false, decide_eq_true_eq]
  rw [q4]
  simp only [DL.dFn, DL.dFi, DL.sSeq, DL.sSet, DL.sIf, DL.sRet, DL.sRetN, DL.sDrop, DL.sBind, DL.sAsg, DL.sPar, DL.sPar3, DL.sNext, DL.dC, DL.dVar, DL.dPeek, DL.dBind, DL.dOut, DL.dUn, DL.dBin, DL.dTru, DL.dNot, DL.dAndT, DL.dOrT, DL.dAndV, DL.dOrV, DL.dIfE, DL.aNil, DL.aCons, DL.aBind, DL.fits, DL.dApp, DL.dRet, DL.dTup, DL.dLst, DL.truD, DL.bName, DL.bTup, DL.bCons, DL.bNil, DL.pick_eq, DL.Src.get, List.filterMap_cons, List.filterMap_nil, List.getElem?_cons_zero, List.getElem?_cons_succ, List.length_cons, List.length_nil, List.set_cons_zero, List.set_cons_succ, List.map_cons, List.map_nil, List.cons_append, List.nil_append, List.append_nil, List.append_assoc, List.reduceReplicate, Nat.reduceAdd, Nat.reduceSub, Nat.reduceLeDiff, Nat.reduceEqDiff, ↓reduceIte, DL.subD, DL.mulD, DL.divD, DL.modD, DL.powD, DL.ltD, DL.leD, DL.gtD, DL.geD, DL.II, DL.subI, DL.cmpI, DL.negD, DL.addD_int, DL.ix_t0, DL.ix_t1, DL.ix_t2, DL.eqA_int, DL.eqA_pair, DL.intD_int, DL.intA_int, DL.intA_bl, DL.absD, DL.le1, DL.le2, DL.le3, DL.le4, DL.le5, DL.le8, DL.le9, Nat.zero_le, Bool.not_true, Bool.not_false, Bool.false_eq_true, DL.eqA_bl, eq_self, Int.reduceEq, Int.reduceLT, Int.reduceNeg, Bool.false_xor, Bool.true_xor, decide_true, decide_false, decide_eq_true_eq]
  rw [show e + (d : Int) - (d : Int) = e by omega]
end L07
set_option maxHeartbeats 2000000
namespace L07
open PySem PySem.Spec PyProof.Rows L2 DL PA
theorem p2lt {x n m : Nat} (h : x < 2 ^ n) (k : n ≤ m) : x < 2 ^ m := Nat.lt_of_lt_of_le h (Nat.pow_le_pow_right (by omega) k)
/-- a number of a format's kind: in lowest terms, with its exponent -/
structure Good (n b d : Nat) (t : Int) (U : Nat) (e : Int) : Prop where
  h1 : 2 ≤ b
  hb : b ≤ 36
  d1 : 1 ≤ d
  d2 : d ≤ 60
  ht : t ≠ 0
  u0 : 0 < U
  hT : t.natAbs < 2 ^ n
  hU : U < 2 ^ n
  hx : Ex b t.natAbs U (e + d)
theorem b60 {b d : Nat} (hb : b ≤ 36) (h2 : d ≤ 60) : b ^ d < 2 ^ 311 := by
  calc b ^ d ≤ 36 ^ d := Nat.pow_le_pow_left hb d
    _ ≤ 36 ^ 60 := Nat.pow_le_pow_right (by decide) h2
    _ < 2 ^ 311 := by decide
section
variable {n b d U : Nat} {t e : Int}
theorem Good.uup (g : Good n b d t U e) : U * up b e < 2 ^ n := by
  by_cases h : 0 ≤ e
  · have q := (ex_bounds g.h1 g.d1 g.hx).2
    rw [dn1 h, Nat.mul_one] at q
    have : U * up b e ≤ b ^ (d - 1) * (U * up b e) := Nat.le_mul_of_pos_left _ (Nat.pow_pos (by have := g.h1; omega))
    exact Nat.lt_of_le_of_lt (Nat.le_trans this q) g.hT
  · rw [up1 (by omega), Nat.mul_one]
    exact g.hU
theorem Good.upl (g : Good n b d t U e) : up b e < 2 ^ n := Nat.lt_of_le_of_lt (Nat.le_mul_of_pos_left _ g.u0) g.uup
theorem Good.dnl (g : Good n b d t U e) : dn b e < 2 ^ (311 + n) := by
  by_cases h : 0 ≤ e
  · rw [dn1 h]; exact Nat.one_lt_two_pow (by omega)
  · have q := (ex_bounds g.h1 g.d1 g.hx).1
    rw [up1 (show e ≤ 0 by omega), Nat.mul_one] at q
    have : dn b e ≤ t.natAbs * dn b e := Nat.le_mul_of_pos_left _ (by have := g.ht; omega)
    rw [Nat.pow_add]
    refine Nat.lt_of_le_of_lt this (Nat.lt_trans q ?_)
    exact Nat.mul_lt_mul'' (b60 g.hb g.d2) g.hU
theorem Good.wl (g : Good n b d t U e) : whole b t.natAbs U e < 2 ^ 311 := Nat.lt_trans (whole_bounds g.h1 g.d1 g.u0 g.hx).2 (b60 g.hb g.d2)
theorem Good.er (g : Good n b d t U e) (hn : n ≤ 1500) : -1600 ≤ e ∧ e ≤ 1600 := by
  have := ex_range g.h1 (by have := g.ht; omega) g.u0 g.hT g.hU g.hx
  have := g.d2
  omega
end
/-- m b^e, in lowest terms -/
def worth (b : Nat) (m : Int) (e : Int) : Int × Int := lowP (m * ((up b e : Nat) : Int)) ((dn b e : Nat) : Int)
def turn (p : Int × Int) : Int × Int := (-p.1, p.2)
theorem low_one (x : Int) : lowP x 1 = (x, 1) := low_self (by decide) (by show Nat.gcd _ 1 = 1; exact Nat.gcd_one_right _)
theorem worth_neg (b : Nat) (m e : Int) : worth b (-m) e = turn (worth b m e) := by
  unfold worth turn
  rw [Int.neg_mul, low_neg]
theorem r_times_power (b m : Nat) (e : Int) (h1 : 1 ≤ b) (hb : b < 64) (h2 : -50000 ≤ e) (h3 : e ≤ 50000) (hm : m < 2 ^ 5000) (hd : dn b e < 2 ^ 8000) (M : MS) : φ_times_power [I m, I b, .int e] M = some (.ret (P2 (worth b m e)) M) := by
  have m1 : mulOk (m : Int) ((up b e : Nat) : Int) := mulOk_of (nat_lt hm) (nat_lt (up_lt hb h3))
  have p : 0 < dn b e := Nat.pow_pos (by omega)
  unfold φ_times_power m_times_power
  by_cases h : 0 ≤ e
  · simp only [decide_eq_true h, r_pw b e h1 hb h h3, mulI_ok m1, DL.dFn, DL.dFi, DL.sSeq, DL.sSet, DL.sIf, DL.sRet, DL.sRetN, DL.sDrop, DL.sBind, DL.sAsg, DL.sPar, DL.sPar3, DL.sNext, DL.dC, DL.dVar, DL.dPeek, DL.dBind, DL.dOut, DL.dUn, DL.dBin, DL.dTru, DL.dNot, DL.dAndT, DL.dOrT, DL.dAndV, DL.dOrV, DL.dIfE, DL.aNil, DL.aCons, DL.aBind, DL.fits, DL.dApp, DL.dRet, DL.dTup, DL.dLst, DL.truD, DL.bName, DL.bTup, DL.bCons, DL.bNil, DL.pick_eq, DL.Src.get, List.filterMap_cons, List.filterMap_nil, List.getElem?_cons_zero, List.getElem?_cons_succ, List.length_cons, List.length_nil, List.set_cons_zero, List.set_cons_succ, List.map_cons, List.map_nil, List.cons_append, List.nil_append, List.append_nil, List.append_assoc, List.reduceReplicate, Nat.reduceAdd, Nat.reduceSub, Nat.reduceLeDiff, Nat.reduceEqDiff, ↓reduceIte, DL.subD, DL.mulD, DL.divD, DL.modD, DL.powD, DL.ltD, DL.leD, DL.gtD, DL.geD, DL.II, DL.subI, DL.cmpI, DL.negD, DL.addD_int, DL.ix_t0, DL.ix_t1, DL.ix_t2, DL.eqA_int, DL.eqA_pair, DL.intD_int, DL.intA_int, DL.intA_bl, DL.absD, DL.le1, DL.le2, DL.le3, DL.le4, DL.le5, DL.le8, DL.le9, Nat.zero_le, Bool.not_true, Bool.not_false, Bool.false_eq_true, DL.eqA_bl, eq_self, Int.reduceEq, Int.reduceLT, Int.reduceNeg, Bool.false_xor, Bool.true_xor, decide_true, decide_false, decide_eq_true_eq]
    unfold worth
    rw [dn1 h]
    show _ = some (FO.ret (P2 (lowP _ 1)) M)
    rw [low_one]
  · simp only [decide_eq_false h, r_pwn b e h1 hb (by omega) h2, r_low (m : Int) ((dn b e : Nat) : Int) (by omega) (nat_lt hd), DL.dFn, DL.dFi, DL.sSeq, DL.sSet, DL.sIf, DL.sRet, DL.sRetN, DL.sDrop, DL.sBind, DL.sAsg, DL.sPar, DL.sPar3, DL.sNext, DL.dC, DL.dVar, DL.dPeek, DL.dBind, DL.dOut, DL.dUn, DL.dBin, DL.dTru, DL.dNot, DL.dAndT, DL.dOrT, DL.dAndV, DL.dOrV, DL.dIfE, DL.aNil, DL.aCons, DL.aBind, DL.fits, DL.dApp, DL.dRet, DL.dTup, DL.dLst, DL.truD, DL.bName, DL.bTup, DL.bCons, DL.bNil, DL.pick_eq, DL.Src.get, List.filterMap_cons, List.filterMap_nil, List.getElem?_cons_zero, List.getElem?_cons_succ, List.length_cons, List.length_nil, List.set_cons_zero, List.set_cons_succ, List.map_cons, List.map_nil, List.cons_append, List.nil_append, List.append_nil, List.append_assoc, List.reduceReplicate, Nat.reduceAdd, Nat.reduceSub, Nat.reduceLeDiff, Nat.reduceEqDiff, ↓reduceIte, DL.subD, DL.mulD, DL.divD, DL.modD, DL.powD, DL.ltD, DL.leD, DL.gtD, DL.geD, DL.II, DL.subI, DL.cmpI, DL.negD, DL.addD_int, DL.ix_t0, DL.ix_t1, DL.ix_t2, DL.eqA_int, DL.eqA_pair, DL.intD_int, DL.intA_int, DL.intA_bl, DL.absD, DL.le1, DL.le2, DL.le3, DL.le4, DL.le5, DL.le8, DL.le9, Nat.zero_le, Bool.not_true, Bool.not_false, Bool.false_eq_true, DL.eqA_bl, eq_self, Int.reduceEq, Int.reduceLT, Int.reduceNeg, Bool.false_xor, Bool.true_xor, decide_true, decide_false, decide_eq_true_eq]
    unfold worth
    rw [up1 (by omega)]
    rw [show (m : Int) * ((1 : Nat) : Int) = m from Int.mul_one _]
theorem r_turn (p : Int × Int) (M : MS) : φ_turn_pair [P2 p] M = some (.ret (P2 (turn p)) M) := by
  unfold φ_turn_pair m_turn_pair
  simp only [DL.dFn, DL.dFi, DL.sSeq, DL.sSet, DL.sIf, DL.sRet, DL.sRetN, DL.sDrop, DL.sBind, DL.sAsg, DL.sPar, DL.sPar3, DL.sNext, DL.dC, DL.dVar, DL.dPeek, DL.dBind, DL.dOut, DL.dUn, DL.dBin, DL.dTru, DL.dNot, DL.dAndT, DL.dOrT, DL.dAndV, DL.dOrV, DL.dIfE, DL.aNil, DL.aCons, DL.aBind, DL.fits, DL.dApp, DL.dRet, DL.dTup, DL.dLst, DL.truD, DL.bName, DL.bTup, DL.bCons, DL.bNil, DL.pick_eq, DL.Src.get, List.filterMap_cons, List.filterMap_nil, List.getElem?_cons_zero, List.getElem?_cons_succ, List.length_cons, List.length_nil, List.set_cons_zero, List.set_cons_succ, List.map_cons, List.map_nil, List.cons_append, List.nil_append, List.append_nil, List.append_assoc, List.reduceReplicate, Nat.reduceAdd, Nat.reduceSub, Nat.reduceLeDiff, Nat.reduceEqDiff, ↓reduceIte, DL.subD, DL.mulD, DL.divD, DL.modD, DL.powD, DL.ltD, DL.leD, DL.gtD, DL.geD, DL.II, DL.subI, DL.cmpI, DL.negD, DL.addD_int, DL.ix_t0, DL.ix_t1, DL.ix_t2, DL.eqA_int, DL.eqA_pair, DL.intD_int, DL.intA_int, DL.intA_bl, DL.absD, DL.le1, DL.le2, DL.le3, DL.le4, DL.le5, DL.le8, DL.le9, Nat.zero_le, Bool.not_true, Bool.not_false, Bool.false_eq_true, DL.eqA_bl, eq_self, Int.reduceEq, Int.reduceLT, Int.reduceNeg, Bool.false_xor, Bool.true_xor, decide_true, decide_false, decide_eq_true_eq]
  rfl
/-- the neighbours of what is above 0 -/
def near (b T U : Nat) (e : Int) : Int × Int := worth b (whole b T U e : Nat) e
def far (b T U : Nat) (e : Int) : Int × Int := worth b ((if inside b T U e = true then whole b T U e else whole b T U e + 1 : Nat)) e
def toldD (b U : Nat) (t e : Int) : D := if 0 < t then .tup [P2 (near b t.natAbs U e), P2 (far b t.natAbs U e)] else .tup [P2 (turn (far b t.natAbs U e)), P2 (turn (near b t.natAbs U e))]
theorem r_both {n b d U : Nat} {t e : Int} (hn : n ≤ 1500) (g : Good n b d t U e) (M : MS) : φ_both_sides [Fm b d, .tup [.int t, I U]] M = some (.ret (toldD b U t e) M) := by
  obtain ⟨e1, e2⟩ := g.er hn
  have hd8 : dn b e < 2 ^ 8000 := p2lt g.dnl (by omega)
  have hb := g.hb
  have hw := g.wl
  have x1 := r_exp b d U t e g.h1 g.hb g.d1 g.d2 g.ht g.u0 (p2lt g.hT hn) (p2lt g.hU hn) g.hx
  have x2 := r_scaled t U b e g.h1 (by omega) (by omega) (by omega) (p2lt g.hT (by omega)) g.u0 (p2lt g.hU (by omega)) (p2lt g.uup (by omega))
  have x3 : ∀ m : Nat, m < 2 ^ 312 → ∀ M, φ_times_power [I m, I b, .int e] M = some (.ret (P2 (worth b m e)) M) := fun m hm M => r_times_power b m e (by have := g.h1; omega) (by omega) (by omega) (by omega) (p2lt hm (by omega)) hd8 M
  have x4 := x3 (whole b t.natAbs U e) (p2lt hw (by omega))
  have x5 : ∀ M, φ_times_power [.int ((whole b t.natAbs U e : Int) + 1), I b, .int e] M = some (.ret (P2 (worth b (whole b t.natAbs U e + 1 : Nat) e)) M) := fun M => x3 (whole b t.natAbs U e + 1) (by
    have e : (2 : Nat) ^ 312 = 2 ^ 311 + 2 ^ 311 := by rw [← Nat.two_mul, ← Nat.pow_succ']
    have : 1 ≤ 2 ^ 311 := Nat.one_le_two_pow
    rw [e]; omega) M
  have z0 : ¬ (t = 0 ∧ (U : Int) = 1) := fun z => g.ht z.1
  unfold φ_both_sides m_both_sides toldD near far
  by_cases hr : t.natAbs * dn b e % (U * up b e) = 0
  · have hi : inside b t.natAbs U e = true := by unfold inside; rw [hr]; rfl
    rw [hi]
    by_cases ht : 0 < t
    · simp only [decide_eq_false z0, fld_base, fld_digits, x1, x2, x4, hr, decide_eq_true ht, Int.natCast_zero, DL.dFn, DL.dFi, DL.sSeq, DL.sSet, DL.sIf, DL.sRet, DL.sRetN, DL.sDrop, DL.sBind, DL.sAsg, DL.sPar, DL.sPar3, DL.sNext, DL.dC, DL.dVar, DL.dPeek, DL.dBind, DL.dOut, DL.dUn, DL.dBin, DL.dTru, DL.dNot, DL.dAndT, DL.dOrT, DL.dAndV, DL.dOrV, DL.dIfE, DL.aNil, DL.aCons, DL.aBind, DL.fits, DL.dApp, DL.dRet, DL.dTup, DL.dLst, DL.truD, DL.bName, DL.bTup, DL.bCons, DL.bNil, DL.pick_eq, DL.Src.get, List.filterMap_cons, List.filterMap_nil, List.getElem?_cons_zero, List.getElem?_cons_succ, List.length_cons, List.length_nil, List.set_cons_zero, List.set_cons_succ, List.map_cons, List.map_nil, List.cons_append, List.nil_append, List.append_nil, List.append_assoc, List.reduceReplicate, Nat.reduceAdd, Nat.reduceSub, Nat.reduceLeDiff, Nat.reduceEqDiff, ↓reduceIte, DL.subD, DL.mulD, DL.divD, DL.modD, DL.powD, DL.ltD, DL.leD, DL.gtD, DL.geD, DL.II, DL.subI, DL.cmpI, DL.negD, DL.addD_int, DL.ix_t0, DL.ix_t1, DL.ix_t2, DL.eqA_int, DL.eqA_pair, DL.intD_int, DL.intA_int, DL.intA_bl, DL.absD, DL.le1, DL.le2, DL.le3, DL.le4, DL.le5, DL.le8, DL.le9, Nat.zero_le, Bool.not_true, Bool.not_false, Bool.false_eq_true, DL.eqA_bl, eq_self, Int.reduceEq, Int.reduceLT, Int.reduceNeg, Bool.false_xor, Bool.true_xor, decide_true, decide_false, decide_eq_true_eq]
      rw [if_pos ht]
    · simp only [decide_eq_false z0, fld_base, fld_digits, x1, x2, x4, hr, decide_eq_false ht, r_turn, Int.natCast_zero, DL.dFn, DL.dFi, DL.sSeq, DL.sSet, DL.sIf, DL.sRet, DL.sRetN, DL.sDrop, DL.sBind, DL.sAsg, DL.sPar, DL.sPar3, DL.sNext, DL.dC, DL.dVar, DL.dPeek, DL.dBind, DL.dOut, DL.dUn, DL.dBin, DL.dTru, DL.dNot, DL.dAndT, DL.dOrT, DL.dAndV, DL.dOrV, DL.dIfE, DL.aNil, DL.aCons, DL.aBind, DL.fits, DL.dApp, DL.dRet, DL.dTup, DL.dLst, DL.truD, DL.bName, DL.bTup, DL.bCons, DL.bNil, DL.pick_eq, DL.Src.get, List.filterMap_cons, List.filterMap_nil, List.getElem?_cons_zero, List.getElem?_cons_succ, List.length_cons, List.length_nil, List.set_cons_zero, List.set_cons_succ, List.map_cons, List.map_nil, List.cons_append, List.nil_append, List.append_nil, List.append_assoc, List.reduceReplicate, Nat.reduceAdd, Nat.reduceSub, Nat.reduceLeDiff, Nat.reduceEqDiff, ↓reduceIte, DL.subD, DL.mulD, DL.divD, DL.modD, DL.powD, DL.ltD, DL.leD, DL.gtD, DL.geD, DL.II, DL.subI, DL.cmpI, DL.negD, DL.addD_int, DL.ix_t0, DL.ix_t1, DL.ix_t2, DL.eqA_int, DL.eqA_pair, DL.intD_int, DL.intA_int, DL.intA_bl, DL.absD, DL.le1, DL.le2, DL.le3, DL.le4, DL.le5, DL.le8, DL.le9, Nat.zero_le, Bool.not_true, Bool.not_false, Bool.false_eq_true, DL.eqA_bl, eq_self, Int.reduceEq, Int.reduceLT, Int.reduceNeg, Bool.false_xor, Bool.true_xor, decide_true, decide_false, decide_eq_true_eq]
      rw [if_neg ht]
  · have hi : inside b t.natAbs U e = false := by unfold inside; exact beq_eq_false_iff_ne.mpr hr
    rw [hi]
    by_cases ht : 0 < t
    · simp only [decide_eq_false z0, fld_base, fld_digits, x1, x2, x4, x5, decide_eq_false (show ¬ (((t.natAbs * dn b e % (U * up b e) : Nat) : Int) = 0) by omega), decide_eq_true ht, DL.dFn, DL.dFi, DL.sSeq, DL.sSet, DL.sIf, DL.sRet, DL.sRetN, DL.sDrop, DL.sBind, DL.sAsg, DL.sPar, DL.sPar3, DL.sNext, DL.dC, DL.dVar, DL.dPeek, DL.dBind, DL.dOut, DL.dUn, DL.dBin, DL.dTru, DL.dNot, DL.dAndT, DL.dOrT, DL.dAndV, DL.dOrV, DL.dIfE, DL.aNil, DL.aCons, DL.aBind, DL.fits, DL.dApp, DL.dRet, DL.dTup, DL.dLst, DL.truD, DL.bName, DL.bTup, DL.bCons, DL.bNil, DL.pick_eq, DL.Src.get, List.filterMap_cons, List.filterMap_nil, List.getElem?_cons_zero, List.getElem?_cons_succ, List.length_cons, List.length_nil, List.set_cons_zero, List.set_cons_succ, List.map_cons, List.map_nil, List.cons_append, List.nil_append, List.append_nil, List.append_assoc, List.reduceReplicate, Nat.reduceAdd, Nat.reduceSub, Nat.reduceLeDiff, Nat.reduceEqDiff, ↓reduceIte, DL.subD, DL.mulD, DL.divD, DL.modD, DL.powD, DL.ltD, DL.leD, DL.gtD, DL.geD, DL.II, DL.subI, DL.cmpI, DL.negD, DL.addD_int, DL.ix_t0, DL.ix_t1, DL.ix_t2, DL.eqA_int, DL.eqA_pair, DL.intD_int, DL.intA_int, DL.intA_bl, DL.absD, DL.le1, DL.le2, DL.le3, DL.le4, DL.le5, DL.le8, DL.le9, Nat.zero_le, Bool.not_true, Bool.not_false, Bool.false_eq_true, DL.eqA_bl, eq_self, Int.reduceEq, Int.reduceLT, Int.reduceNeg, Bool.false_xor, Bool.true_xor, decide_true, decide_false, decide_eq_true_eq]
      rw [if_pos ht]
    · simp only [decide_eq_false z0, fld_base, fld_digits, x1, x2, x4, x5, decide_eq_false (show ¬ (((t.natAbs * dn b e % (U * up b e) : Nat) : Int) = 0) by omega), decide_eq_false ht, r_turn, DL.dFn, DL.dFi, DL.sSeq, DL.sSet, DL.sIf, DL.sRet, DL.sRetN, DL.sDrop, DL.sBind, DL.sAsg, DL.sPar, DL.sPar3, DL.sNext, DL.dC, DL.dVar, DL.dPeek, DL.dBind, DL.dOut, DL.dUn, DL.dBin, DL.dTru, DL.dNot, DL.dAndT, DL.dOrT, DL.dAndV, DL.dOrV, DL.dIfE, DL.aNil, DL.aCons, DL.aBind, DL.fits, DL.dApp, DL.dRet, DL.dTup, DL.dLst, DL.truD, DL.bName, DL.bTup, DL.bCons, DL.bNil, DL.pick_eq, DL.Src.get, List.filterMap_cons, List.filterMap_nil, List.getElem?_cons_zero, List.getElem?_cons_succ, List.length_cons, List.length_nil, List.set_cons_zero, List.set_cons_succ, List.map_cons, List.map_nil, List.cons_append, List.nil_append, List.append_nil, List.append_assoc, List.reduceReplicate, Nat.reduceAdd, Nat.reduceSub, Nat.reduceLeDiff, Nat.reduceEqDiff, ↓reduceIte, DL.subD, DL.mulD, DL.divD, DL.modD, DL.powD, DL.ltD, DL.leD, DL.gtD, DL.geD, DL.II, DL.subI, DL.cmpI, DL.negD, DL.addD_int, DL.ix_t0, DL.ix_t1, DL.ix_t2, DL.eqA_int, DL.eqA_pair, DL.intD_int, DL.intA_int, DL.intA_bl, DL.absD, DL.le1, DL.le2, DL.le3, DL.le4, DL.le5, DL.le8, DL.le9, Nat.zero_le, Bool.not_true, Bool.not_false, Bool.false_eq_true, DL.eqA_bl, eq_self, Int.reduceEq, Int.reduceLT, Int.reduceNeg, Bool.false_xor, Bool.true_xor, decide_true, decide_false, decide_eq_true_eq]
      rw [if_neg ht]
theorem r_is_inside {n b d U : Nat} {t e : Int} (hn : n ≤ 1500) (g : Good n b d t U e) (M : MS) : φ_is_inside [Fm b d, .tup [.int t, I U]] M = some (.ret (.bl (inside b t.natAbs U e)) M) := by
  obtain ⟨e1, e2⟩ := g.er hn
  have hb := g.hb
  have x1 := r_exp b d U t e g.h1 g.hb g.d1 g.d2 g.ht g.u0 (p2lt g.hT hn) (p2lt g.hU hn) g.hx
  have x2 := r_scaled t U b e g.h1 (by omega) (by omega) (by omega) (p2lt g.hT (by omega)) g.u0 (p2lt g.hU (by omega)) (p2lt g.uup (by omega))
  have z0 : ¬ (t = 0 ∧ (U : Int) = 1) := fun z => g.ht z.1
  unfold φ_is_inside m_is_inside inside
  simp only [decide_eq_false z0, fld_base, fld_digits, x1, x2, DL.dFn, DL.dFi, DL.sSeq, DL.sSet, DL.sIf, DL.sRet, DL.sRetN, DL.sDrop, DL.sBind, DL.sAsg, DL.sPar, DL.sPar3, DL.sNext, DL.dC, DL.dVar, DL.dPeek, DL.dBind, DL.dOut, DL.dUn, DL.dBin, DL.dTru, DL.dNot, DL.dAndT, DL.dOrT, DL.dAndV, DL.dOrV, DL.dIfE, DL.aNil, DL.aCons, DL.aBind, DL.fits, DL.dApp, DL.dRet, DL.dTup, DL.dLst, DL.truD, DL.bName, DL.bTup, DL.bCons, DL.bNil, DL.pick_eq, DL.Src.get, List.filterMap_cons, List.filterMap_nil, List.getElem?_cons_zero, List.getElem?_cons_succ, List.length_cons, List.length_nil, List.set_cons_zero, List.set_cons_succ, List.map_cons, List.map_nil, List.cons_append, List.nil_append, List.append_nil, List.append_assoc, List.reduceReplicate, Nat.reduceAdd, Nat.reduceSub, Nat.reduceLeDiff, Nat.reduceEqDiff, ↓reduceIte, DL.subD, DL.mulD, DL.divD, DL.modD, DL.powD, DL.ltD, DL.leD, DL.gtD, DL.geD, DL.II, DL.subI, DL.cmpI, DL.negD, DL.addD_int, DL.ix_t0, DL.ix_t1, DL.ix_t2, DL.eqA_int, DL.eqA_pair, DL.intD_int, DL.intA_int, DL.intA_bl, DL.absD, DL.le1, DL.le2, DL.le3, DL.le4, DL.le5, DL.le8, DL.le9, Nat.zero_le, Bool.not_true, Bool.not_false, Bool.false_eq_true, DL.eqA_bl, eq_self, Int.reduceEq, Int.reduceLT, Int.reduceNeg, Bool.false_xor, Bool.true_xor, decide_true, decide_false, decide_eq_true_eq]
  refine congrArg (fun z => some (FO.ret (D.bl z) M)) ?_
  by_cases hr : t.natAbs * dn b e % (U * up b e) = 0
  · rw [hr]; rfl
  · rw [beq_eq_false_iff_ne.mpr hr]
    exact decide_eq_false (by omega)
/-! ### the three questions -/
theorem r_is_in {n b d U : Nat} {t e : Int} (hn : n ≤ 1500) (g : Good n b d t U e) (co : Nat.Coprime t.natAbs U) (M : MS) : φ_is_in [Fm b d, .tup [.int t, I U]] M = some (.ret (.bl (inside b t.natAbs U e)) M) := by
  have u0 := g.u0
  have x := fun x => r_number t U (by omega) (nat_lt (p2lt g.hU (by omega))) x
  rw [low_self (a := t) (b := (U : Int)) (by omega) (by rw [Int.natAbs_natCast]; exact co)] at x
  unfold φ_is_in m_is_in
  simp only [r_need_format, x, r_is_inside hn g, DL.dFn, DL.dFi, DL.sSeq, DL.sSet, DL.sIf, DL.sRet, DL.sRetN, DL.sDrop, DL.sBind, DL.sAsg, DL.sPar, DL.sPar3, DL.sNext, DL.dC, DL.dVar, DL.dPeek, DL.dBind, DL.dOut, DL.dUn, DL.dBin, DL.dTru, DL.dNot, DL.dAndT, DL.dOrT, DL.dAndV, DL.dOrV, DL.dIfE, DL.aNil, DL.aCons, DL.aBind, DL.fits, DL.dApp, DL.dRet, DL.dTup, DL.dLst, DL.truD, DL.bName, DL.bTup, DL.bCons, DL.bNil, DL.pick_eq, DL.Src.get, List.filterMap_cons, List.filterMap_nil, List.getElem?_cons_zero, List.getElem?_cons_succ, List.length_cons, List.length_nil, List.set_cons_zero, List.set_cons_succ, List.map_cons, List.map_nil, List.cons_append, List.nil_append, List.append_nil, List.append_assoc, List.reduceReplicate, Nat.reduceAdd, Nat.reduceSub, Nat.reduceLeDiff, Nat.reduceEqDiff, ↓reduceIte, DL.subD, DL.mulD, DL.divD, DL.modD, DL.powD, DL.ltD, DL.leD, DL.gtD, DL.geD, DL.II, DL.subI, DL.cmpI, DL.negD, DL.addD_int, DL.ix_t0, DL.ix_t1, DL.ix_t2, DL.eqA_int, DL.eqA_pair, DL.intD_int, DL.intA_int, DL.intA_bl, DL.absD, DL.le1, DL.le2, DL.le3, DL.le4, DL.le5, DL.le8, DL.le9, Nat.zero_le, Bool.not_true, Bool.not_false, Bool.false_eq_true, DL.eqA_bl, eq_self, Int.reduceEq, Int.reduceLT, Int.reduceNeg, Bool.false_xor, Bool.true_xor, decide_true, decide_false, decide_eq_true_eq]
theorem r_neighbours {n b d U : Nat} {t e : Int} (hn : n ≤ 1500) (g : Good n b d t U e) (co : Nat.Coprime t.natAbs U) (M : MS) : φ_neighbours [Fm b d, .tup [.int t, I U]] M = some (.ret (toldD b U t e) M) := by
  have u0 := g.u0
  have x := fun x => r_number t U (by omega) (nat_lt (p2lt g.hU (by omega))) x
  rw [low_self (a := t) (b := (U : Int)) (by omega) (by rw [Int.natAbs_natCast]; exact co)] at x
  unfold φ_neighbours m_neighbours
  simp only [r_need_format, x, r_both hn g, DL.dFn, DL.dFi, DL.sSeq, DL.sSet, DL.sIf, DL.sRet, DL.sRetN, DL.sDrop, DL.sBind, DL.sAsg, DL.sPar, DL.sPar3, DL.sNext, DL.dC, DL.dVar, DL.dPeek, DL.dBind, DL.dOut, DL.dUn, DL.dBin, DL.dTru, DL.dNot, DL.dAndT, DL.dOrT, DL.dAndV, DL.dOrV, DL.dIfE, DL.aNil, DL.aCons, DL.aBind, DL.fits, DL.dApp, DL.dRet, DL.dTup, DL.dLst, DL.truD, DL.bName, DL.bTup, DL.bCons, DL.bNil, DL.pick_eq, DL.Src.get, List.filterMap_cons, List.filterMap_nil, List.getElem?_cons_zero, List.getElem?_cons_succ, List.length_cons, List.length_nil, List.set_cons_zero, List.set_cons_succ, List.map_cons, List.map_nil, List.cons_append, List.nil_append, List.append_nil, List.append_assoc, List.reduceReplicate, Nat.reduceAdd, Nat.reduceSub, Nat.reduceLeDiff, Nat.reduceEqDiff, ↓reduceIte, DL.subD, DL.mulD, DL.divD, DL.modD, DL.powD, DL.ltD, DL.leD, DL.gtD, DL.geD, DL.II, DL.subI, DL.cmpI, DL.negD, DL.addD_int, DL.ix_t0, DL.ix_t1, DL.ix_t2, DL.eqA_int, DL.eqA_pair, DL.intD_int, DL.intA_int, DL.intA_bl, DL.absD, DL.le1, DL.le2, DL.le3, DL.le4, DL.le5, DL.le8, DL.le9, Nat.zero_le, Bool.not_true, Bool.not_false, Bool.false_eq_true, DL.eqA_bl, eq_self, Int.reduceEq, Int.reduceLT, Int.reduceNeg, Bool.false_xor, Bool.true_xor, decide_true, decide_false, decide_eq_true_eq]
theorem r_ulp {n b d U : Nat} {t e : Int} (hn : n ≤ 1500) (g : Good n b d t U e) (co : Nat.Coprime t.natAbs U) (M : MS) : φ_ulp [Fm b d, .tup [.int t, I U]] M = some (.ret (P2 (worth b 1 e)) M) := by
  obtain ⟨e1, e2⟩ := g.er hn
  have u0 := g.u0
  have hb := g.hb
  have x := fun x => r_number t U (by omega) (nat_lt (p2lt g.hU (by omega))) x
  rw [low_self (a := t) (b := (U : Int)) (by omega) (by rw [Int.natAbs_natCast]; exact co)] at x
  have x1 := r_exp b d U t e g.h1 g.hb g.d1 g.d2 g.ht g.u0 (p2lt g.hT hn) (p2lt g.hU hn) g.hx
  have z0 : ¬ (t = 0 ∧ (U : Int) = 1) := fun z => g.ht z.1
  have x6 := r_raised b e (by have := g.h1; omega) (by omega) (by omega) (by omega)
  unfold φ_ulp m_ulp
  simp only [r_need_format, x, fld_base, fld_digits, x1, x6, decide_eq_false z0, DL.dFn, DL.dFi, DL.sSeq, DL.sSet, DL.sIf, DL.sRet, DL.sRetN, DL.sDrop, DL.sBind, DL.sAsg, DL.sPar, DL.sPar3, DL.sNext, DL.dC, DL.dVar, DL.dPeek, DL.dBind, DL.dOut, DL.dUn, DL.dBin, DL.dTru, DL.dNot, DL.dAndT, DL.dOrT, DL.dAndV, DL.dOrV, DL.dIfE, DL.aNil, DL.aCons, DL.aBind, DL.fits, DL.dApp, DL.dRet, DL.dTup, DL.dLst, DL.truD, DL.bName, DL.bTup, DL.bCons, DL.bNil, DL.pick_eq, DL.Src.get, List.filterMap_cons, List.filterMap_nil, List.getElem?_cons_zero, List.getElem?_cons_succ, List.length_cons, List.length_nil, List.set_cons_zero, List.set_cons_succ, List.map_cons, List.map_nil, List.cons_append, List.nil_append, List.append_nil, List.append_assoc, List.reduceReplicate, Nat.reduceAdd, Nat.reduceSub, Nat.reduceLeDiff, Nat.reduceEqDiff, ↓reduceIte, DL.subD, DL.mulD, DL.divD, DL.modD, DL.powD, DL.ltD, DL.leD, DL.gtD, DL.geD, DL.II, DL.subI, DL.cmpI, DL.negD, DL.addD_int, DL.ix_t0, DL.ix_t1, DL.ix_t2, DL.eqA_int, DL.eqA_pair, DL.intD_int, DL.intA_int, DL.intA_bl, DL.absD, DL.le1, DL.le2, DL.le3, DL.le4, DL.le5, DL.le8, DL.le9, Nat.zero_le, Bool.not_true, Bool.not_false, Bool.false_eq_true, DL.eqA_bl, eq_self, Int.reduceEq, Int.reduceLT, Int.reduceNeg, Bool.false_xor, Bool.true_xor, decide_true, decide_false, decide_eq_true_eq]
  have hw : worth b 1 e = (((up b e : Nat) : Int), ((dn b e : Nat) : Int)) := by
    unfold worth
    rw [Int.one_mul]
    have p := dn_pos g.h1 e
    refine low_self (by omega) ?_
    rw [Int.natAbs_natCast, Int.natAbs_natCast]
    by_cases h : 0 ≤ e
    · rw [dn1 h]; exact Nat.gcd_one_right _
    · rw [up1 (show e ≤ 0 by omega)]; exact Nat.gcd_one_left _
  rw [hw]
end L07
set_option maxHeartbeats 2000000
namespace L07
open PySem PySem.Spec PyProof.Rows L2 DL PA
theorem mul_b {x : Int} {b : Nat} (hb : b < 64) : mulOk x (b : Int) := .inr (.inl (by rw [Int.natAbs_natCast]; exact Nat.lt_trans hb (by decide)))
/-! ### powers by single turns -/
theorem l_raised (b : Nat) (c : Int) (hb : b < 64) (M : MS) : ∀ (ds : List D) (f : Nat) (x : Option SV), ∃ y, loopS (bName 3) b0__law_raised ds [some (.t (I b)), some (.t (.int c)), some (.t (I f)), x] M = some (.nx [some (.t (I b)), some (.t (.int c)), some (.t (I (f * b ^ ds.length))), y] M)
  | [], f, x => ⟨x, by rw [List.length_nil, Nat.pow_zero, Nat.mul_one]; rfl⟩
  | d :: ds, f, x => by
    obtain ⟨y, q⟩ := l_raised b c hb M ds (f * b) (some (.t d))
    refine ⟨y, ?_⟩
    unfold loopS
    simp only [DL.dFn, DL.dFi, DL.sSeq, DL.sSet, DL.sIf, DL.sRet, DL.sRetN, DL.sDrop, DL.sBind, DL.sAsg, DL.sPar, DL.sPar3, DL.sNext, DL.dC, DL.dVar, DL.dPeek, DL.dBind, DL.dOut, DL.dUn, DL.dBin, DL.dTru, DL.dNot, DL.dAndT, DL.dOrT, DL.dAndV, DL.dOrV, DL.dIfE, DL.aNil, DL.aCons, DL.aBind, DL.fits, DL.dApp, DL.dRet, DL.dTup, DL.dLst, DL.truD, DL.bName, DL.bTup, DL.bCons, DL.bNil, DL.pick_eq, DL.Src.get, List.filterMap_cons, List.filterMap_nil, List.getElem?_cons_zero, List.getElem?_cons_succ, List.length_cons, List.length_nil, List.set_cons_zero, List.set_cons_succ, List.map_cons, List.map_nil, List.cons_append, List.nil_append, List.append_nil, List.append_assoc, List.reduceReplicate, Nat.reduceAdd, Nat.reduceSub, Nat.reduceLeDiff, Nat.reduceEqDiff, ↓reduceIte, DL.subD, DL.mulD, DL.divD, DL.modD, DL.powD, DL.ltD, DL.leD, DL.gtD, DL.geD, DL.II, DL.subI, DL.cmpI, DL.negD, DL.addD_int, DL.ix_t0, DL.ix_t1, DL.ix_t2, DL.eqA_int, DL.eqA_pair, DL.intD_int, DL.intA_int, DL.intA_bl, DL.absD, DL.le1, DL.le2, DL.le3, DL.le4, DL.le5, DL.le8, DL.le9, Nat.zero_le, Bool.not_true, Bool.not_false, Bool.false_eq_true, DL.eqA_bl, eq_self, Int.reduceEq, Int.reduceLT, Int.reduceNeg, Bool.false_xor, Bool.true_xor, decide_true, decide_false, decide_eq_true_eq]
    rw [show b0__law_raised [some (.t (I b)), some (.t (.int c)), some (.t (I f)), some (.t d)] M = some (.nx [some (.t (I b)), some (.t (.int c)), some (.t (I (f * b))), some (.t d)] M) by
      unfold b0__law_raised
      simp only [mulI_ok (mul_b (x := (f : Int)) hb), I, Int.natCast_mul, DL.dFn, DL.dFi, DL.sSeq, DL.sSet, DL.sIf, DL.sRet, DL.sRetN, DL.sDrop, DL.sBind, DL.sAsg, DL.sPar, DL.sPar3, DL.sNext, DL.dC, DL.dVar, DL.dPeek, DL.dBind, DL.dOut, DL.dUn, DL.dBin, DL.dTru, DL.dNot, DL.dAndT, DL.dOrT, DL.dAndV, DL.dOrV, DL.dIfE, DL.aNil, DL.aCons, DL.aBind, DL.fits, DL.dApp, DL.dRet, DL.dTup, DL.dLst, DL.truD, DL.bName, DL.bTup, DL.bCons, DL.bNil, DL.pick_eq, DL.Src.get, List.filterMap_cons, List.filterMap_nil, List.getElem?_cons_zero, List.getElem?_cons_succ, List.length_cons, List.length_nil, List.set_cons_zero, List.set_cons_succ, List.map_cons, List.map_nil, List.cons_append, List.nil_append, List.append_nil, List.append_assoc, List.reduceReplicate, Nat.reduceAdd, Nat.reduceSub, Nat.reduceLeDiff, Nat.reduceEqDiff, ↓reduceIte, DL.subD, DL.mulD, DL.divD, DL.modD, DL.powD, DL.ltD, DL.leD, DL.gtD, DL.geD, DL.II, DL.subI, DL.cmpI, DL.negD, DL.addD_int, DL.ix_t0, DL.ix_t1, DL.ix_t2, DL.eqA_int, DL.eqA_pair, DL.intD_int, DL.intA_int, DL.intA_bl, DL.absD, DL.le1, DL.le2, DL.le3, DL.le4, DL.le5, DL.le8, DL.le9, Nat.zero_le, Bool.not_true, Bool.not_false, Bool.false_eq_true, DL.eqA_bl, eq_self, Int.reduceEq, Int.reduceLT, Int.reduceNeg, Bool.false_xor, Bool.true_xor, decide_true, decide_false, decide_eq_true_eq]]
    show loopS (bName 3) b0__law_raised ds [some (.t (I b)), some (.t (.int c)), some (.t (I (f * b))), some (.t d)] M = _
    rw [q, Nat.pow_succ', Nat.mul_assoc]
theorem r_law_raised (b : Nat) (c : Int) (hb : b < 64) (hc : c.natAbs ≤ 50000) (M : MS) : φ__law_raised [I b, .int c] M = some (.ret (.tup [I (up b c), I (dn b c)]) M) := by
  obtain ⟨y, q⟩ := l_raised b c hb M (rangeL 0 ((c.natAbs : Nat) : Int).toNat) 1 none
  have hs : small62 ((c.natAbs : Nat) : Int) := by unfold small62; omega
  rw [rangeL_len, Nat.one_mul, Int.toNat_natCast] at q
  have a1 : (dUn absD (dPeek 1)) [some (SV.t (I b)), some (SV.t (.int c)), some (SV.t (I 1)), none] M = some (.ok (.int ((c.natAbs : Nat) : Int)) [some (SV.t (I b)), some (SV.t (.int c)), some (SV.t (I 1)), none] M) := by simp only [abs_nat, DL.dFn, DL.dFi, DL.sSeq, DL.sSet, DL.sIf, DL.sRet, DL.sRetN, DL.sDrop, DL.sBind, DL.sAsg, DL.sPar, DL.sPar3, DL.sNext, DL.dC, DL.dVar, DL.dPeek, DL.dBind, DL.dOut, DL.dUn, DL.dBin, DL.dTru, DL.dNot, DL.dAndT, DL.dOrT, DL.dAndV, DL.dOrV, DL.dIfE, DL.aNil, DL.aCons, DL.aBind, DL.fits, DL.dApp, DL.dRet, DL.dTup, DL.dLst, DL.truD, DL.bName, DL.bTup, DL.bCons, DL.bNil, DL.pick_eq, DL.Src.get, List.filterMap_cons, List.filterMap_nil, List.getElem?_cons_zero, List.getElem?_cons_succ, List.length_cons, List.length_nil, List.set_cons_zero, List.set_cons_succ, List.map_cons, List.map_nil, List.cons_append, List.nil_append, List.append_nil, List.append_assoc, List.reduceReplicate, Nat.reduceAdd, Nat.reduceSub, Nat.reduceLeDiff, Nat.reduceEqDiff, ↓reduceIte, DL.subD, DL.mulD, DL.divD, DL.modD, DL.powD, DL.ltD, DL.leD, DL.gtD, DL.geD, DL.II, DL.subI, DL.cmpI, DL.negD, DL.addD_int, DL.ix_t0, DL.ix_t1, DL.ix_t2, DL.eqA_int, DL.eqA_pair, DL.intD_int, DL.intA_int, DL.intA_bl, DL.absD, DL.le1, DL.le2, DL.le3, DL.le4, DL.le5, DL.le8, DL.le9, Nat.zero_le, Bool.not_true, Bool.not_false, Bool.false_eq_true, DL.eqA_bl, eq_self, Int.reduceEq, Int.reduceLT, Int.reduceNeg, Bool.false_xor, Bool.true_xor, decide_true, decide_false, decide_eq_true_eq]
  have w : sFor s0__law_raised (bName 3) b0__law_raised [some (SV.t (I b)), some (SV.t (.int c)), some (SV.t (.int 1)), none] M = some (.nx [some (.t (I b)), some (.t (.int c)), some (.t (I (b ^ c.natAbs))), y] M) := (for_eq (show s0__law_raised _ M = _ from rng1 a1 hs)).trans (by rw [Int.toNat_natCast]; exact q)
  unfold φ__law_raised m__law_raised
  simp only [DL.dFn, DL.dFi, DL.sSeq, DL.sSet, DL.sIf, DL.sRet, DL.sRetN, DL.sDrop, DL.sBind, DL.sAsg, DL.sPar, DL.sPar3, DL.sNext, DL.dC, DL.dVar, DL.dPeek, DL.dBind, DL.dOut, DL.dUn, DL.dBin, DL.dTru, DL.dNot, DL.dAndT, DL.dOrT, DL.dAndV, DL.dOrV, DL.dIfE, DL.aNil, DL.aCons, DL.aBind, DL.fits, DL.dApp, DL.dRet, DL.dTup, DL.dLst, DL.truD, DL.bName, DL.bTup, DL.bCons, DL.bNil, DL.pick_eq, DL.Src.get, List.filterMap_cons, List.filterMap_nil, List.getElem?_cons_zero, List.getElem?_cons_succ, List.length_cons, List.length_nil, List.set_cons_zero, List.set_cons_succ, List.map_cons, List.map_nil, List.cons_append, List.nil_append, List.append_nil, List.append_assoc, List.reduceReplicate, Nat.reduceAdd, Nat.reduceSub, Nat.reduceLeDiff, Nat.reduceEqDiff, ↓reduceIte, DL.subD, DL.mulD, DL.divD, DL.modD, DL.powD, DL.ltD, DL.leD, DL.gtD, DL.geD, DL.II, DL.subI, DL.cmpI, DL.negD, DL.addD_int, DL.ix_t0, DL.ix_t1, DL.ix_t2, DL.eqA_int, DL.eqA_pair, DL.intD_int, DL.intA_int, DL.intA_bl, DL.absD, DL.le1, DL.le2, DL.le3, DL.le4, DL.le5, DL.le8, DL.le9, Nat.zero_le, Bool.not_true, Bool.not_false, Bool.false_eq_true, DL.eqA_bl, eq_self, Int.reduceEq, Int.reduceLT, Int.reduceNeg, Bool.false_xor, Bool.true_xor, decide_true, decide_false, decide_eq_true_eq]
  rw [w]
  by_cases h : 0 ≤ c
  · simp only [decide_eq_true h, DL.dFn, DL.dFi, DL.sSeq, DL.sSet, DL.sIf, DL.sRet, DL.sRetN, DL.sDrop, DL.sBind, DL.sAsg, DL.sPar, DL.sPar3, DL.sNext, DL.dC, DL.dVar, DL.dPeek, DL.dBind, DL.dOut, DL.dUn, DL.dBin, DL.dTru, DL.dNot, DL.dAndT, DL.dOrT, DL.dAndV, DL.dOrV, DL.dIfE, DL.aNil, DL.aCons, DL.aBind, DL.fits, DL.dApp, DL.dRet, DL.dTup, DL.dLst, DL.truD, DL.bName, DL.bTup, DL.bCons, DL.bNil, DL.pick_eq, DL.Src.get, List.filterMap_cons, List.filterMap_nil, List.getElem?_cons_zero, List.getElem?_cons_succ, List.length_cons, List.length_nil, List.set_cons_zero, List.set_cons_succ, List.map_cons, List.map_nil, List.cons_append, List.nil_append, List.append_nil, List.append_assoc, List.reduceReplicate, Nat.reduceAdd, Nat.reduceSub, Nat.reduceLeDiff, Nat.reduceEqDiff, ↓reduceIte, DL.subD, DL.mulD, DL.divD, DL.modD, DL.powD, DL.ltD, DL.leD, DL.gtD, DL.geD, DL.II, DL.subI, DL.cmpI, DL.negD, DL.addD_int, DL.ix_t0, DL.ix_t1, DL.ix_t2, DL.eqA_int, DL.eqA_pair, DL.intD_int, DL.intA_int, DL.intA_bl, DL.absD, DL.le1, DL.le2, DL.le3, DL.le4, DL.le5, DL.le8, DL.le9, Nat.zero_le, Bool.not_true, Bool.not_false, Bool.false_eq_true, DL.eqA_bl, eq_self, Int.reduceEq, Int.reduceLT, Int.reduceNeg, Bool.false_xor, Bool.true_xor, decide_true, decide_false, decide_eq_true_eq]
    rw [dn1 h]
    unfold up
    rw [show c.natAbs = c.toNat by omega]
    rfl
  · simp only [decide_eq_false h, DL.dFn, DL.dFi, DL.sSeq, DL.sSet, DL.sIf, DL.sRet, DL.sRetN, DL.sDrop, DL.sBind, DL.sAsg, DL.sPar, DL.sPar3, DL.sNext, DL.dC, DL.dVar, DL.dPeek, DL.dBind, DL.dOut, DL.dUn, DL.dBin, DL.dTru, DL.dNot, DL.dAndT, DL.dOrT, DL.dAndV, DL.dOrV, DL.dIfE, DL.aNil, DL.aCons, DL.aBind, DL.fits, DL.dApp, DL.dRet, DL.dTup, DL.dLst, DL.truD, DL.bName, DL.bTup, DL.bCons, DL.bNil, DL.pick_eq, DL.Src.get, List.filterMap_cons, List.filterMap_nil, List.getElem?_cons_zero, List.getElem?_cons_succ, List.length_cons, List.length_nil, List.set_cons_zero, List.set_cons_succ, List.map_cons, List.map_nil, List.cons_append, List.nil_append, List.append_nil, List.append_assoc, List.reduceReplicate, Nat.reduceAdd, Nat.reduceSub, Nat.reduceLeDiff, Nat.reduceEqDiff, ↓reduceIte, DL.subD, DL.mulD, DL.divD, DL.modD, DL.powD, DL.ltD, DL.leD, DL.gtD, DL.geD, DL.II, DL.subI, DL.cmpI, DL.negD, DL.addD_int, DL.ix_t0, DL.ix_t1, DL.ix_t2, DL.eqA_int, DL.eqA_pair, DL.intD_int, DL.intA_int, DL.intA_bl, DL.absD, DL.le1, DL.le2, DL.le3, DL.le4, DL.le5, DL.le8, DL.le9, Nat.zero_le, Bool.not_true, Bool.not_false, Bool.false_eq_true, DL.eqA_bl, eq_self, Int.reduceEq, Int.reduceLT, Int.reduceNeg, Bool.false_xor, Bool.true_xor, decide_true, decide_false, decide_eq_true_eq]
    rw [up1 (show c ≤ 0 by omega)]
    unfold dn
    rw [show c.natAbs = (-c).toNat by omega]
    rfl
theorem r_worth (b : Nat) (m e : Int) (h1 : 2 ≤ b) (hb : b < 64) (he : e.natAbs ≤ 50000) (hm : m.natAbs < 2 ^ 5000) (hd : dn b e < 2 ^ 8000) (M : MS) : φ__law_worth [.int m, I b, .int e] M = some (.ret (P2 (worth b m e)) M) := by
  have m1 : mulOk m ((up b e : Nat) : Int) := mulOk_of hm (nat_lt (up_lt hb (by omega)))
  have p := dn_pos h1 e
  unfold φ__law_worth m__law_worth
  simp only [r_law_raised b e hb he, mulI_ok m1, r_law_low (m * ((up b e : Nat) : Int)) ((dn b e : Nat) : Int) (by omega) (nat_lt hd), DL.dFn, DL.dFi, DL.sSeq, DL.sSet, DL.sIf, DL.sRet, DL.sRetN, DL.sDrop, DL.sBind, DL.sAsg, DL.sPar, DL.sPar3, DL.sNext, DL.dC, DL.dVar, DL.dPeek, DL.dBind, DL.dOut, DL.dUn, DL.dBin, DL.dTru, DL.dNot, DL.dAndT, DL.dOrT, DL.dAndV, DL.dOrV, DL.dIfE, DL.aNil, DL.aCons, DL.aBind, DL.fits, DL.dApp, DL.dRet, DL.dTup, DL.dLst, DL.truD, DL.bName, DL.bTup, DL.bCons, DL.bNil, DL.pick_eq, DL.Src.get, List.filterMap_cons, List.filterMap_nil, List.getElem?_cons_zero, List.getElem?_cons_succ, List.length_cons, List.length_nil, List.set_cons_zero, List.set_cons_succ, List.map_cons, List.map_nil, List.cons_append, List.nil_append, List.append_nil, List.append_assoc, List.reduceReplicate, Nat.reduceAdd, Nat.reduceSub, Nat.reduceLeDiff, Nat.reduceEqDiff, ↓reduceIte, DL.subD, DL.mulD, DL.divD, DL.modD, DL.powD, DL.ltD, DL.leD, DL.gtD, DL.geD, DL.II, DL.subI, DL.cmpI, DL.negD, DL.addD_int, DL.ix_t0, DL.ix_t1, DL.ix_t2, DL.eqA_int, DL.eqA_pair, DL.intD_int, DL.intA_int, DL.intA_bl, DL.absD, DL.le1, DL.le2, DL.le3, DL.le4, DL.le5, DL.le8, DL.le9, Nat.zero_le, Bool.not_true, Bool.not_false, Bool.false_eq_true, DL.eqA_bl, eq_self, Int.reduceEq, Int.reduceLT, Int.reduceNeg, Bool.false_xor, Bool.true_xor, decide_true, decide_false, decide_eq_true_eq]
  rfl
theorem r_cmp (a b c d : Int) (M : MS) (h1 : mulOk a d) (h2 : mulOk c b) : φ__law_cmp [.tup [.int a, .int b], .tup [.int c, .int d]] M = some (.ret (.int ((if c * b < a * d then 1 else 0) - (if a * d < c * b then 1 else 0))) M) := by
  unfold φ__law_cmp m__law_cmp
  simp only [mulI_ok h1, mulI_ok h2, DL.dFn, DL.dFi, DL.sSeq, DL.sSet, DL.sIf, DL.sRet, DL.sRetN, DL.sDrop, DL.sBind, DL.sAsg, DL.sPar, DL.sPar3, DL.sNext, DL.dC, DL.dVar, DL.dPeek, DL.dBind, DL.dOut, DL.dUn, DL.dBin, DL.dTru, DL.dNot, DL.dAndT, DL.dOrT, DL.dAndV, DL.dOrV, DL.dIfE, DL.aNil, DL.aCons, DL.aBind, DL.fits, DL.dApp, DL.dRet, DL.dTup, DL.dLst, DL.truD, DL.bName, DL.bTup, DL.bCons, DL.bNil, DL.pick_eq, DL.Src.get, List.filterMap_cons, List.filterMap_nil, List.getElem?_cons_zero, List.getElem?_cons_succ, List.length_cons, List.length_nil, List.set_cons_zero, List.set_cons_succ, List.map_cons, List.map_nil, List.cons_append, List.nil_append, List.append_nil, List.append_assoc, List.reduceReplicate, Nat.reduceAdd, Nat.reduceSub, Nat.reduceLeDiff, Nat.reduceEqDiff, ↓reduceIte, DL.subD, DL.mulD, DL.divD, DL.modD, DL.powD, DL.ltD, DL.leD, DL.gtD, DL.geD, DL.II, DL.subI, DL.cmpI, DL.negD, DL.addD_int, DL.ix_t0, DL.ix_t1, DL.ix_t2, DL.eqA_int, DL.eqA_pair, DL.intD_int, DL.intA_int, DL.intA_bl, DL.absD, DL.le1, DL.le2, DL.le3, DL.le4, DL.le5, DL.le8, DL.le9, Nat.zero_le, Bool.not_true, Bool.not_false, Bool.false_eq_true, DL.eqA_bl, eq_self, Int.reduceEq, Int.reduceLT, Int.reduceNeg, Bool.false_xor, Bool.true_xor, decide_true, decide_false, decide_eq_true_eq]
/-! ### the law's own search for the exponent -/
section
variable {n b d U : Nat} {t e : Int} (hn : n ≤ 1500) (g : Good n b d t U e) (P : D) (M : MS)
include hn g
theorem s0c (k : Nat) (hk : k ≤ e.toNat) : c0__law_sides [some (SV.t (I b)), some (SV.t (I d)), some (SV.t (P)), some (SV.t (I t.natAbs)), some (SV.t (I (U * b ^ k))), some (SV.t (.int (k : Int))), some (SV.t (I (b ^ d)))] M = some (.ok (.bl (decide ((k : Int) < e))) [some (SV.t (I b)), some (SV.t (I d)), some (SV.t (P)), some (SV.t (I t.natAbs)), some (SV.t (I (U * b ^ k))), some (SV.t (.int (k : Int))), some (SV.t (I (b ^ d)))] M) := by
  have hle : U * b ^ k < 2 ^ 1500 := Nat.lt_of_le_of_lt (Nat.mul_le_mul_left U (Nat.pow_le_pow_right (by have := g.h1; omega) hk)) (p2lt g.uup hn)
  have m1 : mulOk ((b ^ d : Nat) : Int) ((U * b ^ k : Nat) : Int) := mulOk_of (nat_lt (b60 g.hb g.d2)) (nat_lt hle)
  unfold c0__law_sides
  simp only [mulI_ok m1, ← Int.natCast_mul, Int.ofNat_le, DL.dFn, DL.dFi, DL.sSeq, DL.sSet, DL.sIf, DL.sRet, DL.sRetN, DL.sDrop, DL.sBind, DL.sAsg, DL.sPar, DL.sPar3, DL.sNext, DL.dC, DL.dVar, DL.dPeek, DL.dBind, DL.dOut, DL.dUn, DL.dBin, DL.dTru, DL.dNot, DL.dAndT, DL.dOrT, DL.dAndV, DL.dOrV, DL.dIfE, DL.aNil, DL.aCons, DL.aBind, DL.fits, DL.dApp, DL.dRet, DL.dTup, DL.dLst, DL.truD, DL.bName, DL.bTup, DL.bCons, DL.bNil, DL.pick_eq, DL.Src.get, List.filterMap_cons, List.filterMap_nil, List.getElem?_cons_zero, List.getElem?_cons_succ, List.length_cons, List.length_nil, List.set_cons_zero, List.set_cons_succ, List.map_cons, List.map_nil, List.cons_append, List.nil_append, List.append_nil, List.append_assoc, List.reduceReplicate, Nat.reduceAdd, Nat.reduceSub, Nat.reduceLeDiff, Nat.reduceEqDiff, ↓reduceIte, DL.subD, DL.mulD, DL.divD, DL.modD, DL.powD, DL.ltD, DL.leD, DL.gtD, DL.geD, DL.II, DL.subI, DL.cmpI, DL.negD, DL.addD_int, DL.ix_t0, DL.ix_t1, DL.ix_t2, DL.eqA_int, DL.eqA_pair, DL.intD_int, DL.intA_int, DL.intA_bl, DL.absD, DL.le1, DL.le2, DL.le3, DL.le4, DL.le5, DL.le8, DL.le9, Nat.zero_le, Bool.not_true, Bool.not_false, Bool.false_eq_true, DL.eqA_bl, eq_self, Int.reduceEq, Int.reduceLT, Int.reduceNeg, Bool.false_xor, Bool.true_xor, decide_true, decide_false, decide_eq_true_eq]
  refine congrArg (fun z => some (EO.ok (D.bl z) _ M)) (decide_eq_decide.mpr ?_)
  have q := (und_iff (T := t.natAbs) (U := U) g.h1 (k : Int) d).symm.trans (und_ex g.h1 g.hx)
  rw [(up_nat k).1, (up_nat k).2, Nat.mul_one] at q
  omega
theorem s0 : ∀ (j k : Nat), e.toNat = k + j → sWhile c0__law_sides b0__law_sides [some (SV.t (I b)), some (SV.t (I d)), some (SV.t (P)), some (SV.t (I t.natAbs)), some (SV.t (I (U * b ^ k))), some (SV.t (.int (k : Int))), some (SV.t (I (b ^ d)))] M = some (.nx [some (SV.t (I b)), some (SV.t (I d)), some (SV.t (P)), some (SV.t (I t.natAbs)), some (SV.t (I (U * up b e))), some (SV.t (.int (e.toNat : Int))), some (SV.t (I (b ^ d)))] M) := by
  intro j
  induction j with
  | zero =>
    intro k hk
    have : k = e.toNat := by omega
    subst this
    refine while_f ?_
    rw [s0c hn g P M e.toNat (Nat.le_refl _), decide_eq_false (by omega)]
    rfl
  | succ j ih =>
    intro k hk
    refine while_t (ρ1 := [some (SV.t (I b)), some (SV.t (I d)), some (SV.t (P)), some (SV.t (I t.natAbs)), some (SV.t (I (U * b ^ k))), some (SV.t (.int (k : Int))), some (SV.t (I (b ^ d)))]) (M1 := M) ?_ ?_ (ih (k + 1) (by omega))
    · rw [s0c hn g P M k (by omega), decide_eq_true (by omega)]
    · have hb := g.hb
      unfold b0__law_sides
      simp only [mulI_ok (mul_b (x := ((U * b ^ k : Nat) : Int)) (b := b) (by omega)), ← Int.natCast_mul, Nat.pow_succ, Nat.mul_assoc, DL.dFn, DL.dFi, DL.sSeq, DL.sSet, DL.sIf, DL.sRet, DL.sRetN, DL.sDrop, DL.sBind, DL.sAsg, DL.sPar, DL.sPar3, DL.sNext, DL.dC, DL.dVar, DL.dPeek, DL.dBind, DL.dOut, DL.dUn, DL.dBin, DL.dTru, DL.dNot, DL.dAndT, DL.dOrT, DL.dAndV, DL.dOrV, DL.dIfE, DL.aNil, DL.aCons, DL.aBind, DL.fits, DL.dApp, DL.dRet, DL.dTup, DL.dLst, DL.truD, DL.bName, DL.bTup, DL.bCons, DL.bNil, DL.pick_eq, DL.Src.get, List.filterMap_cons, List.filterMap_nil, List.getElem?_cons_zero, List.getElem?_cons_succ, List.length_cons, List.length_nil, List.set_cons_zero, List.set_cons_succ, List.map_cons, List.map_nil, List.cons_append, List.nil_append, List.append_nil, List.append_assoc, List.reduceReplicate, Nat.reduceAdd, Nat.reduceSub, Nat.reduceLeDiff, Nat.reduceEqDiff, ↓reduceIte, DL.subD, DL.mulD, DL.divD, DL.modD, DL.powD, DL.ltD, DL.leD, DL.gtD, DL.geD, DL.II, DL.subI, DL.cmpI, DL.negD, DL.addD_int, DL.ix_t0, DL.ix_t1, DL.ix_t2, DL.eqA_int, DL.eqA_pair, DL.intD_int, DL.intA_int, DL.intA_bl, DL.absD, DL.le1, DL.le2, DL.le3, DL.le4, DL.le5, DL.le8, DL.le9, Nat.zero_le, Bool.not_true, Bool.not_false, Bool.false_eq_true, DL.eqA_bl, eq_self, Int.reduceEq, Int.reduceLT, Int.reduceNeg, Bool.false_xor, Bool.true_xor, decide_true, decide_false, decide_eq_true_eq]
      rfl
theorem s1c (j : Nat) (he : e ≤ 0) : c1__law_sides [some (SV.t (I b)), some (SV.t (I d)), some (SV.t (P)), some (SV.t (I (t.natAbs * b ^ j))), some (SV.t (I (U * up b e))), some (SV.t (.int (-(j : Int)))), some (SV.t (I (b ^ d)))] M = some (.ok (.bl (decide ((j : Int) < -e))) [some (SV.t (I b)), some (SV.t (I d)), some (SV.t (P)), some (SV.t (I (t.natAbs * b ^ j))), some (SV.t (I (U * up b e))), some (SV.t (.int (-(j : Int)))), some (SV.t (I (b ^ d)))] M) := by
  have hb := g.hb
  have m1 : mulOk ((b ^ d : Nat) : Int) ((U * up b e : Nat) : Int) := mulOk_of (nat_lt (b60 g.hb g.d2)) (nat_lt (p2lt g.uup hn))
  unfold c1__law_sides
  simp only [mulI_ok m1, mulI_ok (mul_b (x := ((t.natAbs * b ^ j : Nat) : Int)) (b := b) (by omega)), ← Int.natCast_mul, Int.ofNat_lt, DL.dFn, DL.dFi, DL.sSeq, DL.sSet, DL.sIf, DL.sRet, DL.sRetN, DL.sDrop, DL.sBind, DL.sAsg, DL.sPar, DL.sPar3, DL.sNext, DL.dC, DL.dVar, DL.dPeek, DL.dBind, DL.dOut, DL.dUn, DL.dBin, DL.dTru, DL.dNot, DL.dAndT, DL.dOrT, DL.dAndV, DL.dOrV, DL.dIfE, DL.aNil, DL.aCons, DL.aBind, DL.fits, DL.dApp, DL.dRet, DL.dTup, DL.dLst, DL.truD, DL.bName, DL.bTup, DL.bCons, DL.bNil, DL.pick_eq, DL.Src.get, List.filterMap_cons, List.filterMap_nil, List.getElem?_cons_zero, List.getElem?_cons_succ, List.length_cons, List.length_nil, List.set_cons_zero, List.set_cons_succ, List.map_cons, List.map_nil, List.cons_append, List.nil_append, List.append_nil, List.append_assoc, List.reduceReplicate, Nat.reduceAdd, Nat.reduceSub, Nat.reduceLeDiff, Nat.reduceEqDiff, ↓reduceIte, DL.subD, DL.mulD, DL.divD, DL.modD, DL.powD, DL.ltD, DL.leD, DL.gtD, DL.geD, DL.II, DL.subI, DL.cmpI, DL.negD, DL.addD_int, DL.ix_t0, DL.ix_t1, DL.ix_t2, DL.eqA_int, DL.eqA_pair, DL.intD_int, DL.intA_int, DL.intA_bl, DL.absD, DL.le1, DL.le2, DL.le3, DL.le4, DL.le5, DL.le8, DL.le9, Nat.zero_le, Bool.not_true, Bool.not_false, Bool.false_eq_true, DL.eqA_bl, eq_self, Int.reduceEq, Int.reduceLT, Int.reduceNeg, Bool.false_xor, Bool.true_xor, decide_true, decide_false, decide_eq_true_eq]
  refine congrArg (fun z => some (EO.ok (D.bl z) _ M)) (decide_eq_decide.mpr ?_)
  have q := (und_iff (T := t.natAbs) (U := U) g.h1 (-((j + 1 : Nat) : Int)) d).symm.trans (und_ex g.h1 g.hx)
  rw [(dn_nat (j + 1)).1, (dn_nat (j + 1)).2, Nat.mul_one, Nat.pow_succ, ← Nat.mul_assoc] at q
  rw [up1 he, Nat.mul_one, q]
  omega
theorem s1 (he : e ≤ 0) : ∀ (i j : Nat), (-e).toNat = j + i → sWhile c1__law_sides b1__law_sides [some (SV.t (I b)), some (SV.t (I d)), some (SV.t (P)), some (SV.t (I (t.natAbs * b ^ j))), some (SV.t (I (U * up b e))), some (SV.t (.int (-(j : Int)))), some (SV.t (I (b ^ d)))] M = some (.nx [some (SV.t (I b)), some (SV.t (I d)), some (SV.t (P)), some (SV.t (I (t.natAbs * dn b e))), some (SV.t (I (U * up b e))), some (SV.t (.int e)), some (SV.t (I (b ^ d)))] M) := by
  intro i
  induction i with
  | zero =>
    intro j hj
    have hj : j = (-e).toNat := by omega
    subst hj
    have e3 : -(((-e).toNat : Nat) : Int) = e := by omega
    refine while_f ?_
    rw [s1c hn g P M _ he, decide_eq_false (by omega), e3]
    rfl
  | succ i ih =>
    intro j hj
    refine while_t (ρ1 := [some (SV.t (I b)), some (SV.t (I d)), some (SV.t (P)), some (SV.t (I (t.natAbs * b ^ j))), some (SV.t (I (U * up b e))), some (SV.t (.int (-(j : Int)))), some (SV.t (I (b ^ d)))]) (M1 := M) ?_ ?_ (ih (j + 1) (by omega))
    · rw [s1c hn g P M j he, decide_eq_true (by omega)]
    · have hb := g.hb
      have e4 : -(j : Int) - 1 = -((j + 1 : Nat) : Int) := by omega
      unfold b1__law_sides
      simp only [mulI_ok (mul_b (x := ((t.natAbs * b ^ j : Nat) : Int)) (b := b) (by omega)), ← Int.natCast_mul, Nat.pow_succ, Nat.mul_assoc, e4, DL.dFn, DL.dFi, DL.sSeq, DL.sSet, DL.sIf, DL.sRet, DL.sRetN, DL.sDrop, DL.sBind, DL.sAsg, DL.sPar, DL.sPar3, DL.sNext, DL.dC, DL.dVar, DL.dPeek, DL.dBind, DL.dOut, DL.dUn, DL.dBin, DL.dTru, DL.dNot, DL.dAndT, DL.dOrT, DL.dAndV, DL.dOrV, DL.dIfE, DL.aNil, DL.aCons, DL.aBind, DL.fits, DL.dApp, DL.dRet, DL.dTup, DL.dLst, DL.truD, DL.bName, DL.bTup, DL.bCons, DL.bNil, DL.pick_eq, DL.Src.get, List.filterMap_cons, List.filterMap_nil, List.getElem?_cons_zero, List.getElem?_cons_succ, List.length_cons, List.length_nil, List.set_cons_zero, List.set_cons_succ, List.map_cons, List.map_nil, List.cons_append, List.nil_append, List.append_nil, List.append_assoc, List.reduceReplicate, Nat.reduceAdd, Nat.reduceSub, Nat.reduceLeDiff, Nat.reduceEqDiff, ↓reduceIte, DL.subD, DL.mulD, DL.divD, DL.modD, DL.powD, DL.ltD, DL.leD, DL.gtD, DL.geD, DL.II, DL.subI, DL.cmpI, DL.negD, DL.addD_int, DL.ix_t0, DL.ix_t1, DL.ix_t2, DL.eqA_int, DL.eqA_pair, DL.intD_int, DL.intA_int, DL.intA_bl, DL.absD, DL.le1, DL.le2, DL.le3, DL.le4, DL.le5, DL.le8, DL.le9, Nat.zero_le, Bool.not_true, Bool.not_false, Bool.false_eq_true, DL.eqA_bl, eq_self, Int.reduceEq, Int.reduceLT, Int.reduceNeg, Bool.false_xor, Bool.true_xor, decide_true, decide_false, decide_eq_true_eq]
theorem s1n (he : 0 ≤ e) : sWhile c1__law_sides b1__law_sides [some (SV.t (I b)), some (SV.t (I d)), some (SV.t (P)), some (SV.t (I t.natAbs)), some (SV.t (I (U * up b e))), some (SV.t (.int e)), some (SV.t (I (b ^ d)))] M = some (.nx [some (SV.t (I b)), some (SV.t (I d)), some (SV.t (P)), some (SV.t (I t.natAbs)), some (SV.t (I (U * up b e))), some (SV.t (.int e)), some (SV.t (I (b ^ d)))] M) := by
  have hb := g.hb
  have m1 : mulOk ((b ^ d : Nat) : Int) ((U * up b e : Nat) : Int) := mulOk_of (nat_lt (b60 g.hb g.d2)) (nat_lt (p2lt g.uup hn))
  refine while_f ?_
  unfold c1__law_sides
  have q := (ex_bounds g.h1 g.d1 g.hx).2
  rw [dn1 he, Nat.mul_one] at q
  have q2 : b ^ d * (U * up b e) ≤ t.natAbs * b := by
    have e5 : b ^ d = b ^ (d - 1) * b := by rw [← Nat.pow_succ]; congr 1; have := g.d1; omega
    rw [e5, Nat.mul_assoc, Nat.mul_comm b, ← Nat.mul_assoc]
    exact Nat.mul_le_mul_right b q
  simp only [mulI_ok m1, mulI_ok (mul_b (x := ((t.natAbs : Nat) : Int)) (b := b) (by omega)), ← Int.natCast_mul, Int.ofNat_lt, decide_eq_false (show ¬ (t.natAbs * b < b ^ d * (U * up b e)) by omega), DL.dFn, DL.dFi, DL.sSeq, DL.sSet, DL.sIf, DL.sRet, DL.sRetN, DL.sDrop, DL.sBind, DL.sAsg, DL.sPar, DL.sPar3, DL.sNext, DL.dC, DL.dVar, DL.dPeek, DL.dBind, DL.dOut, DL.dUn, DL.dBin, DL.dTru, DL.dNot, DL.dAndT, DL.dOrT, DL.dAndV, DL.dOrV, DL.dIfE, DL.aNil, DL.aCons, DL.aBind, DL.fits, DL.dApp, DL.dRet, DL.dTup, DL.dLst, DL.truD, DL.bName, DL.bTup, DL.bCons, DL.bNil, DL.pick_eq, DL.Src.get, List.filterMap_cons, List.filterMap_nil, List.getElem?_cons_zero, List.getElem?_cons_succ, List.length_cons, List.length_nil, List.set_cons_zero, List.set_cons_succ, List.map_cons, List.map_nil, List.cons_append, List.nil_append, List.append_nil, List.append_assoc, List.reduceReplicate, Nat.reduceAdd, Nat.reduceSub, Nat.reduceLeDiff, Nat.reduceEqDiff, ↓reduceIte, DL.subD, DL.mulD, DL.divD, DL.modD, DL.powD, DL.ltD, DL.leD, DL.gtD, DL.geD, DL.II, DL.subI, DL.cmpI, DL.negD, DL.addD_int, DL.ix_t0, DL.ix_t1, DL.ix_t2, DL.eqA_int, DL.eqA_pair, DL.intD_int, DL.intA_int, DL.intA_bl, DL.absD, DL.le1, DL.le2, DL.le3, DL.le4, DL.le5, DL.le8, DL.le9, Nat.zero_le, Bool.not_true, Bool.not_false, Bool.false_eq_true, DL.eqA_bl, eq_self, Int.reduceEq, Int.reduceLT, Int.reduceNeg, Bool.false_xor, Bool.true_xor, decide_true, decide_false, decide_eq_true_eq]
theorem r_law_sides : φ__law_sides [I b, I d, .tup [.int t, I U]] M = some (.ret (.tup [.int e, I (whole b t.natAbs U e), .bl (inside b t.natAbs U e)]) M) := by
  have hb := g.hb
  have hd2 := g.d2
  have p : 0 < U * up b e := Nat.mul_pos g.u0 (up_pos g.h1 e)
  have dk : divOk ((U * up b e : Nat) : Int) := divOk_of (n := 1500) (by omega) (nat_lt (p2lt g.uup hn))
  have hne : ((U * up b e : Nat) : Int) ≠ 0 := by omega
  have q1 : Int.fdiv ((t.natAbs * dn b e : Nat) : Int) ((U * up b e : Nat) : Int) = ((t.natAbs * dn b e / (U * up b e) : Nat) : Int) := by rw [Int.fdiv_eq_ediv_of_nonneg _ (by omega)]; rfl
  have q2 : Int.fmod ((t.natAbs * dn b e : Nat) : Int) ((U * up b e : Nat) : Int) = ((t.natAbs * dn b e % (U * up b e) : Nat) : Int) := by rw [Int.fmod_eq_emod_of_nonneg _ (by omega)]; rfl
  have w0 := s0 hn g (.tup [.int t, I U]) M e.toNat 0 (by omega)
  rw [Nat.pow_zero, Nat.mul_one] at w0
  have rd : ∀ M, φ__law_raised [I b, I d] M = some (.ret (.tup [I (b ^ d), I 1]) M) := fun M => by
    have q := r_law_raised b (d : Int) (by omega) (by omega) M
    rw [(up_nat d).1, (up_nat d).2] at q
    exact q
  have fin : sWhile c1__law_sides b1__law_sides [some (SV.t (I b)), some (SV.t (I d)), some (SV.t (.tup [.int t, I U])), some (SV.t (I t.natAbs)), some (SV.t (I (U * up b e))), some (SV.t (.int (e.toNat : Int))), some (SV.t (I (b ^ d)))] M = some (.nx [some (SV.t (I b)), some (SV.t (I d)), some (SV.t (.tup [.int t, I U])), some (SV.t (I (t.natAbs * dn b e))), some (SV.t (I (U * up b e))), some (SV.t (.int e)), some (SV.t (I (b ^ d)))] M) := by
    by_cases he : 0 ≤ e
    · rw [dn1 he, Nat.mul_one, show ((e.toNat : Nat) : Int) = e by omega]
      exact s1n hn g _ M he
    · have w1 := s1 hn g (.tup [.int t, I U]) M (by omega) (-e).toNat 0 (by omega)
      rw [Nat.pow_zero, Nat.mul_one] at w1
      rw [show ((e.toNat : Nat) : Int) = -((0 : Nat) : Int) by omega]
      exact w1
  have hin : decide (((t.natAbs * dn b e % (U * up b e) : Nat) : Int) = 0) = inside b t.natAbs U e := by
    unfold inside
    by_cases hr : t.natAbs * dn b e % (U * up b e) = 0
    · rw [hr]; rfl
    · rw [beq_eq_false_iff_ne.mpr hr]
      exact decide_eq_false (by omega)
  unfold φ__law_sides m__law_sides
  refine dFn_rt rfl ?_
  show sSeq _ _ [some (SV.t (I b)), some (SV.t (I d)), some (SV.t (.tup [.int t, I U])), none, none, none, none] M = _
  refine Eq.trans (DL.seq_nx (ρ1 := [some (SV.t (I b)), some (SV.t (I d)), some (SV.t (.tup [.int t, I U])), some (SV.t (I t.natAbs)), some (SV.t (I U)), some (SV.t (.int 0)), none]) (M1 := M) ?_) ?_
  · simp only [abs_nat, DL.dFn, DL.dFi, DL.sSeq, DL.sSet, DL.sIf, DL.sRet, DL.sRetN, DL.sDrop, DL.sBind, DL.sAsg, DL.sPar, DL.sPar3, DL.sNext, DL.dC, DL.dVar, DL.dPeek, DL.dBind, DL.dOut, DL.dUn, DL.dBin, DL.dTru, DL.dNot, DL.dAndT, DL.dOrT, DL.dAndV, DL.dOrV, DL.dIfE, DL.aNil, DL.aCons, DL.aBind, DL.fits, DL.dApp, DL.dRet, DL.dTup, DL.dLst, DL.truD, DL.bName, DL.bTup, DL.bCons, DL.bNil, DL.pick_eq, DL.Src.get, List.filterMap_cons, List.filterMap_nil, List.getElem?_cons_zero, List.getElem?_cons_succ, List.length_cons, List.length_nil, List.set_cons_zero, List.set_cons_succ, List.map_cons, List.map_nil, List.cons_append, List.nil_append, List.append_nil, List.append_assoc, List.reduceReplicate, Nat.reduceAdd, Nat.reduceSub, Nat.reduceLeDiff, Nat.reduceEqDiff, ↓reduceIte, DL.subD, DL.mulD, DL.divD, DL.modD, DL.powD, DL.ltD, DL.leD, DL.gtD, DL.geD, DL.II, DL.subI, DL.cmpI, DL.negD, DL.addD_int, DL.ix_t0, DL.ix_t1, DL.ix_t2, DL.eqA_int, DL.eqA_pair, DL.intD_int, DL.intA_int, DL.intA_bl, DL.absD, DL.le1, DL.le2, DL.le3, DL.le4, DL.le5, DL.le8, DL.le9, Nat.zero_le, Bool.not_true, Bool.not_false, Bool.false_eq_true, DL.eqA_bl, eq_self, Int.reduceEq, Int.reduceLT, Int.reduceNeg, Bool.false_xor, Bool.true_xor, decide_true, decide_false, decide_eq_true_eq]
  refine Eq.trans (DL.seq_nx (ρ1 := [some (SV.t (I b)), some (SV.t (I d)), some (SV.t (.tup [.int t, I U])), some (SV.t (I t.natAbs)), some (SV.t (I U)), some (SV.t (.int 0)), some (SV.t (I (b ^ d)))]) (M1 := M) ?_) ?_
  · refine set_p (d := I (b ^ d)) (ρ1 := [some (SV.t (I b)), some (SV.t (I d)), some (SV.t (.tup [.int t, I U])), some (SV.t (I t.natAbs)), some (SV.t (I U)), some (SV.t (.int 0)), none]) (M1 := M) ?_
    refine bin_p (x := .tup [I (b ^ d), I 1]) (y := .int 0) (ρ1 := [some (SV.t (I b)), some (SV.t (I d)), some (SV.t (.tup [.int t, I U])), some (SV.t (I t.natAbs)), some (SV.t (I U)), some (SV.t (.int 0)), none]) (M1 := M) (ρ2 := [some (SV.t (I b)), some (SV.t (I d)), some (SV.t (.tup [.int t, I U])), some (SV.t (I t.natAbs)), some (SV.t (I U)), some (SV.t (.int 0)), none]) (M2 := M) ?_ rfl (ix_t0 _ _)
    refine call_p (vs := [I b, I d]) (ws := [I b, I d]) (ρ1 := [some (SV.t (I b)), some (SV.t (I d)), some (SV.t (.tup [.int t, I U])), some (SV.t (I t.natAbs)), some (SV.t (I U)), some (SV.t (.int 0)), none]) (M1 := M) ?_ rfl rfl rfl (rd M)
    simp only [DL.dFn, DL.dFi, DL.sSeq, DL.sSet, DL.sIf, DL.sRet, DL.sRetN, DL.sDrop, DL.sBind, DL.sAsg, DL.sPar, DL.sPar3, DL.sNext, DL.dC, DL.dVar, DL.dPeek, DL.dBind, DL.dOut, DL.dUn, DL.dBin, DL.dTru, DL.dNot, DL.dAndT, DL.dOrT, DL.dAndV, DL.dOrV, DL.dIfE, DL.aNil, DL.aCons, DL.aBind, DL.fits, DL.dApp, DL.dRet, DL.dTup, DL.dLst, DL.truD, DL.bName, DL.bTup, DL.bCons, DL.bNil, DL.pick_eq, DL.Src.get, List.filterMap_cons, List.filterMap_nil, List.getElem?_cons_zero, List.getElem?_cons_succ, List.length_cons, List.length_nil, List.set_cons_zero, List.set_cons_succ, List.map_cons, List.map_nil, List.cons_append, List.nil_append, List.append_nil, List.append_assoc, List.reduceReplicate, Nat.reduceAdd, Nat.reduceSub, Nat.reduceLeDiff, Nat.reduceEqDiff, ↓reduceIte, DL.subD, DL.mulD, DL.divD, DL.modD, DL.powD, DL.ltD, DL.leD, DL.gtD, DL.geD, DL.II, DL.subI, DL.cmpI, DL.negD, DL.addD_int, DL.ix_t0, DL.ix_t1, DL.ix_t2, DL.eqA_int, DL.eqA_pair, DL.intD_int, DL.intA_int, DL.intA_bl, DL.absD, DL.le1, DL.le2, DL.le3, DL.le4, DL.le5, DL.le8, DL.le9, Nat.zero_le, Bool.not_true, Bool.not_false, Bool.false_eq_true, DL.eqA_bl, eq_self, Int.reduceEq, Int.reduceLT, Int.reduceNeg, Bool.false_xor, Bool.true_xor, decide_true, decide_false, decide_eq_true_eq]
  refine Eq.trans (DL.seq_nx (ρ1 := [some (SV.t (I b)), some (SV.t (I d)), some (SV.t (.tup [.int t, I U])), some (SV.t (I t.natAbs)), some (SV.t (I (U * up b e))), some (SV.t (.int (e.toNat : Int))), some (SV.t (I (b ^ d)))]) (M1 := M) ?_) ?_
  · exact w0
  refine Eq.trans (DL.seq_nx (ρ1 := [some (SV.t (I b)), some (SV.t (I d)), some (SV.t (.tup [.int t, I U])), some (SV.t (I (t.natAbs * dn b e))), some (SV.t (I (U * up b e))), some (SV.t (.int e)), some (SV.t (I (b ^ d)))]) (M1 := M) ?_) ?_
  · exact fin
  simp only [divI_ok dk, modI_ok hne, q1, q2, hin, DL.dFn, DL.dFi, DL.sSeq, DL.sSet, DL.sIf, DL.sRet, DL.sRetN, DL.sDrop, DL.sBind, DL.sAsg, DL.sPar, DL.sPar3, DL.sNext, DL.dC, DL.dVar, DL.dPeek, DL.dBind, DL.dOut, DL.dUn, DL.dBin, DL.dTru, DL.dNot, DL.dAndT, DL.dOrT, DL.dAndV, DL.dOrV, DL.dIfE, DL.aNil, DL.aCons, DL.aBind, DL.fits, DL.dApp, DL.dRet, DL.dTup, DL.dLst, DL.truD, DL.bName, DL.bTup, DL.bCons, DL.bNil, DL.pick_eq, DL.Src.get, List.filterMap_cons, List.filterMap_nil, List.getElem?_cons_zero, List.getElem?_cons_succ, List.length_cons, List.length_nil, List.set_cons_zero, List.set_cons_succ, List.map_cons, List.map_nil, List.cons_append, List.nil_append, List.append_nil, List.append_assoc, List.reduceReplicate, Nat.reduceAdd, Nat.reduceSub, Nat.reduceLeDiff, Nat.reduceEqDiff, ↓reduceIte, DL.subD, DL.mulD, DL.divD, DL.modD, DL.powD, DL.ltD, DL.leD, DL.gtD, DL.geD, DL.II, DL.subI, DL.cmpI, DL.negD, DL.addD_int, DL.ix_t0, DL.ix_t1, DL.ix_t2, DL.eqA_int, DL.eqA_pair, DL.intD_int, DL.intA_int, DL.intA_bl, DL.absD, DL.le1, DL.le2, DL.le3, DL.le4, DL.le5, DL.le8, DL.le9, Nat.zero_le, Bool.not_true, Bool.not_false, Bool.false_eq_true, DL.eqA_bl, eq_self, Int.reduceEq, Int.reduceLT, Int.reduceNeg, Bool.false_xor, Bool.true_xor, decide_true, decide_false, decide_eq_true_eq]
  rfl
end
end L07
set_option maxHeartbeats 2000000
set_option exponentiation.threshold 4000
namespace L07
open PySem PySem.Spec PyProof.Rows L2 DL PA
/-! ### the pen -/
def penO (cs : List Int) (at_ rest : Int) : MO := .lst [.lst (cs.map D.int), .int at_, .int rest]
structure PenOk (n : Nat) (M : MS) : Prop where
  ex : ∃ cs a r, M = [penO cs a r] ∧ cs.length ≤ 63 ∧ 0 ≤ a ∧ a ≤ (n : Int) ∧ 0 ≤ r
theorem PenOk.mono {n m : Nat} {M : MS} (h : PenOk n M) (k : n ≤ m) : PenOk m M :=
  let ⟨cs, a, r, e, l, h1, h2, h3⟩ := h.ex
  ⟨cs, a, r, e, l, h1, by omega, h3⟩
theorem at30 {x y z : D} : L2.atI [x, y, z] 0 = some x := rfl
theorem at31 {x y z : D} : L2.atI [x, y, z] 1 = some y := rfl
theorem at32 {x y z : D} : L2.atI [x, y, z] 2 = some z := rfl
theorem ix31 : ixN 3 1 = some 1 := rfl
theorem ix32 : ixN 3 2 = some 2 := rfl
theorem toPys_ints : ∀ cs : List Int, toPys (cs.map D.int) = some (cs.map PyData.int)
  | [] => rfl
  | c :: cs => by
    show (toPy (D.int c)).bind _ = _
    show (some (PyData.int c)).bind (fun p => (toPys (cs.map D.int)).map fun ps => p :: ps) = _
    rw [toPys_ints cs]
    rfl
theorem can_ints : ∀ cs : List Int, PyData.canLayAll0 (cs.map PyData.int) = true
  | [] => rfl
  | c :: cs => by
    show (PyData.canLay0 (PyData.int c) && PyData.canLayAll0 (cs.map PyData.int)) = true
    rw [can_ints cs]; rfl
theorem dep_ints : ∀ cs : List Int, PyData.depthAll (cs.map PyData.int) = 0
  | [] => rfl
  | c :: cs => by
    show max (PyData.depth (PyData.int c)) (PyData.depthAll (cs.map PyData.int)) = 0
    rw [dep_ints cs]; rfl
theorem eq_nil (cs : List Int) : eqA true (.lst (cs.map D.int)) (.lst []) = some (.bl (!cs.isEmpty)) := by
  have e : toPy (.lst (cs.map D.int)) = some (.list (cs.map PyData.int)) := by
    show (toPys (cs.map D.int)).map PyData.list = _
    rw [toPys_ints]; rfl
  have s1 : SeqAt.shaped (.list (cs.map PyData.int)) = true := by
    show (PyData.canLayAll0 (cs.map PyData.int) && decide (PyData.depthAll (cs.map PyData.int) + 1 ≤ 64)) = true
    rw [can_ints, dep_ints]; rfl
  rw [eqA_lst, eqD_of e (show toPy (.lst []) = some (.list []) from rfl) s1 rfl rfl]
  cases cs with
  | nil => rfl
  | cons c cs => rfl
theorem eq_nil0 : eqA true (.lst []) (.lst []) = some (.bl false) := eq_nil []
theorem ix_ints {cs : List Int} {n : Nat} {c : Int} (h : cs[n]? = some c) : ixD (.lst (cs.map D.int)) (.int (n : Int)) = some (.int c) := by
  rw [ix_lnat, List.getElem?_map, h]; rfl
theorem fmod_rng (x : Int) {m : Int} (h : 0 < m) : 0 ≤ Int.fmod x m ∧ Int.fmod x m < m := ⟨Int.fmod_nonneg_of_pos x h, Int.fmod_lt_of_pos x h⟩
theorem fdiv_nn {x m : Int} (h : 0 < m) (hx : 0 ≤ x) : 0 ≤ Int.fdiv x m := by
  rw [Int.fdiv_eq_ediv_of_nonneg _ (by omega)]
  exact Int.ediv_nonneg hx (by omega)
/-- a draw -/
theorem r_draw (n : Nat) (hn : n ≤ 10000) (M : MS) (hM : PenOk n M) (many : Int) (h0 : 0 < many) (hs : many.natAbs < 2 ^ 8000) : ∃ r M', φ__law_draw [.obj 0, .int many] M = some (.ret (.int r) M') ∧ 0 ≤ r ∧ r < many ∧ PenOk (n + 1) M' := by
  obtain ⟨cs, a, r, rfl, hl, h1, h2, h3⟩ := hM.ex
  have dk : divOk many := divOk_of (n := 8000) (by omega) hs
  have hne : many ≠ 0 := by omega
  by_cases hr : 0 < r
  · refine ⟨Int.fmod r many, [penO cs a (Int.fdiv r many)], ?_, (fmod_rng r h0).1, (fmod_rng r h0).2, ⟨cs, a, _, rfl, hl, h1, by omega, fdiv_nn h0 h3⟩⟩
    unfold φ__law_draw m__law_draw penO
    simp only [dObjIx, sObjSet, at32, ix32, decide_eq_true hr, divI_ok dk, modI_ok hne, DL.dFn, DL.dFi, DL.sSeq, DL.sSet, DL.sIf, DL.sRet, DL.sRetN, DL.sDrop, DL.sBind, DL.sAsg, DL.sPar, DL.sPar3, DL.sNext, DL.dC, DL.dVar, DL.dPeek, DL.dBind, DL.dOut, DL.dUn, DL.dBin, DL.dTru, DL.dNot, DL.dAndT, DL.dOrT, DL.dAndV, DL.dOrV, DL.dIfE, DL.aNil, DL.aCons, DL.aBind, DL.fits, DL.dApp, DL.dRet, DL.dTup, DL.dLst, DL.truD, DL.bName, DL.bTup, DL.bCons, DL.bNil, DL.pick_eq, DL.Src.get, List.filterMap_cons, List.filterMap_nil, List.getElem?_cons_zero, List.getElem?_cons_succ, List.length_cons, List.length_nil, List.set_cons_zero, List.set_cons_succ, List.map_cons, List.map_nil, List.cons_append, List.nil_append, List.append_nil, List.append_assoc, List.reduceReplicate, Nat.reduceAdd, Nat.reduceSub, Nat.reduceLeDiff, Nat.reduceEqDiff, ↓reduceIte, DL.subD, DL.mulD, DL.divD, DL.modD, DL.powD, DL.ltD, DL.leD, DL.gtD, DL.geD, DL.II, DL.subI, DL.cmpI, DL.negD, DL.addD_int, DL.ix_t0, DL.ix_t1, DL.ix_t2, DL.eqA_int, DL.eqA_pair, DL.intD_int, DL.intA_int, DL.intA_bl, DL.absD, DL.le1, DL.le2, DL.le3, DL.le4, DL.le5, DL.le8, DL.le9, Nat.zero_le, Bool.not_true, Bool.not_false, Bool.false_eq_true, DL.eqA_bl, eq_self, Int.reduceEq, Int.reduceLT, Int.reduceNeg, Bool.false_xor, Bool.true_xor, decide_true, decide_false, decide_eq_true_eq]
  · have hr0 : r = 0 := by omega
    subst hr0
    -- the cell
    have m1 : mulOk 91121 a := .inl (by decide)
    obtain ⟨cell, hc⟩ : ∃ cell : Int, cell = (if cs.isEmpty = true then 91121 * a + 1051 else (cs[(a.toNat % cs.length)]?).getD 0) := ⟨_, rfl⟩
    have p18 : powOk 10 18 := ⟨by decide, by decide, by decide⟩
    have m2 : ∀ x : Int, mulOk 2 x := fun x => .inl (by decide)
    have key : ∀ X : Int, (∀ M' : MS, M' = [penO cs (a + 1) 0] → True) → True := fun _ _ => trivial
    have hmix : ∀ x : Int, 0 ≤ Int.fmod x 2147483549 ∧ Int.fmod x 2147483549 < 2147483549 := fun x => fmod_rng x (by decide)
    have pw5 : powOk (Int.fmod cell 2147483549 + 91121 * a + 1051) 5 := ⟨by decide, by decide, by
      have := hmix cell
      have : (Int.fmod cell 2147483549 + 91121 * a + 1051).natAbs < 10000000000 := by omega
      exact Nat.lt_trans this (by decide)⟩
    obtain ⟨mx, hmx⟩ : ∃ mx : Int, mx = Int.fmod ((Int.fmod cell 2147483549 + 91121 * a + 1051) ^ (5 : Int).toNat) 2147483587 := ⟨_, rfl⟩
    have hmx2 : 0 ≤ mx ∧ mx < 2147483587 := by rw [hmx]; exact fmod_rng _ (by decide)
    have m3 : mulOk mx (2 * a + 277) := .inl (by
      have : mx.natAbs < 2147483587 := by omega
      exact Nat.lt_trans this (by decide))
    have m4 : mulOk 70067 a := .inl (by decide)
    have m5 : mulOk (70067 * a) a := .inr (.inl (by
      have : a.natAbs < 10001 := by omega
      exact Nat.lt_trans this (by decide)))
    have q1 : mx * (2 * a + 277) ≤ 2147483587 * 20277 := by
      calc mx * (2 * a + 277) ≤ 2147483587 * (2 * a + 277) := Int.mul_le_mul_of_nonneg_right (by omega) (by omega)
        _ ≤ 2147483587 * 20277 := Int.mul_le_mul_of_nonneg_left (by omega) (by decide)
    have q2 : 0 ≤ mx * (2 * a + 277) := Int.mul_nonneg hmx2.1 (by omega)
    have q3 : 70067 * a * a ≤ 70067 * 10000 * 10000 := by
      calc 70067 * a * a ≤ 70067 * 10000 * a := Int.mul_le_mul_of_nonneg_right (by omega) h1
        _ ≤ 70067 * 10000 * 10000 := Int.mul_le_mul_of_nonneg_left (by omega) (by decide)
    have q4 : 0 ≤ 70067 * a * a := Int.mul_nonneg (by omega) h1
    have pw3 : powOk (mx * (2 * a + 277) + 70067 * a * a + 1051) 3 := ⟨by decide, by decide, by
      have : (mx * (2 * a + 277) + 70067 * a * a + 1051).natAbs < 100000000000000 := by omega
      exact Nat.lt_trans this (by decide)⟩
    have dk32 : divOk 32 := divOk_of (n := 6) (by decide) (by decide)
    have n1 : (2147483549 : Int) ≠ 0 := by decide
    have n2 : (2147483587 : Int) ≠ 0 := by decide
    have n3 : (2147483563 : Int) ≠ 0 := by decide
    -- with the cell known, both ends
    have nr : ¬ (0 : Int) < 0 := by decide
    by_cases hA : a < (cs.length : Int) ∧ 10 ^ (18 : Int).toNat ≤ (if cell < 0 then -cell else cell)
    · obtain ⟨w, hw⟩ : ∃ w : Int, w = 2 * ((if cell < 0 then -cell else cell) - 10 ^ (18 : Int).toNat) + (if cell < 0 then 1 else 0) := ⟨_, rfl⟩
      have hw0 : 0 ≤ w := by
        rw [hw]
        have := hA.2
        split <;> omega
      refine ⟨Int.fmod w many, [penO cs (a + 1) (Int.fdiv w many)], ?_, (fmod_rng w h0).1, (fmod_rng w h0).2, ⟨cs, a + 1, _, rfl, hl, by omega, by omega, fdiv_nn h0 hw0⟩⟩
      by_cases he : cs.isEmpty = true
      · exfalso
        have : cs = [] := List.isEmpty_iff.mp he
        subst this
        have := hA.1
        simp at this
        omega
      · have he2 : cs.isEmpty = false := by simpa using he
        rw [he2] at hc
        have hlen : 0 < cs.length := by cases cs with
          | nil => simp at he
          | cons _ _ => simp
        have hix : cs[a.toNat % cs.length]? = some cell := by
          have hlt : a.toNat % cs.length < cs.length := Nat.mod_lt _ hlen
          rw [List.getElem?_eq_getElem hlt] at hc ⊢
          simp at hc
          rw [hc]
        have hm : Int.fmod a (cs.length : Int) = ((a.toNat % cs.length : Nat) : Int) := by
          have ha : ((a.toNat : Nat) : Int) = a := by omega
          calc Int.fmod a (cs.length : Int) = a % (cs.length : Int) := Int.fmod_eq_emod_of_nonneg _ (by omega)
            _ = ((a.toNat : Nat) : Int) % (cs.length : Int) := by rw [ha]
            _ = _ := by omega
        have hl0 : (cs.length : Int) ≠ 0 := by omega
        unfold φ__law_draw m__law_draw penO
        simp only [dObjIx, sObjSet, at30, at31, at32, ix31, ix32, decide_eq_false nr, mulI_ok m1, eq_nil, he2, len_lst, List.length_map, modI_ok hl0, hm, ix_ints hix, decide_eq_true hA.1, powI_ok p18, decide_eq_true hA.2, mulI_ok (m2 _), divI_ok dk, modI_ok hne, DL.dFn, DL.dFi, DL.sSeq, DL.sSet, DL.sIf, DL.sRet, DL.sRetN, DL.sDrop, DL.sBind, DL.sAsg, DL.sPar, DL.sPar3, DL.sNext, DL.dC, DL.dVar, DL.dPeek, DL.dBind, DL.dOut, DL.dUn, DL.dBin, DL.dTru, DL.dNot, DL.dAndT, DL.dOrT, DL.dAndV, DL.dOrV, DL.dIfE, DL.aNil, DL.aCons, DL.aBind, DL.fits, DL.dApp, DL.dRet, DL.dTup, DL.dLst, DL.truD, DL.bName, DL.bTup, DL.bCons, DL.bNil, DL.pick_eq, DL.Src.get, List.filterMap_cons, List.filterMap_nil, List.getElem?_cons_zero, List.getElem?_cons_succ, List.length_cons, List.length_nil, List.set_cons_zero, List.set_cons_succ, List.map_cons, List.map_nil, List.cons_append, List.nil_append, List.append_nil, List.append_assoc, List.reduceReplicate, Nat.reduceAdd, Nat.reduceSub, Nat.reduceLeDiff, Nat.reduceEqDiff, ↓reduceIte, DL.subD, DL.mulD, DL.divD, DL.modD, DL.powD, DL.ltD, DL.leD, DL.gtD, DL.geD, DL.II, DL.subI, DL.cmpI, DL.negD, DL.addD_int, DL.ix_t0, DL.ix_t1, DL.ix_t2, DL.eqA_int, DL.eqA_pair, DL.intD_int, DL.intA_int, DL.intA_bl, DL.absD, DL.le1, DL.le2, DL.le3, DL.le4, DL.le5, DL.le8, DL.le9, Nat.zero_le, Bool.not_true, Bool.not_false, Bool.false_eq_true, DL.eqA_bl, eq_self, Int.reduceEq, Int.reduceLT, Int.reduceNeg, Bool.false_xor, Bool.true_xor, decide_true, decide_false, decide_eq_true_eq]
        rw [← hw]
    · refine ⟨Int.fmod (Int.fdiv (Int.fmod ((mx * (2 * a + 277) + 70067 * a * a + 1051) ^ (3 : Int).toNat) 2147483563) 32) many, [penO cs (a + 1) 0], ?_, (fmod_rng _ h0).1, (fmod_rng _ h0).2, ⟨cs, a + 1, 0, rfl, hl, by omega, by omega, by omega⟩⟩
      have hA' : (decide (a < (cs.length : Int)) && decide (10 ^ (18 : Int).toNat ≤ (if cell < 0 then -cell else cell))) = false := by
        rw [Bool.and_eq_false_iff]
        by_cases z : a < (cs.length : Int)
        · right; exact decide_eq_false fun y => hA ⟨z, y⟩
        · left; exact decide_eq_false z
      by_cases he : cs.isEmpty = true
      · have : cs = [] := List.isEmpty_iff.mp he
        subst this
        rw [if_pos he] at hc
        subst hc
        unfold φ__law_draw m__law_draw penO
        simp only [dObjIx, sObjSet, at30, at31, at32, ix31, ix32, decide_eq_false nr, mulI_ok m1, eq_nil0, len_lst, List.length_map, decide_eq_false (show ¬ (a < ((0 : Nat) : Int)) by omega), modI_ok n1, powI_ok pw5, modI_ok n2, ← hmx, mulI_ok m3, mulI_ok m4, mulI_ok m5, mulI_ok (m2 _), powI_ok pw3, modI_ok n3, divI_ok dk32, modI_ok hne, DL.dFn, DL.dFi, DL.sSeq, DL.sSet, DL.sIf, DL.sRet, DL.sRetN, DL.sDrop, DL.sBind, DL.sAsg, DL.sPar, DL.sPar3, DL.sNext, DL.dC, DL.dVar, DL.dPeek, DL.dBind, DL.dOut, DL.dUn, DL.dBin, DL.dTru, DL.dNot, DL.dAndT, DL.dOrT, DL.dAndV, DL.dOrV, DL.dIfE, DL.aNil, DL.aCons, DL.aBind, DL.fits, DL.dApp, DL.dRet, DL.dTup, DL.dLst, DL.truD, DL.bName, DL.bTup, DL.bCons, DL.bNil, DL.pick_eq, DL.Src.get, List.filterMap_cons, List.filterMap_nil, List.getElem?_cons_zero, List.getElem?_cons_succ, List.length_cons, List.length_nil, List.set_cons_zero, List.set_cons_succ, List.map_cons, List.map_nil, List.cons_append, List.nil_append, List.append_nil, List.append_assoc, List.reduceReplicate, Nat.reduceAdd, Nat.reduceSub, Nat.reduceLeDiff, Nat.reduceEqDiff, ↓reduceIte, DL.subD, DL.mulD, DL.divD, DL.modD, DL.powD, DL.ltD, DL.leD, DL.gtD, DL.geD, DL.II, DL.subI, DL.cmpI, DL.negD, DL.addD_int, DL.ix_t0, DL.ix_t1, DL.ix_t2, DL.eqA_int, DL.eqA_pair, DL.intD_int, DL.intA_int, DL.intA_bl, DL.absD, DL.le1, DL.le2, DL.le3, DL.le4, DL.le5, DL.le8, DL.le9, Nat.zero_le, Bool.not_true, Bool.not_false, Bool.false_eq_true, DL.eqA_bl, eq_self, Int.reduceEq, Int.reduceLT, Int.reduceNeg, Bool.false_xor, Bool.true_xor, decide_true, decide_false, decide_eq_true_eq]
      · have he2 : cs.isEmpty = false := by simpa using he
        rw [he2] at hc
        have hlen : 0 < cs.length := by cases cs with
          | nil => simp at he
          | cons _ _ => simp
        have hix : cs[a.toNat % cs.length]? = some cell := by
          have hlt : a.toNat % cs.length < cs.length := Nat.mod_lt _ hlen
          rw [List.getElem?_eq_getElem hlt] at hc ⊢
          simp at hc
          rw [hc]
        have hm : Int.fmod a (cs.length : Int) = ((a.toNat % cs.length : Nat) : Int) := by
          have ha : ((a.toNat : Nat) : Int) = a := by omega
          calc Int.fmod a (cs.length : Int) = a % (cs.length : Int) := Int.fmod_eq_emod_of_nonneg _ (by omega)
            _ = ((a.toNat : Nat) : Int) % (cs.length : Int) := by rw [ha]
            _ = _ := by omega
        have hl0 : (cs.length : Int) ≠ 0 := by omega
        unfold φ__law_draw m__law_draw penO
        by_cases z : a < (cs.length : Int)
        · simp only [dObjIx, sObjSet, at30, at31, at32, ix31, ix32, decide_eq_false nr, mulI_ok m1, eq_nil, he2, len_lst, List.length_map, modI_ok hl0, hm, ix_ints hix, decide_eq_true z, powI_ok p18, decide_eq_false (fun y => hA ⟨z, y⟩), modI_ok n1, powI_ok pw5, modI_ok n2, ← hmx, mulI_ok m3, mulI_ok m4, mulI_ok m5, mulI_ok (m2 _), powI_ok pw3, modI_ok n3, divI_ok dk32, modI_ok hne, DL.dFn, DL.dFi, DL.sSeq, DL.sSet, DL.sIf, DL.sRet, DL.sRetN, DL.sDrop, DL.sBind, DL.sAsg, DL.sPar, DL.sPar3, DL.sNext, DL.dC, DL.dVar, DL.dPeek, DL.dBind, DL.dOut, DL.dUn, DL.dBin, DL.dTru, DL.dNot, DL.dAndT, DL.dOrT, DL.dAndV, DL.dOrV, DL.dIfE, DL.aNil, DL.aCons, DL.aBind, DL.fits, DL.dApp, DL.dRet, DL.dTup, DL.dLst, DL.truD, DL.bName, DL.bTup, DL.bCons, DL.bNil, DL.pick_eq, DL.Src.get, List.filterMap_cons, List.filterMap_nil, List.getElem?_cons_zero, List.getElem?_cons_succ, List.length_cons, List.length_nil, List.set_cons_zero, List.set_cons_succ, List.map_cons, List.map_nil, List.cons_append, List.nil_append, List.append_nil, List.append_assoc, List.reduceReplicate, Nat.reduceAdd, Nat.reduceSub, Nat.reduceLeDiff, Nat.reduceEqDiff, ↓reduceIte, DL.subD, DL.mulD, DL.divD, DL.modD, DL.powD, DL.ltD, DL.leD, DL.gtD, DL.geD, DL.II, DL.subI, DL.cmpI, DL.negD, DL.addD_int, DL.ix_t0, DL.ix_t1, DL.ix_t2, DL.eqA_int, DL.eqA_pair, DL.intD_int, DL.intA_int, DL.intA_bl, DL.absD, DL.le1, DL.le2, DL.le3, DL.le4, DL.le5, DL.le8, DL.le9, Nat.zero_le, Bool.not_true, Bool.not_false, Bool.false_eq_true, DL.eqA_bl, eq_self, Int.reduceEq, Int.reduceLT, Int.reduceNeg, Bool.false_xor, Bool.true_xor, decide_true, decide_false, decide_eq_true_eq]
        · simp only [dObjIx, sObjSet, at30, at31, at32, ix31, ix32, decide_eq_false nr, mulI_ok m1, eq_nil, he2, len_lst, List.length_map, modI_ok hl0, hm, ix_ints hix, decide_eq_false z, modI_ok n1, powI_ok pw5, modI_ok n2, ← hmx, mulI_ok m3, mulI_ok m4, mulI_ok m5, mulI_ok (m2 _), powI_ok pw3, modI_ok n3, divI_ok dk32, modI_ok hne, DL.dFn, DL.dFi, DL.sSeq, DL.sSet, DL.sIf, DL.sRet, DL.sRetN, DL.sDrop, DL.sBind, DL.sAsg, DL.sPar, DL.sPar3, DL.sNext, DL.dC, DL.dVar, DL.dPeek, DL.dBind, DL.dOut, DL.dUn, DL.dBin, DL.dTru, DL.dNot, DL.dAndT, DL.dOrT, DL.dAndV, DL.dOrV, DL.dIfE, DL.aNil, DL.aCons, DL.aBind, DL.fits, DL.dApp, DL.dRet, DL.dTup, DL.dLst, DL.truD, DL.bName, DL.bTup, DL.bCons, DL.bNil, DL.pick_eq, DL.Src.get, List.filterMap_cons, List.filterMap_nil, List.getElem?_cons_zero, List.getElem?_cons_succ, List.length_cons, List.length_nil, List.set_cons_zero, List.set_cons_succ, List.map_cons, List.map_nil, List.cons_append, List.nil_append, List.append_nil, List.append_assoc, List.reduceReplicate, Nat.reduceAdd, Nat.reduceSub, Nat.reduceLeDiff, Nat.reduceEqDiff, ↓reduceIte, DL.subD, DL.mulD, DL.divD, DL.modD, DL.powD, DL.ltD, DL.leD, DL.gtD, DL.geD, DL.II, DL.subI, DL.cmpI, DL.negD, DL.addD_int, DL.ix_t0, DL.ix_t1, DL.ix_t2, DL.eqA_int, DL.eqA_pair, DL.intD_int, DL.intA_int, DL.intA_bl, DL.absD, DL.le1, DL.le2, DL.le3, DL.le4, DL.le5, DL.le8, DL.le9, Nat.zero_le, Bool.not_true, Bool.not_false, Bool.false_eq_true, DL.eqA_bl, eq_self, Int.reduceEq, Int.reduceLT, Int.reduceNeg, Bool.false_xor, Bool.true_xor, decide_true, decide_false, decide_eq_true_eq]
theorem r_pick (n : Nat) (hn : n ≤ 10000) (M : MS) (hM : PenOk n M) (ds : List D) (h0 : ds ≠ []) (hl : ds.length ≤ 1000) : ∃ d M', φ__law_pick [.obj 0, .lst ds] M = some (.ret d M') ∧ d ∈ ds ∧ PenOk (n + 1) M' := by
  have h1 : 0 < ds.length := by cases ds with
    | nil => exact absurd rfl h0
    | cons _ _ => simp
  obtain ⟨r, M', e, r0, r1, p⟩ := r_draw n hn M hM (ds.length : Int) (by omega) (by
    have : ((ds.length : Int)).natAbs < 2 ^ 10 := by rw [Int.natAbs_natCast]; omega
    exact p2lt this (by omega))
  have hlt : r.toNat < ds.length := by omega
  refine ⟨ds[r.toNat], M', ?_, List.getElem_mem hlt, p⟩
  have ei : ixD (.lst ds) (.int r) = some ds[r.toNat] := by
    have := ix_lnat ds r.toNat
    rw [show ((r.toNat : Nat) : Int) = r by omega, List.getElem?_eq_getElem hlt] at this
    exact this
  unfold φ__law_pick m__law_pick
  simp only [len_lst, e, ei, DL.dFn, DL.dFi, DL.sSeq, DL.sSet, DL.sIf, DL.sRet, DL.sRetN, DL.sDrop, DL.sBind, DL.sAsg, DL.sPar, DL.sPar3, DL.sNext, DL.dC, DL.dVar, DL.dPeek, DL.dBind, DL.dOut, DL.dUn, DL.dBin, DL.dTru, DL.dNot, DL.dAndT, DL.dOrT, DL.dAndV, DL.dOrV, DL.dIfE, DL.aNil, DL.aCons, DL.aBind, DL.fits, DL.dApp, DL.dRet, DL.dTup, DL.dLst, DL.truD, DL.bName, DL.bTup, DL.bCons, DL.bNil, DL.pick_eq, DL.Src.get, List.filterMap_cons, List.filterMap_nil, List.getElem?_cons_zero, List.getElem?_cons_succ, List.length_cons, List.length_nil, List.set_cons_zero, List.set_cons_succ, List.map_cons, List.map_nil, List.cons_append, List.nil_append, List.append_nil, List.append_assoc, List.reduceReplicate, Nat.reduceAdd, Nat.reduceSub, Nat.reduceLeDiff, Nat.reduceEqDiff, ↓reduceIte, DL.subD, DL.mulD, DL.divD, DL.modD, DL.powD, DL.ltD, DL.leD, DL.gtD, DL.geD, DL.II, DL.subI, DL.cmpI, DL.negD, DL.addD_int, DL.ix_t0, DL.ix_t1, DL.ix_t2, DL.eqA_int, DL.eqA_pair, DL.intD_int, DL.intA_int, DL.intA_bl, DL.absD, DL.le1, DL.le2, DL.le3, DL.le4, DL.le5, DL.le8, DL.le9, Nat.zero_le, Bool.not_true, Bool.not_false, Bool.false_eq_true, DL.eqA_bl, eq_self, Int.reduceEq, Int.reduceLT, Int.reduceNeg, Bool.false_xor, Bool.true_xor, decide_true, decide_false, decide_eq_true_eq]
end L07
set_option maxHeartbeats 2000000
set_option exponentiation.threshold 4000
namespace L07
open PySem PySem.Spec PyProof.Rows L2 DL PA
theorem small {x : Int} {k n : Nat} (h : x.natAbs < 2 ^ k) (hk : k ≤ n) : x.natAbs < 2 ^ n := p2lt h hk
/-- one of some ints -/
theorem r_sizes (n : Nat) (hn : n ≤ 9000) (M : MS) (hM : PenOk n M) : ∃ (b d : Nat) (M' : MS), φ__law_sizes [.obj 0] M = some (.ret (.tup [I b, I d]) M') ∧ 2 ≤ b ∧ b ≤ 36 ∧ 1 ≤ d ∧ d ≤ 60 ∧ PenOk (n + 4) M' := by
  obtain ⟨x1, M1, e1, a1, c1, p1⟩ := r_draw n (by omega) M hM 35 (by decide) (small (k := 6) (by decide) (by omega))
  obtain ⟨d1, M2, e2, m2, p2⟩ := r_pick (n + 1) (by omega) M1 p1 [.int 2, .int 2, .int 3, .int 10, .int 10, .int 16, .int 36, .int (2 + x1)] (by simp) (by simp)
  obtain ⟨x3, M3, e3, a3, c3, p3⟩ := r_draw (n + 2) (by omega) M2 p2 8 (by decide) (small (k := 6) (by decide) (by omega))
  obtain ⟨d4, M4, e4, m4, p4⟩ := r_pick (n + 3) (by omega) M3 p3 [.int 1, .int 2, .int 3, .int 4, .int (1 + x3), .int 24, .int 53, .int 60] (by simp) (by simp)
  have h1 : ∃ b : Nat, d1 = I b ∧ 2 ≤ b ∧ b ≤ 36 := by
    simp only [List.mem_cons, List.not_mem_nil, or_false] at m2
    rcases m2 with h | h | h | h | h | h | h | h
    · exact ⟨2, h, by omega, by omega⟩
    · exact ⟨2, h, by omega, by omega⟩
    · exact ⟨3, h, by omega, by omega⟩
    · exact ⟨10, h, by omega, by omega⟩
    · exact ⟨10, h, by omega, by omega⟩
    · exact ⟨16, h, by omega, by omega⟩
    · exact ⟨36, h, by omega, by omega⟩
    · exact ⟨(2 + x1).toNat, by rw [h]; exact congrArg D.int (by omega), by omega, by omega⟩
  have h2 : ∃ d : Nat, d4 = I d ∧ 1 ≤ d ∧ d ≤ 60 := by
    simp only [List.mem_cons, List.not_mem_nil, or_false] at m4
    rcases m4 with h | h | h | h | h | h | h | h
    · exact ⟨1, h, by omega, by omega⟩
    · exact ⟨2, h, by omega, by omega⟩
    · exact ⟨3, h, by omega, by omega⟩
    · exact ⟨4, h, by omega, by omega⟩
    · exact ⟨(1 + x3).toNat, by rw [h]; exact congrArg D.int (by omega), by omega, by omega⟩
    · exact ⟨24, h, by omega, by omega⟩
    · exact ⟨53, h, by omega, by omega⟩
    · exact ⟨60, h, by omega, by omega⟩
  obtain ⟨b, rfl, hb1, hb2⟩ := h1
  obtain ⟨d, rfl, hd1, hd2⟩ := h2
  refine ⟨b, d, M4, ?_, hb1, hb2, hd1, hd2, p4⟩
  unfold φ__law_sizes m__law_sizes
  simp only [e1, e2, e3, e4, DL.dFn, DL.dFi, DL.sSeq, DL.sSet, DL.sIf, DL.sRet, DL.sRetN, DL.sDrop, DL.sBind, DL.sAsg, DL.sPar, DL.sPar3, DL.sNext, DL.dC, DL.dVar, DL.dPeek, DL.dBind, DL.dOut, DL.dUn, DL.dBin, DL.dTru, DL.dNot, DL.dAndT, DL.dOrT, DL.dAndV, DL.dOrV, DL.dIfE, DL.aNil, DL.aCons, DL.aBind, DL.fits, DL.dApp, DL.dRet, DL.dTup, DL.dLst, DL.truD, DL.bName, DL.bTup, DL.bCons, DL.bNil, DL.pick_eq, DL.Src.get, List.filterMap_cons, List.filterMap_nil, List.getElem?_cons_zero, List.getElem?_cons_succ, List.length_cons, List.length_nil, List.set_cons_zero, List.set_cons_succ, List.map_cons, List.map_nil, List.cons_append, List.nil_append, List.append_nil, List.append_assoc, List.reduceReplicate, Nat.reduceAdd, Nat.reduceSub, Nat.reduceLeDiff, Nat.reduceEqDiff, ↓reduceIte, DL.subD, DL.mulD, DL.divD, DL.modD, DL.powD, DL.ltD, DL.leD, DL.gtD, DL.geD, DL.II, DL.subI, DL.cmpI, DL.negD, DL.addD_int, DL.ix_t0, DL.ix_t1, DL.ix_t2, DL.eqA_int, DL.eqA_pair, DL.intD_int, DL.intA_int, DL.intA_bl, DL.absD, DL.le1, DL.le2, DL.le3, DL.le4, DL.le5, DL.le8, DL.le9, Nat.zero_le, Bool.not_true, Bool.not_false, Bool.false_eq_true, DL.eqA_bl, eq_self, Int.reduceEq, Int.reduceLT, Int.reduceNeg, Bool.false_xor, Bool.true_xor, decide_true, decide_false, decide_eq_true_eq]
theorem r_written (n : Nat) (hn : n ≤ 9000) (M : MS) (hM : PenOk n M) (b d : Nat) (h1 : 2 ≤ b) (h2 : b ≤ 36) (h3 : 1 ≤ d) (h4 : d ≤ 60) :
    ∃ (m e : Int) (M' : MS), φ__law_written [.obj 0, I b, I d] M = some (.ret (.tup [.int m, .int e]) M') ∧ m ≠ 0 ∧ m.natAbs < 2 ^ 311 ∧ -100 ≤ e ∧ e ≤ 100 ∧ PenOk (n + 7) M' := by
  obtain ⟨L, hL⟩ : ∃ L, L = up b ((d : Int) - 1) := ⟨_, rfl⟩
  have rd := r_law_raised b ((d : Int) - 1) (by omega) (by omega)
  rw [← hL] at rd
  have hL1 : 1 ≤ L := by rw [hL]; exact up_pos h1 _
  have hLb : L * b < 2 ^ 311 := by
    have e : L * b = b ^ d := by
      rw [hL]
      unfold up
      rw [← Nat.pow_succ]
      congr 1
      omega
    rw [e]
    exact b60 h2 h4
  have hLb2 : L * 2 ≤ L * b := Nat.mul_le_mul_left L h1
  have mk : mulOk (L : Int) (b : Int) := mul_b (by omega)
  have hmany : (((L * b : Nat) : Int) - (L : Int)).natAbs < 2 ^ 8000 := small (k := 311) (by omega) (by omega)
  obtain ⟨x1, M1, e1, a1, c1, p1⟩ := r_draw n (by omega) M hM (((L * b : Nat) : Int) - (L : Int)) (by omega) hmany
  obtain ⟨x2, M2, e2, a2, c2, p2⟩ := r_draw (n + 1) (by omega) M1 p1 (((L * b : Nat) : Int) - (L : Int)) (by omega) hmany
  obtain ⟨d3, M3, e3, m3, p3⟩ := r_pick (n + 2) (by omega) M2 p2 [.int (L : Int), .int (((L * b : Nat) : Int) - 1), .int ((L : Int) + x1), .int ((L : Int) + x2)] (by simp) (by simp)
  obtain ⟨x4, M4, e4, a4, c4, p4⟩ := r_draw (n + 3) (by omega) M3 p3 3 (by decide) (small (k := 6) (by decide) (by omega))
  obtain ⟨x5, M5, e5, a5, c5, p5⟩ := r_draw (n + 4) (by omega) M4 p4 12 (by decide) (small (k := 6) (by decide) (by omega))
  obtain ⟨x6, M6, e6, a6, c6, p6⟩ := r_draw (n + 5) (by omega) M5 p5 200 (by decide) (small (k := 9) (by decide) (by omega))
  obtain ⟨d7, M7, e7, m7, p7⟩ := r_pick (n + 6) (by omega) M6 p6 [.int 0, .int (0 - (d : Int)), .int (1 - (d : Int)), .int (x5 - 6), .int (x6 - 100)] (by simp) (by simp)
  have k1 : ∃ m : Int, d3 = .int m ∧ 0 < m ∧ m < ((L * b : Nat) : Int) := by
    simp only [List.mem_cons, List.not_mem_nil, or_false] at m3
    rcases m3 with h | h | h | h
    · exact ⟨_, h, by omega, by omega⟩
    · exact ⟨_, h, by omega, by omega⟩
    · exact ⟨_, h, by omega, by omega⟩
    · exact ⟨_, h, by omega, by omega⟩
  have k2 : ∃ e : Int, d7 = .int e ∧ -100 ≤ e ∧ e ≤ 100 := by
    simp only [List.mem_cons, List.not_mem_nil, or_false] at m7
    rcases m7 with h | h | h | h | h
    · exact ⟨_, h, by omega, by omega⟩
    · exact ⟨_, h, by omega, by omega⟩
    · exact ⟨_, h, by omega, by omega⟩
    · exact ⟨_, h, by omega, by omega⟩
    · exact ⟨_, h, by omega, by omega⟩
  obtain ⟨m, rfl, km1, km2⟩ := k1
  obtain ⟨e, rfl, ke1, ke2⟩ := k2
  rw [Int.natCast_mul] at e1 e2 e3
  by_cases hx : 0 < x4
  · refine ⟨m, e, M7, ?_, by omega, by omega, ke1, ke2, p7⟩
    unfold φ__law_written m__law_written
    simp only [rd, mulI_ok mk, e1, e2, e3, e4, decide_eq_true hx, e5, e6, e7, DL.dFn, DL.dFi, DL.sSeq, DL.sSet, DL.sIf, DL.sRet, DL.sRetN, DL.sDrop, DL.sBind, DL.sAsg, DL.sPar, DL.sPar3, DL.sNext, DL.dC, DL.dVar, DL.dPeek, DL.dBind, DL.dOut, DL.dUn, DL.dBin, DL.dTru, DL.dNot, DL.dAndT, DL.dOrT, DL.dAndV, DL.dOrV, DL.dIfE, DL.aNil, DL.aCons, DL.aBind, DL.fits, DL.dApp, DL.dRet, DL.dTup, DL.dLst, DL.truD, DL.bName, DL.bTup, DL.bCons, DL.bNil, DL.pick_eq, DL.Src.get, List.filterMap_cons, List.filterMap_nil, List.getElem?_cons_zero, List.getElem?_cons_succ, List.length_cons, List.length_nil, List.set_cons_zero, List.set_cons_succ, List.map_cons, List.map_nil, List.cons_append, List.nil_append, List.append_nil, List.append_assoc, List.reduceReplicate, Nat.reduceAdd, Nat.reduceSub, Nat.reduceLeDiff, Nat.reduceEqDiff, ↓reduceIte, DL.subD, DL.mulD, DL.divD, DL.modD, DL.powD, DL.ltD, DL.leD, DL.gtD, DL.geD, DL.II, DL.subI, DL.cmpI, DL.negD, DL.addD_int, DL.ix_t0, DL.ix_t1, DL.ix_t2, DL.eqA_int, DL.eqA_pair, DL.intD_int, DL.intA_int, DL.intA_bl, DL.absD, DL.le1, DL.le2, DL.le3, DL.le4, DL.le5, DL.le8, DL.le9, Nat.zero_le, Bool.not_true, Bool.not_false, Bool.false_eq_true, DL.eqA_bl, eq_self, Int.reduceEq, Int.reduceLT, Int.reduceNeg, Bool.false_xor, Bool.true_xor, decide_true, decide_false, decide_eq_true_eq]
  · refine ⟨0 - m, e, M7, ?_, by omega, by omega, ke1, ke2, p7⟩
    unfold φ__law_written m__law_written
    simp only [rd, mulI_ok mk, e1, e2, e3, e4, decide_eq_false hx, e5, e6, e7, DL.dFn, DL.dFi, DL.sSeq, DL.sSet, DL.sIf, DL.sRet, DL.sRetN, DL.sDrop, DL.sBind, DL.sAsg, DL.sPar, DL.sPar3, DL.sNext, DL.dC, DL.dVar, DL.dPeek, DL.dBind, DL.dOut, DL.dUn, DL.dBin, DL.dTru, DL.dNot, DL.dAndT, DL.dOrT, DL.dAndV, DL.dOrV, DL.dIfE, DL.aNil, DL.aCons, DL.aBind, DL.fits, DL.dApp, DL.dRet, DL.dTup, DL.dLst, DL.truD, DL.bName, DL.bTup, DL.bCons, DL.bNil, DL.pick_eq, DL.Src.get, List.filterMap_cons, List.filterMap_nil, List.getElem?_cons_zero, List.getElem?_cons_succ, List.length_cons, List.length_nil, List.set_cons_zero, List.set_cons_succ, List.map_cons, List.map_nil, List.cons_append, List.nil_append, List.append_nil, List.append_assoc, List.reduceReplicate, Nat.reduceAdd, Nat.reduceSub, Nat.reduceLeDiff, Nat.reduceEqDiff, ↓reduceIte, DL.subD, DL.mulD, DL.divD, DL.modD, DL.powD, DL.ltD, DL.leD, DL.gtD, DL.geD, DL.II, DL.subI, DL.cmpI, DL.negD, DL.addD_int, DL.ix_t0, DL.ix_t1, DL.ix_t2, DL.eqA_int, DL.eqA_pair, DL.intD_int, DL.intA_int, DL.intA_bl, DL.absD, DL.le1, DL.le2, DL.le3, DL.le4, DL.le5, DL.le8, DL.le9, Nat.zero_le, Bool.not_true, Bool.not_false, Bool.false_eq_true, DL.eqA_bl, eq_self, Int.reduceEq, Int.reduceLT, Int.reduceNeg, Bool.false_xor, Bool.true_xor, decide_true, decide_false, decide_eq_true_eq]
theorem p10 : powOk 10 20 := ⟨by decide, by decide, by decide⟩
/-- a product within bits -/
theorem mul_lt2 {x y : Int} {k l : Nat} (h1 : x.natAbs < 2 ^ k) (h2 : y.natAbs < 2 ^ l) : (x * y).natAbs < 2 ^ (k + l) := by
  rw [Int.natAbs_mul, Nat.pow_add]
  exact Nat.mul_lt_mul'' h1 h2
theorem up_b {b : Nat} {e : Int} {k : Nat} (hb : b ≤ 36) (he : e ≤ k) : up b e < 2 ^ (6 * k + 1) := by
  unfold up
  calc b ^ e.toNat ≤ 64 ^ e.toNat := Nat.pow_le_pow_left (by omega) _
    _ = 2 ^ (6 * e.toNat) := by rw [Nat.pow_mul]
    _ < 2 ^ (6 * k + 1) := Nat.pow_lt_pow_right (by omega) (by omega)
theorem dn_b {b : Nat} {e : Int} {k : Nat} (hb : b ≤ 36) (he : -(k : Int) ≤ e) : dn b e < 2 ^ (6 * k + 1) := by
  unfold dn
  calc b ^ (-e).toNat ≤ 64 ^ (-e).toNat := Nat.pow_le_pow_left (by omega) _
    _ = 2 ^ (6 * (-e).toNat) := by rw [Nat.pow_mul]
    _ < 2 ^ (6 * k + 1) := Nat.pow_lt_pow_right (by omega) (by omega)
theorem r_near (n : Nat) (hn : n ≤ 8000) (M : MS) (hM : PenOk n M) (b d : Nat) (h1 : 2 ≤ b) (h2 : b ≤ 36) (h3 : 1 ≤ d) (h4 : d ≤ 60) :
    ∃ (x u : Int) (M' : MS), φ__law_near_some [.obj 0, I b, I d] M = some (.ret (P2 (lowP x u)) M') ∧ 0 < u ∧ x.natAbs < 2 ^ 1000 ∧ u.natAbs < 2 ^ 1000 ∧ PenOk (n + 12) M' := by
  obtain ⟨m, e, M1, e1, hm0, hm, he1, he2, p1⟩ := r_written n (by omega) M hM b d h1 h2 h3 h4
  obtain ⟨way, M2, e2, a2, c2, p2⟩ := r_draw (n + 7) (by omega) M1 p1 5 (by decide) (small (k := 6) (by decide) (by omega))
  have hup : up b e < 2 ^ 601 := up_b (k := 100) h2 (by omega)
  have hdn : dn b e < 2 ^ 601 := dn_b (k := 100) h2 (by omega)
  have hdp := dn_pos h1 e
  by_cases w0 : way = 0
  · refine ⟨m * ((up b e : Nat) : Int), ((dn b e : Nat) : Int), M2, ?_, by omega, small (mul_lt2 hm (nat_lt hup)) (by omega), small (nat_lt hdn) (by omega), p2.mono (by omega)⟩
    have q := r_worth b m e h1 (by omega) (by omega) (small hm (by omega)) (p2lt hdn (by omega))
    unfold φ__law_near_some m__law_near_some
    simp only [e1, e2, decide_eq_true w0, q, DL.dFn, DL.dFi, DL.sSeq, DL.sSet, DL.sIf, DL.sRet, DL.sRetN, DL.sDrop, DL.sBind, DL.sAsg, DL.sPar, DL.sPar3, DL.sNext, DL.dC, DL.dVar, DL.dPeek, DL.dBind, DL.dOut, DL.dUn, DL.dBin, DL.dTru, DL.dNot, DL.dAndT, DL.dOrT, DL.dAndV, DL.dOrV, DL.dIfE, DL.aNil, DL.aCons, DL.aBind, DL.fits, DL.dApp, DL.dRet, DL.dTup, DL.dLst, DL.truD, DL.bName, DL.bTup, DL.bCons, DL.bNil, DL.pick_eq, DL.Src.get, List.filterMap_cons, List.filterMap_nil, List.getElem?_cons_zero, List.getElem?_cons_succ, List.length_cons, List.length_nil, List.set_cons_zero, List.set_cons_succ, List.map_cons, List.map_nil, List.cons_append, List.nil_append, List.append_nil, List.append_assoc, List.reduceReplicate, Nat.reduceAdd, Nat.reduceSub, Nat.reduceLeDiff, Nat.reduceEqDiff, ↓reduceIte, DL.subD, DL.mulD, DL.divD, DL.modD, DL.powD, DL.ltD, DL.leD, DL.gtD, DL.geD, DL.II, DL.subI, DL.cmpI, DL.negD, DL.addD_int, DL.ix_t0, DL.ix_t1, DL.ix_t2, DL.eqA_int, DL.eqA_pair, DL.intD_int, DL.intA_int, DL.intA_bl, DL.absD, DL.le1, DL.le2, DL.le3, DL.le4, DL.le5, DL.le8, DL.le9, Nat.zero_le, Bool.not_true, Bool.not_false, Bool.false_eq_true, DL.eqA_bl, eq_self, Int.reduceEq, Int.reduceLT, Int.reduceNeg, Bool.false_xor, Bool.true_xor, decide_true, decide_false, decide_eq_true_eq]
    rfl
  · by_cases w1 : way = 1
    · obtain ⟨x3, M3, e3, a3, c3, p3⟩ := r_draw (n + 8) (by omega) M2 p2 4001 (by decide) (small (k := 16) (by decide) (by omega))
      obtain ⟨x4, M4, e4, a4, c4, p4⟩ := r_draw (n + 9) (by omega) M3 p3 600 (by decide) (small (k := 16) (by decide) (by omega))
      have s1 : (x3 - 2000).natAbs < 2 ^ 13 := by omega
      have s2 : (1 + x4).natAbs < 2 ^ 13 := by omega
      refine ⟨x3 - 2000, 1 + x4, M4, ?_, by omega, small s1 (by omega), small s2 (by omega), p4.mono (by omega)⟩
      unfold φ__law_near_some m__law_near_some
      simp only [e1, e2, decide_eq_false w0, decide_eq_true w1, e3, e4, r_law_low (x3 - 2000) (1 + x4) (by omega) (small s2 (by omega)), DL.dFn, DL.dFi, DL.sSeq, DL.sSet, DL.sIf, DL.sRet, DL.sRetN, DL.sDrop, DL.sBind, DL.sAsg, DL.sPar, DL.sPar3, DL.sNext, DL.dC, DL.dVar, DL.dPeek, DL.dBind, DL.dOut, DL.dUn, DL.dBin, DL.dTru, DL.dNot, DL.dAndT, DL.dOrT, DL.dAndV, DL.dOrV, DL.dIfE, DL.aNil, DL.aCons, DL.aBind, DL.fits, DL.dApp, DL.dRet, DL.dTup, DL.dLst, DL.truD, DL.bName, DL.bTup, DL.bCons, DL.bNil, DL.pick_eq, DL.Src.get, List.filterMap_cons, List.filterMap_nil, List.getElem?_cons_zero, List.getElem?_cons_succ, List.length_cons, List.length_nil, List.set_cons_zero, List.set_cons_succ, List.map_cons, List.map_nil, List.cons_append, List.nil_append, List.append_nil, List.append_assoc, List.reduceReplicate, Nat.reduceAdd, Nat.reduceSub, Nat.reduceLeDiff, Nat.reduceEqDiff, ↓reduceIte, DL.subD, DL.mulD, DL.divD, DL.modD, DL.powD, DL.ltD, DL.leD, DL.gtD, DL.geD, DL.II, DL.subI, DL.cmpI, DL.negD, DL.addD_int, DL.ix_t0, DL.ix_t1, DL.ix_t2, DL.eqA_int, DL.eqA_pair, DL.intD_int, DL.intA_int, DL.intA_bl, DL.absD, DL.le1, DL.le2, DL.le3, DL.le4, DL.le5, DL.le8, DL.le9, Nat.zero_le, Bool.not_true, Bool.not_false, Bool.false_eq_true, DL.eqA_bl, eq_self, Int.reduceEq, Int.reduceLT, Int.reduceNeg, Bool.false_xor, Bool.true_xor, decide_true, decide_false, decide_eq_true_eq]
    · -- parts and a share of them
      have fin : ∀ (parts share : Int) (M5 : MS), 2 ≤ parts → parts.natAbs < 2 ^ 67 → share.natAbs < 2 ^ 67 → PenOk (n + 12) M5 →
          (∀ sh : Int, sh = (if 0 < m then share else 0 - share) → ∀ M6, φ__law_low [.int ((m * parts + sh) * ((up b e : Nat) : Int)), .int (((dn b e : Nat) : Int) * parts)] M6 = some (.ret (P2 (lowP ((m * parts + sh) * ((up b e : Nat) : Int)) (((dn b e : Nat) : Int) * parts))) M6)) ∧
          mulOk m parts ∧ (∀ sh : Int, mulOk (m * parts + sh) ((up b e : Nat) : Int) ∨ ¬ sh.natAbs < 2 ^ 67) ∧ mulOk ((dn b e : Nat) : Int) parts ∧
          (∀ sh : Int, sh.natAbs < 2 ^ 67 → ((m * parts + sh) * ((up b e : Nat) : Int)).natAbs < 2 ^ 1000) ∧ (((dn b e : Nat) : Int) * parts).natAbs < 2 ^ 1000 ∧ 0 < ((dn b e : Nat) : Int) * parts := fun parts share M5 hp hpl hsl hpen => by
        have k1 : (m * parts).natAbs < 2 ^ 378 := mul_lt2 hm hpl
        have k2 : ∀ sh : Int, sh.natAbs < 2 ^ 67 → (m * parts + sh).natAbs < 2 ^ 379 := fun sh hsh => by
          have : (2 : Nat) ^ 67 ≤ 2 ^ 378 := Nat.pow_le_pow_right (by omega) (by omega)
          have e : (2 : Nat) ^ 379 = 2 ^ 378 + 2 ^ 378 := by rw [← Nat.two_mul, ← Nat.pow_succ']
          have := Int.natAbs_add_le (m * parts) sh
          omega
        have k3 : (((dn b e : Nat) : Int) * parts).natAbs < 2 ^ 668 := mul_lt2 (nat_lt hdn) hpl
        have k4 : 0 < ((dn b e : Nat) : Int) * parts := Int.mul_pos (by omega) (by omega)
        refine ⟨fun sh hsh M6 => r_law_low _ _ k4 (small k3 (by omega)) M6, mulOk_of hm hpl, fun sh => ?_, mulOk_of (nat_lt hdn) hpl, fun sh hsh => ?_, small k3 (by omega), k4⟩
        · by_cases z : sh.natAbs < 2 ^ 67
          · exact .inl (mulOk_of (k2 sh z) (nat_lt hup))
          · exact .inr z
        · exact small (mul_lt2 (k2 sh hsh) (nat_lt hup)) (by omega)
      have rr := r_law_raised b e (by omega) (by omega)
      have f10 : (10 : Int) ^ (20 : Int).toNat = 100000000000000000000 := by decide
      -- what comes of parts, share
      have last : ∀ (parts share : Int) (M5 : MS), 2 ≤ parts → parts.natAbs < 2 ^ 67 → share.natAbs < 2 ^ 67 → PenOk (n + 12) M5 →
          (∀ sh : Int, sh = (if 0 < m then share else 0 - share) → φ__law_near_some [.obj 0, I b, I d] M = some (.ret (P2 (lowP ((m * parts + sh) * ((up b e : Nat) : Int)) (((dn b e : Nat) : Int) * parts))) M5)) →
          ∃ (x u : Int) (M' : MS), φ__law_near_some [.obj 0, I b, I d] M = some (.ret (P2 (lowP x u)) M') ∧ 0 < u ∧ x.natAbs < 2 ^ 1000 ∧ u.natAbs < 2 ^ 1000 ∧ PenOk (n + 12) M' := fun parts share M5 hp hpl hsl hpen h => by
        obtain ⟨_, _, _, _, f5, f6, f7⟩ := fin parts share M5 hp hpl hsl hpen
        have hsh : (if 0 < m then share else 0 - share).natAbs < 2 ^ 67 := by split <;> omega
        exact ⟨_, _, M5, h _ rfl, f7, f5 _ hsh, f6, hpen⟩
      by_cases w2 : way = 2
      · refine last 2 1 M2 (by decide) (by decide) (by decide) (p2.mono (by omega)) fun sh hsh => ?_
        obtain ⟨f1, f2, f3, f4, _, _, _⟩ := fin 2 1 M2 (by decide) (by decide) (by decide) (p2.mono (by omega))
        have hs1 : sh.natAbs < 2 ^ 67 := by rw [hsh]; split <;> decide
        have f3' := (f3 sh).resolve_right (fun z => z hs1)
        clear last
        by_cases hm1 : 0 < m
        · rw [if_pos hm1] at hsh
          subst hsh
          unfold φ__law_near_some m__law_near_some
          simp only [e1, e2, decide_eq_false w0, decide_eq_false w1, decide_eq_true w2, rr, mulI_ok f2, decide_eq_true hm1, mulI_ok f3', mulI_ok f4, f1 _ (by rw [if_pos hm1]), DL.dFn, DL.dFi, DL.sSeq, DL.sSet, DL.sIf, DL.sRet, DL.sRetN, DL.sDrop, DL.sBind, DL.sAsg, DL.sPar, DL.sPar3, DL.sNext, DL.dC, DL.dVar, DL.dPeek, DL.dBind, DL.dOut, DL.dUn, DL.dBin, DL.dTru, DL.dNot, DL.dAndT, DL.dOrT, DL.dAndV, DL.dOrV, DL.dIfE, DL.aNil, DL.aCons, DL.aBind, DL.fits, DL.dApp, DL.dRet, DL.dTup, DL.dLst, DL.truD, DL.bName, DL.bTup, DL.bCons, DL.bNil, DL.pick_eq, DL.Src.get, List.filterMap_cons, List.filterMap_nil, List.getElem?_cons_zero, List.getElem?_cons_succ, List.length_cons, List.length_nil, List.set_cons_zero, List.set_cons_succ, List.map_cons, List.map_nil, List.cons_append, List.nil_append, List.append_nil, List.append_assoc, List.reduceReplicate, Nat.reduceAdd, Nat.reduceSub, Nat.reduceLeDiff, Nat.reduceEqDiff, ↓reduceIte, DL.subD, DL.mulD, DL.divD, DL.modD, DL.powD, DL.ltD, DL.leD, DL.gtD, DL.geD, DL.II, DL.subI, DL.cmpI, DL.negD, DL.addD_int, DL.ix_t0, DL.ix_t1, DL.ix_t2, DL.eqA_int, DL.eqA_pair, DL.intD_int, DL.intA_int, DL.intA_bl, DL.absD, DL.le1, DL.le2, DL.le3, DL.le4, DL.le5, DL.le8, DL.le9, Nat.zero_le, Bool.not_true, Bool.not_false, Bool.false_eq_true, DL.eqA_bl, eq_self, Int.reduceEq, Int.reduceLT, Int.reduceNeg, Bool.false_xor, Bool.true_xor, decide_true, decide_false, decide_eq_true_eq]
        · rw [if_neg hm1] at hsh
          subst hsh
          unfold φ__law_near_some m__law_near_some
          simp only [e1, e2, decide_eq_false w0, decide_eq_false w1, decide_eq_true w2, rr, mulI_ok f2, decide_eq_false hm1, mulI_ok f3', mulI_ok f4, f1 _ (by rw [if_neg hm1]), DL.dFn, DL.dFi, DL.sSeq, DL.sSet, DL.sIf, DL.sRet, DL.sRetN, DL.sDrop, DL.sBind, DL.sAsg, DL.sPar, DL.sPar3, DL.sNext, DL.dC, DL.dVar, DL.dPeek, DL.dBind, DL.dOut, DL.dUn, DL.dBin, DL.dTru, DL.dNot, DL.dAndT, DL.dOrT, DL.dAndV, DL.dOrV, DL.dIfE, DL.aNil, DL.aCons, DL.aBind, DL.fits, DL.dApp, DL.dRet, DL.dTup, DL.dLst, DL.truD, DL.bName, DL.bTup, DL.bCons, DL.bNil, DL.pick_eq, DL.Src.get, List.filterMap_cons, List.filterMap_nil, List.getElem?_cons_zero, List.getElem?_cons_succ, List.length_cons, List.length_nil, List.set_cons_zero, List.set_cons_succ, List.map_cons, List.map_nil, List.cons_append, List.nil_append, List.append_nil, List.append_assoc, List.reduceReplicate, Nat.reduceAdd, Nat.reduceSub, Nat.reduceLeDiff, Nat.reduceEqDiff, ↓reduceIte, DL.subD, DL.mulD, DL.divD, DL.modD, DL.powD, DL.ltD, DL.leD, DL.gtD, DL.geD, DL.II, DL.subI, DL.cmpI, DL.negD, DL.addD_int, DL.ix_t0, DL.ix_t1, DL.ix_t2, DL.eqA_int, DL.eqA_pair, DL.intD_int, DL.intA_int, DL.intA_bl, DL.absD, DL.le1, DL.le2, DL.le3, DL.le4, DL.le5, DL.le8, DL.le9, Nat.zero_le, Bool.not_true, Bool.not_false, Bool.false_eq_true, DL.eqA_bl, eq_self, Int.reduceEq, Int.reduceLT, Int.reduceNeg, Bool.false_xor, Bool.true_xor, decide_true, decide_false, decide_eq_true_eq]
      · obtain ⟨d3, M3, e3, m3, p3⟩ := r_pick (n + 8) (by omega) M2 p2 [.int 2, .int 3, .int 4, .int 100000000000000000000] (by simp) (by simp)
        have k1 : ∃ parts : Int, d3 = .int parts ∧ 2 ≤ parts ∧ parts ≤ 100000000000000000000 := by
          simp only [List.mem_cons, List.not_mem_nil, or_false] at m3
          rcases m3 with h | h | h | h
          · exact ⟨_, h, by omega, by omega⟩
          · exact ⟨_, h, by omega, by omega⟩
          · exact ⟨_, h, by omega, by omega⟩
          · exact ⟨_, h, by omega, by omega⟩
        obtain ⟨parts, rfl, kp1, kp2⟩ := k1
        have kp3 : parts.natAbs < 2 ^ 67 := by
          have : parts.natAbs ≤ 100000000000000000000 := by omega
          exact Nat.lt_of_le_of_lt this (by decide)
        obtain ⟨x4, M4, e4, a4, c4, p4⟩ := r_draw (n + 9) (by omega) M3 p3 (parts - 1) (by omega) (by
          have : (parts - 1).natAbs < 2 ^ 67 := by omega
          exact small this (by omega))
        obtain ⟨d5, M5, e5, m5, p5⟩ := r_pick (n + 10) (by omega) M4 p4 [.int 1, .int (parts - 1), .int (1 + x4)] (by simp) (by simp)
        have k2 : ∃ share : Int, d5 = .int share ∧ 0 ≤ share ∧ share < parts := by
          simp only [List.mem_cons, List.not_mem_nil, or_false] at m5
          rcases m5 with h | h | h
          · exact ⟨_, h, by omega, by omega⟩
          · exact ⟨_, h, by omega, by omega⟩
          · exact ⟨_, h, by omega, by omega⟩
        obtain ⟨share, rfl, ks1, ks2⟩ := k2
        have ks3 : share.natAbs < 2 ^ 67 := by omega
        refine last parts share M5 kp1 kp3 ks3 (p5.mono (by omega)) fun sh hsh => ?_
        obtain ⟨f1, f2, f3, f4, _, _, _⟩ := fin parts share M5 kp1 kp3 ks3 (p5.mono (by omega))
        have hs1 : sh.natAbs < 2 ^ 67 := by rw [hsh]; split <;> omega
        have f3' := (f3 sh).resolve_right (fun z => z hs1)
        by_cases hm1 : 0 < m
        · rw [if_pos hm1] at hsh
          subst hsh
          unfold φ__law_near_some m__law_near_some
          simp only [e1, e2, decide_eq_false w0, decide_eq_false w1, decide_eq_false w2, powI_ok p10, f10, e3, e4, e5, rr, mulI_ok f2, decide_eq_true hm1, mulI_ok f3', mulI_ok f4, f1 _ (by rw [if_pos hm1]), DL.dFn, DL.dFi, DL.sSeq, DL.sSet, DL.sIf, DL.sRet, DL.sRetN, DL.sDrop, DL.sBind, DL.sAsg, DL.sPar, DL.sPar3, DL.sNext, DL.dC, DL.dVar, DL.dPeek, DL.dBind, DL.dOut, DL.dUn, DL.dBin, DL.dTru, DL.dNot, DL.dAndT, DL.dOrT, DL.dAndV, DL.dOrV, DL.dIfE, DL.aNil, DL.aCons, DL.aBind, DL.fits, DL.dApp, DL.dRet, DL.dTup, DL.dLst, DL.truD, DL.bName, DL.bTup, DL.bCons, DL.bNil, DL.pick_eq, DL.Src.get, List.filterMap_cons, List.filterMap_nil, List.getElem?_cons_zero, List.getElem?_cons_succ, List.length_cons, List.length_nil, List.set_cons_zero, List.set_cons_succ, List.map_cons, List.map_nil, List.cons_append, List.nil_append, List.append_nil, List.append_assoc, List.reduceReplicate, Nat.reduceAdd, Nat.reduceSub, Nat.reduceLeDiff, Nat.reduceEqDiff, ↓reduceIte, DL.subD, DL.mulD, DL.divD, DL.modD, DL.powD, DL.ltD, DL.leD, DL.gtD, DL.geD, DL.II, DL.subI, DL.cmpI, DL.negD, DL.addD_int, DL.ix_t0, DL.ix_t1, DL.ix_t2, DL.eqA_int, DL.eqA_pair, DL.intD_int, DL.intA_int, DL.intA_bl, DL.absD, DL.le1, DL.le2, DL.le3, DL.le4, DL.le5, DL.le8, DL.le9, Nat.zero_le, Bool.not_true, Bool.not_false, Bool.false_eq_true, DL.eqA_bl, eq_self, Int.reduceEq, Int.reduceLT, Int.reduceNeg, Bool.false_xor, Bool.true_xor, decide_true, decide_false, decide_eq_true_eq]
        · rw [if_neg hm1] at hsh
          subst hsh
          unfold φ__law_near_some m__law_near_some
          simp only [e1, e2, decide_eq_false w0, decide_eq_false w1, decide_eq_false w2, powI_ok p10, f10, e3, e4, e5, rr, mulI_ok f2, decide_eq_false hm1, mulI_ok f3', mulI_ok f4, f1 _ (by rw [if_neg hm1]), DL.dFn, DL.dFi, DL.sSeq, DL.sSet, DL.sIf, DL.sRet, DL.sRetN, DL.sDrop, DL.sBind, DL.sAsg, DL.sPar, DL.sPar3, DL.sNext, DL.dC, DL.dVar, DL.dPeek, DL.dBind, DL.dOut, DL.dUn, DL.dBin, DL.dTru, DL.dNot, DL.dAndT, DL.dOrT, DL.dAndV, DL.dOrV, DL.dIfE, DL.aNil, DL.aCons, DL.aBind, DL.fits, DL.dApp, DL.dRet, DL.dTup, DL.dLst, DL.truD, DL.bName, DL.bTup, DL.bCons, DL.bNil, DL.pick_eq, DL.Src.get, List.filterMap_cons, List.filterMap_nil, List.getElem?_cons_zero, List.getElem?_cons_succ, List.length_cons, List.length_nil, List.set_cons_zero, List.set_cons_succ, List.map_cons, List.map_nil, List.cons_append, List.nil_append, List.append_nil, List.append_assoc, List.reduceReplicate, Nat.reduceAdd, Nat.reduceSub, Nat.reduceLeDiff, Nat.reduceEqDiff, ↓reduceIte, DL.subD, DL.mulD, DL.divD, DL.modD, DL.powD, DL.ltD, DL.leD, DL.gtD, DL.geD, DL.II, DL.subI, DL.cmpI, DL.negD, DL.addD_int, DL.ix_t0, DL.ix_t1, DL.ix_t2, DL.eqA_int, DL.eqA_pair, DL.intD_int, DL.intA_int, DL.intA_bl, DL.absD, DL.le1, DL.le2, DL.le3, DL.le4, DL.le5, DL.le8, DL.le9, Nat.zero_le, Bool.not_true, Bool.not_false, Bool.false_eq_true, DL.eqA_bl, eq_self, Int.reduceEq, Int.reduceLT, Int.reduceNeg, Bool.false_xor, Bool.true_xor, decide_true, decide_false, decide_eq_true_eq]
end L07
set_option maxHeartbeats 2000000
set_option exponentiation.threshold 4000
namespace L07
open PySem PySem.Spec PyProof.Rows L2 DL PA
/-! ### what is written of two pairs and a third one -/
def okP (p : Int × Int) : Prop := p.1.natAbs.log2 < 1920 ∧ p.2.natAbs.log2 < 1920
theorem okP_of {p : Int × Int} (h1 : p.1.natAbs < 2 ^ 1900) (h2 : p.2.natAbs < 2 ^ 1900) : okP p := by
  have k : ∀ {a : Nat}, a < 2 ^ 1900 → a.log2 < 1920 := fun {a} h => by
    by_cases z : a = 0
    · subst z; decide
    · exact Nat.lt_trans ((Nat.log2_lt z).mpr h) (by decide)
  exact ⟨k h1, k h2⟩
def pyP (p : Int × Int) : PyData := .tuple [.int p.1, .int p.2]
theorem toPy_P2 (p : Int × Int) : toPy (P2 p) = some (pyP p) := rfl
theorem lvI {i : Int} (h : i.natAbs.log2 < 1920) : PyData.leavesShort 1921 (.int i) = true := leafI h
theorem lvP {p : Int × Int} (h : okP p) : PyData.leavesShort 1921 (pyP p) = true := by
  show (PyData.leavesShort 1921 (.int p.1) && (PyData.leavesShort 1921 (.int p.2) && true)) = true
  rw [leafI h.1, leafI h.2]; rfl
theorem shP {p : Int × Int} (h : okP p) : PyData.showable (pyP p) = true := by
  show (PyData.showable (.int p.1) && (PyData.showable (.int p.2) && true)) = true
  have e : ∀ {i : Int}, i.natAbs.log2 < 1920 → PyData.showable (.int i) = true := fun {i} h => by simpa [PyData.showable] using h
  rw [e h.1, e h.2]; rfl
def py1 (i : Bool) (A B C : Int × Int) : PyData := .list [.bool i, .tuple [pyP A, pyP B], pyP C]
def py2 (i : Bool) (A B C : Int × Int) : PyData := .list [.tuple [pyP A, pyP B], .bool i, pyP C]
theorem repr1 {i : Bool} {A B C : Int × Int} (hA : okP A) (hB : okP B) (hC : okP C) : reprD (.lst [.bl i, .tup [P2 A, P2 B], P2 C]) = some (.str (py1 i A B C).shown) := by
  refine repr_of rfl (shw_of ?_ rfl (by show max 0 (max (max (max 0 (max 0 0) + 1) (max (max 0 (max 0 0) + 1) 0) + 1) (max (max 0 (max 0 0) + 1) 0)) + 1 ≤ 60; decide) ?_ (by show 0 + 1 + ((0 + 1 + (0 + 1 + 0)) + 1 + ((0 + 1 + (0 + 1 + 0)) + 1 + 0) + 1 + ((0 + 1 + (0 + 1 + 0)) + 1 + 0)) ≤ 8000; decide))
  · show (true && ((PyData.showable (pyP A) && (PyData.showable (pyP B) && true)) && (PyData.showable (pyP C) && true))) = true
    rw [shP hA, shP hB, shP hC]; rfl
  · show (true && ((PyData.leavesShort 1921 (pyP A) && (PyData.leavesShort 1921 (pyP B) && true)) && (PyData.leavesShort 1921 (pyP C) && true))) = true
    rw [lvP hA, lvP hB, lvP hC]; rfl
theorem repr2 {i : Bool} {A B C : Int × Int} (hA : okP A) (hB : okP B) (hC : okP C) : reprD (.lst [.tup [P2 A, P2 B], .bl i, P2 C]) = some (.str (py2 i A B C).shown) := by
  refine repr_of rfl (shw_of ?_ rfl (by show max (max (max 0 (max 0 0) + 1) (max (max 0 (max 0 0) + 1) 0) + 1) (max 0 (max (max 0 (max 0 0) + 1) 0)) + 1 ≤ 60; decide) ?_ (by show (0 + 1 + (0 + 1 + 0)) + 1 + ((0 + 1 + (0 + 1 + 0)) + 1 + 0) + 1 + (0 + 1 + ((0 + 1 + (0 + 1 + 0)) + 1 + 0)) ≤ 8000; decide))
  · show ((PyData.showable (pyP A) && (PyData.showable (pyP B) && true)) && (true && (PyData.showable (pyP C) && true))) = true
    rw [shP hA, shP hB, shP hC]; rfl
  · show ((PyData.leavesShort 1921 (pyP A) && (PyData.leavesShort 1921 (pyP B) && true)) && (true && (PyData.leavesShort 1921 (pyP C) && true))) = true
    rw [lvP hA, lvP hB, lvP hC]; rfl
/-! ### numbers m b^e -/
theorem low_le {x u : Int} (hu : 0 < u) : (lowP x u).1.natAbs ≤ x.natAbs ∧ (lowP x u).2.natAbs ≤ u.natAbs := by
  obtain ⟨a1, a2⟩ := low_mul (t := x) (u := u)
  have g := g_pos (t := x) hu
  have k : ∀ {a c : Int} {n : Nat}, 0 < n → a * (n : Int) = c → a.natAbs ≤ c.natAbs := fun {a c n} hn h => by
    rw [← h, Int.natAbs_mul, Int.natAbs_natCast]
    exact Nat.le_mul_of_pos_right _ hn
  exact ⟨k g a1, k g a2⟩
theorem worth_ok {b : Nat} {s e : Int} {n : Nat} (h1 : 2 ≤ b) (hs : s.natAbs < 2 ^ 312) (hup : up b e < 2 ^ n) (hdn : dn b e < 2 ^ (311 + n)) (hn : n ≤ 1100) : (worth b s e).1.natAbs < 2 ^ 1450 ∧ (worth b s e).2.natAbs < 2 ^ 1450 ∧ 0 < (worth b s e).2 := by
  have hp := dn_pos h1 e
  have q := low_le (x := s * ((up b e : Nat) : Int)) (u := ((dn b e : Nat) : Int)) (by omega)
  refine ⟨Nat.lt_of_le_of_lt q.1 (small (mul_lt2 hs (nat_lt hup)) (by omega)), Nat.lt_of_le_of_lt q.2 (small (nat_lt hdn) (by omega)), low_pos (by omega)⟩
theorem toNat_pos {x : Int} (h : 0 < x) : ((x.toNat : Nat) : Int) = x := by omega
/-- m b^e stands in the format -/
theorem r_in_worth {b d : Nat} {s e : Int} {n : Nat} (h1 : 2 ≤ b) (h2 : b ≤ 36) (h3 : 1 ≤ d) (h4 : d ≤ 60) (hs0 : s ≠ 0) (hs : s.natAbs ≤ b ^ d) (hup : up b e < 2 ^ n) (hdn : dn b e < 2 ^ (311 + n)) (hn : n ≤ 1100) (M : MS) :
    φ_is_in [Fm b d, P2 (worth b s e)] M = some (.ret (.bl true) M) := by
  have hs2 : s.natAbs < 2 ^ 312 := p2lt (Nat.lt_of_le_of_lt hs (b60 h2 h4)) (by omega)
  obtain ⟨k1, k2, k3⟩ := worth_ok h1 hs2 hup hdn hn
  have hp := dn_pos h1 e
  have hup0 := up_pos h1 e
  have cr := low_cross (t := s * ((up b e : Nat) : Int)) (u := ((dn b e : Nat) : Int))
  have cr : (worth b s e).1 * ((dn b e : Nat) : Int) = s * ((up b e : Nat) : Int) * (worth b s e).2 := cr
  have co : Nat.Coprime (worth b s e).1.natAbs (worth b s e).2.natAbs := low_co (by omega)
  generalize worth b s e = p at *
  obtain ⟨x, y⟩ := p
  simp only at k1 k2 k3 cr co
  obtain ⟨Y, rfl⟩ : ∃ Y : Nat, y = (Y : Int) := ⟨y.toNat, by omega⟩
  have cn : x.natAbs * dn b e = s.natAbs * (Y * up b e) := by
    have := congrArg Int.natAbs cr
    rw [Int.natAbs_mul, Int.natAbs_mul, Int.natAbs_mul, Int.natAbs_natCast, Int.natAbs_natCast, Int.natAbs_natCast] at this
    rw [this, Nat.mul_assoc, Nat.mul_comm (up b e)]
  have hY : 0 < Y := by omega
  rw [Int.natAbs_natCast] at k2 co
  have hx : 0 < x.natAbs := by
    rcases Nat.eq_zero_or_pos x.natAbs with z | z
    · rw [z, Nat.zero_mul] at cn
      have := Nat.mul_pos (show 0 < s.natAbs by omega) (Nat.mul_pos hY hup0)
      omega
    · exact z
  obtain ⟨g, hg⟩ := ex_exists (b := b) h1 hx hY k1 k2
  have gd : Good 1450 b d x Y (g - d) := ⟨h1, h2, h3, h4, by omega, hY, k1, k2, by rw [show g - (d : Int) + d = g by omega]; exact hg⟩
  have := r_is_in (by omega) gd co M
  rw [in_full h1 h3 hY gd.hx hs cn] at this
  exact this
end L07
set_option maxHeartbeats 4000000
set_option exponentiation.threshold 4000
namespace L07
open PySem PySem.Spec PyProof.Rows L2 DL PA
/-- the two of them, whatever the sign -/
def sA (b U : Nat) (t e : Int) : Int × Int := if 0 < t then near b t.natAbs U e else turn (far b t.natAbs U e)
def sB (b U : Nat) (t e : Int) : Int × Int := if 0 < t then far b t.natAbs U e else turn (near b t.natAbs U e)
theorem toldD_eq (b U : Nat) (t e : Int) : toldD b U t e = .tup [P2 (sA b U t e), P2 (sB b U t e)] := by
  unfold toldD sA sB
  split <;> rfl
def wN (b U : Nat) (t e : Int) : Nat := whole b t.natAbs U e
def wF (b U : Nat) (t e : Int) : Nat := if inside b t.natAbs U e = true then whole b t.natAbs U e else whole b t.natAbs U e + 1
def sg (t : Int) : Int := if 0 < t then 1 else -1
theorem sA_eq (b U : Nat) (t e : Int) : sA b U t e = if 0 < t then worth b (sg t * (wN b U t e : Nat)) e else worth b (sg t * (wF b U t e : Nat)) e := by
  unfold sA sg
  split
  · rw [Int.one_mul]; rfl
  · rw [Int.neg_mul, Int.one_mul, worth_neg]; rfl
theorem sB_eq (b U : Nat) (t e : Int) : sB b U t e = if 0 < t then worth b (sg t * (wF b U t e : Nat)) e else worth b (sg t * (wN b U t e : Nat)) e := by
  unfold sB sg
  split
  · rw [Int.one_mul]; rfl
  · rw [Int.neg_mul, Int.one_mul, worth_neg]; rfl
theorem turn_turn (p : Int × Int) : turn (turn p) = p := by unfold turn; simp
theorem flipA (b U : Nat) {t : Int} (e : Int) (ht : t ≠ 0) : sA b U (0 - t) e = turn (sB b U t e) ∧ sB b U (0 - t) e = turn (sA b U t e) := by
  have hn : (0 - t).natAbs = t.natAbs := by omega
  unfold sA sB
  rw [hn]
  by_cases h : 0 < t
  · rw [if_neg (show ¬ 0 < 0 - t by omega), if_pos h, if_neg (show ¬ 0 < 0 - t by omega), if_pos h]; exact ⟨rfl, rfl⟩
  · rw [if_pos (show 0 < 0 - t by omega), if_neg h, if_pos (show 0 < 0 - t by omega), if_neg h, turn_turn, turn_turn]; exact ⟨rfl, rfl⟩
section
variable {n b d U : Nat} {t e : Int} (hn : n ≤ 1000) (g : Good n b d t U e) (co : Nat.Coprime t.natAbs U) (M : MS)
include hn g
theorem w_b : 1 ≤ wN b U t e ∧ wN b U t e < b ^ d ∧ 1 ≤ wF b U t e ∧ wF b U t e ≤ b ^ d ∧ wN b U t e < 2 ^ 312 ∧ wF b U t e < 2 ^ 312 := by
  obtain ⟨q1, q2⟩ := whole_bounds g.h1 g.d1 g.u0 g.hx
  have q3 : 0 < b ^ (d - 1) := Nat.pow_pos (by have := g.h1; omega)
  have q4 := b60 g.hb g.d2
  have q5 : (2 : Nat) ^ 312 = 2 ^ 311 + 2 ^ 311 := by rw [← Nat.two_mul, ← Nat.pow_succ']
  unfold wN wF
  split <;> omega
theorem sg_ok (m : Nat) (h1 : 1 ≤ m) (h2 : m ≤ b ^ d) : sg t * (m : Int) ≠ 0 ∧ (sg t * (m : Int)).natAbs = m := by
  unfold sg
  split <;> omega
theorem s_in : (∀ M, φ_is_in [Fm b d, P2 (sA b U t e)] M = some (.ret (.bl true) M)) ∧ (∀ M, φ_is_in [Fm b d, P2 (sB b U t e)] M = some (.ret (.bl true) M)) ∧ okP (sA b U t e) ∧ okP (sB b U t e) ∧
    (sA b U t e).1.natAbs < 2 ^ 1450 ∧ (sA b U t e).2.natAbs < 2 ^ 1450 ∧ (sB b U t e).1.natAbs < 2 ^ 1450 ∧ (sB b U t e).2.natAbs < 2 ^ 1450 := by
  obtain ⟨a1, a2, a3, a4, a5, a6⟩ := w_b hn g
  obtain ⟨x1, x2⟩ := sg_ok hn g (wN b U t e) a1 (by omega)
  obtain ⟨y1, y2⟩ := sg_ok hn g (wF b U t e) a3 a4
  have k1 := fun M => r_in_worth g.h1 g.hb g.d1 g.d2 x1 (by rw [x2]; omega) g.upl g.dnl (by omega) M
  have k2 := fun M => r_in_worth g.h1 g.hb g.d1 g.d2 y1 (by rw [y2]; omega) g.upl g.dnl (by omega) M
  obtain ⟨u1, u2, _⟩ := worth_ok (s := sg t * (wN b U t e : Nat)) g.h1 (by rw [x2]; exact a5) g.upl g.dnl (by omega)
  obtain ⟨v1, v2, _⟩ := worth_ok (s := sg t * (wF b U t e : Nat)) g.h1 (by rw [y2]; exact a6) g.upl g.dnl (by omega)
  have o1 := okP_of (p2lt u1 (by omega)) (p2lt u2 (by omega))
  have o2 := okP_of (p2lt v1 (by omega)) (p2lt v2 (by omega))
  rw [sA_eq, sB_eq]
  split
  · exact ⟨k1, k2, o1, o2, u1, u2, v1, v2⟩
  · exact ⟨k2, k1, o2, o1, v1, v2, u1, u2⟩
/-- the lower one is not above, the greater one not below -/
theorem s_cmp : (sA b U t e).1 * (U : Int) ≤ t * (sA b U t e).2 ∧ t * (sB b U t e).2 ≤ (sB b U t e).1 * (U : Int) := by
  have hp := dn_pos g.h1 e
  have hu := up_pos g.h1 e
  have pq : 0 < U * up b e := Nat.mul_pos g.u0 hu
  -- whole * bottom ≤ top < (whole + 1) * bottom
  have d1 : whole b t.natAbs U e * (U * up b e) ≤ t.natAbs * dn b e := by unfold whole; exact Nat.div_mul_le_self _ _
  have d2 : t.natAbs * dn b e ≤ wF b U t e * (U * up b e) := by
    unfold wF
    split
    · rename_i h
      exact Nat.le_of_eq (inside_iff.mp h)
    · unfold whole
      exact Nat.le_of_lt (by rw [Nat.mul_comm (t.natAbs * dn b e / (U * up b e) + 1)]; exact Nat.lt_mul_div_succ _ pq)
  -- of m b^e: crosswise by its own parts
  have key : ∀ s : Int, 0 < (worth b s e).2 ∧ (worth b s e).1 * ((dn b e : Nat) : Int) = s * ((up b e : Nat) : Int) * (worth b s e).2 := fun s => ⟨low_pos (by omega), low_cross⟩
  have lo : ∀ (s : Int), s * ((U : Int) * ((up b e : Nat) : Int)) ≤ t * ((dn b e : Nat) : Int) → (worth b s e).1 * (U : Int) ≤ t * (worth b s e).2 := fun s h => by
    obtain ⟨k1, k2⟩ := key s
    refine Int.le_of_mul_le_mul_right (a := ((dn b e : Nat) : Int)) ?_ (by omega)
    calc (worth b s e).1 * (U : Int) * ((dn b e : Nat) : Int) = ((worth b s e).1 * ((dn b e : Nat) : Int)) * (U : Int) := by rw [Int.mul_assoc, Int.mul_comm (U : Int), ← Int.mul_assoc]
      _ = s * ((U : Int) * ((up b e : Nat) : Int)) * (worth b s e).2 := by rw [k2]; simp only [Int.mul_assoc, Int.mul_comm, Int.mul_left_comm]
      _ ≤ t * ((dn b e : Nat) : Int) * (worth b s e).2 := Int.mul_le_mul_of_nonneg_right h (by omega)
      _ = t * (worth b s e).2 * ((dn b e : Nat) : Int) := by rw [Int.mul_assoc, Int.mul_comm ((dn b e : Nat) : Int), ← Int.mul_assoc]
  have hi : ∀ (s : Int), t * ((dn b e : Nat) : Int) ≤ s * ((U : Int) * ((up b e : Nat) : Int)) → t * (worth b s e).2 ≤ (worth b s e).1 * (U : Int) := fun s h => by
    obtain ⟨k1, k2⟩ := key s
    refine Int.le_of_mul_le_mul_right (a := ((dn b e : Nat) : Int)) ?_ (by omega)
    calc t * (worth b s e).2 * ((dn b e : Nat) : Int) = t * ((dn b e : Nat) : Int) * (worth b s e).2 := by rw [Int.mul_assoc, Int.mul_comm (worth b s e).2, ← Int.mul_assoc]
      _ ≤ s * ((U : Int) * ((up b e : Nat) : Int)) * (worth b s e).2 := Int.mul_le_mul_of_nonneg_right h (by omega)
      _ = ((worth b s e).1 * ((dn b e : Nat) : Int)) * (U : Int) := by rw [k2]; simp only [Int.mul_assoc, Int.mul_comm, Int.mul_left_comm]
      _ = (worth b s e).1 * (U : Int) * ((dn b e : Nat) : Int) := by rw [Int.mul_assoc, Int.mul_comm ((dn b e : Nat) : Int), ← Int.mul_assoc]
  have c1 : ((wN b U t e : Nat) : Int) * ((U : Int) * ((up b e : Nat) : Int)) ≤ ((t.natAbs : Nat) : Int) * ((dn b e : Nat) : Int) := by
    rw [← Int.natCast_mul, ← Int.natCast_mul, ← Int.natCast_mul]; exact Int.ofNat_le.mpr d1
  have c2 : ((t.natAbs : Nat) : Int) * ((dn b e : Nat) : Int) ≤ ((wF b U t e : Nat) : Int) * ((U : Int) * ((up b e : Nat) : Int)) := by
    rw [← Int.natCast_mul, ← Int.natCast_mul, ← Int.natCast_mul]; exact Int.ofNat_le.mpr d2
  rw [sA_eq, sB_eq]
  by_cases h : 0 < t
  · rw [if_pos h, if_pos h]
    have ht : ((t.natAbs : Nat) : Int) = t := by omega
    rw [ht] at c1 c2
    unfold sg
    rw [if_pos h, Int.one_mul, Int.one_mul]
    exact ⟨lo _ c1, hi _ c2⟩
  · rw [if_neg h, if_neg h]
    have ht : ((t.natAbs : Nat) : Int) = -t := by omega
    rw [ht] at c1 c2
    unfold sg
    rw [if_neg h]
    refine ⟨lo _ ?_, hi _ ?_⟩
    · rw [Int.neg_mul, Int.one_mul, Int.neg_mul]; rw [Int.neg_mul] at c2; omega
    · rw [Int.neg_mul, Int.one_mul, Int.neg_mul]; rw [Int.neg_mul] at c1; omega
end
end L07
set_option maxHeartbeats 4000000
set_option exponentiation.threshold 4000
namespace L07
open PySem PySem.Spec PyProof.Rows L2 DL PA
theorem P2_0 (p : Int × Int) : ixD (P2 p) (.int 0) = some (.int p.1) := ix_t0 _ _
theorem P2_1 (p : Int × Int) : ixD (P2 p) (.int 1) = some (.int p.2) := ix_t1 _ _ _
theorem isB_tt : isA true (.bl true) (.bl true) = some (.bl false) := rfl
theorem revT2 (a b : D) : revT (.tup [a, b]) = some (.tup [b, a]) := rfl
theorem tup_lst (ds : List D) : tupleD (.lst ds) = some (.tup ds) := rfl
/-- 0 - x of a pair's first -/
def neg0 : D → D
  | .tup [.int x, y] => .tup [.int (0 - x), y]
  | d => d
theorem neg0_P2 (p : Int × Int) : neg0 (P2 p) = P2 (turn p) := by
  show D.tup [.int (0 - p.1), .int p.2] = D.tup [.int (-p.1), .int p.2]
  rw [Int.zero_sub]
theorem k0_one (Fm' b' d' P e' m' i' a' N' F' D' L' : D) (A B : Int × Int) (M : MS) : k0__law_one_right [some (SV.t (Fm')), some (SV.t (b')), some (SV.t (d')), some (SV.t (P)), some (SV.t (e')), some (SV.t (m')), some (SV.t (i')), some (SV.t (a')), some (SV.t (N')), some (SV.t (F')), some (SV.t (D')), some (SV.t (.tup [P2 A, P2 B])), some (SV.t (L')), none, none] M =
    some (.ok (.lst [P2 (turn B), P2 (turn A)]) [some (SV.t (Fm')), some (SV.t (b')), some (SV.t (d')), some (SV.t (P)), some (SV.t (e')), some (SV.t (m')), some (SV.t (i')), some (SV.t (a')), some (SV.t (N')), some (SV.t (F')), some (SV.t (D')), some (SV.t (.tup [P2 A, P2 B])), some (SV.t (L')), none, none] M) := by
  have h := comp_map (vs := [14]) (b := bName 14) (u := dTup (aCons (dBin subD (dC (.int 0)) (dBin ixD (dPeek 14) (dC (.int 0)))) (aCons (dBin ixD (dPeek 14) (dC (.int 1))) aNil))) (M := M) (M1 := M)
    (ρ := [some (SV.t (Fm')), some (SV.t (b')), some (SV.t (d')), some (SV.t (P)), some (SV.t (e')), some (SV.t (m')), some (SV.t (i')), some (SV.t (a')), some (SV.t (N')), some (SV.t (F')), some (SV.t (D')), some (SV.t (.tup [P2 A, P2 B])), some (SV.t (L')), none, none]) (ρ1 := [some (SV.t (Fm')), some (SV.t (b')), some (SV.t (d')), some (SV.t (P)), some (SV.t (e')), some (SV.t (m')), some (SV.t (i')), some (SV.t (a')), some (SV.t (N')), some (SV.t (F')), some (SV.t (D')), some (SV.t (.tup [P2 A, P2 B])), some (SV.t (L')), none, none])
    (ds := [P2 B, P2 A]) (src := iBind (dUn revT (dPeek 11)) itemsD) neg0 (seq_eq (d := .tup [P2 B, P2 A]) (by simp only [revT2, DL.dFn, DL.dFi, DL.sSeq, DL.sSet, DL.sIf, DL.sRet, DL.sRetN, DL.sDrop, DL.sBind, DL.sAsg, DL.sPar, DL.sPar3, DL.sNext, DL.dC, DL.dVar, DL.dPeek, DL.dBind, DL.dOut, DL.dUn, DL.dBin, DL.dTru, DL.dNot, DL.dAndT, DL.dOrT, DL.dAndV, DL.dOrV, DL.dIfE, DL.aNil, DL.aCons, DL.aBind, DL.fits, DL.dApp, DL.dRet, DL.dTup, DL.dLst, DL.truD, DL.bName, DL.bTup, DL.bCons, DL.bNil, DL.pick_eq, DL.Src.get, List.filterMap_cons, List.filterMap_nil, List.getElem?_cons_zero, List.getElem?_cons_succ, List.length_cons, List.length_nil, List.set_cons_zero, List.set_cons_succ, List.map_cons, List.map_nil, List.cons_append, List.nil_append, List.append_nil, List.append_assoc, List.reduceReplicate, Nat.reduceAdd, Nat.reduceSub, Nat.reduceLeDiff, Nat.reduceEqDiff, ↓reduceIte, DL.subD, DL.mulD, DL.divD, DL.modD, DL.powD, DL.ltD, DL.leD, DL.gtD, DL.geD, DL.II, DL.subI, DL.cmpI, DL.negD, DL.addD_int, DL.ix_t0, DL.ix_t1, DL.ix_t2, DL.eqA_int, DL.eqA_pair, DL.intD_int, DL.intA_int, DL.intA_bl, DL.absD, DL.le1, DL.le2, DL.le3, DL.le4, DL.le5, DL.le8, DL.le9, Nat.zero_le, Bool.not_true, Bool.not_false, Bool.false_eq_true, DL.eqA_bl, eq_self, Int.reduceEq, Int.reduceLT, Int.reduceNeg, Bool.false_xor, Bool.true_xor, decide_true, decide_false, decide_eq_true_eq]) rfl) rfl (by decide) (line_nat (by show 2 ≤ 16777216; decide)) (fun x hx => by
      have : ∃ p : Int × Int, x = P2 p := by
        rcases List.mem_cons.mp hx with h | h
        · exact ⟨B, h⟩
        · rcases List.mem_cons.mp h with h | h
          · exact ⟨A, h⟩
          · cases h
      obtain ⟨p, rfl⟩ := this
      refine ⟨_, rfl, ?_⟩
      show (dTup (aCons (dBin subD (dC (.int 0)) (dBin ixD (dPeek 14) (dC (.int 0)))) (aCons (dBin ixD (dPeek 14) (dC (.int 1))) aNil))) [some (SV.t (Fm')), some (SV.t (b')), some (SV.t (d')), some (SV.t (P)), some (SV.t (e')), some (SV.t (m')), some (SV.t (i')), some (SV.t (a')), some (SV.t (N')), some (SV.t (F')), some (SV.t (D')), some (SV.t (.tup [P2 A, P2 B])), some (SV.t (L')), none, some (SV.t (P2 p))] M = some (.ok (neg0 (P2 p)) [some (SV.t (Fm')), some (SV.t (b')), some (SV.t (d')), some (SV.t (P)), some (SV.t (e')), some (SV.t (m')), some (SV.t (i')), some (SV.t (a')), some (SV.t (N')), some (SV.t (F')), some (SV.t (D')), some (SV.t (.tup [P2 A, P2 B])), some (SV.t (L')), none, some (SV.t (P2 p))] M)
      simp only [P2_0, P2_1, DL.dFn, DL.dFi, DL.sSeq, DL.sSet, DL.sIf, DL.sRet, DL.sRetN, DL.sDrop, DL.sBind, DL.sAsg, DL.sPar, DL.sPar3, DL.sNext, DL.dC, DL.dVar, DL.dPeek, DL.dBind, DL.dOut, DL.dUn, DL.dBin, DL.dTru, DL.dNot, DL.dAndT, DL.dOrT, DL.dAndV, DL.dOrV, DL.dIfE, DL.aNil, DL.aCons, DL.aBind, DL.fits, DL.dApp, DL.dRet, DL.dTup, DL.dLst, DL.truD, DL.bName, DL.bTup, DL.bCons, DL.bNil, DL.pick_eq, DL.Src.get, List.filterMap_cons, List.filterMap_nil, List.getElem?_cons_zero, List.getElem?_cons_succ, List.length_cons, List.length_nil, List.set_cons_zero, List.set_cons_succ, List.map_cons, List.map_nil, List.cons_append, List.nil_append, List.append_nil, List.append_assoc, List.reduceReplicate, Nat.reduceAdd, Nat.reduceSub, Nat.reduceLeDiff, Nat.reduceEqDiff, ↓reduceIte, DL.subD, DL.mulD, DL.divD, DL.modD, DL.powD, DL.ltD, DL.leD, DL.gtD, DL.geD, DL.II, DL.subI, DL.cmpI, DL.negD, DL.addD_int, DL.ix_t0, DL.ix_t1, DL.ix_t2, DL.eqA_int, DL.eqA_pair, DL.intD_int, DL.intA_int, DL.intA_bl, DL.absD, DL.le1, DL.le2, DL.le3, DL.le4, DL.le5, DL.le8, DL.le9, Nat.zero_le, Bool.not_true, Bool.not_false, Bool.false_eq_true, DL.eqA_bl, eq_self, Int.reduceEq, Int.reduceLT, Int.reduceNeg, Bool.false_xor, Bool.true_xor, decide_true, decide_false, decide_eq_true_eq]
      rfl)
  rw [List.map_cons, List.map_cons, List.map_nil, neg0_P2, neg0_P2] at h
  exact h
section
variable {b d U : Nat} {t e : Int} (g : Good 1000 b d t U e) (co : Nat.Coprime t.natAbs U) (M : MS)
include g co
theorem r_one_right : φ__law_one_right [Fm b d, I b, I d, .tup [.int t, I U]] M = some (.ret (.bl true) M) := by
  have hb := g.hb
  have hb1 := g.h1
  obtain ⟨er1, er2⟩ := g.er (by omega)
  obtain ⟨a1, a2, a3, a4, a5, a6⟩ := w_b (Nat.le_refl _) g
  obtain ⟨x1, x2⟩ := sg_ok (Nat.le_refl _) g (wN b U t e) a1 (by omega)
  obtain ⟨y1, y2⟩ := sg_ok (Nat.le_refl _) g (wF b U t e) a3 a4
  obtain ⟨inA, inB, okA, okB, sA1, sA2, sB1, sB2⟩ := s_in (Nat.le_refl _) g
  obtain ⟨cA, cB⟩ := s_cmp (Nat.le_refl _) g
  have hdn8 : dn b e < 2 ^ 8000 := p2lt g.dnl (by omega)
  have wt : ∀ (s : Int), s.natAbs < 2 ^ 312 → ∀ M, φ__law_worth [.int s, I b, .int e] M = some (.ret (P2 (worth b s e)) M) := fun s hs M => r_worth b s e hb1 (by omega) (by omega) (small hs (by omega)) hdn8 M
  have w1 := wt (sg t * (wN b U t e : Nat)) (by rw [x2]; exact a5)
  have w2 := wt (sg t * (wF b U t e : Nat)) (by rw [y2]; exact a6)
  have w3 := wt 1 (by decide)
  have xs := r_law_sides (n := 1000) (by omega) g
  have xn := fun M => (r_neighbours (by omega) g co M).trans (by rw [toldD_eq])
  have xi := r_is_in (n := 1000) (by omega) g co
  have xu := r_ulp (n := 1000) (by omega) g co
  have ok1 : okP (worth b 1 e) := by
    obtain ⟨u1, u2, _⟩ := worth_ok (s := 1) g.h1 (by decide) g.upl g.dnl (by omega)
    exact okP_of (p2lt u1 (by omega)) (p2lt u2 (by omega))
  have ht := g.ht
  have hn : (0 - t).natAbs = t.natAbs := by omega
  have g' : Good 1000 b d (0 - t) U e := ⟨g.h1, g.hb, g.d1, g.d2, by omega, g.u0, by rw [hn]; exact g.hT, g.hU, by rw [hn]; exact g.hx⟩
  have co' : Nat.Coprime (0 - t).natAbs U := by rw [hn]; exact co
  have xn' := fun M => (r_neighbours (by omega) g' co' M).trans (by rw [toldD_eq])
  have xi' : ∀ M, φ_is_in [Fm b d, .tup [.int (0 - t), I U]] M = some (.ret (.bl (inside b t.natAbs U e)) M) := fun M => by
    have := r_is_in (by omega) g' co' M
    rw [hn] at this
    exact this
  have xu' := r_ulp (n := 1000) (by omega) g' co'
  obtain ⟨fl1, fl2⟩ := flipA b U e ht
  generalize hA : sA b U t e = A at *
  generalize hB : sB b U t e = B at *
  have okTA : okP (turn A) := ⟨by show (-A.1).natAbs.log2 < 1920; rw [Int.natAbs_neg]; exact okA.1, okA.2⟩
  have okTB : okP (turn B) := ⟨by show (-B.1).natAbs.log2 < 1920; rw [Int.natAbs_neg]; exact okB.1, okB.2⟩
  rw [fl1, fl2] at xn'
  have hU5 : ((U : Nat) : Int).natAbs < 2 ^ 1000 := nat_lt g.hU
  have rcA : ∀ M, φ__law_cmp [P2 A, .tup [.int t, I U]] M = some (.ret (.int ((if t * A.2 < A.1 * (U : Int) then 1 else 0) - (if A.1 * (U : Int) < t * A.2 then 1 else 0))) M) := fun M => r_cmp A.1 A.2 t U M (mulOk_of sA1 hU5) (mulOk_of g.hT sA2)
  have rcB : ∀ M, φ__law_cmp [P2 B, .tup [.int t, I U]] M = some (.ret (.int ((if t * B.2 < B.1 * (U : Int) then 1 else 0) - (if B.1 * (U : Int) < t * B.2 then 1 else 0))) M) := fun M => r_cmp B.1 B.2 t U M (mulOk_of sB1 hU5) (mulOk_of g.hT sB2)
  have nA : ¬ (0 : Int) < (if t * A.2 < A.1 * (U : Int) then 1 else 0) - (if A.1 * (U : Int) < t * A.2 then 1 else 0) := by
    rw [if_neg (show ¬ t * A.2 < A.1 * (U : Int) by omega)]
    split <;> omega
  have nB : ¬ (if t * B.2 < B.1 * (U : Int) then (1 : Int) else 0) - (if B.1 * (U : Int) < t * B.2 then 1 else 0) < 0 := by
    rw [if_neg (show ¬ B.1 * (U : Int) < t * B.2 by omega)]
    split <;> omega
  have due : (if 0 < t then D.tup [P2 (worth b (sg t * (wN b U t e : Nat)) e), P2 (worth b (sg t * (wF b U t e : Nat)) e)] else D.tup [P2 (worth b (sg t * (wF b U t e : Nat)) e), P2 (worth b (sg t * (wN b U t e : Nat)) e)]) = D.tup [P2 A, P2 B] := by
    rw [← hA, ← hB, sA_eq, sB_eq]
    split <;> rfl
  have r1 := repr1 (i := inside b t.natAbs U e) okA okB ok1
  have r2 := repr2 (i := inside b t.natAbs U e) okTB okTA ok1
  unfold φ__law_one_right m__law_one_right
  refine dFn_rt rfl ?_
  show sSeq _ _ [some (SV.t (Fm b d)), some (SV.t (I b)), some (SV.t (I d)), some (SV.t (.tup [.int t, I U])), none, none, none, none, none, none, none, none, none, none, none] M = _
  refine Eq.trans (DL.seq_nx (ρ1 := [some (SV.t (Fm b d)), some (SV.t (I b)), some (SV.t (I d)), some (SV.t (.tup [.int t, I U])), some (SV.t (.int e)), some (SV.t (I (wN b U t e))), some (SV.t (.bl (inside b t.natAbs U e))), none, none, none, none, none, none, none, none]) (M1 := M) ?_) ?_
  · refine asg_p (d := .tup [.int e, I (wN b U t e), .bl (inside b t.natAbs U e)]) (ρ1 := [some (SV.t (Fm b d)), some (SV.t (I b)), some (SV.t (I d)), some (SV.t (.tup [.int t, I U])), none, none, none, none, none, none, none, none, none, none, none]) (M1 := M) ?_ (by simp only [DL.dFn, DL.dFi, DL.sSeq, DL.sSet, DL.sIf, DL.sRet, DL.sRetN, DL.sDrop, DL.sBind, DL.sAsg, DL.sPar, DL.sPar3, DL.sNext, DL.dC, DL.dVar, DL.dPeek, DL.dBind, DL.dOut, DL.dUn, DL.dBin, DL.dTru, DL.dNot, DL.dAndT, DL.dOrT, DL.dAndV, DL.dOrV, DL.dIfE, DL.aNil, DL.aCons, DL.aBind, DL.fits, DL.dApp, DL.dRet, DL.dTup, DL.dLst, DL.truD, DL.bName, DL.bTup, DL.bCons, DL.bNil, DL.pick_eq, DL.Src.get, List.filterMap_cons, List.filterMap_nil, List.getElem?_cons_zero, List.getElem?_cons_succ, List.length_cons, List.length_nil, List.set_cons_zero, List.set_cons_succ, List.map_cons, List.map_nil, List.cons_append, List.nil_append, List.append_nil, List.append_assoc, List.reduceReplicate, Nat.reduceAdd, Nat.reduceSub, Nat.reduceLeDiff, Nat.reduceEqDiff, ↓reduceIte, DL.subD, DL.mulD, DL.divD, DL.modD, DL.powD, DL.ltD, DL.leD, DL.gtD, DL.geD, DL.II, DL.subI, DL.cmpI, DL.negD, DL.addD_int, DL.ix_t0, DL.ix_t1, DL.ix_t2, DL.eqA_int, DL.eqA_pair, DL.intD_int, DL.intA_int, DL.intA_bl, DL.absD, DL.le1, DL.le2, DL.le3, DL.le4, DL.le5, DL.le8, DL.le9, Nat.zero_le, Bool.not_true, Bool.not_false, Bool.false_eq_true, DL.eqA_bl, eq_self, Int.reduceEq, Int.reduceLT, Int.reduceNeg, Bool.false_xor, Bool.true_xor, decide_true, decide_false, decide_eq_true_eq])
    refine call_p (vs := [I b, I d, .tup [.int t, I U]]) (ws := [I b, I d, .tup [.int t, I U]]) (ρ1 := [some (SV.t (Fm b d)), some (SV.t (I b)), some (SV.t (I d)), some (SV.t (.tup [.int t, I U])), none, none, none, none, none, none, none, none, none, none, none]) (M1 := M) ?_ rfl rfl rfl (xs M)
    simp only [DL.dFn, DL.dFi, DL.sSeq, DL.sSet, DL.sIf, DL.sRet, DL.sRetN, DL.sDrop, DL.sBind, DL.sAsg, DL.sPar, DL.sPar3, DL.sNext, DL.dC, DL.dVar, DL.dPeek, DL.dBind, DL.dOut, DL.dUn, DL.dBin, DL.dTru, DL.dNot, DL.dAndT, DL.dOrT, DL.dAndV, DL.dOrV, DL.dIfE, DL.aNil, DL.aCons, DL.aBind, DL.fits, DL.dApp, DL.dRet, DL.dTup, DL.dLst, DL.truD, DL.bName, DL.bTup, DL.bCons, DL.bNil, DL.pick_eq, DL.Src.get, List.filterMap_cons, List.filterMap_nil, List.getElem?_cons_zero, List.getElem?_cons_succ, List.length_cons, List.length_nil, List.set_cons_zero, List.set_cons_succ, List.map_cons, List.map_nil, List.cons_append, List.nil_append, List.append_nil, List.append_assoc, List.reduceReplicate, Nat.reduceAdd, Nat.reduceSub, Nat.reduceLeDiff, Nat.reduceEqDiff, ↓reduceIte, DL.subD, DL.mulD, DL.divD, DL.modD, DL.powD, DL.ltD, DL.leD, DL.gtD, DL.geD, DL.II, DL.subI, DL.cmpI, DL.negD, DL.addD_int, DL.ix_t0, DL.ix_t1, DL.ix_t2, DL.eqA_int, DL.eqA_pair, DL.intD_int, DL.intA_int, DL.intA_bl, DL.absD, DL.le1, DL.le2, DL.le3, DL.le4, DL.le5, DL.le8, DL.le9, Nat.zero_le, Bool.not_true, Bool.not_false, Bool.false_eq_true, DL.eqA_bl, eq_self, Int.reduceEq, Int.reduceLT, Int.reduceNeg, Bool.false_xor, Bool.true_xor, decide_true, decide_false, decide_eq_true_eq]
  refine Eq.trans (DL.seq_nx (ρ1 := [some (SV.t (Fm b d)), some (SV.t (I b)), some (SV.t (I d)), some (SV.t (.tup [.int t, I U])), some (SV.t (.int e)), some (SV.t (I (wN b U t e))), some (SV.t (.bl (inside b t.natAbs U e))), some (SV.t (.int (sg t))), none, none, none, none, none, none, none]) (M1 := M) ?_) ?_
  · unfold sg
    by_cases h : 0 < t
    · simp only [decide_eq_true h, if_pos h, DL.dFn, DL.dFi, DL.sSeq, DL.sSet, DL.sIf, DL.sRet, DL.sRetN, DL.sDrop, DL.sBind, DL.sAsg, DL.sPar, DL.sPar3, DL.sNext, DL.dC, DL.dVar, DL.dPeek, DL.dBind, DL.dOut, DL.dUn, DL.dBin, DL.dTru, DL.dNot, DL.dAndT, DL.dOrT, DL.dAndV, DL.dOrV, DL.dIfE, DL.aNil, DL.aCons, DL.aBind, DL.fits, DL.dApp, DL.dRet, DL.dTup, DL.dLst, DL.truD, DL.bName, DL.bTup, DL.bCons, DL.bNil, DL.pick_eq, DL.Src.get, List.filterMap_cons, List.filterMap_nil, List.getElem?_cons_zero, List.getElem?_cons_succ, List.length_cons, List.length_nil, List.set_cons_zero, List.set_cons_succ, List.map_cons, List.map_nil, List.cons_append, List.nil_append, List.append_nil, List.append_assoc, List.reduceReplicate, Nat.reduceAdd, Nat.reduceSub, Nat.reduceLeDiff, Nat.reduceEqDiff, ↓reduceIte, DL.subD, DL.mulD, DL.divD, DL.modD, DL.powD, DL.ltD, DL.leD, DL.gtD, DL.geD, DL.II, DL.subI, DL.cmpI, DL.negD, DL.addD_int, DL.ix_t0, DL.ix_t1, DL.ix_t2, DL.eqA_int, DL.eqA_pair, DL.intD_int, DL.intA_int, DL.intA_bl, DL.absD, DL.le1, DL.le2, DL.le3, DL.le4, DL.le5, DL.le8, DL.le9, Nat.zero_le, Bool.not_true, Bool.not_false, Bool.false_eq_true, DL.eqA_bl, eq_self, Int.reduceEq, Int.reduceLT, Int.reduceNeg, Bool.false_xor, Bool.true_xor, decide_true, decide_false, decide_eq_true_eq]
    · simp only [decide_eq_false h, if_neg h, DL.dFn, DL.dFi, DL.sSeq, DL.sSet, DL.sIf, DL.sRet, DL.sRetN, DL.sDrop, DL.sBind, DL.sAsg, DL.sPar, DL.sPar3, DL.sNext, DL.dC, DL.dVar, DL.dPeek, DL.dBind, DL.dOut, DL.dUn, DL.dBin, DL.dTru, DL.dNot, DL.dAndT, DL.dOrT, DL.dAndV, DL.dOrV, DL.dIfE, DL.aNil, DL.aCons, DL.aBind, DL.fits, DL.dApp, DL.dRet, DL.dTup, DL.dLst, DL.truD, DL.bName, DL.bTup, DL.bCons, DL.bNil, DL.pick_eq, DL.Src.get, List.filterMap_cons, List.filterMap_nil, List.getElem?_cons_zero, List.getElem?_cons_succ, List.length_cons, List.length_nil, List.set_cons_zero, List.set_cons_succ, List.map_cons, List.map_nil, List.cons_append, List.nil_append, List.append_nil, List.append_assoc, List.reduceReplicate, Nat.reduceAdd, Nat.reduceSub, Nat.reduceLeDiff, Nat.reduceEqDiff, ↓reduceIte, DL.subD, DL.mulD, DL.divD, DL.modD, DL.powD, DL.ltD, DL.leD, DL.gtD, DL.geD, DL.II, DL.subI, DL.cmpI, DL.negD, DL.addD_int, DL.ix_t0, DL.ix_t1, DL.ix_t2, DL.eqA_int, DL.eqA_pair, DL.intD_int, DL.intA_int, DL.intA_bl, DL.absD, DL.le1, DL.le2, DL.le3, DL.le4, DL.le5, DL.le8, DL.le9, Nat.zero_le, Bool.not_true, Bool.not_false, Bool.false_eq_true, DL.eqA_bl, eq_self, Int.reduceEq, Int.reduceLT, Int.reduceNeg, Bool.false_xor, Bool.true_xor, decide_true, decide_false, decide_eq_true_eq]
  refine Eq.trans (DL.seq_nx (ρ1 := [some (SV.t (Fm b d)), some (SV.t (I b)), some (SV.t (I d)), some (SV.t (.tup [.int t, I U])), some (SV.t (.int e)), some (SV.t (I (wN b U t e))), some (SV.t (.bl (inside b t.natAbs U e))), some (SV.t (.int (sg t))), some (SV.t (P2 (worth b (sg t * (wN b U t e : Nat)) e))), some (SV.t (P2 (worth b (sg t * (wF b U t e : Nat)) e))), none, none, none, none, none]) (M1 := M) ?_) ?_
  · have mk : ∀ x : Int, mulOk (sg t) x := fun x => .inl (by unfold sg; split <;> decide)
    by_cases h : inside b t.natAbs U e = true
    · have hF : wF b U t e = wN b U t e := by unfold wF wN; rw [if_pos h]
      rw [hF] at w2 ⊢
      rw [h]
      simp only [mulI_ok (mk _), w1, DL.dFn, DL.dFi, DL.sSeq, DL.sSet, DL.sIf, DL.sRet, DL.sRetN, DL.sDrop, DL.sBind, DL.sAsg, DL.sPar, DL.sPar3, DL.sNext, DL.dC, DL.dVar, DL.dPeek, DL.dBind, DL.dOut, DL.dUn, DL.dBin, DL.dTru, DL.dNot, DL.dAndT, DL.dOrT, DL.dAndV, DL.dOrV, DL.dIfE, DL.aNil, DL.aCons, DL.aBind, DL.fits, DL.dApp, DL.dRet, DL.dTup, DL.dLst, DL.truD, DL.bName, DL.bTup, DL.bCons, DL.bNil, DL.pick_eq, DL.Src.get, List.filterMap_cons, List.filterMap_nil, List.getElem?_cons_zero, List.getElem?_cons_succ, List.length_cons, List.length_nil, List.set_cons_zero, List.set_cons_succ, List.map_cons, List.map_nil, List.cons_append, List.nil_append, List.append_nil, List.append_assoc, List.reduceReplicate, Nat.reduceAdd, Nat.reduceSub, Nat.reduceLeDiff, Nat.reduceEqDiff, ↓reduceIte, DL.subD, DL.mulD, DL.divD, DL.modD, DL.powD, DL.ltD, DL.leD, DL.gtD, DL.geD, DL.II, DL.subI, DL.cmpI, DL.negD, DL.addD_int, DL.ix_t0, DL.ix_t1, DL.ix_t2, DL.eqA_int, DL.eqA_pair, DL.intD_int, DL.intA_int, DL.intA_bl, DL.absD, DL.le1, DL.le2, DL.le3, DL.le4, DL.le5, DL.le8, DL.le9, Nat.zero_le, Bool.not_true, Bool.not_false, Bool.false_eq_true, DL.eqA_bl, eq_self, Int.reduceEq, Int.reduceLT, Int.reduceNeg, Bool.false_xor, Bool.true_xor, decide_true, decide_false, decide_eq_true_eq]
    · have hF : wF b U t e = wN b U t e + 1 := by unfold wF wN; rw [if_neg h]
      have h' : inside b t.natAbs U e = false := by simpa using h
      rw [hF, show ((wN b U t e + 1 : Nat) : Int) = ((wN b U t e : Nat) : Int) + 1 from rfl] at w2
      rw [hF, h', show ((wN b U t e + 1 : Nat) : Int) = ((wN b U t e : Nat) : Int) + 1 from rfl]
      simp only [mulI_ok (mk _), w1, w2, DL.dFn, DL.dFi, DL.sSeq, DL.sSet, DL.sIf, DL.sRet, DL.sRetN, DL.sDrop, DL.sBind, DL.sAsg, DL.sPar, DL.sPar3, DL.sNext, DL.dC, DL.dVar, DL.dPeek, DL.dBind, DL.dOut, DL.dUn, DL.dBin, DL.dTru, DL.dNot, DL.dAndT, DL.dOrT, DL.dAndV, DL.dOrV, DL.dIfE, DL.aNil, DL.aCons, DL.aBind, DL.fits, DL.dApp, DL.dRet, DL.dTup, DL.dLst, DL.truD, DL.bName, DL.bTup, DL.bCons, DL.bNil, DL.pick_eq, DL.Src.get, List.filterMap_cons, List.filterMap_nil, List.getElem?_cons_zero, List.getElem?_cons_succ, List.length_cons, List.length_nil, List.set_cons_zero, List.set_cons_succ, List.map_cons, List.map_nil, List.cons_append, List.nil_append, List.append_nil, List.append_assoc, List.reduceReplicate, Nat.reduceAdd, Nat.reduceSub, Nat.reduceLeDiff, Nat.reduceEqDiff, ↓reduceIte, DL.subD, DL.mulD, DL.divD, DL.modD, DL.powD, DL.ltD, DL.leD, DL.gtD, DL.geD, DL.II, DL.subI, DL.cmpI, DL.negD, DL.addD_int, DL.ix_t0, DL.ix_t1, DL.ix_t2, DL.eqA_int, DL.eqA_pair, DL.intD_int, DL.intA_int, DL.intA_bl, DL.absD, DL.le1, DL.le2, DL.le3, DL.le4, DL.le5, DL.le8, DL.le9, Nat.zero_le, Bool.not_true, Bool.not_false, Bool.false_eq_true, DL.eqA_bl, eq_self, Int.reduceEq, Int.reduceLT, Int.reduceNeg, Bool.false_xor, Bool.true_xor, decide_true, decide_false, decide_eq_true_eq]
  refine Eq.trans (DL.seq_nx (ρ1 := [some (SV.t (Fm b d)), some (SV.t (I b)), some (SV.t (I d)), some (SV.t (.tup [.int t, I U])), some (SV.t (.int e)), some (SV.t (I (wN b U t e))), some (SV.t (.bl (inside b t.natAbs U e))), some (SV.t (.int (sg t))), some (SV.t (P2 (worth b (sg t * (wN b U t e : Nat)) e))), some (SV.t (P2 (worth b (sg t * (wF b U t e : Nat)) e))), some (SV.t (.tup [P2 A, P2 B])), none, none, none, none]) (M1 := M) ?_) ?_
  · by_cases h : 0 < t
    · rw [if_pos h] at due
      have h' : (0 : Int) < sg t := by unfold sg; rw [if_pos h]; decide
      rw [← due]
      simp only [decide_eq_true h', DL.dFn, DL.dFi, DL.sSeq, DL.sSet, DL.sIf, DL.sRet, DL.sRetN, DL.sDrop, DL.sBind, DL.sAsg, DL.sPar, DL.sPar3, DL.sNext, DL.dC, DL.dVar, DL.dPeek, DL.dBind, DL.dOut, DL.dUn, DL.dBin, DL.dTru, DL.dNot, DL.dAndT, DL.dOrT, DL.dAndV, DL.dOrV, DL.dIfE, DL.aNil, DL.aCons, DL.aBind, DL.fits, DL.dApp, DL.dRet, DL.dTup, DL.dLst, DL.truD, DL.bName, DL.bTup, DL.bCons, DL.bNil, DL.pick_eq, DL.Src.get, List.filterMap_cons, List.filterMap_nil, List.getElem?_cons_zero, List.getElem?_cons_succ, List.length_cons, List.length_nil, List.set_cons_zero, List.set_cons_succ, List.map_cons, List.map_nil, List.cons_append, List.nil_append, List.append_nil, List.append_assoc, List.reduceReplicate, Nat.reduceAdd, Nat.reduceSub, Nat.reduceLeDiff, Nat.reduceEqDiff, ↓reduceIte, DL.subD, DL.mulD, DL.divD, DL.modD, DL.powD, DL.ltD, DL.leD, DL.gtD, DL.geD, DL.II, DL.subI, DL.cmpI, DL.negD, DL.addD_int, DL.ix_t0, DL.ix_t1, DL.ix_t2, DL.eqA_int, DL.eqA_pair, DL.intD_int, DL.intA_int, DL.intA_bl, DL.absD, DL.le1, DL.le2, DL.le3, DL.le4, DL.le5, DL.le8, DL.le9, Nat.zero_le, Bool.not_true, Bool.not_false, Bool.false_eq_true, DL.eqA_bl, eq_self, Int.reduceEq, Int.reduceLT, Int.reduceNeg, Bool.false_xor, Bool.true_xor, decide_true, decide_false, decide_eq_true_eq]
    · rw [if_neg h] at due
      have h' : ¬ (0 : Int) < sg t := by unfold sg; rw [if_neg h]; decide
      rw [← due]
      simp only [decide_eq_false h', DL.dFn, DL.dFi, DL.sSeq, DL.sSet, DL.sIf, DL.sRet, DL.sRetN, DL.sDrop, DL.sBind, DL.sAsg, DL.sPar, DL.sPar3, DL.sNext, DL.dC, DL.dVar, DL.dPeek, DL.dBind, DL.dOut, DL.dUn, DL.dBin, DL.dTru, DL.dNot, DL.dAndT, DL.dOrT, DL.dAndV, DL.dOrV, DL.dIfE, DL.aNil, DL.aCons, DL.aBind, DL.fits, DL.dApp, DL.dRet, DL.dTup, DL.dLst, DL.truD, DL.bName, DL.bTup, DL.bCons, DL.bNil, DL.pick_eq, DL.Src.get, List.filterMap_cons, List.filterMap_nil, List.getElem?_cons_zero, List.getElem?_cons_succ, List.length_cons, List.length_nil, List.set_cons_zero, List.set_cons_succ, List.map_cons, List.map_nil, List.cons_append, List.nil_append, List.append_nil, List.append_assoc, List.reduceReplicate, Nat.reduceAdd, Nat.reduceSub, Nat.reduceLeDiff, Nat.reduceEqDiff, ↓reduceIte, DL.subD, DL.mulD, DL.divD, DL.modD, DL.powD, DL.ltD, DL.leD, DL.gtD, DL.geD, DL.II, DL.subI, DL.cmpI, DL.negD, DL.addD_int, DL.ix_t0, DL.ix_t1, DL.ix_t2, DL.eqA_int, DL.eqA_pair, DL.intD_int, DL.intA_int, DL.intA_bl, DL.absD, DL.le1, DL.le2, DL.le3, DL.le4, DL.le5, DL.le8, DL.le9, Nat.zero_le, Bool.not_true, Bool.not_false, Bool.false_eq_true, DL.eqA_bl, eq_self, Int.reduceEq, Int.reduceLT, Int.reduceNeg, Bool.false_xor, Bool.true_xor, decide_true, decide_false, decide_eq_true_eq]
  generalize P2 (worth b (sg t * (wN b U t e : Nat)) e) = N'
  generalize P2 (worth b (sg t * (wF b U t e : Nat)) e) = F'
  refine Eq.trans (DL.seq_nx (ρ1 := [some (SV.t (Fm b d)), some (SV.t (I b)), some (SV.t (I d)), some (SV.t (.tup [.int t, I U])), some (SV.t (.int e)), some (SV.t (I (wN b U t e))), some (SV.t (.bl (inside b t.natAbs U e))), some (SV.t (.int (sg t))), some (SV.t (N')), some (SV.t (F')), some (SV.t (.tup [P2 A, P2 B])), some (SV.t (.tup [P2 A, P2 B])), none, none, none]) (M1 := M) ?_) ?_
  · simp only [xn, DL.dFn, DL.dFi, DL.sSeq, DL.sSet, DL.sIf, DL.sRet, DL.sRetN, DL.sDrop, DL.sBind, DL.sAsg, DL.sPar, DL.sPar3, DL.sNext, DL.dC, DL.dVar, DL.dPeek, DL.dBind, DL.dOut, DL.dUn, DL.dBin, DL.dTru, DL.dNot, DL.dAndT, DL.dOrT, DL.dAndV, DL.dOrV, DL.dIfE, DL.aNil, DL.aCons, DL.aBind, DL.fits, DL.dApp, DL.dRet, DL.dTup, DL.dLst, DL.truD, DL.bName, DL.bTup, DL.bCons, DL.bNil, DL.pick_eq, DL.Src.get, List.filterMap_cons, List.filterMap_nil, List.getElem?_cons_zero, List.getElem?_cons_succ, List.length_cons, List.length_nil, List.set_cons_zero, List.set_cons_succ, List.map_cons, List.map_nil, List.cons_append, List.nil_append, List.append_nil, List.append_assoc, List.reduceReplicate, Nat.reduceAdd, Nat.reduceSub, Nat.reduceLeDiff, Nat.reduceEqDiff, ↓reduceIte, DL.subD, DL.mulD, DL.divD, DL.modD, DL.powD, DL.ltD, DL.leD, DL.gtD, DL.geD, DL.II, DL.subI, DL.cmpI, DL.negD, DL.addD_int, DL.ix_t0, DL.ix_t1, DL.ix_t2, DL.eqA_int, DL.eqA_pair, DL.intD_int, DL.intA_int, DL.intA_bl, DL.absD, DL.le1, DL.le2, DL.le3, DL.le4, DL.le5, DL.le8, DL.le9, Nat.zero_le, Bool.not_true, Bool.not_false, Bool.false_eq_true, DL.eqA_bl, eq_self, Int.reduceEq, Int.reduceLT, Int.reduceNeg, Bool.false_xor, Bool.true_xor, decide_true, decide_false, decide_eq_true_eq]
  refine Eq.trans (DL.seq_nx (ρ1 := [some (SV.t (Fm b d)), some (SV.t (I b)), some (SV.t (I d)), some (SV.t (.tup [.int t, I U])), some (SV.t (.int e)), some (SV.t (I (wN b U t e))), some (SV.t (.bl (inside b t.natAbs U e))), some (SV.t (.int (sg t))), some (SV.t (N')), some (SV.t (F')), some (SV.t (.tup [P2 A, P2 B])), some (SV.t (.tup [P2 A, P2 B])), none, none, none]) (M1 := M) ?_) ?_
  · simp only [xi, xu, w3, r1, eqA_str, Bool.xor_true, Bool.not_true, DL.dFn, DL.dFi, DL.sSeq, DL.sSet, DL.sIf, DL.sRet, DL.sRetN, DL.sDrop, DL.sBind, DL.sAsg, DL.sPar, DL.sPar3, DL.sNext, DL.dC, DL.dVar, DL.dPeek, DL.dBind, DL.dOut, DL.dUn, DL.dBin, DL.dTru, DL.dNot, DL.dAndT, DL.dOrT, DL.dAndV, DL.dOrV, DL.dIfE, DL.aNil, DL.aCons, DL.aBind, DL.fits, DL.dApp, DL.dRet, DL.dTup, DL.dLst, DL.truD, DL.bName, DL.bTup, DL.bCons, DL.bNil, DL.pick_eq, DL.Src.get, List.filterMap_cons, List.filterMap_nil, List.getElem?_cons_zero, List.getElem?_cons_succ, List.length_cons, List.length_nil, List.set_cons_zero, List.set_cons_succ, List.map_cons, List.map_nil, List.cons_append, List.nil_append, List.append_nil, List.append_assoc, List.reduceReplicate, Nat.reduceAdd, Nat.reduceSub, Nat.reduceLeDiff, Nat.reduceEqDiff, ↓reduceIte, DL.subD, DL.mulD, DL.divD, DL.modD, DL.powD, DL.ltD, DL.leD, DL.gtD, DL.geD, DL.II, DL.subI, DL.cmpI, DL.negD, DL.addD_int, DL.ix_t0, DL.ix_t1, DL.ix_t2, DL.eqA_int, DL.eqA_pair, DL.intD_int, DL.intA_int, DL.intA_bl, DL.absD, DL.le1, DL.le2, DL.le3, DL.le4, DL.le5, DL.le8, DL.le9, Nat.zero_le, Bool.not_true, Bool.not_false, Bool.false_eq_true, DL.eqA_bl, eq_self, Int.reduceEq, Int.reduceLT, Int.reduceNeg, Bool.false_xor, Bool.true_xor, decide_true, decide_false, decide_eq_true_eq]
  refine Eq.trans (DL.seq_nx (ρ1 := [some (SV.t (Fm b d)), some (SV.t (I b)), some (SV.t (I d)), some (SV.t (.tup [.int t, I U])), some (SV.t (.int e)), some (SV.t (I (wN b U t e))), some (SV.t (.bl (inside b t.natAbs U e))), some (SV.t (.int (sg t))), some (SV.t (N')), some (SV.t (F')), some (SV.t (.tup [P2 A, P2 B])), some (SV.t (.tup [P2 A, P2 B])), none, none, none]) (M1 := M) ?_) ?_
  · simp only [rcA, rcB, decide_eq_false nA, decide_eq_false nB, inA, inB, isB_tt, DL.dFn, DL.dFi, DL.sSeq, DL.sSet, DL.sIf, DL.sRet, DL.sRetN, DL.sDrop, DL.sBind, DL.sAsg, DL.sPar, DL.sPar3, DL.sNext, DL.dC, DL.dVar, DL.dPeek, DL.dBind, DL.dOut, DL.dUn, DL.dBin, DL.dTru, DL.dNot, DL.dAndT, DL.dOrT, DL.dAndV, DL.dOrV, DL.dIfE, DL.aNil, DL.aCons, DL.aBind, DL.fits, DL.dApp, DL.dRet, DL.dTup, DL.dLst, DL.truD, DL.bName, DL.bTup, DL.bCons, DL.bNil, DL.pick_eq, DL.Src.get, List.filterMap_cons, List.filterMap_nil, List.getElem?_cons_zero, List.getElem?_cons_succ, List.length_cons, List.length_nil, List.set_cons_zero, List.set_cons_succ, List.map_cons, List.map_nil, List.cons_append, List.nil_append, List.append_nil, List.append_assoc, List.reduceReplicate, Nat.reduceAdd, Nat.reduceSub, Nat.reduceLeDiff, Nat.reduceEqDiff, ↓reduceIte, DL.subD, DL.mulD, DL.divD, DL.modD, DL.powD, DL.ltD, DL.leD, DL.gtD, DL.geD, DL.II, DL.subI, DL.cmpI, DL.negD, DL.addD_int, DL.ix_t0, DL.ix_t1, DL.ix_t2, DL.eqA_int, DL.eqA_pair, DL.intD_int, DL.intA_int, DL.intA_bl, DL.absD, DL.le1, DL.le2, DL.le3, DL.le4, DL.le5, DL.le8, DL.le9, Nat.zero_le, Bool.not_true, Bool.not_false, Bool.false_eq_true, DL.eqA_bl, eq_self, Int.reduceEq, Int.reduceLT, Int.reduceNeg, Bool.false_xor, Bool.true_xor, decide_true, decide_false, decide_eq_true_eq]
  refine Eq.trans (DL.seq_nx (ρ1 := [some (SV.t (Fm b d)), some (SV.t (I b)), some (SV.t (I d)), some (SV.t (.tup [.int t, I U])), some (SV.t (.int e)), some (SV.t (I (wN b U t e))), some (SV.t (.bl (inside b t.natAbs U e))), some (SV.t (.int (sg t))), some (SV.t (N')), some (SV.t (F')), some (SV.t (.tup [P2 A, P2 B])), some (SV.t (.tup [P2 A, P2 B])), some (SV.t (.tup [.int (0 - t), I U])), none, none]) (M1 := M) ?_) ?_
  · simp only [DL.dFn, DL.dFi, DL.sSeq, DL.sSet, DL.sIf, DL.sRet, DL.sRetN, DL.sDrop, DL.sBind, DL.sAsg, DL.sPar, DL.sPar3, DL.sNext, DL.dC, DL.dVar, DL.dPeek, DL.dBind, DL.dOut, DL.dUn, DL.dBin, DL.dTru, DL.dNot, DL.dAndT, DL.dOrT, DL.dAndV, DL.dOrV, DL.dIfE, DL.aNil, DL.aCons, DL.aBind, DL.fits, DL.dApp, DL.dRet, DL.dTup, DL.dLst, DL.truD, DL.bName, DL.bTup, DL.bCons, DL.bNil, DL.pick_eq, DL.Src.get, List.filterMap_cons, List.filterMap_nil, List.getElem?_cons_zero, List.getElem?_cons_succ, List.length_cons, List.length_nil, List.set_cons_zero, List.set_cons_succ, List.map_cons, List.map_nil, List.cons_append, List.nil_append, List.append_nil, List.append_assoc, List.reduceReplicate, Nat.reduceAdd, Nat.reduceSub, Nat.reduceLeDiff, Nat.reduceEqDiff, ↓reduceIte, DL.subD, DL.mulD, DL.divD, DL.modD, DL.powD, DL.ltD, DL.leD, DL.gtD, DL.geD, DL.II, DL.subI, DL.cmpI, DL.negD, DL.addD_int, DL.ix_t0, DL.ix_t1, DL.ix_t2, DL.eqA_int, DL.eqA_pair, DL.intD_int, DL.intA_int, DL.intA_bl, DL.absD, DL.le1, DL.le2, DL.le3, DL.le4, DL.le5, DL.le8, DL.le9, Nat.zero_le, Bool.not_true, Bool.not_false, Bool.false_eq_true, DL.eqA_bl, eq_self, Int.reduceEq, Int.reduceLT, Int.reduceNeg, Bool.false_xor, Bool.true_xor, decide_true, decide_false, decide_eq_true_eq]
  refine Eq.trans (DL.seq_nx (ρ1 := [some (SV.t (Fm b d)), some (SV.t (I b)), some (SV.t (I d)), some (SV.t (.tup [.int t, I U])), some (SV.t (.int e)), some (SV.t (I (wN b U t e))), some (SV.t (.bl (inside b t.natAbs U e))), some (SV.t (.int (sg t))), some (SV.t (N')), some (SV.t (F')), some (SV.t (.tup [P2 A, P2 B])), some (SV.t (.tup [P2 A, P2 B])), some (SV.t (.tup [.int (0 - t), I U])), some (SV.t (.tup [P2 (turn B), P2 (turn A)])), none]) (M1 := M) ?_) ?_
  · simp only [k0_one, tup_lst, DL.dFn, DL.dFi, DL.sSeq, DL.sSet, DL.sIf, DL.sRet, DL.sRetN, DL.sDrop, DL.sBind, DL.sAsg, DL.sPar, DL.sPar3, DL.sNext, DL.dC, DL.dVar, DL.dPeek, DL.dBind, DL.dOut, DL.dUn, DL.dBin, DL.dTru, DL.dNot, DL.dAndT, DL.dOrT, DL.dAndV, DL.dOrV, DL.dIfE, DL.aNil, DL.aCons, DL.aBind, DL.fits, DL.dApp, DL.dRet, DL.dTup, DL.dLst, DL.truD, DL.bName, DL.bTup, DL.bCons, DL.bNil, DL.pick_eq, DL.Src.get, List.filterMap_cons, List.filterMap_nil, List.getElem?_cons_zero, List.getElem?_cons_succ, List.length_cons, List.length_nil, List.set_cons_zero, List.set_cons_succ, List.map_cons, List.map_nil, List.cons_append, List.nil_append, List.append_nil, List.append_assoc, List.reduceReplicate, Nat.reduceAdd, Nat.reduceSub, Nat.reduceLeDiff, Nat.reduceEqDiff, ↓reduceIte, DL.subD, DL.mulD, DL.divD, DL.modD, DL.powD, DL.ltD, DL.leD, DL.gtD, DL.geD, DL.II, DL.subI, DL.cmpI, DL.negD, DL.addD_int, DL.ix_t0, DL.ix_t1, DL.ix_t2, DL.eqA_int, DL.eqA_pair, DL.intD_int, DL.intA_int, DL.intA_bl, DL.absD, DL.le1, DL.le2, DL.le3, DL.le4, DL.le5, DL.le8, DL.le9, Nat.zero_le, Bool.not_true, Bool.not_false, Bool.false_eq_true, DL.eqA_bl, eq_self, Int.reduceEq, Int.reduceLT, Int.reduceNeg, Bool.false_xor, Bool.true_xor, decide_true, decide_false, decide_eq_true_eq]
  simp only [xn', xi', xu', xu, r2, eqA_str, DL.dFn, DL.dFi, DL.sSeq, DL.sSet, DL.sIf, DL.sRet, DL.sRetN, DL.sDrop, DL.sBind, DL.sAsg, DL.sPar, DL.sPar3, DL.sNext, DL.dC, DL.dVar, DL.dPeek, DL.dBind, DL.dOut, DL.dUn, DL.dBin, DL.dTru, DL.dNot, DL.dAndT, DL.dOrT, DL.dAndV, DL.dOrV, DL.dIfE, DL.aNil, DL.aCons, DL.aBind, DL.fits, DL.dApp, DL.dRet, DL.dTup, DL.dLst, DL.truD, DL.bName, DL.bTup, DL.bCons, DL.bNil, DL.pick_eq, DL.Src.get, List.filterMap_cons, List.filterMap_nil, List.getElem?_cons_zero, List.getElem?_cons_succ, List.length_cons, List.length_nil, List.set_cons_zero, List.set_cons_succ, List.map_cons, List.map_nil, List.cons_append, List.nil_append, List.append_nil, List.append_assoc, List.reduceReplicate, Nat.reduceAdd, Nat.reduceSub, Nat.reduceLeDiff, Nat.reduceEqDiff, ↓reduceIte, DL.subD, DL.mulD, DL.divD, DL.modD, DL.powD, DL.ltD, DL.leD, DL.gtD, DL.geD, DL.II, DL.subI, DL.cmpI, DL.negD, DL.addD_int, DL.ix_t0, DL.ix_t1, DL.ix_t2, DL.eqA_int, DL.eqA_pair, DL.intD_int, DL.intA_int, DL.intA_bl, DL.absD, DL.le1, DL.le2, DL.le3, DL.le4, DL.le5, DL.le8, DL.le9, Nat.zero_le, Bool.not_true, Bool.not_false, Bool.false_eq_true, DL.eqA_bl, eq_self, Int.reduceEq, Int.reduceLT, Int.reduceNeg, Bool.false_xor, Bool.true_xor, decide_true, decide_false, decide_eq_true_eq]
end
end L07
set_option maxHeartbeats 4000000
set_option exponentiation.threshold 4000
namespace L07
open PySem PySem.Spec PyProof.Rows L2 DL PA
theorem eqTT (n : Bool) (A B : Int × Int) : eqA n (.tup [P2 A, P2 B]) (.tup [P2 A, P2 B]) = some (.bl (xor n true)) := by
  rw [eqA_tup]
  refine eqD_of (p := .tuple [pyP A, pyP B]) (q := .tuple [pyP A, pyP B]) rfl rfl rfl rfl ?_
  show ((A.1 == A.1 && (A.2 == A.2 && true)) && ((B.1 == B.1 && (B.2 == B.2 && true)) && true)) = true
  simp
theorem worth_shift {b : Nat} (s e c : Int) (h1 : 2 ≤ b) : worth b s (e + c) = lowP ((worth b s e).1 * ((up b c : Nat) : Int)) ((worth b s e).2 * ((dn b c : Nat) : Int)) := by
  have k1 : 0 < (worth b s e).2 := low_pos (by have := dn_pos h1 e; omega)
  have k2 : (worth b s e).1 * ((dn b e : Nat) : Int) = s * ((up b e : Nat) : Int) * (worth b s e).2 := low_cross
  generalize worth b s e = p at *
  obtain ⟨x, y⟩ := p
  simp only at k1 k2 ⊢
  have d1 := dn_pos h1 e
  have d2 := dn_pos h1 c
  have d3 := dn_pos h1 (e + c)
  have q := congrArg (fun z : Nat => (z : Int)) (up_add (b := b) e c)
  simp only [Int.natCast_mul] at q
  generalize hE : ((dn b e : Nat) : Int) = E at *
  generalize hC : ((dn b c : Nat) : Int) = C at *
  generalize hS : ((dn b (e + c) : Nat) : Int) = S at *
  have hE0 : 0 < E := by omega
  have hC0 : 0 < C := by omega
  have hS0 : 0 < S := by omega
  unfold worth
  rw [hS]
  refine low_eq hS0 (Int.mul_pos k1 hC0) (Int.eq_of_mul_eq_mul_right (a := E) (by omega) ?_)
  calc s * ((up b (e + c) : Nat) : Int) * (y * C) * E = s * y * (((up b (e + c) : Nat) : Int) * (E * C)) := by simp only [Int.mul_assoc, Int.mul_comm, Int.mul_left_comm]
    _ = s * y * (((up b e : Nat) : Int) * ((up b c : Nat) : Int) * S) := by rw [q]
    _ = (s * ((up b e : Nat) : Int) * y) * (((up b c : Nat) : Int) * S) := by simp only [Int.mul_assoc, Int.mul_comm, Int.mul_left_comm]
    _ = (x * E) * (((up b c : Nat) : Int) * S) := by rw [k2]
    _ = x * ((up b c : Nat) : Int) * S * E := by simp only [Int.mul_assoc, Int.mul_comm, Int.mul_left_comm]
/-- times b^c -/
def mvF (b : Nat) (c : Int) : D → D
  | .tup [.int x, .int y] => P2 (lowP (x * ((up b c : Nat) : Int)) (y * ((dn b c : Nat) : Int)))
  | d => d
theorem tup2_lst (a b : D) : itemsD (.tup [a, b]) = some [a, b] := rfl
section
variable {b d U U2 : Nat} {t t2 e c : Int} (g : Good 1000 b d t U e) (hc1 : -20 ≤ c) (hc2 : c ≤ 20) (hm : lowP (t * ((up b c : Nat) : Int)) ((U : Int) * ((dn b c : Nat) : Int)) = (t2, (U2 : Int)))
include g hc1 hc2 hm
theorem mv_small : up b c < 2 ^ 121 ∧ dn b c < 2 ^ 121 := ⟨up_b (k := 20) g.hb (by omega), dn_b (k := 20) g.hb (by omega)⟩
theorem mv_good : Good 1121 b d t2 U2 (e + c) ∧ Nat.Coprime t2.natAbs U2 ∧ (0 < t2 ↔ 0 < t) ∧ whole b t2.natAbs U2 (e + c) = whole b t.natAbs U e ∧ inside b t2.natAbs U2 (e + c) = inside b t.natAbs U e := by
  obtain ⟨s1, s2⟩ := mv_small g hc1 hc2 hm
  have hu0 := g.u0
  have hp := dn_pos g.h1 c
  have hup := up_pos g.h1 c
  have hpos : 0 < (U : Int) * ((dn b c : Nat) : Int) := Int.mul_pos (by omega) (by omega)
  have q1 := low_pos (t := t * ((up b c : Nat) : Int)) hpos
  have q2 := low_co (t := t * ((up b c : Nat) : Int)) hpos
  have q3 := low_cross (t := t * ((up b c : Nat) : Int)) (u := (U : Int) * ((dn b c : Nat) : Int))
  have q4 := low_le (x := t * ((up b c : Nat) : Int)) hpos
  rw [hm] at q1 q2 q3 q4
  simp only at q1 q2 q3 q4
  rw [Int.natAbs_natCast] at q2 q4
  have hU2 : 0 < U2 := by omega
  have cr : t2.natAbs * (U * dn b c) = t.natAbs * up b c * U2 := by
    have := congrArg Int.natAbs q3
    rw [Int.natAbs_mul, Int.natAbs_mul, Int.natAbs_mul, Int.natAbs_mul, Int.natAbs_natCast, Int.natAbs_natCast, Int.natAbs_natCast, Int.natAbs_natCast] at this
    exact this
  have ht := g.ht
  have sgn : 0 < t2 ↔ 0 < t := by
    have p1 : 0 < (U : Int) * ((dn b c : Nat) : Int) := hpos
    have p2 : 0 < ((up b c : Nat) : Int) * (U2 : Int) := Int.mul_pos (by omega) (by omega)
    rw [Int.mul_assoc] at q3
    constructor
    · intro h
      have h5 : 0 < t * (((up b c : Nat) : Int) * (U2 : Int)) := by rw [← q3]; exact Int.mul_pos h p1
      exact Int.pos_of_mul_pos_left h5 p2 
    · intro h
      have h5 : 0 < t2 * ((U : Int) * ((dn b c : Nat) : Int)) := by rw [q3]; exact Int.mul_pos h p2
      exact Int.pos_of_mul_pos_left h5 p1
  have ht2 : t2 ≠ 0 := fun z => by
    rw [z] at cr
    have := Nat.mul_pos (Nat.mul_pos (show 0 < t.natAbs by omega) hup) hU2
    simp at cr
    omega
  refine ⟨⟨g.h1, g.hb, g.d1, g.d2, ht2, hU2, ?_, ?_, ?_⟩, q2, sgn, whole_shift g.h1 g.u0 hU2 cr e⟩
  · exact Nat.lt_of_le_of_lt q4.1 (small (mul_lt2 g.hT (nat_lt s1)) (by omega))
  · refine Nat.lt_of_le_of_lt q4.2 (small (mul_lt2 (nat_lt g.hU) (nat_lt s2)) (by omega))
  · rw [show e + c + (d : Int) = e + d + c by omega]
    exact ex_shift g.h1 g.u0 hU2 cr g.hx
theorem mv_sides : sA b U2 t2 (e + c) = lowP ((sA b U t e).1 * ((up b c : Nat) : Int)) ((sA b U t e).2 * ((dn b c : Nat) : Int)) ∧ sB b U2 t2 (e + c) = lowP ((sB b U t e).1 * ((up b c : Nat) : Int)) ((sB b U t e).2 * ((dn b c : Nat) : Int)) := by
  obtain ⟨g2, co2, sgn, w1, w2⟩ := mv_good g hc1 hc2 hm
  have e1 : wN b U2 t2 (e + c) = wN b U t e := w1
  have e2 : wF b U2 t2 (e + c) = wF b U t e := by unfold wF; rw [w1, w2]
  have e3 : sg t2 = sg t := by unfold sg; by_cases h : 0 < t <;> simp [sgn, h]
  rw [sA_eq, sA_eq, sB_eq, sB_eq, e1, e2, e3]
  by_cases h : 0 < t
  · rw [if_pos (sgn.mpr h), if_pos h, if_pos (sgn.mpr h), if_pos h]
    exact ⟨worth_shift _ e c g.h1, worth_shift _ e c g.h1⟩
  · rw [if_neg (fun z => h (sgn.mp z)), if_neg h, if_neg (fun z => h (sgn.mp z)), if_neg h]
    exact ⟨worth_shift _ e c g.h1, worth_shift _ e c g.h1⟩
end
end L07
set_option maxHeartbeats 4000000
set_option exponentiation.threshold 4000
namespace L07
open PySem PySem.Spec PyProof.Rows L2 DL PA
theorem k0_law_run (b : Nat) (c : Int) (hb : b ≤ 36) (hb1 : 2 ≤ b) (hc1 : -20 ≤ c) (hc2 : c ≤ 20) (sc T2 B' D' F' L' P C' V' W' : D) (y : Option SV) (A B : Int × Int) (M : MS)
    (a1 : A.1.natAbs < 2 ^ 1450) (a2 : A.2.natAbs < 2 ^ 1450) (b1 : B.1.natAbs < 2 ^ 1450) (b2 : B.2.natAbs < 2 ^ 1450) (a0 : 0 < A.2) (b0 : 0 < B.2) :
    k0_law [some (SV.t (sc)), some (SV.t (.obj 0)), some (SV.t (T2)), some (SV.t (B')), some (SV.t (D')), some (SV.t (F')), some (SV.t (L')), some (SV.t (P)), some (SV.t (C')), some (SV.t (.tup [I (up b c), I (dn b c)])), some (SV.t (V')), some (SV.t (.tup [P2 A, P2 B])), some (SV.t (W')), y, none] M =
    some (.ok (.lst [P2 (lowP (A.1 * ((up b c : Nat) : Int)) (A.2 * ((dn b c : Nat) : Int))), P2 (lowP (B.1 * ((up b c : Nat) : Int)) (B.2 * ((dn b c : Nat) : Int)))]) [some (SV.t (sc)), some (SV.t (.obj 0)), some (SV.t (T2)), some (SV.t (B')), some (SV.t (D')), some (SV.t (F')), some (SV.t (L')), some (SV.t (P)), some (SV.t (C')), some (SV.t (.tup [I (up b c), I (dn b c)])), some (SV.t (V')), some (SV.t (.tup [P2 A, P2 B])), some (SV.t (W')), y, none] M) := by
  have s1 : up b c < 2 ^ 121 := up_b (k := 20) hb (by omega)
  have s2 : dn b c < 2 ^ 121 := dn_b (k := 20) hb (by omega)
  have hp := dn_pos hb1 c
  have step : ∀ p : Int × Int, p.1.natAbs < 2 ^ 1450 → p.2.natAbs < 2 ^ 1450 → 0 < p.2 →
      (aBind (aCons (dBin mulD (dBin ixD (dPeek 14) (dC (.int 0))) (dBin ixD (dPeek 9) (dC (.int 0)))) (aCons (dBin mulD (dBin ixD (dPeek 14) (dC (.int 1))) (dBin ixD (dPeek 9) (dC (.int 1)))) aNil)) fun ds => fits 2 ds (fits 2 (pick [.p 0, .p 1] ds [] []) (dApp φ__law_low (pick [.p 0, .p 1] ds [] [])))) [some (SV.t (sc)), some (SV.t (.obj 0)), some (SV.t (T2)), some (SV.t (B')), some (SV.t (D')), some (SV.t (F')), some (SV.t (L')), some (SV.t (P)), some (SV.t (C')), some (SV.t (.tup [I (up b c), I (dn b c)])), some (SV.t (V')), some (SV.t (.tup [P2 A, P2 B])), some (SV.t (W')), (y.map borSV), some (SV.t (P2 p))] M
      = some (.ok (mvF b c (P2 p)) [some (SV.t (sc)), some (SV.t (.obj 0)), some (SV.t (T2)), some (SV.t (B')), some (SV.t (D')), some (SV.t (F')), some (SV.t (L')), some (SV.t (P)), some (SV.t (C')), some (SV.t (.tup [I (up b c), I (dn b c)])), some (SV.t (V')), some (SV.t (.tup [P2 A, P2 B])), some (SV.t (W')), (y.map borSV), some (SV.t (P2 p))] M) := fun p h1 h2 h3 => by
    have m1 : mulOk p.1 ((up b c : Nat) : Int) := mulOk_of h1 (nat_lt s1)
    have m2 : mulOk p.2 ((dn b c : Nat) : Int) := mulOk_of h2 (nat_lt s2)
    have q := r_law_low (p.1 * ((up b c : Nat) : Int)) (p.2 * ((dn b c : Nat) : Int)) (Int.mul_pos h3 (by omega)) (small (mul_lt2 h2 (nat_lt s2)) (by omega))
    simp only [P2_0, P2_1, mulI_ok m1, mulI_ok m2, q, DL.dFn, DL.dFi, DL.sSeq, DL.sSet, DL.sIf, DL.sRet, DL.sRetN, DL.sDrop, DL.sBind, DL.sAsg, DL.sPar, DL.sPar3, DL.sNext, DL.dC, DL.dVar, DL.dPeek, DL.dBind, DL.dOut, DL.dUn, DL.dBin, DL.dTru, DL.dNot, DL.dAndT, DL.dOrT, DL.dAndV, DL.dOrV, DL.dIfE, DL.aNil, DL.aCons, DL.aBind, DL.fits, DL.dApp, DL.dRet, DL.dTup, DL.dLst, DL.truD, DL.bName, DL.bTup, DL.bCons, DL.bNil, DL.pick_eq, DL.Src.get, List.filterMap_cons, List.filterMap_nil, List.getElem?_cons_zero, List.getElem?_cons_succ, List.length_cons, List.length_nil, List.set_cons_zero, List.set_cons_succ, List.map_cons, List.map_nil, List.cons_append, List.nil_append, List.append_nil, List.append_assoc, List.reduceReplicate, Nat.reduceAdd, Nat.reduceSub, Nat.reduceLeDiff, Nat.reduceEqDiff, ↓reduceIte, DL.subD, DL.mulD, DL.divD, DL.modD, DL.powD, DL.ltD, DL.leD, DL.gtD, DL.geD, DL.II, DL.subI, DL.cmpI, DL.negD, DL.addD_int, DL.ix_t0, DL.ix_t1, DL.ix_t2, DL.eqA_int, DL.eqA_pair, DL.intD_int, DL.intA_int, DL.intA_bl, DL.absD, DL.le1, DL.le2, DL.le3, DL.le4, DL.le5, DL.le8, DL.le9, Nat.zero_le, Bool.not_true, Bool.not_false, Bool.false_eq_true, DL.eqA_bl, eq_self, Int.reduceEq, Int.reduceLT, Int.reduceNeg, Bool.false_xor, Bool.true_xor, decide_true, decide_false, decide_eq_true_eq]
    rfl
  have h := comp_map (vs := [14]) (b := bName 14) (u := aBind (aCons (dBin mulD (dBin ixD (dPeek 14) (dC (.int 0))) (dBin ixD (dPeek 9) (dC (.int 0)))) (aCons (dBin mulD (dBin ixD (dPeek 14) (dC (.int 1))) (dBin ixD (dPeek 9) (dC (.int 1)))) aNil)) fun ds => fits 2 ds (fits 2 (pick [.p 0, .p 1] ds [] []) (dApp φ__law_low (pick [.p 0, .p 1] ds [] [])))) (M := M) (M1 := M)
    (ρ := [some (SV.t (sc)), some (SV.t (.obj 0)), some (SV.t (T2)), some (SV.t (B')), some (SV.t (D')), some (SV.t (F')), some (SV.t (L')), some (SV.t (P)), some (SV.t (C')), some (SV.t (.tup [I (up b c), I (dn b c)])), some (SV.t (V')), some (SV.t (.tup [P2 A, P2 B])), some (SV.t (W')), y, none]) (ρ1 := [some (SV.t (sc)), some (SV.t (.obj 0)), some (SV.t (T2)), some (SV.t (B')), some (SV.t (D')), some (SV.t (F')), some (SV.t (L')), some (SV.t (P)), some (SV.t (C')), some (SV.t (.tup [I (up b c), I (dn b c)])), some (SV.t (V')), some (SV.t (.tup [P2 A, P2 B])), some (SV.t (W')), y, none])
    (ds := [P2 A, P2 B]) (src := iBind (dVar 11) itemsD) (mvF b c) (seq_eq (d := .tup [P2 A, P2 B]) (by simp only [DL.dFn, DL.dFi, DL.sSeq, DL.sSet, DL.sIf, DL.sRet, DL.sRetN, DL.sDrop, DL.sBind, DL.sAsg, DL.sPar, DL.sPar3, DL.sNext, DL.dC, DL.dVar, DL.dPeek, DL.dBind, DL.dOut, DL.dUn, DL.dBin, DL.dTru, DL.dNot, DL.dAndT, DL.dOrT, DL.dAndV, DL.dOrV, DL.dIfE, DL.aNil, DL.aCons, DL.aBind, DL.fits, DL.dApp, DL.dRet, DL.dTup, DL.dLst, DL.truD, DL.bName, DL.bTup, DL.bCons, DL.bNil, DL.pick_eq, DL.Src.get, List.filterMap_cons, List.filterMap_nil, List.getElem?_cons_zero, List.getElem?_cons_succ, List.length_cons, List.length_nil, List.set_cons_zero, List.set_cons_succ, List.map_cons, List.map_nil, List.cons_append, List.nil_append, List.append_nil, List.append_assoc, List.reduceReplicate, Nat.reduceAdd, Nat.reduceSub, Nat.reduceLeDiff, Nat.reduceEqDiff, ↓reduceIte, DL.subD, DL.mulD, DL.divD, DL.modD, DL.powD, DL.ltD, DL.leD, DL.gtD, DL.geD, DL.II, DL.subI, DL.cmpI, DL.negD, DL.addD_int, DL.ix_t0, DL.ix_t1, DL.ix_t2, DL.eqA_int, DL.eqA_pair, DL.intD_int, DL.intA_int, DL.intA_bl, DL.absD, DL.le1, DL.le2, DL.le3, DL.le4, DL.le5, DL.le8, DL.le9, Nat.zero_le, Bool.not_true, Bool.not_false, Bool.false_eq_true, DL.eqA_bl, eq_self, Int.reduceEq, Int.reduceLT, Int.reduceNeg, Bool.false_xor, Bool.true_xor, decide_true, decide_false, decide_eq_true_eq]) rfl) rfl (by decide) (line_nat (by show 2 ≤ 16777216; decide)) (fun x hx => by
      refine ⟨[some (SV.t (sc)), some (SV.t (.obj 0)), some (SV.t (T2)), some (SV.t (B')), some (SV.t (D')), some (SV.t (F')), some (SV.t (L')), some (SV.t (P)), some (SV.t (C')), some (SV.t (.tup [I (up b c), I (dn b c)])), some (SV.t (V')), some (SV.t (.tup [P2 A, P2 B])), some (SV.t (W')), (y.map borSV), some (SV.t (x))], rfl, ?_⟩
      rcases List.mem_cons.mp hx with h | h
      · rw [h]; exact step A a1 a2 a0
      · rcases List.mem_cons.mp h with h | h
        · rw [h]; exact step B b1 b2 b0
        · cases h)
  exact h
theorem l_b1 (n : Nat) (hn : n ≤ 7000) (M : MS) (hM : PenOk n M) (b d : Nat) (h1 : 2 ≤ b) (h2 : b ≤ 36) (h3 : 1 ≤ d) (h4 : d ≤ 60) (sc T2 lap : D) (x7 x8 x9 x10 x11 x12 y : Option SV) :
    ∃ (M' : MS) (z7 z8 z9 z10 z11 z12 : Option SV), b1_law [some (SV.t (sc)), some (SV.t (.obj 0)), some (SV.t (T2)), some (SV.t (I b)), some (SV.t (I d)), some (SV.t (Fm b d)), some (SV.t (lap)), x7, x8, x9, x10, x11, x12, y, none] M = some (.nx [some (SV.t (sc)), some (SV.t (.obj 0)), some (SV.t (T2)), some (SV.t (I b)), some (SV.t (I d)), some (SV.t (Fm b d)), some (SV.t (lap)), z7, z8, z9, z10, z11, z12, y, none] M') ∧ PenOk (n + 13) M' := by
  obtain ⟨x, u, M1, e1, hu, hx, hul, p1⟩ := r_near n (by omega) M hM b d h1 h2 h3 h4
  obtain ⟨r, M2, e2, r0, r1, p2⟩ := r_draw (n + 12) (by omega) M1 p1 40 (by decide) (small (k := 6) (by decide) (by omega))
  -- the pair
  obtain ⟨t, U, ht, hU0, co, hT, hU, hpr⟩ : ∃ (t : Int) (U : Nat), t ≠ 0 ∧ 0 < U ∧ Nat.Coprime t.natAbs U ∧ t.natAbs < 2 ^ 1000 ∧ U < 2 ^ 1000 ∧ (if (lowP x u).1 = 0 then ((1 : Int), (7 : Int)) else lowP x u) = (t, (U : Int)) := by
    by_cases z : (lowP x u).1 = 0
    · exact ⟨1, 7, by decide, by decide, by decide, by decide, by decide, by rw [if_pos z]; rfl⟩
    · have q1 := low_pos (t := x) hu
      have q2 := low_co (t := x) hu
      have q3 := low_le (x := x) hu
      refine ⟨(lowP x u).1, (lowP x u).2.toNat, z, by omega, ?_, Nat.lt_of_le_of_lt q3.1 hx, by omega, ?_⟩
      · rw [show (lowP x u).2.toNat = (lowP x u).2.natAbs by omega]; exact q2
      · rw [if_neg z]
        exact Prod.ext rfl (by show (lowP x u).2 = (((lowP x u).2.toNat : Nat) : Int); omega)
  obtain ⟨gx, hgx⟩ := ex_exists (b := b) h1 (show 0 < t.natAbs by omega) hU0 hT hU
  have g : Good 1000 b d t U (gx - d) := ⟨h1, h2, h3, h4, ht, hU0, hT, hU, by rw [show gx - (d : Int) + d = gx by omega]; exact hgx⟩
  generalize gx - (d : Int) = e at g
  have or1 := fun M => r_one_right g co M
  obtain ⟨c, hc⟩ : ∃ c : Int, c = r - 20 := ⟨_, rfl⟩
  have c1 : -20 ≤ c := by omega
  have c2 : c ≤ 20 := by omega
  have s1 : up b c < 2 ^ 121 := up_b (k := 20) h2 (by omega)
  have s2 : dn b c < 2 ^ 121 := dn_b (k := 20) h2 (by omega)
  have hp := dn_pos h1 c
  have rr := r_law_raised b c (by omega) (by omega)
  have hpos : 0 < (U : Int) * ((dn b c : Nat) : Int) := Int.mul_pos (by omega) (by omega)
  have m1 : mulOk t ((up b c : Nat) : Int) := mulOk_of hT (nat_lt s1)
  have m2 : mulOk (U : Int) ((dn b c : Nat) : Int) := mulOk_of (nat_lt hU) (nat_lt s2)
  have rl := r_law_low (t * ((up b c : Nat) : Int)) ((U : Int) * ((dn b c : Nat) : Int)) hpos (small (mul_lt2 (nat_lt hU) (nat_lt s2)) (by omega))
  obtain ⟨t2, U2, hm⟩ : ∃ (t2 : Int) (U2 : Nat), lowP (t * ((up b c : Nat) : Int)) ((U : Int) * ((dn b c : Nat) : Int)) = (t2, (U2 : Int)) := by
    have q1 := low_pos (t := t * ((up b c : Nat) : Int)) hpos
    exact ⟨_, (lowP (t * ((up b c : Nat) : Int)) ((U : Int) * ((dn b c : Nat) : Int))).2.toNat, Prod.ext rfl (by simp only; omega)⟩
  obtain ⟨g2, co2, _, _, hin⟩ := mv_good g c1 c2 hm
  obtain ⟨v1, v2⟩ := mv_sides g c1 c2 hm
  have xn := fun M => (r_neighbours (n := 1000) (by omega) g co M).trans (by rw [toldD_eq])
  have xn2 := fun M => (r_neighbours (n := 1121) (by omega) g2 co2 M).trans (by rw [toldD_eq])
  have xi := r_is_in (n := 1000) (by omega) g co
  have xi2 := r_is_in (n := 1121) (by omega) g2 co2
  rw [hin] at xi2
  rw [v1, v2] at xn2
  rw [hm] at rl
  obtain ⟨_, _, _, _, a1, a2, b1, b2⟩ := s_in (Nat.le_refl _) g
  have pA : 0 < (sA b U t e).2 ∧ 0 < (sB b U t e).2 := by
    rw [sA_eq, sB_eq]
    have k : ∀ s : Int, 0 < (worth b s e).2 := fun s => low_pos (by have := dn_pos h1 e; omega)
    split <;> exact ⟨k _, k _⟩
  generalize sA b U t e = A at *
  generalize sB b U t e = B at *
  have kk := fun V' W' M => k0_law_run b c h2 h1 c1 c2 sc T2 (I b) (I d) (Fm b d) lap (.tup [.int t, I U]) (.int c) V' W' y A B M a1 a2 b1 b2 pA.1 pA.2
  refine ⟨M2, some (.t (.tup [.int t, I U])), some (.t (.int c)), some (.t (.tup [I (up b c), I (dn b c)])), some (.t (.tup [.int t2, I U2])), some (.t (.tup [P2 A, P2 B])), some (.t (.tup [P2 (lowP (A.1 * ((up b c : Nat) : Int)) (A.2 * ((dn b c : Nat) : Int))), P2 (lowP (B.1 * ((up b c : Nat) : Int)) (B.2 * ((dn b c : Nat) : Int)))])), ?_, p2⟩
  unfold b1_law
  refine Eq.trans (DL.seq_nx (ρ1 := [some (SV.t (sc)), some (SV.t (.obj 0)), some (SV.t (T2)), some (SV.t (I b)), some (SV.t (I d)), some (SV.t (Fm b d)), some (SV.t (lap)), some (SV.t (P2 (lowP x u))), x8, x9, x10, x11, x12, y, none]) (M1 := M1) ?_) ?_
  · simp only [e1, DL.dFn, DL.dFi, DL.sSeq, DL.sSet, DL.sIf, DL.sRet, DL.sRetN, DL.sDrop, DL.sBind, DL.sAsg, DL.sPar, DL.sPar3, DL.sNext, DL.dC, DL.dVar, DL.dPeek, DL.dBind, DL.dOut, DL.dUn, DL.dBin, DL.dTru, DL.dNot, DL.dAndT, DL.dOrT, DL.dAndV, DL.dOrV, DL.dIfE, DL.aNil, DL.aCons, DL.aBind, DL.fits, DL.dApp, DL.dRet, DL.dTup, DL.dLst, DL.truD, DL.bName, DL.bTup, DL.bCons, DL.bNil, DL.pick_eq, DL.Src.get, List.filterMap_cons, List.filterMap_nil, List.getElem?_cons_zero, List.getElem?_cons_succ, List.length_cons, List.length_nil, List.set_cons_zero, List.set_cons_succ, List.map_cons, List.map_nil, List.cons_append, List.nil_append, List.append_nil, List.append_assoc, List.reduceReplicate, Nat.reduceAdd, Nat.reduceSub, Nat.reduceLeDiff, Nat.reduceEqDiff, ↓reduceIte, DL.subD, DL.mulD, DL.divD, DL.modD, DL.powD, DL.ltD, DL.leD, DL.gtD, DL.geD, DL.II, DL.subI, DL.cmpI, DL.negD, DL.addD_int, DL.ix_t0, DL.ix_t1, DL.ix_t2, DL.eqA_int, DL.eqA_pair, DL.intD_int, DL.intA_int, DL.intA_bl, DL.absD, DL.le1, DL.le2, DL.le3, DL.le4, DL.le5, DL.le8, DL.le9, Nat.zero_le, Bool.not_true, Bool.not_false, Bool.false_eq_true, DL.eqA_bl, eq_self, Int.reduceEq, Int.reduceLT, Int.reduceNeg, Bool.false_xor, Bool.true_xor, decide_true, decide_false, decide_eq_true_eq]
  refine Eq.trans (DL.seq_nx (ρ1 := [some (SV.t (sc)), some (SV.t (.obj 0)), some (SV.t (T2)), some (SV.t (I b)), some (SV.t (I d)), some (SV.t (Fm b d)), some (SV.t (lap)), some (SV.t (.tup [.int t, I U])), x8, x9, x10, x11, x12, y, none]) (M1 := M1) ?_) ?_
  · by_cases z : (lowP x u).1 = 0
    · rw [if_pos z] at hpr
      have hpr2 : D.tup [.int 1, .int 7] = D.tup [.int t, I U] := congrArg P2 hpr
      rw [← hpr2]
      simp only [P2_0, decide_eq_true z, DL.dFn, DL.dFi, DL.sSeq, DL.sSet, DL.sIf, DL.sRet, DL.sRetN, DL.sDrop, DL.sBind, DL.sAsg, DL.sPar, DL.sPar3, DL.sNext, DL.dC, DL.dVar, DL.dPeek, DL.dBind, DL.dOut, DL.dUn, DL.dBin, DL.dTru, DL.dNot, DL.dAndT, DL.dOrT, DL.dAndV, DL.dOrV, DL.dIfE, DL.aNil, DL.aCons, DL.aBind, DL.fits, DL.dApp, DL.dRet, DL.dTup, DL.dLst, DL.truD, DL.bName, DL.bTup, DL.bCons, DL.bNil, DL.pick_eq, DL.Src.get, List.filterMap_cons, List.filterMap_nil, List.getElem?_cons_zero, List.getElem?_cons_succ, List.length_cons, List.length_nil, List.set_cons_zero, List.set_cons_succ, List.map_cons, List.map_nil, List.cons_append, List.nil_append, List.append_nil, List.append_assoc, List.reduceReplicate, Nat.reduceAdd, Nat.reduceSub, Nat.reduceLeDiff, Nat.reduceEqDiff, ↓reduceIte, DL.subD, DL.mulD, DL.divD, DL.modD, DL.powD, DL.ltD, DL.leD, DL.gtD, DL.geD, DL.II, DL.subI, DL.cmpI, DL.negD, DL.addD_int, DL.ix_t0, DL.ix_t1, DL.ix_t2, DL.eqA_int, DL.eqA_pair, DL.intD_int, DL.intA_int, DL.intA_bl, DL.absD, DL.le1, DL.le2, DL.le3, DL.le4, DL.le5, DL.le8, DL.le9, Nat.zero_le, Bool.not_true, Bool.not_false, Bool.false_eq_true, DL.eqA_bl, eq_self, Int.reduceEq, Int.reduceLT, Int.reduceNeg, Bool.false_xor, Bool.true_xor, decide_true, decide_false, decide_eq_true_eq]
    · rw [if_neg z] at hpr
      have hpr2 : P2 (lowP x u) = D.tup [.int t, I U] := congrArg P2 hpr
      rw [← hpr2]
      simp only [P2_0, decide_eq_false z, DL.dFn, DL.dFi, DL.sSeq, DL.sSet, DL.sIf, DL.sRet, DL.sRetN, DL.sDrop, DL.sBind, DL.sAsg, DL.sPar, DL.sPar3, DL.sNext, DL.dC, DL.dVar, DL.dPeek, DL.dBind, DL.dOut, DL.dUn, DL.dBin, DL.dTru, DL.dNot, DL.dAndT, DL.dOrT, DL.dAndV, DL.dOrV, DL.dIfE, DL.aNil, DL.aCons, DL.aBind, DL.fits, DL.dApp, DL.dRet, DL.dTup, DL.dLst, DL.truD, DL.bName, DL.bTup, DL.bCons, DL.bNil, DL.pick_eq, DL.Src.get, List.filterMap_cons, List.filterMap_nil, List.getElem?_cons_zero, List.getElem?_cons_succ, List.length_cons, List.length_nil, List.set_cons_zero, List.set_cons_succ, List.map_cons, List.map_nil, List.cons_append, List.nil_append, List.append_nil, List.append_assoc, List.reduceReplicate, Nat.reduceAdd, Nat.reduceSub, Nat.reduceLeDiff, Nat.reduceEqDiff, ↓reduceIte, DL.subD, DL.mulD, DL.divD, DL.modD, DL.powD, DL.ltD, DL.leD, DL.gtD, DL.geD, DL.II, DL.subI, DL.cmpI, DL.negD, DL.addD_int, DL.ix_t0, DL.ix_t1, DL.ix_t2, DL.eqA_int, DL.eqA_pair, DL.intD_int, DL.intA_int, DL.intA_bl, DL.absD, DL.le1, DL.le2, DL.le3, DL.le4, DL.le5, DL.le8, DL.le9, Nat.zero_le, Bool.not_true, Bool.not_false, Bool.false_eq_true, DL.eqA_bl, eq_self, Int.reduceEq, Int.reduceLT, Int.reduceNeg, Bool.false_xor, Bool.true_xor, decide_true, decide_false, decide_eq_true_eq]
  clear hpr
  refine Eq.trans (DL.seq_nx (ρ1 := [some (SV.t (sc)), some (SV.t (.obj 0)), some (SV.t (T2)), some (SV.t (I b)), some (SV.t (I d)), some (SV.t (Fm b d)), some (SV.t (lap)), some (SV.t (.tup [.int t, I U])), x8, x9, x10, x11, x12, y, none]) (M1 := M1) ?_) ?_
  · refine Eq.trans (if_f (ρ1 := [some (SV.t (sc)), some (SV.t (.obj 0)), some (SV.t (T2)), some (SV.t (I b)), some (SV.t (I d)), some (SV.t (Fm b d)), some (SV.t (lap)), some (SV.t (.tup [.int t, I U])), x8, x9, x10, x11, x12, y, none]) (M1 := M1) (not_tru_p ?_)) rfl
    refine call_p (vs := [Fm b d, I b, I d, .tup [.int t, I U]]) (ws := [Fm b d, I b, I d, .tup [.int t, I U]]) (ρ1 := [some (SV.t (sc)), some (SV.t (.obj 0)), some (SV.t (T2)), some (SV.t (I b)), some (SV.t (I d)), some (SV.t (Fm b d)), some (SV.t (lap)), some (SV.t (.tup [.int t, I U])), x8, x9, x10, x11, x12, y, none]) (M1 := M1) ?_ rfl rfl rfl (or1 M1)
    simp only [DL.dFn, DL.dFi, DL.sSeq, DL.sSet, DL.sIf, DL.sRet, DL.sRetN, DL.sDrop, DL.sBind, DL.sAsg, DL.sPar, DL.sPar3, DL.sNext, DL.dC, DL.dVar, DL.dPeek, DL.dBind, DL.dOut, DL.dUn, DL.dBin, DL.dTru, DL.dNot, DL.dAndT, DL.dOrT, DL.dAndV, DL.dOrV, DL.dIfE, DL.aNil, DL.aCons, DL.aBind, DL.fits, DL.dApp, DL.dRet, DL.dTup, DL.dLst, DL.truD, DL.bName, DL.bTup, DL.bCons, DL.bNil, DL.pick_eq, DL.Src.get, List.filterMap_cons, List.filterMap_nil, List.getElem?_cons_zero, List.getElem?_cons_succ, List.length_cons, List.length_nil, List.set_cons_zero, List.set_cons_succ, List.map_cons, List.map_nil, List.cons_append, List.nil_append, List.append_nil, List.append_assoc, List.reduceReplicate, Nat.reduceAdd, Nat.reduceSub, Nat.reduceLeDiff, Nat.reduceEqDiff, ↓reduceIte, DL.subD, DL.mulD, DL.divD, DL.modD, DL.powD, DL.ltD, DL.leD, DL.gtD, DL.geD, DL.II, DL.subI, DL.cmpI, DL.negD, DL.addD_int, DL.ix_t0, DL.ix_t1, DL.ix_t2, DL.eqA_int, DL.eqA_pair, DL.intD_int, DL.intA_int, DL.intA_bl, DL.absD, DL.le1, DL.le2, DL.le3, DL.le4, DL.le5, DL.le8, DL.le9, Nat.zero_le, Bool.not_true, Bool.not_false, Bool.false_eq_true, DL.eqA_bl, eq_self, Int.reduceEq, Int.reduceLT, Int.reduceNeg, Bool.false_xor, Bool.true_xor, decide_true, decide_false, decide_eq_true_eq]
  refine Eq.trans (DL.seq_nx (ρ1 := [some (SV.t (sc)), some (SV.t (.obj 0)), some (SV.t (T2)), some (SV.t (I b)), some (SV.t (I d)), some (SV.t (Fm b d)), some (SV.t (lap)), some (SV.t (.tup [.int t, I U])), some (SV.t (.int c)), x9, x10, x11, x12, y, none]) (M1 := M2) ?_) ?_
  · rw [hc]
    simp only [e2, DL.dFn, DL.dFi, DL.sSeq, DL.sSet, DL.sIf, DL.sRet, DL.sRetN, DL.sDrop, DL.sBind, DL.sAsg, DL.sPar, DL.sPar3, DL.sNext, DL.dC, DL.dVar, DL.dPeek, DL.dBind, DL.dOut, DL.dUn, DL.dBin, DL.dTru, DL.dNot, DL.dAndT, DL.dOrT, DL.dAndV, DL.dOrV, DL.dIfE, DL.aNil, DL.aCons, DL.aBind, DL.fits, DL.dApp, DL.dRet, DL.dTup, DL.dLst, DL.truD, DL.bName, DL.bTup, DL.bCons, DL.bNil, DL.pick_eq, DL.Src.get, List.filterMap_cons, List.filterMap_nil, List.getElem?_cons_zero, List.getElem?_cons_succ, List.length_cons, List.length_nil, List.set_cons_zero, List.set_cons_succ, List.map_cons, List.map_nil, List.cons_append, List.nil_append, List.append_nil, List.append_assoc, List.reduceReplicate, Nat.reduceAdd, Nat.reduceSub, Nat.reduceLeDiff, Nat.reduceEqDiff, ↓reduceIte, DL.subD, DL.mulD, DL.divD, DL.modD, DL.powD, DL.ltD, DL.leD, DL.gtD, DL.geD, DL.II, DL.subI, DL.cmpI, DL.negD, DL.addD_int, DL.ix_t0, DL.ix_t1, DL.ix_t2, DL.eqA_int, DL.eqA_pair, DL.intD_int, DL.intA_int, DL.intA_bl, DL.absD, DL.le1, DL.le2, DL.le3, DL.le4, DL.le5, DL.le8, DL.le9, Nat.zero_le, Bool.not_true, Bool.not_false, Bool.false_eq_true, DL.eqA_bl, eq_self, Int.reduceEq, Int.reduceLT, Int.reduceNeg, Bool.false_xor, Bool.true_xor, decide_true, decide_false, decide_eq_true_eq]
  refine Eq.trans (DL.seq_nx (ρ1 := [some (SV.t (sc)), some (SV.t (.obj 0)), some (SV.t (T2)), some (SV.t (I b)), some (SV.t (I d)), some (SV.t (Fm b d)), some (SV.t (lap)), some (SV.t (.tup [.int t, I U])), some (SV.t (.int c)), some (SV.t (.tup [I (up b c), I (dn b c)])), x10, x11, x12, y, none]) (M1 := M2) ?_) ?_
  · simp only [rr, DL.dFn, DL.dFi, DL.sSeq, DL.sSet, DL.sIf, DL.sRet, DL.sRetN, DL.sDrop, DL.sBind, DL.sAsg, DL.sPar, DL.sPar3, DL.sNext, DL.dC, DL.dVar, DL.dPeek, DL.dBind, DL.dOut, DL.dUn, DL.dBin, DL.dTru, DL.dNot, DL.dAndT, DL.dOrT, DL.dAndV, DL.dOrV, DL.dIfE, DL.aNil, DL.aCons, DL.aBind, DL.fits, DL.dApp, DL.dRet, DL.dTup, DL.dLst, DL.truD, DL.bName, DL.bTup, DL.bCons, DL.bNil, DL.pick_eq, DL.Src.get, List.filterMap_cons, List.filterMap_nil, List.getElem?_cons_zero, List.getElem?_cons_succ, List.length_cons, List.length_nil, List.set_cons_zero, List.set_cons_succ, List.map_cons, List.map_nil, List.cons_append, List.nil_append, List.append_nil, List.append_assoc, List.reduceReplicate, Nat.reduceAdd, Nat.reduceSub, Nat.reduceLeDiff, Nat.reduceEqDiff, ↓reduceIte, DL.subD, DL.mulD, DL.divD, DL.modD, DL.powD, DL.ltD, DL.leD, DL.gtD, DL.geD, DL.II, DL.subI, DL.cmpI, DL.negD, DL.addD_int, DL.ix_t0, DL.ix_t1, DL.ix_t2, DL.eqA_int, DL.eqA_pair, DL.intD_int, DL.intA_int, DL.intA_bl, DL.absD, DL.le1, DL.le2, DL.le3, DL.le4, DL.le5, DL.le8, DL.le9, Nat.zero_le, Bool.not_true, Bool.not_false, Bool.false_eq_true, DL.eqA_bl, eq_self, Int.reduceEq, Int.reduceLT, Int.reduceNeg, Bool.false_xor, Bool.true_xor, decide_true, decide_false, decide_eq_true_eq]
  refine Eq.trans (DL.seq_nx (ρ1 := [some (SV.t (sc)), some (SV.t (.obj 0)), some (SV.t (T2)), some (SV.t (I b)), some (SV.t (I d)), some (SV.t (Fm b d)), some (SV.t (lap)), some (SV.t (.tup [.int t, I U])), some (SV.t (.int c)), some (SV.t (.tup [I (up b c), I (dn b c)])), x10, x11, x12, y, none]) (M1 := M2) ?_) ?_
  · by_cases h : 0 ≤ c
    · simp only [decide_eq_true h, DL.dFn, DL.dFi, DL.sSeq, DL.sSet, DL.sIf, DL.sRet, DL.sRetN, DL.sDrop, DL.sBind, DL.sAsg, DL.sPar, DL.sPar3, DL.sNext, DL.dC, DL.dVar, DL.dPeek, DL.dBind, DL.dOut, DL.dUn, DL.dBin, DL.dTru, DL.dNot, DL.dAndT, DL.dOrT, DL.dAndV, DL.dOrV, DL.dIfE, DL.aNil, DL.aCons, DL.aBind, DL.fits, DL.dApp, DL.dRet, DL.dTup, DL.dLst, DL.truD, DL.bName, DL.bTup, DL.bCons, DL.bNil, DL.pick_eq, DL.Src.get, List.filterMap_cons, List.filterMap_nil, List.getElem?_cons_zero, List.getElem?_cons_succ, List.length_cons, List.length_nil, List.set_cons_zero, List.set_cons_succ, List.map_cons, List.map_nil, List.cons_append, List.nil_append, List.append_nil, List.append_assoc, List.reduceReplicate, Nat.reduceAdd, Nat.reduceSub, Nat.reduceLeDiff, Nat.reduceEqDiff, ↓reduceIte, DL.subD, DL.mulD, DL.divD, DL.modD, DL.powD, DL.ltD, DL.leD, DL.gtD, DL.geD, DL.II, DL.subI, DL.cmpI, DL.negD, DL.addD_int, DL.ix_t0, DL.ix_t1, DL.ix_t2, DL.eqA_int, DL.eqA_pair, DL.intD_int, DL.intA_int, DL.intA_bl, DL.absD, DL.le1, DL.le2, DL.le3, DL.le4, DL.le5, DL.le8, DL.le9, Nat.zero_le, Bool.not_true, Bool.not_false, Bool.false_eq_true, DL.eqA_bl, eq_self, Int.reduceEq, Int.reduceLT, Int.reduceNeg, Bool.false_xor, Bool.true_xor, decide_true, decide_false, decide_eq_true_eq]
    · simp only [decide_eq_false h, DL.dFn, DL.dFi, DL.sSeq, DL.sSet, DL.sIf, DL.sRet, DL.sRetN, DL.sDrop, DL.sBind, DL.sAsg, DL.sPar, DL.sPar3, DL.sNext, DL.dC, DL.dVar, DL.dPeek, DL.dBind, DL.dOut, DL.dUn, DL.dBin, DL.dTru, DL.dNot, DL.dAndT, DL.dOrT, DL.dAndV, DL.dOrV, DL.dIfE, DL.aNil, DL.aCons, DL.aBind, DL.fits, DL.dApp, DL.dRet, DL.dTup, DL.dLst, DL.truD, DL.bName, DL.bTup, DL.bCons, DL.bNil, DL.pick_eq, DL.Src.get, List.filterMap_cons, List.filterMap_nil, List.getElem?_cons_zero, List.getElem?_cons_succ, List.length_cons, List.length_nil, List.set_cons_zero, List.set_cons_succ, List.map_cons, List.map_nil, List.cons_append, List.nil_append, List.append_nil, List.append_assoc, List.reduceReplicate, Nat.reduceAdd, Nat.reduceSub, Nat.reduceLeDiff, Nat.reduceEqDiff, ↓reduceIte, DL.subD, DL.mulD, DL.divD, DL.modD, DL.powD, DL.ltD, DL.leD, DL.gtD, DL.geD, DL.II, DL.subI, DL.cmpI, DL.negD, DL.addD_int, DL.ix_t0, DL.ix_t1, DL.ix_t2, DL.eqA_int, DL.eqA_pair, DL.intD_int, DL.intA_int, DL.intA_bl, DL.absD, DL.le1, DL.le2, DL.le3, DL.le4, DL.le5, DL.le8, DL.le9, Nat.zero_le, Bool.not_true, Bool.not_false, Bool.false_eq_true, DL.eqA_bl, eq_self, Int.reduceEq, Int.reduceLT, Int.reduceNeg, Bool.false_xor, Bool.true_xor, decide_true, decide_false, decide_eq_true_eq]
      rw [up1 (show c ≤ 0 by omega)]
      rfl
  refine Eq.trans (DL.seq_nx (ρ1 := [some (SV.t (sc)), some (SV.t (.obj 0)), some (SV.t (T2)), some (SV.t (I b)), some (SV.t (I d)), some (SV.t (Fm b d)), some (SV.t (lap)), some (SV.t (.tup [.int t, I U])), some (SV.t (.int c)), some (SV.t (.tup [I (up b c), I (dn b c)])), some (SV.t (.tup [.int t2, I U2])), x11, x12, y, none]) (M1 := M2) ?_) ?_
  · simp only [mulI_ok m1, mulI_ok m2, rl, DL.dFn, DL.dFi, DL.sSeq, DL.sSet, DL.sIf, DL.sRet, DL.sRetN, DL.sDrop, DL.sBind, DL.sAsg, DL.sPar, DL.sPar3, DL.sNext, DL.dC, DL.dVar, DL.dPeek, DL.dBind, DL.dOut, DL.dUn, DL.dBin, DL.dTru, DL.dNot, DL.dAndT, DL.dOrT, DL.dAndV, DL.dOrV, DL.dIfE, DL.aNil, DL.aCons, DL.aBind, DL.fits, DL.dApp, DL.dRet, DL.dTup, DL.dLst, DL.truD, DL.bName, DL.bTup, DL.bCons, DL.bNil, DL.pick_eq, DL.Src.get, List.filterMap_cons, List.filterMap_nil, List.getElem?_cons_zero, List.getElem?_cons_succ, List.length_cons, List.length_nil, List.set_cons_zero, List.set_cons_succ, List.map_cons, List.map_nil, List.cons_append, List.nil_append, List.append_nil, List.append_assoc, List.reduceReplicate, Nat.reduceAdd, Nat.reduceSub, Nat.reduceLeDiff, Nat.reduceEqDiff, ↓reduceIte, DL.subD, DL.mulD, DL.divD, DL.modD, DL.powD, DL.ltD, DL.leD, DL.gtD, DL.geD, DL.II, DL.subI, DL.cmpI, DL.negD, DL.addD_int, DL.ix_t0, DL.ix_t1, DL.ix_t2, DL.eqA_int, DL.eqA_pair, DL.intD_int, DL.intA_int, DL.intA_bl, DL.absD, DL.le1, DL.le2, DL.le3, DL.le4, DL.le5, DL.le8, DL.le9, Nat.zero_le, Bool.not_true, Bool.not_false, Bool.false_eq_true, DL.eqA_bl, eq_self, Int.reduceEq, Int.reduceLT, Int.reduceNeg, Bool.false_xor, Bool.true_xor, decide_true, decide_false, decide_eq_true_eq]
  refine Eq.trans (DL.seq_nx (ρ1 := [some (SV.t (sc)), some (SV.t (.obj 0)), some (SV.t (T2)), some (SV.t (I b)), some (SV.t (I d)), some (SV.t (Fm b d)), some (SV.t (lap)), some (SV.t (.tup [.int t, I U])), some (SV.t (.int c)), some (SV.t (.tup [I (up b c), I (dn b c)])), some (SV.t (.tup [.int t2, I U2])), some (SV.t (.tup [P2 A, P2 B])), some (SV.t (.tup [P2 (lowP (A.1 * ((up b c : Nat) : Int)) (A.2 * ((dn b c : Nat) : Int))), P2 (lowP (B.1 * ((up b c : Nat) : Int)) (B.2 * ((dn b c : Nat) : Int)))])), y, none]) (M1 := M2) ?_) ?_
  · simp only [xn, xn2, DL.dFn, DL.dFi, DL.sSeq, DL.sSet, DL.sIf, DL.sRet, DL.sRetN, DL.sDrop, DL.sBind, DL.sAsg, DL.sPar, DL.sPar3, DL.sNext, DL.dC, DL.dVar, DL.dPeek, DL.dBind, DL.dOut, DL.dUn, DL.dBin, DL.dTru, DL.dNot, DL.dAndT, DL.dOrT, DL.dAndV, DL.dOrV, DL.dIfE, DL.aNil, DL.aCons, DL.aBind, DL.fits, DL.dApp, DL.dRet, DL.dTup, DL.dLst, DL.truD, DL.bName, DL.bTup, DL.bCons, DL.bNil, DL.pick_eq, DL.Src.get, List.filterMap_cons, List.filterMap_nil, List.getElem?_cons_zero, List.getElem?_cons_succ, List.length_cons, List.length_nil, List.set_cons_zero, List.set_cons_succ, List.map_cons, List.map_nil, List.cons_append, List.nil_append, List.append_nil, List.append_assoc, List.reduceReplicate, Nat.reduceAdd, Nat.reduceSub, Nat.reduceLeDiff, Nat.reduceEqDiff, ↓reduceIte, DL.subD, DL.mulD, DL.divD, DL.modD, DL.powD, DL.ltD, DL.leD, DL.gtD, DL.geD, DL.II, DL.subI, DL.cmpI, DL.negD, DL.addD_int, DL.ix_t0, DL.ix_t1, DL.ix_t2, DL.eqA_int, DL.eqA_pair, DL.intD_int, DL.intA_int, DL.intA_bl, DL.absD, DL.le1, DL.le2, DL.le3, DL.le4, DL.le5, DL.le8, DL.le9, Nat.zero_le, Bool.not_true, Bool.not_false, Bool.false_eq_true, DL.eqA_bl, eq_self, Int.reduceEq, Int.reduceLT, Int.reduceNeg, Bool.false_xor, Bool.true_xor, decide_true, decide_false, decide_eq_true_eq]
  simp only [kk, tup_lst, eqTT, Bool.xor_true, Bool.not_true, xi, xi2, beq_self_eq_true, DL.dFn, DL.dFi, DL.sSeq, DL.sSet, DL.sIf, DL.sRet, DL.sRetN, DL.sDrop, DL.sBind, DL.sAsg, DL.sPar, DL.sPar3, DL.sNext, DL.dC, DL.dVar, DL.dPeek, DL.dBind, DL.dOut, DL.dUn, DL.dBin, DL.dTru, DL.dNot, DL.dAndT, DL.dOrT, DL.dAndV, DL.dOrV, DL.dIfE, DL.aNil, DL.aCons, DL.aBind, DL.fits, DL.dApp, DL.dRet, DL.dTup, DL.dLst, DL.truD, DL.bName, DL.bTup, DL.bCons, DL.bNil, DL.pick_eq, DL.Src.get, List.filterMap_cons, List.filterMap_nil, List.getElem?_cons_zero, List.getElem?_cons_succ, List.length_cons, List.length_nil, List.set_cons_zero, List.set_cons_succ, List.map_cons, List.map_nil, List.cons_append, List.nil_append, List.append_nil, List.append_assoc, List.reduceReplicate, Nat.reduceAdd, Nat.reduceSub, Nat.reduceLeDiff, Nat.reduceEqDiff, ↓reduceIte, DL.subD, DL.mulD, DL.divD, DL.modD, DL.powD, DL.ltD, DL.leD, DL.gtD, DL.geD, DL.II, DL.subI, DL.cmpI, DL.negD, DL.addD_int, DL.ix_t0, DL.ix_t1, DL.ix_t2, DL.eqA_int, DL.eqA_pair, DL.intD_int, DL.intA_int, DL.intA_bl, DL.absD, DL.le1, DL.le2, DL.le3, DL.le4, DL.le5, DL.le8, DL.le9, Nat.zero_le, Bool.not_true, Bool.not_false, Bool.false_eq_true, DL.eqA_bl, eq_self, Int.reduceEq, Int.reduceLT, Int.reduceNeg, Bool.false_xor, Bool.true_xor, decide_true, decide_false, decide_eq_true_eq]
end L07
set_option maxHeartbeats 4000000
set_option exponentiation.threshold 4000
namespace L07
open PySem PySem.Spec PyProof.Rows L2 DL PA
theorem eqBL3 (n a b c : Bool) : eqA n (.lst [.bl a, .bl b, .bl c]) (.lst [.bl a, .bl b, .bl c]) = some (.bl (xor n true)) := by
  rw [eqA_lst]
  refine eqD_of (p := .list [.bool a, .bool b, .bool c]) (q := .list [.bool a, .bool b, .bool c]) rfl rfl rfl rfl ?_
  show ((a == a) && ((b == b) && ((c == c) && true))) = true
  simp
section
variable {b d : Nat} (h1 : 2 ≤ b) (h2 : b ≤ 36) (h3 : 1 ≤ d) (h4 : d ≤ 60) (M : MS)
theorem in0 (M : MS) : φ_is_inside [Fm b d, .tup [.int 0, .int 1]] M = some (.ret (.bl true) M) := by
  unfold φ_is_inside m_is_inside
  simp only [and_self, DL.dFn, DL.dFi, DL.sSeq, DL.sSet, DL.sIf, DL.sRet, DL.sRetN, DL.sDrop, DL.sBind, DL.sAsg, DL.sPar, DL.sPar3, DL.sNext, DL.dC, DL.dVar, DL.dPeek, DL.dBind, DL.dOut, DL.dUn, DL.dBin, DL.dTru, DL.dNot, DL.dAndT, DL.dOrT, DL.dAndV, DL.dOrV, DL.dIfE, DL.aNil, DL.aCons, DL.aBind, DL.fits, DL.dApp, DL.dRet, DL.dTup, DL.dLst, DL.truD, DL.bName, DL.bTup, DL.bCons, DL.bNil, DL.pick_eq, DL.Src.get, List.filterMap_cons, List.filterMap_nil, List.getElem?_cons_zero, List.getElem?_cons_succ, List.length_cons, List.length_nil, List.set_cons_zero, List.set_cons_succ, List.map_cons, List.map_nil, List.cons_append, List.nil_append, List.append_nil, List.append_assoc, List.reduceReplicate, Nat.reduceAdd, Nat.reduceSub, Nat.reduceLeDiff, Nat.reduceEqDiff, ↓reduceIte, DL.subD, DL.mulD, DL.divD, DL.modD, DL.powD, DL.ltD, DL.leD, DL.gtD, DL.geD, DL.II, DL.subI, DL.cmpI, DL.negD, DL.addD_int, DL.ix_t0, DL.ix_t1, DL.ix_t2, DL.eqA_int, DL.eqA_pair, DL.intD_int, DL.intA_int, DL.intA_bl, DL.absD, DL.le1, DL.le2, DL.le3, DL.le4, DL.le5, DL.le8, DL.le9, Nat.zero_le, Bool.not_true, Bool.not_false, Bool.false_eq_true, DL.eqA_bl, eq_self, Int.reduceEq, Int.reduceLT, Int.reduceNeg, Bool.false_xor, Bool.true_xor, decide_true, decide_false, decide_eq_true_eq]
theorem z1 (M : MS) : φ_is_in [Fm b d, .int 0] M = some (.ret (.bl true) M) := by
  have x := fun x => r_number_i 0 x
  unfold φ_is_in m_is_in
  simp only [r_need_format, x, in0, DL.dFn, DL.dFi, DL.sSeq, DL.sSet, DL.sIf, DL.sRet, DL.sRetN, DL.sDrop, DL.sBind, DL.sAsg, DL.sPar, DL.sPar3, DL.sNext, DL.dC, DL.dVar, DL.dPeek, DL.dBind, DL.dOut, DL.dUn, DL.dBin, DL.dTru, DL.dNot, DL.dAndT, DL.dOrT, DL.dAndV, DL.dOrV, DL.dIfE, DL.aNil, DL.aCons, DL.aBind, DL.fits, DL.dApp, DL.dRet, DL.dTup, DL.dLst, DL.truD, DL.bName, DL.bTup, DL.bCons, DL.bNil, DL.pick_eq, DL.Src.get, List.filterMap_cons, List.filterMap_nil, List.getElem?_cons_zero, List.getElem?_cons_succ, List.length_cons, List.length_nil, List.set_cons_zero, List.set_cons_succ, List.map_cons, List.map_nil, List.cons_append, List.nil_append, List.append_nil, List.append_assoc, List.reduceReplicate, Nat.reduceAdd, Nat.reduceSub, Nat.reduceLeDiff, Nat.reduceEqDiff, ↓reduceIte, DL.subD, DL.mulD, DL.divD, DL.modD, DL.powD, DL.ltD, DL.leD, DL.gtD, DL.geD, DL.II, DL.subI, DL.cmpI, DL.negD, DL.addD_int, DL.ix_t0, DL.ix_t1, DL.ix_t2, DL.eqA_int, DL.eqA_pair, DL.intD_int, DL.intA_int, DL.intA_bl, DL.absD, DL.le1, DL.le2, DL.le3, DL.le4, DL.le5, DL.le8, DL.le9, Nat.zero_le, Bool.not_true, Bool.not_false, Bool.false_eq_true, DL.eqA_bl, eq_self, Int.reduceEq, Int.reduceLT, Int.reduceNeg, Bool.false_xor, Bool.true_xor, decide_true, decide_false, decide_eq_true_eq]
theorem z2 (M : MS) : φ_neighbours [Fm b d, .int 0] M = some (.ret (.tup [.tup [.int 0, .int 1], .tup [.int 0, .int 1]]) M) := by
  have x := fun x => r_number_i 0 x
  have y : ∀ M, φ_both_sides [Fm b d, .tup [.int 0, .int 1]] M = some (.ret (.tup [.tup [.int 0, .int 1], .tup [.int 0, .int 1]]) M) := fun M => by
    unfold φ_both_sides m_both_sides
    simp only [and_self, DL.dFn, DL.dFi, DL.sSeq, DL.sSet, DL.sIf, DL.sRet, DL.sRetN, DL.sDrop, DL.sBind, DL.sAsg, DL.sPar, DL.sPar3, DL.sNext, DL.dC, DL.dVar, DL.dPeek, DL.dBind, DL.dOut, DL.dUn, DL.dBin, DL.dTru, DL.dNot, DL.dAndT, DL.dOrT, DL.dAndV, DL.dOrV, DL.dIfE, DL.aNil, DL.aCons, DL.aBind, DL.fits, DL.dApp, DL.dRet, DL.dTup, DL.dLst, DL.truD, DL.bName, DL.bTup, DL.bCons, DL.bNil, DL.pick_eq, DL.Src.get, List.filterMap_cons, List.filterMap_nil, List.getElem?_cons_zero, List.getElem?_cons_succ, List.length_cons, List.length_nil, List.set_cons_zero, List.set_cons_succ, List.map_cons, List.map_nil, List.cons_append, List.nil_append, List.append_nil, List.append_assoc, List.reduceReplicate, Nat.reduceAdd, Nat.reduceSub, Nat.reduceLeDiff, Nat.reduceEqDiff, ↓reduceIte, DL.subD, DL.mulD, DL.divD, DL.modD, DL.powD, DL.ltD, DL.leD, DL.gtD, DL.geD, DL.II, DL.subI, DL.cmpI, DL.negD, DL.addD_int, DL.ix_t0, DL.ix_t1, DL.ix_t2, DL.eqA_int, DL.eqA_pair, DL.intD_int, DL.intA_int, DL.intA_bl, DL.absD, DL.le1, DL.le2, DL.le3, DL.le4, DL.le5, DL.le8, DL.le9, Nat.zero_le, Bool.not_true, Bool.not_false, Bool.false_eq_true, DL.eqA_bl, eq_self, Int.reduceEq, Int.reduceLT, Int.reduceNeg, Bool.false_xor, Bool.true_xor, decide_true, decide_false, decide_eq_true_eq]
  unfold φ_neighbours m_neighbours
  simp only [r_need_format, x, y, DL.dFn, DL.dFi, DL.sSeq, DL.sSet, DL.sIf, DL.sRet, DL.sRetN, DL.sDrop, DL.sBind, DL.sAsg, DL.sPar, DL.sPar3, DL.sNext, DL.dC, DL.dVar, DL.dPeek, DL.dBind, DL.dOut, DL.dUn, DL.dBin, DL.dTru, DL.dNot, DL.dAndT, DL.dOrT, DL.dAndV, DL.dOrV, DL.dIfE, DL.aNil, DL.aCons, DL.aBind, DL.fits, DL.dApp, DL.dRet, DL.dTup, DL.dLst, DL.truD, DL.bName, DL.bTup, DL.bCons, DL.bNil, DL.pick_eq, DL.Src.get, List.filterMap_cons, List.filterMap_nil, List.getElem?_cons_zero, List.getElem?_cons_succ, List.length_cons, List.length_nil, List.set_cons_zero, List.set_cons_succ, List.map_cons, List.map_nil, List.cons_append, List.nil_append, List.append_nil, List.append_assoc, List.reduceReplicate, Nat.reduceAdd, Nat.reduceSub, Nat.reduceLeDiff, Nat.reduceEqDiff, ↓reduceIte, DL.subD, DL.mulD, DL.divD, DL.modD, DL.powD, DL.ltD, DL.leD, DL.gtD, DL.geD, DL.II, DL.subI, DL.cmpI, DL.negD, DL.addD_int, DL.ix_t0, DL.ix_t1, DL.ix_t2, DL.eqA_int, DL.eqA_pair, DL.intD_int, DL.intA_int, DL.intA_bl, DL.absD, DL.le1, DL.le2, DL.le3, DL.le4, DL.le5, DL.le8, DL.le9, Nat.zero_le, Bool.not_true, Bool.not_false, Bool.false_eq_true, DL.eqA_bl, eq_self, Int.reduceEq, Int.reduceLT, Int.reduceNeg, Bool.false_xor, Bool.true_xor, decide_true, decide_false, decide_eq_true_eq]
theorem z3 (M : MS) : φ_is_in [Fm b d, .tup [.int 0, .int 5]] M = some (.ret (.bl true) M) := by
  have x := fun x => r_number 0 5 (by decide) (small (k := 3) (by decide) (by omega)) x
  rw [show P2 (lowP 0 5) = D.tup [.int 0, .int 1] from rfl] at x
  unfold φ_is_in m_is_in
  simp only [r_need_format, x, in0, DL.dFn, DL.dFi, DL.sSeq, DL.sSet, DL.sIf, DL.sRet, DL.sRetN, DL.sDrop, DL.sBind, DL.sAsg, DL.sPar, DL.sPar3, DL.sNext, DL.dC, DL.dVar, DL.dPeek, DL.dBind, DL.dOut, DL.dUn, DL.dBin, DL.dTru, DL.dNot, DL.dAndT, DL.dOrT, DL.dAndV, DL.dOrV, DL.dIfE, DL.aNil, DL.aCons, DL.aBind, DL.fits, DL.dApp, DL.dRet, DL.dTup, DL.dLst, DL.truD, DL.bName, DL.bTup, DL.bCons, DL.bNil, DL.pick_eq, DL.Src.get, List.filterMap_cons, List.filterMap_nil, List.getElem?_cons_zero, List.getElem?_cons_succ, List.length_cons, List.length_nil, List.set_cons_zero, List.set_cons_succ, List.map_cons, List.map_nil, List.cons_append, List.nil_append, List.append_nil, List.append_assoc, List.reduceReplicate, Nat.reduceAdd, Nat.reduceSub, Nat.reduceLeDiff, Nat.reduceEqDiff, ↓reduceIte, DL.subD, DL.mulD, DL.divD, DL.modD, DL.powD, DL.ltD, DL.leD, DL.gtD, DL.geD, DL.II, DL.subI, DL.cmpI, DL.negD, DL.addD_int, DL.ix_t0, DL.ix_t1, DL.ix_t2, DL.eqA_int, DL.eqA_pair, DL.intD_int, DL.intA_int, DL.intA_bl, DL.absD, DL.le1, DL.le2, DL.le3, DL.le4, DL.le5, DL.le8, DL.le9, Nat.zero_le, Bool.not_true, Bool.not_false, Bool.false_eq_true, DL.eqA_bl, eq_self, Int.reduceEq, Int.reduceLT, Int.reduceNeg, Bool.false_xor, Bool.true_xor, decide_true, decide_false, decide_eq_true_eq]
theorem r_in_int {n : Nat} {v e : Int} (hn : n ≤ 1500) (g : Good n b d v 1 e) (M : MS) : φ_is_in [Fm b d, .int v] M = some (.ret (.bl (inside b v.natAbs 1 e)) M) := by
  have x := fun x => r_number_i v x
  have y : ∀ M, φ_is_inside [Fm b d, .tup [.int v, .int 1]] M = some (.ret (.bl (inside b v.natAbs 1 e)) M) := r_is_inside hn g
  unfold φ_is_in m_is_in
  simp only [r_need_format, x, y, DL.dFn, DL.dFi, DL.sSeq, DL.sSet, DL.sIf, DL.sRet, DL.sRetN, DL.sDrop, DL.sBind, DL.sAsg, DL.sPar, DL.sPar3, DL.sNext, DL.dC, DL.dVar, DL.dPeek, DL.dBind, DL.dOut, DL.dUn, DL.dBin, DL.dTru, DL.dNot, DL.dAndT, DL.dOrT, DL.dAndV, DL.dOrV, DL.dIfE, DL.aNil, DL.aCons, DL.aBind, DL.fits, DL.dApp, DL.dRet, DL.dTup, DL.dLst, DL.truD, DL.bName, DL.bTup, DL.bCons, DL.bNil, DL.pick_eq, DL.Src.get, List.filterMap_cons, List.filterMap_nil, List.getElem?_cons_zero, List.getElem?_cons_succ, List.length_cons, List.length_nil, List.set_cons_zero, List.set_cons_succ, List.map_cons, List.map_nil, List.cons_append, List.nil_append, List.append_nil, List.append_assoc, List.reduceReplicate, Nat.reduceAdd, Nat.reduceSub, Nat.reduceLeDiff, Nat.reduceEqDiff, ↓reduceIte, DL.subD, DL.mulD, DL.divD, DL.modD, DL.powD, DL.ltD, DL.leD, DL.gtD, DL.geD, DL.II, DL.subI, DL.cmpI, DL.negD, DL.addD_int, DL.ix_t0, DL.ix_t1, DL.ix_t2, DL.eqA_int, DL.eqA_pair, DL.intD_int, DL.intA_int, DL.intA_bl, DL.absD, DL.le1, DL.le2, DL.le3, DL.le4, DL.le5, DL.le8, DL.le9, Nat.zero_le, Bool.not_true, Bool.not_false, Bool.false_eq_true, DL.eqA_bl, eq_self, Int.reduceEq, Int.reduceLT, Int.reduceNeg, Bool.false_xor, Bool.true_xor, decide_true, decide_false, decide_eq_true_eq]
include h1 h2 h3 h4
theorem in_val (v : Nat) (hv : 0 < v) (hl : v < 2 ^ 1000) (m : Nat) (k : Int) (hm : m ≤ b ^ d) (he : v * dn b k = m * (1 * up b k)) (M : MS) : φ_is_in [Fm b d, I v] M = some (.ret (.bl true) M) := by
  obtain ⟨g, hg⟩ := ex_exists (b := b) (T := v) (U := 1) h1 hv (by decide) hl (Nat.one_lt_two_pow (by omega))
  have gd : Good 1000 b d (v : Int) 1 (g - d) := ⟨h1, h2, h3, h4, by omega, by decide, by rw [Int.natAbs_natCast]; exact hl, Nat.one_lt_two_pow (by omega), by rw [Int.natAbs_natCast, show g - (d : Int) + d = g by omega]; exact hg⟩
  have := r_in_int (by omega) gd M
  rw [Int.natAbs_natCast, in_full h1 h3 (by decide) (by rw [show g - (d : Int) + d = g by omega]; exact hg) hm he] at this
  exact this
theorem pow_facts : 2 ≤ b ^ d ∧ b ^ d < 2 ^ 311 := by
  refine ⟨?_, b60 h2 h4⟩
  calc 2 ≤ b := h1
    _ = b ^ 1 := (Nat.pow_one b).symm
    _ ≤ b ^ d := Nat.pow_le_pow_right (by omega) h3
theorem z4 (M : MS) : φ_is_in [Fm b d, I b] M = some (.ret (.bl true) M) := by
  obtain ⟨p1, p2⟩ := pow_facts h1 h2 h3 h4
  have hb : b < 2 ^ 1000 := p2lt (n := 6) (m := 1000) (by omega) (by omega)
  exact in_val h1 h2 h3 h4 b (by omega) hb 1 1 (by omega) (by rw [show ((1 : Int)) = ((1 : Nat) : Int) from rfl, (up_nat 1).1, (up_nat 1).2]; simp) M
theorem z5 (M : MS) : φ_is_in [Fm b d, .int 1] M = some (.ret (.bl true) M) := by
  obtain ⟨p1, p2⟩ := pow_facts h1 h2 h3 h4
  exact in_val h1 h2 h3 h4 1 (by omega) (Nat.one_lt_two_pow (by omega)) 1 0 (by omega) (by rw [show ((0 : Int)) = ((0 : Nat) : Int) from rfl, (up_nat 0).1, (up_nat 0).2]; simp) M
theorem z6 (M : MS) : φ_is_in [Fm b d, .int (((b ^ d : Nat) : Int) - 1)] M = some (.ret (.bl true) M) := by
  obtain ⟨p1, p2⟩ := pow_facts h1 h2 h3 h4
  have := in_val h1 h2 h3 h4 (b ^ d - 1) (by omega) (p2lt (n := 311) (by omega) (by omega)) (b ^ d - 1) 0 (by omega) (by rw [show ((0 : Int)) = ((0 : Nat) : Int) from rfl, (up_nat 0).1, (up_nat 0).2]; simp) M
  rw [show I (b ^ d - 1) = D.int (((b ^ d : Nat) : Int) - 1) from congrArg D.int (by omega)] at this
  exact this
theorem z7 (M : MS) : φ_is_in [Fm b d, I (b ^ d)] M = some (.ret (.bl true) M) := by
  obtain ⟨p1, p2⟩ := pow_facts h1 h2 h3 h4
  exact in_val h1 h2 h3 h4 (b ^ d) (by omega) (p2lt p2 (by omega)) (b ^ d) 0 (by omega) (by rw [show ((0 : Int)) = ((0 : Nat) : Int) from rfl, (up_nat 0).1, (up_nat 0).2]; simp) M
theorem z8 (M : MS) : φ_is_in [Fm b d, .int (((b ^ d : Nat) : Int) + 1)] M = some (.ret (.bl false) M) := by
  obtain ⟨p1, p2⟩ := pow_facts h1 h2 h3 h4
  have k2 : b ^ d * 2 ≤ b ^ d * b := Nat.mul_le_mul_left _ h1
  have hx : Ex b (b ^ d + 1) 1 (1 + d) := by
    constructor
    · rw [show (1 : Int) + (d : Int) = ((d + 1 : Nat) : Int) by omega]
      unfold Und
      rw [(up_nat (d + 1)).1, (up_nat (d + 1)).2, Nat.pow_succ]
      omega
    · rw [show (1 : Int) + (d : Int) - 1 = ((d : Nat) : Int) by omega]
      unfold Und
      rw [(up_nat d).1, (up_nat d).2]
      omega
  have gd : Good 312 b d ((b ^ d + 1 : Nat) : Int) 1 1 := ⟨h1, h2, h3, h4, by omega, by decide, by rw [Int.natAbs_natCast]; exact (by have : (2 : Nat) ^ 312 = 2 ^ 311 + 2 ^ 311 := (by rw [← Nat.two_mul, ← Nat.pow_succ']); omega), Nat.one_lt_two_pow (by omega), by rw [Int.natAbs_natCast]; exact hx⟩
  have := r_in_int (by omega) gd M
  have hi : inside b (((b ^ d + 1 : Nat) : Int)).natAbs 1 1 = false := by
    unfold inside
    rw [Int.natAbs_natCast, show ((1 : Int)) = ((1 : Nat) : Int) from rfl, (up_nat 1).1, (up_nat 1).2, Nat.mul_one, Nat.one_mul, Nat.pow_one]
    have e : b ^ d = b * b ^ (d - 1) := by rw [← Nat.pow_succ']; congr 1; omega
    rw [e, Nat.mul_add_mod, Nat.mod_eq_of_lt h1]
    rfl
  rw [hi] at this
  exact this
end
def pyQ : PyData := .list [.bool true, .tuple [.tuple [.int 0, .int 1], .tuple [.int 0, .int 1]], .bool true, .bool true, .bool true]
theorem reprQ : reprD (.lst [.bl true, .tup [.tup [.int 0, .int 1], .tup [.int 0, .int 1]], .bl true, .bl true, .bl true]) = some (.str pyQ.shown) := by
  have l0 : PyData.leavesShort 1921 (.int 0) = true := leafI (by decide)
  have l1 : PyData.leavesShort 1921 (.int 1) = true := leafI (by decide)
  have s0 : PyData.showable (.int 0) = true := by simp [PyData.showable]
  have s1 : PyData.showable (.int 1) = true := by simp [PyData.showable]; decide
  refine repr_of (p := pyQ) rfl (shw_of ?_ rfl (by decide) ?_ (by decide))
  · show (true && (((PyData.showable (.int 0) && (PyData.showable (.int 1) && true)) && ((PyData.showable (.int 0) && (PyData.showable (.int 1) && true)) && true)) && (true && (true && (true && true))))) = true
    rw [s0, s1]; rfl
  · show (true && (((PyData.leavesShort 1921 (.int 0) && (PyData.leavesShort 1921 (.int 1) && true)) && ((PyData.leavesShort 1921 (.int 0) && (PyData.leavesShort 1921 (.int 1) && true)) && true)) && (true && (true && (true && true))))) = true
    rw [l0, l1]; rfl
theorem l_laps (b d : Nat) (h1 : 2 ≤ b) (h2 : b ≤ 36) (h3 : 1 ≤ d) (h4 : d ≤ 60) (sc T2 : D) (y : Option SV) : ∀ (ds : List D) (n : Nat) (hn : n + 13 * ds.length ≤ 6000) (M : MS) (hM : PenOk n M) (x6 x7 x8 x9 x10 x11 x12 : Option SV),
    ∃ (M' : MS) (z6 z7 z8 z9 z10 z11 z12 : Option SV), loopS (bName 6) b1_law ds [some (SV.t (sc)), some (SV.t (.obj 0)), some (SV.t (T2)), some (SV.t (I b)), some (SV.t (I d)), some (SV.t (Fm b d)), x6, x7, x8, x9, x10, x11, x12, y, none] M = some (.nx [some (SV.t (sc)), some (SV.t (.obj 0)), some (SV.t (T2)), some (SV.t (I b)), some (SV.t (I d)), some (SV.t (Fm b d)), z6, z7, z8, z9, z10, z11, z12, y, none] M') ∧ PenOk (n + 13 * ds.length) M'
  | [], n, hn, M, hM, x6, x7, x8, x9, x10, x11, x12 => ⟨M, x6, x7, x8, x9, x10, x11, x12, rfl, hM⟩
  | l :: ds, n, hn, M, hM, x6, x7, x8, x9, x10, x11, x12 => by
    simp only [List.length_cons] at hn
    obtain ⟨M1, z7, z8, z9, z10, z11, z12, e1, p1⟩ := l_b1 n (by omega) M hM b d h1 h2 h3 h4 sc T2 l x7 x8 x9 x10 x11 x12 y
    obtain ⟨M2, w6, w7, w8, w9, w10, w11, w12, e2, p2⟩ := l_laps b d h1 h2 h3 h4 sc T2 y ds (n + 13) (by omega) M1 p1 (some (.t l)) z7 z8 z9 z10 z11 z12
    refine ⟨M2, w6, w7, w8, w9, w10, w11, w12, ?_, p2.mono (by simp only [List.length_cons]; omega)⟩
    unfold loopS
    show (match b1_law [some (SV.t (sc)), some (SV.t (.obj 0)), some (SV.t (T2)), some (SV.t (I b)), some (SV.t (I d)), some (SV.t (Fm b d)), some (SV.t (l)), x7, x8, x9, x10, x11, x12, y, none] M with | some (.nx ρ2 M2) => loopS (bName 6) b1_law ds ρ2 M2 | some (.ct ρ2 M2) => loopS (bName 6) b1_law ds ρ2 M2 | some (.bk ρ2 M2) => some (.nx ρ2 M2) | o => o) = _
    rw [e1]
    exact e2
theorem l_b0 (n : Nat) (hn : n ≤ 5000) (M : MS) (hM : PenOk n M) (sc T2 : D) (x3 x4 x5 x6 x7 x8 x9 x10 x11 x12 x13 : Option SV) :
    ∃ (M' : MS) (z3 z4 z5 z6 z7 z8 z9 z10 z11 z12 z13 : Option SV), b0_law [some (SV.t (sc)), some (SV.t (.obj 0)), some (SV.t (T2)), x3, x4, x5, x6, x7, x8, x9, x10, x11, x12, x13, none] M = some (.nx [some (SV.t (sc)), some (SV.t (.obj 0)), some (SV.t (T2)), z3, z4, z5, z6, z7, z8, z9, z10, z11, z12, z13, none] M') ∧ PenOk (n + 43) M' := by
  obtain ⟨b, d, M1, e1, h1, h2, h3, h4, p1⟩ := r_sizes n (by omega) M hM
  obtain ⟨M2, w6, w7, w8, w9, w10, w11, w12, e2, p2⟩ := l_laps b d h1 h2 h3 h4 sc T2 x13 (rangeL 0 3) (n + 4) (by rw [rangeL_len]; omega) M1 p1 x6 x7 x8 x9 x10 x11 x12
  rw [rangeL_len] at p2
  have hi : ∀ ρ M, dInit "Format" φ_Format_init [I b, I d] ρ M = some (.ok (Fm b d) ρ M) := fun ρ M => by
    unfold dInit
    rw [sameI_of (fun p => r_init p b d h1 h2 h3 h4 M)]
  have rr : φ__law_raised [I b, I d] M2 = some (.ret (.tup [I (b ^ d), I 1]) M2) := by
    have q := r_law_raised b (d : Int) (by omega) (by omega) M2
    rw [(up_nat d).1, (up_nat d).2] at q
    exact q
  refine ⟨M2, some (.t (I b)), some (.t (I d)), some (.t (Fm b d)), w6, w7, w8, w9, w10, w11, w12, some (.t (I (b ^ d))), ?_, p2.mono (by omega)⟩
  unfold b0_law
  refine Eq.trans (DL.seq_nx (ρ1 := [some (SV.t (sc)), some (SV.t (.obj 0)), some (SV.t (T2)), some (SV.t (I b)), some (SV.t (I d)), x5, x6, x7, x8, x9, x10, x11, x12, x13, none]) (M1 := M1) ?_) ?_
  · simp only [e1, DL.dFn, DL.dFi, DL.sSeq, DL.sSet, DL.sIf, DL.sRet, DL.sRetN, DL.sDrop, DL.sBind, DL.sAsg, DL.sPar, DL.sPar3, DL.sNext, DL.dC, DL.dVar, DL.dPeek, DL.dBind, DL.dOut, DL.dUn, DL.dBin, DL.dTru, DL.dNot, DL.dAndT, DL.dOrT, DL.dAndV, DL.dOrV, DL.dIfE, DL.aNil, DL.aCons, DL.aBind, DL.fits, DL.dApp, DL.dRet, DL.dTup, DL.dLst, DL.truD, DL.bName, DL.bTup, DL.bCons, DL.bNil, DL.pick_eq, DL.Src.get, List.filterMap_cons, List.filterMap_nil, List.getElem?_cons_zero, List.getElem?_cons_succ, List.length_cons, List.length_nil, List.set_cons_zero, List.set_cons_succ, List.map_cons, List.map_nil, List.cons_append, List.nil_append, List.append_nil, List.append_assoc, List.reduceReplicate, Nat.reduceAdd, Nat.reduceSub, Nat.reduceLeDiff, Nat.reduceEqDiff, ↓reduceIte, DL.subD, DL.mulD, DL.divD, DL.modD, DL.powD, DL.ltD, DL.leD, DL.gtD, DL.geD, DL.II, DL.subI, DL.cmpI, DL.negD, DL.addD_int, DL.ix_t0, DL.ix_t1, DL.ix_t2, DL.eqA_int, DL.eqA_pair, DL.intD_int, DL.intA_int, DL.intA_bl, DL.absD, DL.le1, DL.le2, DL.le3, DL.le4, DL.le5, DL.le8, DL.le9, Nat.zero_le, Bool.not_true, Bool.not_false, Bool.false_eq_true, DL.eqA_bl, eq_self, Int.reduceEq, Int.reduceLT, Int.reduceNeg, Bool.false_xor, Bool.true_xor, decide_true, decide_false, decide_eq_true_eq]
  refine Eq.trans (DL.seq_nx (ρ1 := [some (SV.t (sc)), some (SV.t (.obj 0)), some (SV.t (T2)), some (SV.t (I b)), some (SV.t (I d)), some (SV.t (Fm b d)), x6, x7, x8, x9, x10, x11, x12, x13, none]) (M1 := M1) ?_) ?_
  · simp only [hi, DL.dFn, DL.dFi, DL.sSeq, DL.sSet, DL.sIf, DL.sRet, DL.sRetN, DL.sDrop, DL.sBind, DL.sAsg, DL.sPar, DL.sPar3, DL.sNext, DL.dC, DL.dVar, DL.dPeek, DL.dBind, DL.dOut, DL.dUn, DL.dBin, DL.dTru, DL.dNot, DL.dAndT, DL.dOrT, DL.dAndV, DL.dOrV, DL.dIfE, DL.aNil, DL.aCons, DL.aBind, DL.fits, DL.dApp, DL.dRet, DL.dTup, DL.dLst, DL.truD, DL.bName, DL.bTup, DL.bCons, DL.bNil, DL.pick_eq, DL.Src.get, List.filterMap_cons, List.filterMap_nil, List.getElem?_cons_zero, List.getElem?_cons_succ, List.length_cons, List.length_nil, List.set_cons_zero, List.set_cons_succ, List.map_cons, List.map_nil, List.cons_append, List.nil_append, List.append_nil, List.append_assoc, List.reduceReplicate, Nat.reduceAdd, Nat.reduceSub, Nat.reduceLeDiff, Nat.reduceEqDiff, ↓reduceIte, DL.subD, DL.mulD, DL.divD, DL.modD, DL.powD, DL.ltD, DL.leD, DL.gtD, DL.geD, DL.II, DL.subI, DL.cmpI, DL.negD, DL.addD_int, DL.ix_t0, DL.ix_t1, DL.ix_t2, DL.eqA_int, DL.eqA_pair, DL.intD_int, DL.intA_int, DL.intA_bl, DL.absD, DL.le1, DL.le2, DL.le3, DL.le4, DL.le5, DL.le8, DL.le9, Nat.zero_le, Bool.not_true, Bool.not_false, Bool.false_eq_true, DL.eqA_bl, eq_self, Int.reduceEq, Int.reduceLT, Int.reduceNeg, Bool.false_xor, Bool.true_xor, decide_true, decide_false, decide_eq_true_eq]
  refine Eq.trans (DL.seq_nx (ρ1 := [some (SV.t (sc)), some (SV.t (.obj 0)), some (SV.t (T2)), some (SV.t (I b)), some (SV.t (I d)), some (SV.t (Fm b d)), w6, w7, w8, w9, w10, w11, w12, x13, none]) (M1 := M2) ?_) ?_
  · exact (for_eq (show s1_law _ M1 = _ from rng1 (show dC (.int 3) _ M1 = _ from rfl) (by decide))).trans e2
  refine Eq.trans (DL.seq_nx (ρ1 := [some (SV.t (sc)), some (SV.t (.obj 0)), some (SV.t (T2)), some (SV.t (I b)), some (SV.t (I d)), some (SV.t (Fm b d)), w6, w7, w8, w9, w10, w11, w12, x13, none]) (M1 := M2) ?_) ?_
  · simp only [z1, z2, z3, z4 h1 h2 h3 h4, z5 h1 h2 h3 h4, reprQ, eqA_str, Bool.xor_true, Bool.not_true, DL.dFn, DL.dFi, DL.sSeq, DL.sSet, DL.sIf, DL.sRet, DL.sRetN, DL.sDrop, DL.sBind, DL.sAsg, DL.sPar, DL.sPar3, DL.sNext, DL.dC, DL.dVar, DL.dPeek, DL.dBind, DL.dOut, DL.dUn, DL.dBin, DL.dTru, DL.dNot, DL.dAndT, DL.dOrT, DL.dAndV, DL.dOrV, DL.dIfE, DL.aNil, DL.aCons, DL.aBind, DL.fits, DL.dApp, DL.dRet, DL.dTup, DL.dLst, DL.truD, DL.bName, DL.bTup, DL.bCons, DL.bNil, DL.pick_eq, DL.Src.get, List.filterMap_cons, List.filterMap_nil, List.getElem?_cons_zero, List.getElem?_cons_succ, List.length_cons, List.length_nil, List.set_cons_zero, List.set_cons_succ, List.map_cons, List.map_nil, List.cons_append, List.nil_append, List.append_nil, List.append_assoc, List.reduceReplicate, Nat.reduceAdd, Nat.reduceSub, Nat.reduceLeDiff, Nat.reduceEqDiff, ↓reduceIte, DL.subD, DL.mulD, DL.divD, DL.modD, DL.powD, DL.ltD, DL.leD, DL.gtD, DL.geD, DL.II, DL.subI, DL.cmpI, DL.negD, DL.addD_int, DL.ix_t0, DL.ix_t1, DL.ix_t2, DL.eqA_int, DL.eqA_pair, DL.intD_int, DL.intA_int, DL.intA_bl, DL.absD, DL.le1, DL.le2, DL.le3, DL.le4, DL.le5, DL.le8, DL.le9, Nat.zero_le, Bool.not_true, Bool.not_false, Bool.false_eq_true, DL.eqA_bl, eq_self, Int.reduceEq, Int.reduceLT, Int.reduceNeg, Bool.false_xor, Bool.true_xor, decide_true, decide_false, decide_eq_true_eq]
  refine Eq.trans (DL.seq_nx (ρ1 := [some (SV.t (sc)), some (SV.t (.obj 0)), some (SV.t (T2)), some (SV.t (I b)), some (SV.t (I d)), some (SV.t (Fm b d)), w6, w7, w8, w9, w10, w11, w12, some (SV.t (I (b ^ d))), none]) (M1 := M2) ?_) ?_
  · refine set_p (d := I (b ^ d)) (ρ1 := [some (SV.t (sc)), some (SV.t (.obj 0)), some (SV.t (T2)), some (SV.t (I b)), some (SV.t (I d)), some (SV.t (Fm b d)), w6, w7, w8, w9, w10, w11, w12, x13, none]) (M1 := M2) ?_
    refine bin_p (x := .tup [I (b ^ d), I 1]) (y := .int 0) (ρ1 := [some (SV.t (sc)), some (SV.t (.obj 0)), some (SV.t (T2)), some (SV.t (I b)), some (SV.t (I d)), some (SV.t (Fm b d)), w6, w7, w8, w9, w10, w11, w12, x13, none]) (M1 := M2) (ρ2 := [some (SV.t (sc)), some (SV.t (.obj 0)), some (SV.t (T2)), some (SV.t (I b)), some (SV.t (I d)), some (SV.t (Fm b d)), w6, w7, w8, w9, w10, w11, w12, x13, none]) (M2 := M2) ?_ rfl (ix_t0 _ _)
    refine call_p (vs := [I b, I d]) (ws := [I b, I d]) (ρ1 := [some (SV.t (sc)), some (SV.t (.obj 0)), some (SV.t (T2)), some (SV.t (I b)), some (SV.t (I d)), some (SV.t (Fm b d)), w6, w7, w8, w9, w10, w11, w12, x13, none]) (M1 := M2) ?_ rfl rfl rfl rr
    simp only [DL.dFn, DL.dFi, DL.sSeq, DL.sSet, DL.sIf, DL.sRet, DL.sRetN, DL.sDrop, DL.sBind, DL.sAsg, DL.sPar, DL.sPar3, DL.sNext, DL.dC, DL.dVar, DL.dPeek, DL.dBind, DL.dOut, DL.dUn, DL.dBin, DL.dTru, DL.dNot, DL.dAndT, DL.dOrT, DL.dAndV, DL.dOrV, DL.dIfE, DL.aNil, DL.aCons, DL.aBind, DL.fits, DL.dApp, DL.dRet, DL.dTup, DL.dLst, DL.truD, DL.bName, DL.bTup, DL.bCons, DL.bNil, DL.pick_eq, DL.Src.get, List.filterMap_cons, List.filterMap_nil, List.getElem?_cons_zero, List.getElem?_cons_succ, List.length_cons, List.length_nil, List.set_cons_zero, List.set_cons_succ, List.map_cons, List.map_nil, List.cons_append, List.nil_append, List.append_nil, List.append_assoc, List.reduceReplicate, Nat.reduceAdd, Nat.reduceSub, Nat.reduceLeDiff, Nat.reduceEqDiff, ↓reduceIte, DL.subD, DL.mulD, DL.divD, DL.modD, DL.powD, DL.ltD, DL.leD, DL.gtD, DL.geD, DL.II, DL.subI, DL.cmpI, DL.negD, DL.addD_int, DL.ix_t0, DL.ix_t1, DL.ix_t2, DL.eqA_int, DL.eqA_pair, DL.intD_int, DL.intA_int, DL.intA_bl, DL.absD, DL.le1, DL.le2, DL.le3, DL.le4, DL.le5, DL.le8, DL.le9, Nat.zero_le, Bool.not_true, Bool.not_false, Bool.false_eq_true, DL.eqA_bl, eq_self, Int.reduceEq, Int.reduceLT, Int.reduceNeg, Bool.false_xor, Bool.true_xor, decide_true, decide_false, decide_eq_true_eq]
  simp only [z6 h1 h2 h3 h4, z7 h1 h2 h3 h4, z8 h1 h2 h3 h4, eqBL3, Bool.xor_true, Bool.not_true, DL.dFn, DL.dFi, DL.sSeq, DL.sSet, DL.sIf, DL.sRet, DL.sRetN, DL.sDrop, DL.sBind, DL.sAsg, DL.sPar, DL.sPar3, DL.sNext, DL.dC, DL.dVar, DL.dPeek, DL.dBind, DL.dOut, DL.dUn, DL.dBin, DL.dTru, DL.dNot, DL.dAndT, DL.dOrT, DL.dAndV, DL.dOrV, DL.dIfE, DL.aNil, DL.aCons, DL.aBind, DL.fits, DL.dApp, DL.dRet, DL.dTup, DL.dLst, DL.truD, DL.bName, DL.bTup, DL.bCons, DL.bNil, DL.pick_eq, DL.Src.get, List.filterMap_cons, List.filterMap_nil, List.getElem?_cons_zero, List.getElem?_cons_succ, List.length_cons, List.length_nil, List.set_cons_zero, List.set_cons_succ, List.map_cons, List.map_nil, List.cons_append, List.nil_append, List.append_nil, List.append_assoc, List.reduceReplicate, Nat.reduceAdd, Nat.reduceSub, Nat.reduceLeDiff, Nat.reduceEqDiff, ↓reduceIte, DL.subD, DL.mulD, DL.divD, DL.modD, DL.powD, DL.ltD, DL.leD, DL.gtD, DL.geD, DL.II, DL.subI, DL.cmpI, DL.negD, DL.addD_int, DL.ix_t0, DL.ix_t1, DL.ix_t2, DL.eqA_int, DL.eqA_pair, DL.intD_int, DL.intA_int, DL.intA_bl, DL.absD, DL.le1, DL.le2, DL.le3, DL.le4, DL.le5, DL.le8, DL.le9, Nat.zero_le, Bool.not_true, Bool.not_false, Bool.false_eq_true, DL.eqA_bl, eq_self, Int.reduceEq, Int.reduceLT, Int.reduceNeg, Bool.false_xor, Bool.true_xor, decide_true, decide_false, decide_eq_true_eq]
end L07
set_option maxHeartbeats 4000000
set_option exponentiation.threshold 4000
namespace L07
open PySem PySem.Spec PyProof.Rows L2 DL PA
theorem l_turns (sc : D) : ∀ (ds : List D) (n : Nat) (hn : n + 43 * ds.length ≤ 5000) (M : MS) (hM : PenOk n M) (x2 x3 x4 x5 x6 x7 x8 x9 x10 x11 x12 x13 : Option SV),
    ∃ (M' : MS) (z2 z3 z4 z5 z6 z7 z8 z9 z10 z11 z12 z13 : Option SV), loopS (bName 2) b0_law ds [some (SV.t (sc)), some (SV.t (.obj 0)), x2, x3, x4, x5, x6, x7, x8, x9, x10, x11, x12, x13, none] M = some (.nx [some (SV.t (sc)), some (SV.t (.obj 0)), z2, z3, z4, z5, z6, z7, z8, z9, z10, z11, z12, z13, none] M')
  | [], n, hn, M, hM, x2, x3, x4, x5, x6, x7, x8, x9, x10, x11, x12, x13 => ⟨M, x2, x3, x4, x5, x6, x7, x8, x9, x10, x11, x12, x13, rfl⟩
  | l :: ds, n, hn, M, hM, x2, x3, x4, x5, x6, x7, x8, x9, x10, x11, x12, x13 => by
    simp only [List.length_cons] at hn
    obtain ⟨M1, z3, z4, z5, z6, z7, z8, z9, z10, z11, z12, z13, e1, p1⟩ := l_b0 n (by omega) M hM sc l x3 x4 x5 x6 x7 x8 x9 x10 x11 x12 x13
    obtain ⟨M2, w2, w3, w4, w5, w6, w7, w8, w9, w10, w11, w12, w13, e2⟩ := l_turns sc ds (n + 43) (by omega) M1 p1 (some (.t l)) z3 z4 z5 z6 z7 z8 z9 z10 z11 z12 z13
    refine ⟨M2, w2, w3, w4, w5, w6, w7, w8, w9, w10, w11, w12, w13, ?_⟩
    unfold loopS
    show (match b0_law [some (SV.t (sc)), some (SV.t (.obj 0)), some (SV.t (l)), x3, x4, x5, x6, x7, x8, x9, x10, x11, x12, x13, none] M with | some (.nx ρ2 M2) => loopS (bName 2) b0_law ds ρ2 M2 | some (.ct ρ2 M2) => loopS (bName 2) b0_law ds ρ2 M2 | some (.bk ρ2 M2) => some (.nx ρ2 M2) | o => o) = _
    rw [e1]
    exact e2
theorem r_pen (ns : List Int) (hl : ns.length ≤ 63) : ∃ M, φ__law_pen [.scr (ns.map D.int)] [] = some (.ret (.obj 0) M) ∧ PenOk 0 M := by
  obtain ⟨cs, hcs, hlen⟩ : ∃ cs : List Int, DL.cutD (ns.map D.int) none (some 63) = cs.map D.int ∧ cs.length ≤ 63 := by
    refine ⟨(ns.drop (HT.sIx (ns.map D.int).length 0 none)).take (HT.sIx (ns.map D.int).length (ns.map D.int).length (some 63) - HT.sIx (ns.map D.int).length 0 none), ?_, ?_⟩
    · unfold DL.cutD
      rw [List.map_take, List.map_drop]
    · rw [List.length_take, List.length_drop]
      omega
  have k : k0__law_pen [some (.t (.scr (ns.map D.int))), none] [] = some (.ok (.lst (cs.map D.int)) [some (.t (.scr (ns.map D.int))), none] []) := by
    have h := comp_map (vs := [1]) (b := bName 1) (u := dUn intA (dPeek 1)) (M := []) (M1 := []) (ρ := [some (.t (.scr (ns.map D.int))), none]) (ρ1 := [some (.t (.scr (ns.map D.int))), none]) (ds := cs.map D.int)
      (src := iBind (dSl (dPeek 0) none (some (dC (.int 63)))) itemsD) (fun d => d) (seq_eq (d := .lst (cs.map D.int)) (by
        rw [← hcs]
        rfl) rfl) rfl (by decide) (line_nat (by rw [List.length_map]; omega)) (fun x hx => by
        obtain ⟨i, _, rfl⟩ := List.mem_map.mp hx
        exact ⟨_, rfl, rfl⟩)
    rw [List.map_id'] at h
    exact h
  refine ⟨[penO cs 0 0], ?_, ⟨cs, 0, 0, rfl, hlen, by omega, by omega, by omega⟩⟩
  unfold φ__law_pen m__law_pen
  refine dFn_rt rfl ?_
  show sRetObj (aCons k0__law_pen (aCons (dC (.int 0)) (aCons (dC (.int 0)) aNil))) [some (.t (.scr (ns.map D.int))), none] [] = _
  have a : aCons k0__law_pen (aCons (dC (.int 0)) (aCons (dC (.int 0)) aNil)) [some (.t (.scr (ns.map D.int))), none] [] = some (.ok [.lst (cs.map D.int), .int 0, .int 0] [some (.t (.scr (ns.map D.int))), none] []) := by
    unfold aCons
    rw [k]
    rfl
  unfold sRetObj
  rw [a]
  show (if 3 ≤ sizeLine then _ else none) = _
  rw [if_pos (line_nat (by decide))]
  rfl
theorem plain (ns : List Int) (hl : ns.length ≤ 63) (hbits : ∀ z ∈ ns, Builtin.Int.intBits z ≤ 1048576) : ∃ M', φ_law [.scr (ns.map D.int)] [] = some (.ret (.bl true) M') := by
  obtain ⟨M1, e1, p1⟩ := r_pen ns hl
  generalize hsc : D.scr (ns.map D.int) = sc at *
  obtain ⟨M2, w2, w3, w4, w5, w6, w7, w8, w9, w10, w11, w12, w13, e2⟩ := l_turns sc (rangeL 0 6) 0 (by rw [rangeL_len]; omega) M1 p1 none none none none none none none none none none none none
  refine ⟨M2, ?_⟩
  unfold φ_law m_law
  refine dFn_rt rfl ?_
  show sSeq _ _ [some (SV.t (sc)), none, none, none, none, none, none, none, none, none, none, none, none, none, none] [] = _
  refine Eq.trans (DL.seq_nx (ρ1 := [some (SV.t (sc)), some (SV.t (.obj 0)), none, none, none, none, none, none, none, none, none, none, none, none, none]) (M1 := M1) ?_) ?_
  · refine set_p (d := .obj 0) (ρ1 := [some (SV.t (sc)), none, none, none, none, none, none, none, none, none, none, none, none, none, none]) (M1 := M1) ?_
    refine call_p (vs := [sc]) (ws := [sc]) (ρ1 := [some (SV.t (sc)), none, none, none, none, none, none, none, none, none, none, none, none, none, none]) (M1 := []) ?_ rfl rfl rfl e1
    simp only [DL.dFn, DL.dFi, DL.sSeq, DL.sSet, DL.sIf, DL.sRet, DL.sRetN, DL.sDrop, DL.sBind, DL.sAsg, DL.sPar, DL.sPar3, DL.sNext, DL.dC, DL.dVar, DL.dPeek, DL.dBind, DL.dOut, DL.dUn, DL.dBin, DL.dTru, DL.dNot, DL.dAndT, DL.dOrT, DL.dAndV, DL.dOrV, DL.dIfE, DL.aNil, DL.aCons, DL.aBind, DL.fits, DL.dApp, DL.dRet, DL.dTup, DL.dLst, DL.truD, DL.bName, DL.bTup, DL.bCons, DL.bNil, DL.pick_eq, DL.Src.get, List.filterMap_cons, List.filterMap_nil, List.getElem?_cons_zero, List.getElem?_cons_succ, List.length_cons, List.length_nil, List.set_cons_zero, List.set_cons_succ, List.map_cons, List.map_nil, List.cons_append, List.nil_append, List.append_nil, List.append_assoc, List.reduceReplicate, Nat.reduceAdd, Nat.reduceSub, Nat.reduceLeDiff, Nat.reduceEqDiff, ↓reduceIte, DL.subD, DL.mulD, DL.divD, DL.modD, DL.powD, DL.ltD, DL.leD, DL.gtD, DL.geD, DL.II, DL.subI, DL.cmpI, DL.negD, DL.addD_int, DL.ix_t0, DL.ix_t1, DL.ix_t2, DL.eqA_int, DL.eqA_pair, DL.intD_int, DL.intA_int, DL.intA_bl, DL.absD, DL.le1, DL.le2, DL.le3, DL.le4, DL.le5, DL.le8, DL.le9, Nat.zero_le, Bool.not_true, Bool.not_false, Bool.false_eq_true, DL.eqA_bl, eq_self, Int.reduceEq, Int.reduceLT, Int.reduceNeg, Bool.false_xor, Bool.true_xor, decide_true, decide_false, decide_eq_true_eq]
  refine Eq.trans (DL.seq_nx (ρ1 := [some (SV.t (sc)), some (SV.t (.obj 0)), w2, w3, w4, w5, w6, w7, w8, w9, w10, w11, w12, w13, none]) (M1 := M2) ?_) ?_
  · exact (for_eq (show s0_law _ M1 = _ from rng1 (show dC (.int 6) _ M1 = _ from rfl) (by decide))).trans e2
  rfl
end L07
set_option maxHeartbeats 0
namespace L07
open PySem PySem.Spec PyProof.Rows L2 DL
def d__law_pen : He.DefD := ⟨("_law_pen", none), "_law_pen", "_law_pen", defArgs s__law_pen, defBody s__law_pen, defScope s__law_pen, [], []⟩
def d__law_draw : He.DefD := ⟨("_law_draw", none), "_law_draw", "_law_draw", defArgs s__law_draw, defBody s__law_draw, defScope s__law_draw, [], []⟩
def d__law_pick : He.DefD := ⟨("_law_pick", none), "_law_pick", "_law_pick", defArgs s__law_pick, defBody s__law_pick, defScope s__law_pick, [], []⟩
def d__law_sizes : He.DefD := ⟨("_law_sizes", none), "_law_sizes", "_law_sizes", defArgs s__law_sizes, defBody s__law_sizes, defScope s__law_sizes, [], []⟩
def d_is_integer : He.DefD := ⟨("is_integer", none), "is_integer", "is_integer", defArgs s_is_integer, defBody s_is_integer, defScope s_is_integer, [], []⟩
def d_is_within : He.DefD := ⟨("is_within", none), "is_within", "is_within", defArgs s_is_within, defBody s_is_within, defScope s_is_within, [], []⟩
def d_Format_init : He.DefD := ⟨("Format", some "__init__"), "__init__", "Format.__init__", defArgs s_Format_init, defBody s_Format_init, defScope s_Format_init, [], []⟩
def d__law_raised : He.DefD := ⟨("_law_raised", none), "_law_raised", "_law_raised", defArgs s__law_raised, defBody s__law_raised, defScope s__law_raised, [], []⟩
def d__law_written : He.DefD := ⟨("_law_written", none), "_law_written", "_law_written", defArgs s__law_written, defBody s__law_written, defScope s__law_written, [], []⟩
def d__law_low : He.DefD := ⟨("_law_low", none), "_law_low", "_law_low", defArgs s__law_low, defBody s__law_low, defScope s__law_low, [], []⟩
def d__law_worth : He.DefD := ⟨("_law_worth", none), "_law_worth", "_law_worth", defArgs s__law_worth, defBody s__law_worth, defScope s__law_worth, [], []⟩
def d__law_near_some : He.DefD := ⟨("_law_near_some", none), "_law_near_some", "_law_near_some", defArgs s__law_near_some, defBody s__law_near_some, defScope s__law_near_some, [], []⟩
def d__law_sides : He.DefD := ⟨("_law_sides", none), "_law_sides", "_law_sides", defArgs s__law_sides, defBody s__law_sides, defScope s__law_sides, [], []⟩
def d_need_format : He.DefD := ⟨("need_format", none), "need_format", "need_format", defArgs s_need_format, defBody s_need_format, defScope s_need_format, [], []⟩
def d_int_power : He.DefD := ⟨("int_power", none), "int_power", "int_power", defArgs s_int_power, defBody s_int_power, defScope s_int_power, [], []⟩
def d_fits_under : He.DefD := ⟨("fits_under", none), "fits_under", "fits_under", defArgs s_fits_under, defBody s_fits_under, defScope s_fits_under, [], []⟩
def d_exponent_of : He.DefD := ⟨("exponent_of", none), "exponent_of", "exponent_of", defArgs s_exponent_of, defBody s_exponent_of, defScope s_exponent_of, [], []⟩
def d_scaled : He.DefD := ⟨("scaled", none), "scaled", "scaled", defArgs s_scaled, defBody s_scaled, defScope s_scaled, [], []⟩
def d_low : He.DefD := ⟨("low", none), "low", "low", defArgs s_low, defBody s_low, defScope s_low, [], []⟩
def d_times_power : He.DefD := ⟨("times_power", none), "times_power", "times_power", defArgs s_times_power, defBody s_times_power, defScope s_times_power, [], []⟩
def d_turn_pair : He.DefD := ⟨("turn_pair", none), "turn_pair", "turn_pair", defArgs s_turn_pair, defBody s_turn_pair, defScope s_turn_pair, [], []⟩
def d_both_sides : He.DefD := ⟨("both_sides", none), "both_sides", "both_sides", defArgs s_both_sides, defBody s_both_sides, defScope s_both_sides, [], []⟩
def d_is_row : He.DefD := ⟨("is_row", none), "is_row", "is_row", defArgs s_is_row, defBody s_is_row, defScope s_is_row, [], []⟩
def d_is_number : He.DefD := ⟨("is_number", none), "is_number", "is_number", defArgs s_is_number, defBody s_is_number, defScope s_is_number, [], []⟩
def d_number_of : He.DefD := ⟨("number_of", none), "number_of", "number_of", defArgs s_number_of, defBody s_number_of, defScope s_number_of, [.str "number"], []⟩
def d_neighbours : He.DefD := ⟨("neighbours", none), "neighbours", "neighbours", defArgs s_neighbours, defBody s_neighbours, defScope s_neighbours, [], []⟩
def d_raised : He.DefD := ⟨("raised", none), "raised", "raised", defArgs s_raised, defBody s_raised, defScope s_raised, [], []⟩
def d_ulp : He.DefD := ⟨("ulp", none), "ulp", "ulp", defArgs s_ulp, defBody s_ulp, defScope s_ulp, [], []⟩
def d_is_inside : He.DefD := ⟨("is_inside", none), "is_inside", "is_inside", defArgs s_is_inside, defBody s_is_inside, defScope s_is_inside, [], []⟩
def d_is_in : He.DefD := ⟨("is_in", none), "is_in", "is_in", defArgs s_is_in, defBody s_is_in, defScope s_is_in, [], []⟩
def d__law_cmp : He.DefD := ⟨("_law_cmp", none), "_law_cmp", "_law_cmp", defArgs s__law_cmp, defBody s__law_cmp, defScope s__law_cmp, [], []⟩
def d__law_one_right : He.DefD := ⟨("_law_one_right", none), "_law_one_right", "_law_one_right", defArgs s__law_one_right, defBody s__law_one_right, defScope s__law_one_right, [], []⟩
def d_law : He.DefD := ⟨("law", none), "law", "law", defArgs s_law, defBody s_law, defScope s_law, [], []⟩
def fn : List He.DefD := [d__law_pen, d__law_draw, d__law_pick, d__law_sizes, d_is_integer, d_is_within, d_Format_init, d__law_raised, d__law_written, d__law_low, d__law_worth, d__law_near_some, d__law_sides, d_need_format, d_int_power, d_fits_under, d_exponent_of, d_scaled, d_low, d_times_power, d_turn_pair, d_both_sides, d_is_row, d_is_number, d_number_of, d_neighbours, d_raised, d_ulp, d_is_inside, d_is_in, d__law_cmp, d__law_one_right, d_law]
def fa : List He.Fa := [.glo "_law_pen", .glo "_law_draw", .glo "_law_pick", .glo "_law_sizes", .glo "is_integer", .glo "is_within", .glo "Format", .mkr "Format", .glo "_law_raised", .glo "_law_written", .glo "_law_low", .glo "_law_worth", .glo "_law_near_some", .glo "_law_sides", .glo "need_format", .glo "int_power", .glo "fits_under", .glo "exponent_of", .glo "scaled", .glo "low", .glo "times_power", .glo "turn_pair", .glo "both_sides", .glo "is_row", .glo "is_number", .glo "number_of", .glo "neighbours", .glo "raised", .glo "ulp", .glo "is_inside", .glo "is_in", .glo "_law_cmp", .glo "_law_one_right", .glo "law", .free "abs", .free "bool", .free "int", .free "isinstance", .free "len", .free "list", .free "range", .free "repr", .free "tuple", .int "LEAST_BASE" 2, .int "MOST_BASE" 36, .int "MOST_DIGITS" 60]
def ex (K : PySem.W.Frag) : Bool := ownB K TT && (bfB K "gcd" "math.gcd" && (tupGB K "NOTHING" [0, 1] && true))
def loose0 : List Str := ["_wall", "__name__", "NearError", "BadNumber", "BadFormat", "is_integer", "is_within", "is_row", "NOTHING", "int_power", "low", "turn_pair", "is_number", "number_of", "LEAST_BASE", "MOST_BASE", "MOST_DIGITS", "Format", "raised", "fits_under", "exponent_of", "scaled", "times_power", "both_sides", "is_inside"]
def loose1 : List Str := ["need_format", "is_in", "neighbours", "ulp", "_law_pen", "_law_draw", "_law_pick", "_law_low", "_law_cmp", "_law_raised", "_law_sizes", "_law_sides", "_law_worth", "_law_written", "_law_near_some", "_law_one_right"]
def loose : List Str := loose0 ++ loose1
abbrev R : PySem.W.OpenRow := PySem.W.OpenLaw.row PySem.Challenge.rw_askednear_k07_whole_numbers_of_formats
abbrev hk : PySem.W.Hook := He.hookX 5 fa fn [] [] ex
def ob (s : PySem.W.SharedT) : He.AlX := He.obsX 5 fa fn [] [] ex (HandSHeadRun.getT s)
theorem ob_eq (s : PySem.W.SharedT) : ob s = hk.obs s.abs := He.obsX_eq (HandSHeadRun.getT_eq s)
theorem run (w : World) : HandSHeadRun.RunEqI R (PySem.W.view R.prog [0, 46]) hk ob 4000 loose w := by
  unfold HandSHeadRun.RunEqI
  kernel_rfl
theorem facts {P : Program} {w : World} {K : PySem.W.Frag} {h : Heap} {mg : Str → Option Value} {f : Addr} (X : K.In h) (G : h.Ns mainGlobals mg) (hfa : mg ("law" : Str) = some (.ref f)) (c : He.SaysX fa fn [] [] ex w h K) :
    ∃ fd : FuncData, (∀ (s : Shared) (v : Value), BindsTo s fd ⟨[v], []⟩ [("script", v)]) ∧ ∀ base : Heap, K.In base → base.Ns mainGlobals mg → FnG P w K mg base (L2.CX P w) 7 f fd ["script"] (spD K mg 1 φ_law) := by
  have E : Fx K mg := ⟨own_ok X G (He.ba c.more).1, He.free_ok X G (c.t.d.fact 34 (f := .free "abs") rfl), He.free_ok X G (c.t.d.fact 35 (f := .free "bool") rfl), He.free_ok X G (c.t.d.fact 36 (f := .free "int") rfl), He.free_ok X G (c.t.d.fact 37 (f := .free "isinstance") rfl), He.free_ok X G (c.t.d.fact 38 (f := .free "len") rfl), He.free_ok X G (c.t.d.fact 39 (f := .free "list") rfl), He.free_ok X G (c.t.d.fact 40 (f := .free "range") rfl), He.free_ok X G (c.t.d.fact 41 (f := .free "repr") rfl), He.free_ok X G (c.t.d.fact 42 (f := .free "tuple") rfl), bf_ok X G (He.ba (He.ba c.more).2).1, He.int_ok X G (c.t.d.fact 43 (f := .int "LEAST_BASE" 2) rfl), He.int_ok X G (c.t.d.fact 44 (f := .int "MOST_BASE" 36) rfl), He.int_ok X G (c.t.d.fact 45 (f := .int "MOST_DIGITS" 60) rfl), tupG_ok X G (He.ba (He.ba (He.ba c.more).2).2).1⟩
  obtain ⟨fd__law_pen, F__law_pen⟩ := c.t.d.def_ 0 (d := d__law_pen) rfl
  obtain ⟨fd__law_draw, F__law_draw⟩ := c.t.d.def_ 1 (d := d__law_draw) rfl
  obtain ⟨fd__law_pick, F__law_pick⟩ := c.t.d.def_ 2 (d := d__law_pick) rfl
  obtain ⟨fd__law_sizes, F__law_sizes⟩ := c.t.d.def_ 3 (d := d__law_sizes) rfl
  obtain ⟨fd_is_integer, F_is_integer⟩ := c.t.d.def_ 4 (d := d_is_integer) rfl
  obtain ⟨fd_is_within, F_is_within⟩ := c.t.d.def_ 5 (d := d_is_within) rfl
  obtain ⟨fd_Format_init, F_Format_init⟩ := c.t.d.def_ 6 (d := d_Format_init) rfl
  obtain ⟨fd__law_raised, F__law_raised⟩ := c.t.d.def_ 7 (d := d__law_raised) rfl
  obtain ⟨fd__law_written, F__law_written⟩ := c.t.d.def_ 8 (d := d__law_written) rfl
  obtain ⟨fd__law_low, F__law_low⟩ := c.t.d.def_ 9 (d := d__law_low) rfl
  obtain ⟨fd__law_worth, F__law_worth⟩ := c.t.d.def_ 10 (d := d__law_worth) rfl
  obtain ⟨fd__law_near_some, F__law_near_some⟩ := c.t.d.def_ 11 (d := d__law_near_some) rfl
  obtain ⟨fd__law_sides, F__law_sides⟩ := c.t.d.def_ 12 (d := d__law_sides) rfl
  obtain ⟨fd_need_format, F_need_format⟩ := c.t.d.def_ 13 (d := d_need_format) rfl
  obtain ⟨fd_int_power, F_int_power⟩ := c.t.d.def_ 14 (d := d_int_power) rfl
  obtain ⟨fd_fits_under, F_fits_under⟩ := c.t.d.def_ 15 (d := d_fits_under) rfl
  obtain ⟨fd_exponent_of, F_exponent_of⟩ := c.t.d.def_ 16 (d := d_exponent_of) rfl
  obtain ⟨fd_scaled, F_scaled⟩ := c.t.d.def_ 17 (d := d_scaled) rfl
  obtain ⟨fd_low, F_low⟩ := c.t.d.def_ 18 (d := d_low) rfl
  obtain ⟨fd_times_power, F_times_power⟩ := c.t.d.def_ 19 (d := d_times_power) rfl
  obtain ⟨fd_turn_pair, F_turn_pair⟩ := c.t.d.def_ 20 (d := d_turn_pair) rfl
  obtain ⟨fd_both_sides, F_both_sides⟩ := c.t.d.def_ 21 (d := d_both_sides) rfl
  obtain ⟨fd_is_row, F_is_row⟩ := c.t.d.def_ 22 (d := d_is_row) rfl
  obtain ⟨fd_is_number, F_is_number⟩ := c.t.d.def_ 23 (d := d_is_number) rfl
  obtain ⟨fd_number_of, F_number_of⟩ := c.t.d.def_ 24 (d := d_number_of) rfl
  obtain ⟨fd_neighbours, F_neighbours⟩ := c.t.d.def_ 25 (d := d_neighbours) rfl
  obtain ⟨fd_raised, F_raised⟩ := c.t.d.def_ 26 (d := d_raised) rfl
  obtain ⟨fd_ulp, F_ulp⟩ := c.t.d.def_ 27 (d := d_ulp) rfl
  obtain ⟨fd_is_inside, F_is_inside⟩ := c.t.d.def_ 28 (d := d_is_inside) rfl
  obtain ⟨fd_is_in, F_is_in⟩ := c.t.d.def_ 29 (d := d_is_in) rfl
  obtain ⟨fd__law_cmp, F__law_cmp⟩ := c.t.d.def_ 30 (d := d__law_cmp) rfl
  obtain ⟨fd__law_one_right, F__law_one_right⟩ := c.t.d.def_ 31 (d := d__law_one_right) rfl
  obtain ⟨fd_law, F_law⟩ := c.t.d.def_ 32 (d := d_law) rfl
  have e := hfa.symm.trans (He.glo_ok X G (c.t.d.fact 33 (f := .glo "law") rfl))
  cases e
  have b := FunD.bindsA (ps := ["script"]) F_law fun _ _ _ _ _ _ us hl => match us, hl with | [_], _ => rfl
  refine ⟨fd_law, fun s v => b s [v] rfl, fun base _ _ => ?_⟩
  have H__law_pen := ok__law_pen (P := P) (w := w) (base := base) E ⟨_, _, F__law_pen, He.glo_ok X G (c.t.d.fact 0 (f := .glo "_law_pen") rfl)⟩
  have H__law_draw := ok__law_draw (P := P) (w := w) (base := base) E ⟨_, _, F__law_draw, He.glo_ok X G (c.t.d.fact 1 (f := .glo "_law_draw") rfl)⟩
  have H__law_pick := ok__law_pick (P := P) (w := w) (base := base) E ⟨_, _, F__law_pick, He.glo_ok X G (c.t.d.fact 2 (f := .glo "_law_pick") rfl)⟩ H__law_draw
  have H__law_sizes := ok__law_sizes (P := P) (w := w) (base := base) E ⟨_, _, F__law_sizes, He.glo_ok X G (c.t.d.fact 3 (f := .glo "_law_sizes") rfl)⟩ H__law_pick H__law_draw
  have H_is_integer := ok_is_integer (P := P) (w := w) (base := base) E ⟨_, _, F_is_integer, He.glo_ok X G (c.t.d.fact 4 (f := .glo "is_integer") rfl)⟩
  have H_is_within := ok_is_within (P := P) (w := w) (base := base) E ⟨_, _, F_is_within, He.glo_ok X G (c.t.d.fact 5 (f := .glo "is_within") rfl)⟩ H_is_integer
  have H_Format_init := ok_Format_init (P := P) (w := w) (base := base) E ⟨_, _, _, F_Format_init, He.glo_ok X G (c.t.d.fact 6 (f := .glo "Format") rfl), He.mkr_ok (c.t.d.fact 7 (f := .mkr "Format") rfl)⟩ H_is_within
  have H__law_raised := ok__law_raised (P := P) (w := w) (base := base) E ⟨_, _, F__law_raised, He.glo_ok X G (c.t.d.fact 8 (f := .glo "_law_raised") rfl)⟩
  have H__law_written := ok__law_written (P := P) (w := w) (base := base) E ⟨_, _, F__law_written, He.glo_ok X G (c.t.d.fact 9 (f := .glo "_law_written") rfl)⟩ H__law_raised H__law_pick H__law_draw
  have H__law_low := ok__law_low (P := P) (w := w) (base := base) E ⟨_, _, F__law_low, He.glo_ok X G (c.t.d.fact 10 (f := .glo "_law_low") rfl)⟩
  have H__law_worth := ok__law_worth (P := P) (w := w) (base := base) E ⟨_, _, F__law_worth, He.glo_ok X G (c.t.d.fact 11 (f := .glo "_law_worth") rfl)⟩ H__law_raised H__law_low
  have H__law_near_some := ok__law_near_some (P := P) (w := w) (base := base) E ⟨_, _, F__law_near_some, He.glo_ok X G (c.t.d.fact 12 (f := .glo "_law_near_some") rfl)⟩ H__law_written H__law_draw H__law_worth H__law_low H__law_pick H__law_raised
  have H__law_sides := ok__law_sides (P := P) (w := w) (base := base) E ⟨_, _, F__law_sides, He.glo_ok X G (c.t.d.fact 13 (f := .glo "_law_sides") rfl)⟩ H__law_raised
  have H_need_format := ok_need_format (P := P) (w := w) (base := base) E ⟨_, _, F_need_format, He.glo_ok X G (c.t.d.fact 14 (f := .glo "need_format") rfl)⟩
  have H_int_power := ok_int_power (P := P) (w := w) (base := base) E ⟨_, _, F_int_power, He.glo_ok X G (c.t.d.fact 15 (f := .glo "int_power") rfl)⟩
  have H_fits_under := ok_fits_under (P := P) (w := w) (base := base) E ⟨_, _, F_fits_under, He.glo_ok X G (c.t.d.fact 16 (f := .glo "fits_under") rfl)⟩ H_int_power
  have H_exponent_of := ok_exponent_of (P := P) (w := w) (base := base) E ⟨_, _, F_exponent_of, He.glo_ok X G (c.t.d.fact 17 (f := .glo "exponent_of") rfl)⟩ H_int_power H_fits_under
  have H_scaled := ok_scaled (P := P) (w := w) (base := base) E ⟨_, _, F_scaled, He.glo_ok X G (c.t.d.fact 18 (f := .glo "scaled") rfl)⟩ H_int_power
  have H_low := ok_low (P := P) (w := w) (base := base) E ⟨_, _, F_low, He.glo_ok X G (c.t.d.fact 19 (f := .glo "low") rfl)⟩
  have H_times_power := ok_times_power (P := P) (w := w) (base := base) E ⟨_, _, F_times_power, He.glo_ok X G (c.t.d.fact 20 (f := .glo "times_power") rfl)⟩ H_int_power H_low
  have H_turn_pair := ok_turn_pair (P := P) (w := w) (base := base) E ⟨_, _, F_turn_pair, He.glo_ok X G (c.t.d.fact 21 (f := .glo "turn_pair") rfl)⟩
  have H_both_sides := ok_both_sides (P := P) (w := w) (base := base) E ⟨_, _, F_both_sides, He.glo_ok X G (c.t.d.fact 22 (f := .glo "both_sides") rfl)⟩ H_exponent_of H_scaled H_times_power H_turn_pair
  have H_is_row := ok_is_row (P := P) (w := w) (base := base) E ⟨_, _, F_is_row, He.glo_ok X G (c.t.d.fact 23 (f := .glo "is_row") rfl)⟩
  have H_is_number := ok_is_number (P := P) (w := w) (base := base) E ⟨_, _, F_is_number, He.glo_ok X G (c.t.d.fact 24 (f := .glo "is_number") rfl)⟩ H_is_integer H_is_row
  have H_number_of := ok_number_of (P := P) (w := w) (base := base) E ⟨_, _, F_number_of, He.glo_ok X G (c.t.d.fact 25 (f := .glo "number_of") rfl)⟩ H_is_number H_is_integer H_low
  have H_neighbours := ok_neighbours (P := P) (w := w) (base := base) E ⟨_, _, F_neighbours, He.glo_ok X G (c.t.d.fact 26 (f := .glo "neighbours") rfl)⟩ H_need_format H_both_sides H_number_of
  have H_raised := ok_raised (P := P) (w := w) (base := base) E ⟨_, _, F_raised, He.glo_ok X G (c.t.d.fact 27 (f := .glo "raised") rfl)⟩ H_int_power
  have H_ulp := ok_ulp (P := P) (w := w) (base := base) E ⟨_, _, F_ulp, He.glo_ok X G (c.t.d.fact 28 (f := .glo "ulp") rfl)⟩ H_need_format H_number_of H_raised H_exponent_of
  have H_is_inside := ok_is_inside (P := P) (w := w) (base := base) E ⟨_, _, F_is_inside, He.glo_ok X G (c.t.d.fact 29 (f := .glo "is_inside") rfl)⟩ H_scaled H_exponent_of
  have H_is_in := ok_is_in (P := P) (w := w) (base := base) E ⟨_, _, F_is_in, He.glo_ok X G (c.t.d.fact 30 (f := .glo "is_in") rfl)⟩ H_need_format H_is_inside H_number_of
  have H__law_cmp := ok__law_cmp (P := P) (w := w) (base := base) E ⟨_, _, F__law_cmp, He.glo_ok X G (c.t.d.fact 31 (f := .glo "_law_cmp") rfl)⟩
  have H__law_one_right := ok__law_one_right (P := P) (w := w) (base := base) E ⟨_, _, F__law_one_right, He.glo_ok X G (c.t.d.fact 32 (f := .glo "_law_one_right") rfl)⟩ H__law_sides H__law_worth H_neighbours H_ulp H_is_in H__law_cmp
  exact (ok_law (P := P) (w := w) (base := base) E F_law (He.glo_ok X G (c.t.d.fact 33 (f := .glo "law") rfl)) H__law_pen H__law_sizes H_Format_init H__law_near_some H__law_one_right H__law_draw H__law_raised H__law_low H_neighbours H_is_in).fn

end L07
set_option maxHeartbeats 0
open PySem PySem.W PySem.Calls PyProof.Rows
theorem PySem.Challenge.cw_askednear_k07_whole_numbers_of_formats_holds : PySem.Challenge.rw_askednear_k07_whole_numbers_of_formats.Holds := by
  w_on; o_law
  refine HandSHeadRun.head_imp (r := OpenLaw.row PySem.Challenge.rw_askednear_k07_whole_numbers_of_formats) (q := view (OpenLaw.row PySem.Challenge.rw_askednear_k07_whole_numbers_of_formats).prog [0, 46]) (H := L07.hk) (ob := L07.ob) (M := 4000) (loose := L07.loose) (d := HandSHeadRun.topDef (OpenLaw.row PySem.Challenge.rw_askednear_k07_whole_numbers_of_formats).prog 46) (kwd := []) L07.ob_eq
     L07.run (by kernel_rfl) (by kernel_rfl) (by kernel_rfl) (by rfl) (by first | assumption | decide +kernel) (by decide +kernel) ⟨rfl, rfl, rfl, rfl, rfl, by decide +kernel⟩ ?hw ?hc
  case hw => w_witness2
  case hc =>
    refine DL.walk_ofD (l := PySem.Challenge.rw_askednear_k07_whole_numbers_of_formats) (n := 63) (k := 7) (x := "script") rfl (by decide) (by kernel_rfl) ⟨rfl, by decide, by decide⟩ ?F
    intro w mg fa h Y G hmg0
    obtain ⟨K, KX, c⟩ := Y
    have hmg : mg ("law" : PySem.Str) = some (.ref fa) := by
      have e : (HandSHeadRun.topDef (OpenLaw.row PySem.Challenge.rw_askednear_k07_whole_numbers_of_formats).prog 46).name = ("law" : PySem.Str) := by kernel_rfl
      rw [← e]
      exact hmg0
    obtain ⟨fd, hb, hF⟩ := L07.facts (P := (PySem.Challenge.rw_askednear_k07_whole_numbers_of_formats).prog) (w := w) KX G hmg c
    exact ⟨K, fd, L07.φ_law, KX, hb, fun ns hl hbits => L07.plain ns hl hbits, hF⟩
