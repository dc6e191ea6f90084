import PyProof.Rows.All
import Wide.All
import OpenK.AllK
import Wide.FinOn
import HandS.ForMost
import HandS.ForExc
import HandS.Flow
import HandS.CallSlots
import HandS.IsInst
import HandS.TupAny
import HandS.Deep
import HandS.TupMul
import KE.KStateDown
import Lean
import HandS.Defaults
import HandS.Head0
import HandS.Head1
import HandS.Head2
import HandS.HeadEnd
import HandS.HeadHook1
import PyProof.StrCaseBound
import PySem.Challenge.RW_handedworld_k01_names
set_option Elab.async false
set_option linter.all false
set_option maxRecDepth 100000
/-! Rf: a deep domain of values over the abstract heap of the hand layer. -/
namespace Rf
open PySem L2

/-- built-in classes as values -/
inductive TN where
  | NoneType | bool | int | str | tuple | list | dict | set
  deriving DecidableEq, Inhabited
def TN.name : TN → String
  | .NoneType => "NoneType" | .bool => "bool" | .int => "int" | .str => "str" | .tuple => "tuple" | .list => "list" | .dict => "dict" | .set => "set"
/-- a value: what never changes is told whole; what may change is a number -/
inductive D where
  | non
  | bl (b : Bool)
  | int (i : Int)
  | str (x : Str)
  | tup (xs : List D)
  | lst (xs : List D)
  | scr (xs : List D)
  | dct (ks : List Key) (vs : List D)
  | obj (c : Nat) (ns : List Str) (vs : List D)
  | ref (n : Nat)
  | ty (t : TN)
  deriving Inhabited

/-- what may change -/
inductive Ob where
  | lst (xs : List D)
  | dct (ks : List Key) (vs : List D)
  | ins (c : Nat) (ns : List Str) (vs : List D)
  deriving Inhabited

abbrev Mem := List (Option Ob)

/-- an exception: its class, its fields -/
structure Xn where
  c : Nat
  ns : List Str
  vs : List D

inductive Res where
  | ok (d : D) (m : Mem)
  | exc (x : Xn) (m : Mem)
  | bad
inductive ResL where
  | ok (ds : List D) (m : Mem)
  | exc (x : Xn) (m : Mem)
  | bad
inductive ResB where
  | ok (b : Bool) (m : Mem)
  | exc (x : Xn) (m : Mem)
  | bad

/-- what the program's top fixed: the written part, the addresses of the classes -/
structure Cf where
  K : PySem.W.Frag
  cad : Nat → Addr

structure Wd where
  ad : List Addr
  mm : Mem
  hp : Hp
  hid : List Addr

def Wd.Mu (w : Wd) (a : Addr) : Prop := ∃ (n : Nat) (ob : Ob), w.mm[n]? = some (some ob) ∧ w.ad[n]? = some a

/-- what never changes any more stands at a -/
def Wd.Fx (w : Wd) (a : Addr) (o : HO) : Prop := w.hp a = some o ∧ ¬ w.Mu a ∧ a ∉ w.hid
def Wd.Rx (w : Wd) (a : Addr) (o : HO) : Prop := w.Fx a o ∨ ∃ ob, w.Fx a (.frz ob o)
/-- a tuple, a list of the written part -/
def WrT (K : PySem.W.Frag) (a : Addr) (xs : List V) : Prop := ∃ (o : Obj) (its : Array Value) (n : Nat), K.lookup a = some o ∧ o.cls = .type "tuple" ∧ o.data = .seq its n ∧ its.size ≤ sizeLine ∧ Vals xs its.toList
def WrL (K : PySem.W.Frag) (a : Addr) (xs : List V) : Prop := ∃ (o : Obj) (its : Array Value) (n : Nat), K.lookup a = some o ∧ o.cls = .type "list" ∧ o.dict = none ∧ o.data = .seq its n ∧ its.size ≤ sizeLine ∧ Vals xs its.toList
def Wd.Tp (K : PySem.W.Frag) (w : Wd) (a : Addr) (xs : List V) : Prop := w.Rx a (.tup xs) ∨ WrT K a xs
/-- the script -/
def Wd.Sc (K : PySem.W.Frag) (w : Wd) (a : Addr) (xs : List V) : Prop := w.Rx a (.lst xs) ∨ WrL K a xs

theorem Wd.Rx.rd {w : Wd} {a : Addr} {o : HO} (h : w.Rx a o) : Rd w.hp a o := by
  rcases h with h | ⟨ob, h⟩
  · exact .inl h.1
  · exact .inr ⟨ob, h.1⟩
theorem Wd.Tp.sq {K : PySem.W.Frag} {w : Wd} {a : Addr} {xs : List V} (h : w.Tp K a xs) : SqT K w.hp a xs := by
  rcases h with h | h
  · exact .inl h.rd
  · exact .inr h
theorem Wd.Sc.sq {K : PySem.W.Frag} {w : Wd} {a : Addr} {xs : List V} (h : w.Sc K a xs) : SqL K w.hp a xs := by
  rcases h with h | h
  · exact .inl h.rd
  · exact .inr h
theorem Wd.Fx.sq {K : PySem.W.Frag} {w : Wd} {a : Addr} {xs : List V} (h : w.Fx a (.lst xs)) : SqL K w.hp a xs := .of h.1

mutual
def RelD (g : Cf) (w : Wd) : D → V → Prop
  | .non, v => v = .non
  | .bl b, v => v = .bl b
  | .int i, v => v = .int i
  | .str x, v => v = .str x
  | .tup ds, v => ∃ a vs, v = .ref a ∧ w.Tp g.K a vs ∧ RelDs g w ds vs
  | .lst ds, v => ∃ a vs, v = .ref a ∧ w.Fx a (.lst vs) ∧ RelDs g w ds vs
  | .scr ds, v => ∃ a vs, v = .ref a ∧ w.Sc g.K a vs ∧ RelDs g w ds vs
  | .dct ks ds, v => ∃ a vs, v = .ref a ∧ w.Fx a (.dK (ks.zip vs)) ∧ ks.length = vs.length ∧ RelDs g w ds vs
  | .obj c ns ds, v => ∃ a dx vs, v = .ref a ∧ w.Fx a (.ins (g.cad c) dx (ns.zip vs)) ∧ ns.length = vs.length ∧ RelDs g w ds vs
  | .ref n, v => ∃ a, v = .ref a ∧ w.ad[n]? = some a
  | .ty t, v => v = .ty t.name
def RelDs (g : Cf) (w : Wd) : List D → List V → Prop
  | [], vs => vs = []
  | d :: ds, vs => ∃ v r, vs = v :: r ∧ RelD g w d v ∧ RelDs g w ds r
end

def ObR (g : Cf) (w : Wd) (a : Addr) : Ob → Prop
  | .lst ds => ∃ vs, w.hp a = some (.lst vs) ∧ RelDs g w ds vs
  | .dct ks ds => ∃ vs, w.hp a = some (.dK (ks.zip vs)) ∧ ks.length = vs.length ∧ RelDs g w ds vs
  | .ins c ns ds => ∃ dx vs, w.hp a = some (.ins (g.cad c) dx (ns.zip vs)) ∧ ns.length = vs.length ∧ RelDs g w ds vs

structure Wd.Ok (g : Cf) (w : Wd) : Prop where
  len : w.ad.length = w.mm.length
  inj : ∀ (i j : Nat) (a : Addr) (oi oj : Ob), w.mm[i]? = some (some oi) → w.mm[j]? = some (some oj) → w.ad[i]? = some a → w.ad[j]? = some a → i = j
  obj : ∀ (n : Nat) (ob : Ob) (a : Addr), w.mm[n]? = some (some ob) → w.ad[n]? = some a → ObR g w a ob
  hd : ∀ a ∈ w.hid, (∃ o, w.hp a = some o) ∧ ¬ w.Mu a

/-- one view behind another -/
structure Ex (w w' : Wd) : Prop where
  ad : ∀ (n : Nat) (a : Addr), w.ad[n]? = some a → w'.ad[n]? = some a
  fx : ∀ (a : Addr) (o : HO), w.hp a = some o → ¬ w.Mu a → w'.hp a = some o ∧ ¬ w'.Mu a
  hid : w'.hid = w.hid
theorem Ex.refl (w : Wd) : Ex w w := ⟨fun _ _ h => h, fun _ _ h n => ⟨h, n⟩, rfl⟩
theorem Ex.trans {a b c : Wd} (x : Ex a b) (y : Ex b c) : Ex a c := ⟨fun n z h => y.ad n z (x.ad n z h), fun p o h n => let ⟨h1, n1⟩ := x.fx p o h n; y.fx p o h1 n1, y.hid.trans x.hid⟩
/-- .. as far as it is seen -/
structure Em (w w' : Wd) : Prop where
  ad : ∀ (n : Nat) (a : Addr), w.ad[n]? = some a → w'.ad[n]? = some a
  fx' : ∀ {a : Addr} {o : HO}, w.Fx a o → w'.Fx a o
theorem Em.trans {a b c : Wd} (x : Em a b) (y : Em b c) : Em a c := ⟨fun n z h => y.ad n z (x.ad n z h), fun h => y.fx' (x.fx' h)⟩
theorem Ex.em {w w' : Wd} (e : Ex w w') : Em w w' := ⟨e.ad, fun {a o} h => ⟨(e.fx a o h.1 h.2.1).1, (e.fx a o h.1 h.2.1).2, e.hid ▸ h.2.2⟩⟩

section
variable {g : Cf} {w w' : Wd}
theorem Em.rx (e : Em w w') {a : Addr} {o : HO} (h : w.Rx a o) : w'.Rx a o := by
  rcases h with h | ⟨ob, h⟩
  · exact .inl (e.fx' h)
  · exact .inr ⟨ob, e.fx' h⟩
theorem Em.tp (e : Em w w') {K : PySem.W.Frag} {a : Addr} {xs : List V} (h : w.Tp K a xs) : w'.Tp K a xs := by
  rcases h with h | h
  · exact .inl (e.rx h)
  · exact .inr h
theorem Em.sc (e : Em w w') {K : PySem.W.Frag} {a : Addr} {xs : List V} (h : w.Sc K a xs) : w'.Sc K a xs := by
  rcases h with h | h
  · exact .inl (e.rx h)
  · exact .inr h
mutual
theorem RelD.mono' (e : Em w w') : ∀ (d : D) (v : V), RelD g w d v → RelD g w' d v
  | .non, v, h => by simpa only [RelD] using h
  | .bl b, v, h => by simpa only [RelD] using h
  | .int i, v, h => by simpa only [RelD] using h
  | .str x, v, h => by simpa only [RelD] using h
  | .ty x, v, h => by simpa only [RelD] using h
  | .tup ds, v, h => by
    simp only [RelD] at h ⊢
    obtain ⟨a, vs, e1, t, r⟩ := h
    exact ⟨a, vs, e1, e.tp t, RelDs.mono' e ds vs r⟩
  | .lst ds, v, h => by
    simp only [RelD] at h ⊢
    obtain ⟨a, vs, e1, t, r⟩ := h
    exact ⟨a, vs, e1, e.fx' t, RelDs.mono' e ds vs r⟩
  | .scr ds, v, h => by
    simp only [RelD] at h ⊢
    obtain ⟨a, vs, e1, t, r⟩ := h
    exact ⟨a, vs, e1, e.sc t, RelDs.mono' e ds vs r⟩
  | .dct ks ds, v, h => by
    simp only [RelD] at h ⊢
    obtain ⟨a, vs, e1, t, l, r⟩ := h
    exact ⟨a, vs, e1, e.fx' t, l, RelDs.mono' e ds vs r⟩
  | .obj c ns ds, v, h => by
    simp only [RelD] at h ⊢
    obtain ⟨a, dx, vs, e1, t, l, r⟩ := h
    exact ⟨a, dx, vs, e1, e.fx' t, l, RelDs.mono' e ds vs r⟩
  | .ref n, v, h => by
    simp only [RelD] at h ⊢
    obtain ⟨a, e1, t⟩ := h
    exact ⟨a, e1, e.ad n a t⟩
theorem RelDs.mono' (e : Em w w') : ∀ (ds : List D) (vs : List V), RelDs g w ds vs → RelDs g w' ds vs
  | [], vs, h => by simpa only [RelDs] using h
  | d :: ds, vs, h => by
    simp only [RelDs] at h ⊢
    obtain ⟨v, r, e1, h1, h2⟩ := h
    exact ⟨v, r, e1, RelD.mono' e d v h1, RelDs.mono' e ds r h2⟩
end

theorem RelD.mono (e : Ex w w') (d : D) (v : V) (h : RelD g w d v) : RelD g w' d v := RelD.mono' e.em d v h
theorem RelDs.mono (e : Ex w w') (d : List D) (v : List V) (h : RelDs g w d v) : RelDs g w' d v := RelDs.mono' e.em d v h

theorem RelDs.length : ∀ {ds : List D} {vs : List V}, RelDs g w ds vs → vs.length = ds.length
  | [], vs, h => by simp only [RelDs] at h; rw [h]; rfl
  | d :: ds, vs, h => by
    simp only [RelDs] at h
    obtain ⟨v, r, rfl, _, h2⟩ := h
    simp [RelDs.length h2]
theorem RelDs.get : ∀ {ds : List D} {vs : List V} {i : Nat} {d : D}, RelDs g w ds vs → ds[i]? = some d → ∃ v, vs[i]? = some v ∧ RelD g w d v
  | [], vs, i, d, h, e => by simp at e
  | x :: ds, vs, 0, d, h, e => by
    simp only [RelDs] at h
    obtain ⟨v, r, rfl, h1, h2⟩ := h
    simp at e; subst e
    exact ⟨v, rfl, h1⟩
  | x :: ds, vs, i + 1, d, h, e => by
    simp only [RelDs] at h
    obtain ⟨v, r, rfl, h1, h2⟩ := h
    simpa using RelDs.get (i := i) h2 (by simpa using e)
theorem RelDs.getV : ∀ {ds : List D} {vs : List V} {i : Nat} {v : V}, RelDs g w ds vs → vs[i]? = some v → ∃ d, ds[i]? = some d ∧ RelD g w d v
  | [], vs, i, d, h, e => by simp only [RelDs] at h; subst h; simp at e
  | x :: ds, vs, 0, d, h, e => by
    simp only [RelDs] at h
    obtain ⟨v, r, rfl, h1, h2⟩ := h
    simp at e; subst e
    exact ⟨x, rfl, h1⟩
  | x :: ds, vs, i + 1, d, h, e => by
    simp only [RelDs] at h
    obtain ⟨v, r, rfl, h1, h2⟩ := h
    simpa using RelDs.getV (i := i) h2 (by simpa using e)
theorem RelDs.append : ∀ {ds es : List D} {vs us : List V}, RelDs g w ds vs → RelDs g w es us → RelDs g w (ds ++ es) (vs ++ us)
  | [], es, vs, us, h, h' => by simp only [RelDs] at h; subst h; exact h'
  | x :: ds, es, vs, us, h, h' => by
    simp only [RelDs] at h
    obtain ⟨v, r, rfl, h1, h2⟩ := h
    simp only [List.cons_append, RelDs]
    exact ⟨v, r ++ us, rfl, h1, RelDs.append h2 h'⟩
theorem RelDs.take : ∀ {ds : List D} {vs : List V} (n : Nat), RelDs g w ds vs → RelDs g w (ds.take n) (vs.take n)
  | ds, vs, 0, h => by simp [RelDs]
  | [], vs, n + 1, h => by simp only [RelDs] at h; subst h; simp [RelDs]
  | x :: ds, vs, n + 1, h => by
    simp only [RelDs] at h
    obtain ⟨v, r, rfl, h1, h2⟩ := h
    simp only [List.take_succ_cons, RelDs]
    exact ⟨v, _, rfl, h1, RelDs.take n h2⟩
theorem RelDs.drop : ∀ {ds : List D} {vs : List V} (n : Nat), RelDs g w ds vs → RelDs g w (ds.drop n) (vs.drop n)
  | ds, vs, 0, h => by simpa using h
  | [], vs, n + 1, h => by simp only [RelDs] at h; subst h; simp [RelDs]
  | x :: ds, vs, n + 1, h => by
    simp only [RelDs] at h
    obtain ⟨v, r, rfl, h1, h2⟩ := h
    simpa using RelDs.drop n h2
theorem RelDs.set : ∀ {ds : List D} {vs : List V} {d : D} {v : V} (n : Nat), RelDs g w ds vs → RelD g w d v → RelDs g w (ds.set n d) (vs.set n v)
  | [], vs, _, _, n, h, _ => by simp only [RelDs] at h; subst h; simp [RelDs]
  | x :: ds, vs, d, v, 0, h, h' => by
    simp only [RelDs] at h
    obtain ⟨v', r, rfl, h1, h2⟩ := h
    simp only [List.set_cons_zero, RelDs]
    exact ⟨v, r, rfl, h', h2⟩
  | x :: ds, vs, d, v, n + 1, h, h' => by
    simp only [RelDs] at h
    obtain ⟨v', r, rfl, h1, h2⟩ := h
    simp only [List.set_cons_succ, RelDs]
    exact ⟨v', _, rfl, h1, RelDs.set n h2 h'⟩
theorem RelDs.reverse : ∀ {ds : List D} {vs : List V}, RelDs g w ds vs → RelDs g w ds.reverse vs.reverse
  | [], vs, h => by simp only [RelDs] at h; subst h; simp [RelDs]
  | x :: ds, vs, h => by
    simp only [RelDs] at h
    obtain ⟨v, r, rfl, h1, h2⟩ := h
    simp only [List.reverse_cons]
    exact RelDs.append (RelDs.reverse h2) (by simp only [RelDs]; exact ⟨v, [], rfl, h1, rfl⟩)
theorem RelDs.one {d : D} {v : V} (h : RelD g w d v) : RelDs g w [d] [v] := by
  simp only [RelDs]; exact ⟨v, [], rfl, h, rfl⟩
theorem RelDs.cons {d : D} {v : V} {ds : List D} {vs : List V} (h : RelD g w d v) (h' : RelDs g w ds vs) : RelDs g w (d :: ds) (v :: vs) := by
  simp only [RelDs]; exact ⟨v, vs, rfl, h, h'⟩
theorem RelDs.nil : RelDs g w [] [] := by simp only [RelDs]
theorem ObR.mono {a : Addr} {ob : Ob} (e : Em w w') (h : w.hp a = w'.hp a) (r : ObR g w a ob) : ObR g w' a ob := by
  cases ob with
  | lst ds =>
    obtain ⟨vs, h1, h2⟩ := r
    exact ⟨vs, h ▸ h1, RelDs.mono' e _ _ h2⟩
  | dct ks ds =>
    obtain ⟨vs, h1, l, h2⟩ := r
    exact ⟨vs, h ▸ h1, l, RelDs.mono' e _ _ h2⟩
  | ins c ns ds =>
    obtain ⟨dx, vs, h1, l, h2⟩ := r
    exact ⟨dx, vs, h ▸ h1, l, RelDs.mono' e _ _ h2⟩
end

/-! ### four ways on -/
section
variable {g : Cf} {w : Wd}
theorem ObR.there {a : Addr} {ob : Ob} (r : ObR g w a ob) : ∃ o, w.hp a = some o := by
  cases ob with
  | lst ds => obtain ⟨vs, h1, _⟩ := r; exact ⟨_, h1⟩
  | dct ks ds => obtain ⟨vs, h1, _⟩ := r; exact ⟨_, h1⟩
  | ins c ns ds => obtain ⟨dx, vs, h1, _⟩ := r; exact ⟨_, h1⟩
theorem Wd.Ok.mu {a : Addr} (k : w.Ok g) (h : w.Mu a) : ∃ o, w.hp a = some o := by
  obtain ⟨n, ob, h1, h2⟩ := h
  exact (k.obj n ob a h1 h2).there
theorem Wd.Ok.fresh {p : Addr} (k : w.Ok g) (h : w.hp p = none) : ¬ w.Mu p := fun z => by
  obtain ⟨o, e⟩ := k.mu z
  rw [h] at e; cases e
theorem Wd.Ok.nohid {p : Addr} (k : w.Ok g) (h : w.hp p = none) : p ∉ w.hid := fun z => by
  obtain ⟨⟨o, e⟩, _⟩ := k.hd p z
  rw [h] at e; cases e
/-- something new that never changes -/
def Wd.lay (w : Wd) (p : Addr) (o : HO) : Wd := ⟨w.ad, w.mm, upd w.hp p o, w.hid⟩
theorem Wd.Ok.lay_ex {p : Addr} {o : HO} (k : w.Ok g) (h : w.hp p = none) : Ex w (w.lay p o) := by
  refine ⟨fun _ _ q => q, fun a u q n => ⟨?_, n⟩, rfl⟩
  show upd w.hp p o a = some u
  rw [upd_ne (ne_of_none q h)]; exact q
theorem Wd.Ok.lay {p : Addr} {o : HO} (k : w.Ok g) (h : w.hp p = none) : (w.lay p o).Ok g := by
  refine ⟨k.len, k.inj, fun n ob a h1 h2 => ?_, fun a ha => ?_⟩
  rotate_left
  · obtain ⟨⟨u, q⟩, n⟩ := k.hd a ha
    refine ⟨⟨u, ?_⟩, n⟩
    show upd w.hp p o a = some u
    rw [upd_ne (ne_of_none q h)]; exact q
  have r := k.obj n ob a h1 h2
  refine r.mono (k.lay_ex h).em ?_
  obtain ⟨u, q⟩ := r.there
  show w.hp a = upd w.hp p o a
  rw [upd_ne (ne_of_none q h)]
theorem Wd.Ok.lay_fx {p : Addr} {o : HO} (k : w.Ok g) (h : w.hp p = none) : (w.lay p o).Fx p o := ⟨upd_same, k.fresh h, k.nohid h⟩
/-- something new that may change -/
def Wd.new (w : Wd) (p : Addr) (o : HO) (ob : Ob) : Wd := ⟨w.ad ++ [p], w.mm ++ [some ob], upd w.hp p o, w.hid⟩
theorem Wd.Ok.new_ex {p : Addr} {o : HO} {ob : Ob} (k : w.Ok g) (h : w.hp p = none) : Ex w (w.new p o ob) := by
  refine ⟨fun n a q => ?_, fun a u q n => ⟨?_, ?_⟩, rfl⟩
  · show (w.ad ++ [p])[n]? = some a
    rw [List.getElem?_append_left (List.getElem?_eq_some_iff.mp q).1]; exact q
  · show upd w.hp p o a = some u
    rw [upd_ne (ne_of_none q h)]; exact q
  · rintro ⟨i, oi, h1, h2⟩
    have h1 : (w.mm ++ [some ob])[i]? = some (some oi) := h1
    have h2 : (w.ad ++ [p])[i]? = some a := h2
    by_cases hi : i < w.mm.length
    · rw [List.getElem?_append_left hi] at h1
      rw [List.getElem?_append_left (by rw [k.len]; exact hi)] at h2
      exact n ⟨i, oi, h1, h2⟩
    · have hi2 : i = w.ad.length := by
        have := (List.getElem?_eq_some_iff.mp h2).1
        simp at this
        have := k.len
        omega
      subst hi2
      rw [List.getElem?_concat_length] at h2
      cases h2
      exact ne_of_none q h rfl
theorem Wd.Ok.new_at {p : Addr} {o : HO} {ob : Ob} (k : w.Ok g) : (w.new p o ob).ad[w.mm.length]? = some p := by
  show (w.ad ++ [p])[w.mm.length]? = some p
  rw [← k.len, List.getElem?_concat_length]
theorem Wd.Ok.new {p : Addr} {o : HO} {ob : Ob} (k : w.Ok g) (h : w.hp p = none) (r : ObR g (w.new p o ob) p ob) : (w.new p o ob).Ok g := by
  have cs : ∀ {i : Nat} {a : Addr} {oi : Ob}, (w.mm ++ [some ob])[i]? = some (some oi) → (w.ad ++ [p])[i]? = some a → (w.mm[i]? = some (some oi) ∧ w.ad[i]? = some a) ∨ (i = w.mm.length ∧ oi = ob ∧ a = p) := by
    intro i a oi h1 h2
    by_cases hi : i < w.mm.length
    · rw [List.getElem?_append_left hi] at h1
      rw [List.getElem?_append_left (by rw [k.len]; exact hi)] at h2
      exact .inl ⟨h1, h2⟩
    · have hi2 : i = w.mm.length := by
        have := (List.getElem?_eq_some_iff.mp h1).1
        simp at this
        omega
      subst hi2
      rw [List.getElem?_concat_length] at h1
      rw [← k.len, List.getElem?_concat_length] at h2
      cases h1; cases h2
      exact .inr ⟨rfl, rfl, rfl⟩
  have np : ∀ {i : Nat} {oi : Ob}, w.mm[i]? = some (some oi) → w.ad[i]? = some p → False := fun h1 h2 => k.fresh h ⟨_, _, h1, h2⟩
  refine ⟨?_, fun i j a oi oj h1 h2 h3 h4 => ?_, fun n oi a h1 h2 => ?_, fun a ha => ?_⟩
  rotate_left 3
  · obtain ⟨⟨u, q⟩, n⟩ := k.hd a ha
    exact ⟨⟨u, ((k.new_ex (o := o) (ob := ob) h).fx a u q n).1⟩, ((k.new_ex (o := o) (ob := ob) h).fx a u q n).2⟩
  · show (w.ad ++ [p]).length = (w.mm ++ [some ob]).length
    simp [k.len]
  · rcases cs h1 h3 with ⟨a1, a2⟩ | ⟨e1, e2, e3⟩ <;> rcases cs h2 h4 with ⟨b1, b2⟩ | ⟨f1, f2, f3⟩
    · exact k.inj i j a oi oj a1 b1 a2 b2
    · subst f3; exact (np a1 a2).elim
    · subst e3; exact (np b1 b2).elim
    · rw [e1, f1]
  · rcases cs h1 h2 with ⟨a1, a2⟩ | ⟨e1, e2, e3⟩
    · have q := k.obj n oi a a1 a2
      refine q.mono (k.new_ex h).em ?_
      obtain ⟨u, z⟩ := q.there
      show w.hp a = upd w.hp p o a
      rw [upd_ne (ne_of_none z h)]
    · subst e2; subst e3; exact r
/-- what may change has changed -/
def Wd.put (w : Wd) (n : Nat) (a : Addr) (o : HO) (ob : Ob) : Wd := ⟨w.ad, w.mm.set n (some ob), upd w.hp a o, w.hid⟩
theorem Wd.put_mu {n : Nat} {a b : Addr} {o : HO} {ob oo : Ob} (h : w.mm[n]? = some (some oo)) : (w.put n a o ob).Mu b → w.Mu b := by
  rintro ⟨i, oi, h1, h2⟩
  have h1 : (w.mm.set n (some ob))[i]? = some (some oi) := h1
  by_cases e : n = i
  · subst e; exact ⟨n, oo, h, h2⟩
  · rw [List.getElem?_set_ne e] at h1; exact ⟨i, oi, h1, h2⟩
theorem Wd.put_ex {n : Nat} {a : Addr} {o : HO} {ob oo : Ob} (h : w.mm[n]? = some (some oo)) (ha : w.ad[n]? = some a) : Ex w (w.put n a o ob) := by
  refine ⟨fun _ _ q => q, fun b u q m => ⟨?_, fun z => m (Wd.put_mu h z)⟩, rfl⟩
  show upd w.hp a o b = some u
  rw [upd_ne (fun z => m (by subst z; exact ⟨n, oo, h, ha⟩))]; exact q
theorem Wd.Ok.put {n : Nat} {a : Addr} {o : HO} {ob oo : Ob} (k : w.Ok g) (h : w.mm[n]? = some (some oo)) (ha : w.ad[n]? = some a) (r : ObR g (w.put n a o ob) a ob) : (w.put n a o ob).Ok g := by
  have hn : n < w.mm.length := (List.getElem?_eq_some_iff.mp h).1
  have cs : ∀ {i : Nat} {oi : Ob}, (w.mm.set n (some ob))[i]? = some (some oi) → (i ≠ n ∧ w.mm[i]? = some (some oi)) ∨ (i = n ∧ oi = ob) := by
    intro i oi h1
    by_cases e : n = i
    · subst e
      rw [List.getElem?_set_self hn] at h1
      cases h1; exact .inr ⟨rfl, rfl⟩
    · rw [List.getElem?_set_ne e] at h1; exact .inl ⟨fun z => e z.symm, h1⟩
  refine ⟨?_, fun i j b oi oj h1 h2 h3 h4 => ?_, fun i oi b h1 h2 => ?_, fun b hb => ?_⟩
  rotate_left 3
  · obtain ⟨⟨u, q⟩, m⟩ := k.hd b hb
    exact ⟨⟨u, ((Wd.put_ex (o := o) (ob := ob) h ha).fx b u q m).1⟩, ((Wd.put_ex (o := o) (ob := ob) h ha).fx b u q m).2⟩
  · show w.ad.length = (w.mm.set n (some ob)).length
    simp [k.len]
  · rcases cs h1 with ⟨a1, a2⟩ | ⟨a1, a2⟩ <;> rcases cs h2 with ⟨b1, b2⟩ | ⟨b1, b2⟩
    · exact k.inj i j b oi oj a2 b2 h3 h4
    · subst b1; exact k.inj i j b oi oo a2 h h3 h4
    · subst a1; exact k.inj i j b oo oj h b2 h3 h4
    · rw [a1, b1]
  · rcases cs h1 with ⟨a1, a2⟩ | ⟨a1, a2⟩
    · have q := k.obj i oi b a2 h2
      refine q.mono (Wd.put_ex h ha).em ?_
      show w.hp b = upd w.hp a o b
      rw [upd_ne (fun z => a1 (by subst z; exact k.inj i n b oi oo a2 h h2 ha))]
    · subst a1; subst a2
      have h2 : w.ad[i]? = some b := h2
      rw [ha] at h2; cases h2; exact r
/-- what changed changes no more -/
def Wd.still (w : Wd) (n : Nat) : Wd := ⟨w.ad, w.mm.set n none, w.hp, w.hid⟩
theorem Wd.still_mu {n : Nat} {b : Addr} : (w.still n).Mu b → w.Mu b := by
  rintro ⟨i, oi, h1, h2⟩
  have h1 : (w.mm.set n none)[i]? = some (some oi) := h1
  by_cases e : n = i
  · subst e
    by_cases hn : n < w.mm.length
    · rw [List.getElem?_set_self hn] at h1; cases h1
    · rw [List.getElem?_eq_none (by simpa using hn)] at h1; cases h1
  · rw [List.getElem?_set_ne e] at h1; exact ⟨i, oi, h1, h2⟩
theorem Wd.still_ex {n : Nat} : Ex w (w.still n) := ⟨fun _ _ q => q, fun _ _ q m => ⟨q, fun z => m (Wd.still_mu z)⟩, rfl⟩
theorem Wd.Ok.still {n : Nat} (k : w.Ok g) : (w.still n).Ok g := by
  have cs : ∀ {i : Nat} {oi : Ob}, (w.mm.set n none)[i]? = some (some oi) → w.mm[i]? = some (some oi) := by
    intro i oi h1
    by_cases e : n = i
    · subst e
      by_cases hn : n < w.mm.length
      · rw [List.getElem?_set_self hn] at h1; cases h1
      · rw [List.getElem?_eq_none (by simpa using hn)] at h1; cases h1
    · rw [List.getElem?_set_ne e] at h1; exact h1
  refine ⟨?_, fun i j b oi oj h1 h2 h3 h4 => k.inj i j b oi oj (cs h1) (cs h2) h3 h4, fun i oi b h1 h2 => (k.obj i oi b (cs h1) h2).mono Wd.still_ex.em rfl, fun b hb => ⟨(k.hd b hb).1, fun z => (k.hd b hb).2 (Wd.still_mu z)⟩⟩
  show w.ad.length = (w.mm.set n none).length
  simp [k.len]
theorem Wd.Ok.still_fx {n : Nat} {a : Addr} {o : HO} {ob : Ob} (k : w.Ok g) (h : w.mm[n]? = some (some ob)) (ha : w.ad[n]? = some a) (e : w.hp a = some o) : (w.still n).Fx a o := by
  refine ⟨e, ?_, fun z => (k.hd a z).2 ⟨n, ob, h, ha⟩⟩
  rintro ⟨i, oi, h1, h2⟩
  have h1 : (w.mm.set n none)[i]? = some (some oi) := h1
  by_cases e : n = i
  · subst e
    rw [List.getElem?_set_self (List.getElem?_eq_some_iff.mp h).1] at h1; cases h1
  · rw [List.getElem?_set_ne e] at h1
    exact e (k.inj n i a ob oi h h1 ha h2)
end
end Rf

namespace Rf
open PySem L2

/-! ### results -/
def RelX (g : Cf) (w : Wd) (x : Xn) (c : Value) (dd : Option Addr) : Prop :=
  c = .ref (g.cad x.c) ∧ ((x.ns = [] ∧ dd = none) ∨ ∃ d vs, dd = some d ∧ w.Fx d (.xd (x.ns.zip vs)) ∧ x.ns.length = vs.length ∧ RelDs g w x.vs vs)

abbrev XW := Value → Option Addr → Wd → Prop
def Sat (g : Cf) (w : Wd) (r : Res) (Q : V → Wd → Prop) (E : XW) : Prop := match r with
  | .ok d m => ∀ (w' : Wd) (v : V), w'.mm = m → w'.Ok g → Ex w w' → RelD g w' d v → Q v w'
  | .exc x m => ∀ (w' : Wd) (c : Value) (dd : Option Addr), w'.mm = m → w'.Ok g → Ex w w' → RelX g w' x c dd → E c dd w'
  | .bad => False
def SatL (g : Cf) (w : Wd) (r : ResL) (Q : List V → Wd → Prop) (E : XW) : Prop := match r with
  | .ok d m => ∀ (w' : Wd) (v : List V), w'.mm = m → w'.Ok g → Ex w w' → RelDs g w' d v → Q v w'
  | .exc x m => ∀ (w' : Wd) (c : Value) (dd : Option Addr), w'.mm = m → w'.Ok g → Ex w w' → RelX g w' x c dd → E c dd w'
  | .bad => False
def SatB (g : Cf) (w : Wd) (r : ResB) (Q : Bool → Wd → Prop) (E : XW) : Prop := match r with
  | .ok b m => ∀ (w' : Wd), w'.mm = m → w'.Ok g → Ex w w' → Q b w'
  | .exc x m => ∀ (w' : Wd) (c : Value) (dd : Option Addr), w'.mm = m → w'.Ok g → Ex w w' → RelX g w' x c dd → E c dd w'
  | .bad => False
/-- a step that raises nothing -/
def SatO (g : Cf) (w : Wd) (r : Option (D × Mem)) (Q : V → Wd → Prop) : Prop := match r with
  | some (d, m) => ∀ (w' : Wd) (v : V), w'.mm = m → w'.Ok g → Ex w w' → RelD g w' d v → Q v w'
  | none => False

section
variable {g : Cf} {w w1 : Wd} {E : XW}
theorem Sat.ex {r : Res} {Q : V → Wd → Prop} (e : Ex w w1) (h : Sat g w r Q E) : Sat g w1 r Q E := by
  cases r with
  | ok d m => exact fun w' v h1 h2 h3 h4 => h w' v h1 h2 (e.trans h3) h4
  | exc x m => exact fun w' c dd h1 h2 h3 h4 => h w' c dd h1 h2 (e.trans h3) h4
  | bad => exact h
theorem SatL.ex {r : ResL} {Q : List V → Wd → Prop} (e : Ex w w1) (h : SatL g w r Q E) : SatL g w1 r Q E := by
  cases r with
  | ok d m => exact fun w' v h1 h2 h3 h4 => h w' v h1 h2 (e.trans h3) h4
  | exc x m => exact fun w' c dd h1 h2 h3 h4 => h w' c dd h1 h2 (e.trans h3) h4
  | bad => exact h
theorem SatB.ex {r : ResB} {Q : Bool → Wd → Prop} (e : Ex w w1) (h : SatB g w r Q E) : SatB g w1 r Q E := by
  cases r with
  | ok d m => exact fun w' h1 h2 h3 => h w' h1 h2 (e.trans h3)
  | exc x m => exact fun w' c dd h1 h2 h3 h4 => h w' c dd h1 h2 (e.trans h3) h4
  | bad => exact h
theorem SatO.ex {r : Option (D × Mem)} {Q : V → Wd → Prop} (e : Ex w w1) (h : SatO g w r Q) : SatO g w1 r Q := by
  cases r with
  | some p => exact fun w' v h1 h2 h3 h4 => h w' v h1 h2 (e.trans h3) h4
  | none => exact h
end

def Res.bind (r : Res) (f : D → Mem → Res) : Res := match r with
  | .ok d m => f d m
  | .exc x m => .exc x m
  | .bad => .bad
def Res.bindL (r : Res) (f : D → Mem → ResL) : ResL := match r with
  | .ok d m => f d m
  | .exc x m => .exc x m
  | .bad => .bad
def Res.bindB (r : Res) (f : D → Mem → ResB) : ResB := match r with
  | .ok d m => f d m
  | .exc x m => .exc x m
  | .bad => .bad
def ResL.bind (r : ResL) (f : List D → Mem → Res) : Res := match r with
  | .ok d m => f d m
  | .exc x m => .exc x m
  | .bad => .bad
def ResL.bindL (r : ResL) (f : List D → Mem → ResL) : ResL := match r with
  | .ok d m => f d m
  | .exc x m => .exc x m
  | .bad => .bad
def ResB.bind (r : ResB) (f : Bool → Mem → Res) : Res := match r with
  | .ok d m => f d m
  | .exc x m => .exc x m
  | .bad => .bad
def ResB.bindB (r : ResB) (f : Bool → Mem → ResB) : ResB := match r with
  | .ok d m => f d m
  | .exc x m => .exc x m
  | .bad => .bad
def Res.of : Option (D × Mem) → Res
  | some (d, m) => .ok d m
  | none => .bad

section
variable {g : Cf} {w : Wd} {E : XW}
theorem Sat.bind {r : Res} {f : D → Mem → Res} {Q : V → Wd → Prop} (h : Sat g w (r.bind f) Q E) : Sat g w r (fun v w1 => w1.Ok g ∧ Ex w w1 ∧ ∃ d, RelD g w1 d v ∧ Sat g w1 (f d w1.mm) Q E) E := by
  cases r with
  | ok d m => intro w' v h1 h2 h3 h4; subst h1; exact ⟨h2, h3, d, h4, Sat.ex h3 h⟩
  | exc x m => exact h
  | bad => exact h
theorem SatL.ofBind {r : Res} {f : D → Mem → ResL} {Q : List V → Wd → Prop} (h : SatL g w (r.bindL f) Q E) : Sat g w r (fun v w1 => w1.Ok g ∧ Ex w w1 ∧ ∃ d, RelD g w1 d v ∧ SatL g w1 (f d w1.mm) Q E) E := by
  cases r with
  | ok d m => intro w' v h1 h2 h3 h4; subst h1; exact ⟨h2, h3, d, h4, SatL.ex h3 h⟩
  | exc x m => exact h
  | bad => exact h
theorem SatB.ofBind {r : Res} {f : D → Mem → ResB} {Q : Bool → Wd → Prop} (h : SatB g w (r.bindB f) Q E) : Sat g w r (fun v w1 => w1.Ok g ∧ Ex w w1 ∧ ∃ d, RelD g w1 d v ∧ SatB g w1 (f d w1.mm) Q E) E := by
  cases r with
  | ok d m => intro w' v h1 h2 h3 h4; subst h1; exact ⟨h2, h3, d, h4, SatB.ex h3 h⟩
  | exc x m => exact h
  | bad => exact h
theorem Sat.ofL {r : ResL} {f : List D → Mem → Res} {Q : V → Wd → Prop} (h : Sat g w (r.bind f) Q E) : SatL g w r (fun v w1 => w1.Ok g ∧ Ex w w1 ∧ ∃ d, RelDs g w1 d v ∧ Sat g w1 (f d w1.mm) Q E) E := by
  cases r with
  | ok d m => intro w' v h1 h2 h3 h4; subst h1; exact ⟨h2, h3, d, h4, Sat.ex h3 h⟩
  | exc x m => exact h
  | bad => exact h
theorem SatL.ofL {r : ResL} {f : List D → Mem → ResL} {Q : List V → Wd → Prop} (h : SatL g w (r.bindL f) Q E) : SatL g w r (fun v w1 => w1.Ok g ∧ Ex w w1 ∧ ∃ d, RelDs g w1 d v ∧ SatL g w1 (f d w1.mm) Q E) E := by
  cases r with
  | ok d m => intro w' v h1 h2 h3 h4; subst h1; exact ⟨h2, h3, d, h4, SatL.ex h3 h⟩
  | exc x m => exact h
  | bad => exact h
theorem Sat.ofB {r : ResB} {f : Bool → Mem → Res} {Q : V → Wd → Prop} (h : Sat g w (r.bind f) Q E) : SatB g w r (fun b w1 => w1.Ok g ∧ Ex w w1 ∧ Sat g w1 (f b w1.mm) Q E) E := by
  cases r with
  | ok d m => intro w' h1 h2 h3; subst h1; exact ⟨h2, h3, Sat.ex h3 h⟩
  | exc x m => exact h
  | bad => exact h
theorem SatB.ofB {r : ResB} {f : Bool → Mem → ResB} {Q : Bool → Wd → Prop} (h : SatB g w (r.bindB f) Q E) : SatB g w r (fun b w1 => w1.Ok g ∧ Ex w w1 ∧ SatB g w1 (f b w1.mm) Q E) E := by
  cases r with
  | ok d m => intro w' h1 h2 h3; subst h1; exact ⟨h2, h3, SatB.ex h3 h⟩
  | exc x m => exact h
  | bad => exact h
theorem Sat.imp {r : Res} {Q Q' : V → Wd → Prop} (h : Sat g w r Q E) (k : ∀ v w', Q v w' → Q' v w') : Sat g w r Q' E := by
  cases r with
  | ok d m => exact fun w' v h1 h2 h3 h4 => k _ _ (h w' v h1 h2 h3 h4)
  | exc x m => exact h
  | bad => exact h
theorem SatL.imp {r : ResL} {Q Q' : List V → Wd → Prop} (h : SatL g w r Q E) (k : ∀ v w', Q v w' → Q' v w') : SatL g w r Q' E := by
  cases r with
  | ok d m => exact fun w' v h1 h2 h3 h4 => k _ _ (h w' v h1 h2 h3 h4)
  | exc x m => exact h
  | bad => exact h
theorem SatB.imp {r : ResB} {Q Q' : Bool → Wd → Prop} (h : SatB g w r Q E) (k : ∀ v w', Q v w' → Q' v w') : SatB g w r Q' E := by
  cases r with
  | ok d m => exact fun w' h1 h2 h3 => k _ _ (h w' h1 h2 h3)
  | exc x m => exact h
  | bad => exact h
theorem Sat.toO {r : Option (D × Mem)} {Q : V → Wd → Prop} (h : Sat g w (Res.of r) Q E) : SatO g w r Q := by
  cases r with
  | some p => exact h
  | none => exact h
theorem Sat.okI {d : D} {m : Mem} {Q : V → Wd → Prop} {v : V} (h : Sat g w (.ok d m) Q E) (hm : w.mm = m) (k : w.Ok g) (r : RelD g w d v) : Q v w := h w v hm k (Ex.refl w) r
end

/-! ### slots, readings -/
abbrev Sl := List (Option D)
structure RelS (g : Cf) (w : Wd) (p : Sl) (σ : St) : Prop where
  len : p.length = σ.length
  get : ∀ (i : Nat) (d : D), p[i]? = some (some d) → ∃ v, σ[i]? = some (some v) ∧ RelD g w d v
theorem RelS.mono {g : Cf} {w w' : Wd} {p : Sl} {σ : St} (e : Ex w w') (h : RelS g w p σ) : RelS g w' p σ := ⟨h.len, fun i d q => let ⟨v, a, b⟩ := h.get i d q; ⟨v, a, RelD.mono e _ _ b⟩⟩
theorem RelS.set {g : Cf} {w : Wd} {p : Sl} {σ : St} {i : Nat} {d : D} {v : V} (h : RelS g w p σ) (r : RelD g w d v) : RelS g w (p.set i (some d)) (σ.set i (some v)) := by
  refine ⟨by simp [h.len], fun j e q => ?_⟩
  by_cases hj : i = j
  · subst hj
    by_cases hi : i < p.length
    · rw [List.getElem?_set_self hi] at q
      cases q
      exact ⟨v, List.getElem?_set_self (by rw [← h.len]; exact hi), r⟩
    · rw [List.getElem?_eq_none (by simpa using hi)] at q; cases q
  · rw [List.getElem?_set_ne hj] at q ⊢
    exact h.get j e q

abbrev Dn := Sl → Mem → Res
abbrev DnL := Sl → Mem → ResL
abbrev DnB := Sl → Mem → ResB
def tD (g : Cf) (W : WX) (f : Dn) : TE := fun σ H Q => ∃ (w : Wd) (p : Sl), w.hp = H ∧ w.Ok g ∧ RelS g w p σ ∧ Sat g w (f p w.mm) (fun v w' => Q v w'.hp) (fun c dd w' => W c dd σ w'.hp)
def tDL (g : Cf) (W : WX) (f : DnL) : TA := fun σ H Q => ∃ (w : Wd) (p : Sl), w.hp = H ∧ w.Ok g ∧ RelS g w p σ ∧ SatL g w (f p w.mm) (fun v w' => Q v w'.hp) (fun c dd w' => W c dd σ w'.hp)
def tDB (g : Cf) (W : WX) (f : DnB) : TT := fun σ H Q => ∃ (w : Wd) (p : Sl), w.hp = H ∧ w.Ok g ∧ RelS g w p σ ∧ SatB g w (f p w.mm) (fun v w' => Q v w'.hp) (fun c dd w' => W c dd σ w'.hp)

section
variable {X : Cx} {g : Cf} {W : WX} {a b c : Expr} {da db dc : Dn} {pos : Pos}
theorem PE.imp {e : Expr} {t t' : TE} (h : PE X e t) (k : ∀ σ H Q, t' σ H Q → t σ H Q) : PE X e t' := ⟨fun pins s σ H Q I hw => h.run pins s σ H Q I (k σ H Q hw)⟩
theorem PT.imp {e : Expr} {t t' : TT} (h : PT X e t) (k : ∀ σ H Q, t' σ H Q → t σ H Q) : PT X e t' := ⟨fun pins s σ H Q I hw => h.run pins s σ H Q I (k σ H Q hw)⟩
theorem PW.imp {e : Expr} {t t' : TT} (h : PW X e t) (k : ∀ σ H Q, t' σ H Q → t σ H Q) : PW X e t' := ⟨fun wh pins s σ H Q I hw => h.run wh pins s σ H Q I (k σ H Q hw)⟩
theorem PA.imp {e : List Expr} {t t' : TA} (h : PA X e t) (k : ∀ σ H Q, t' σ H Q → t σ H Q) : PA X e t' := ⟨fun ps pins s σ H Q I hw => h.run ps pins s σ H Q I (k σ H Q hw)⟩

def dVar (i : Nat) : Dn := fun p m => match p[i]? with
  | some (some d) => .ok d m
  | _ => .bad
def dC (d : D) : Dn := fun _ m => .ok d m
theorem e_var {i : Nat} {x : Str} (hN : X.N[i]? = some x) (hv : Vis X.env.scope x) (hd : (x == ("__debug__" : Str)) = false := by decide) (hcd : (x == ("__classdict__" : Str)) = false := by decide) : PE X (.Name x pos) (tD g W (dVar i)) := by
  refine PE.imp (pe_var hN hv hd hcd) fun σ H Q ⟨w, p, e, k, rs, h⟩ => ?_
  subst e
  unfold dVar at h
  split at h
  · rename_i d e
    obtain ⟨v, e2, r⟩ := rs.get i d e
    exact ⟨v, e2, h.okI rfl k r⟩
  · exact h.elim
theorem e_c {d : D} {v : V} (h : PE X a (tC v)) (r : ∀ w, RelD g w d v) : PE X a (tD g W (dC d)) :=
  PE.imp h fun σ H Q ⟨w, p, e, k, rs, h⟩ => by
    subst e
    exact Sat.okI h rfl k (r w)
theorem e_int {i j} : PE X (.Constant (.int i) j pos) (tD g W (dC (.int i))) := e_c pe_int fun _ => by simp only [RelD]
theorem e_bl {i j} : PE X (.Constant (.bool i) j pos) (tD g W (dC (.bl i))) := e_c pe_bl fun _ => by simp only [RelD]
theorem e_non {j} : PE X (.Constant .none j pos) (tD g W (dC .non)) := e_c pe_non fun _ => by simp only [RelD]
theorem e_str {i j} : PE X (.Constant (.str i) j pos) (tD g W (dC (.str i))) := e_c pe_str fun _ => by simp only [RelD]

/-- two parts in a row -/
theorem seq2 {f : D → D → Mem → Res} {σ : St} {H : Hp} {Q : VK} {R : V → V → Hp → Prop} (h : tD g W (fun p m => (da p m).bind fun x m => (db p m).bind fun y m => f x y m) σ H Q)
    (k : ∀ (w : Wd) (d1 d2 : D) (v1 v2 : V) (p : Sl), w.Ok g → RelS g w p σ → RelD g w d1 v1 → RelD g w d2 v2 → Sat g w (f d1 d2 w.mm) (fun v w' => Q v w'.hp) (fun c dd w' => W c dd σ w'.hp) → R v1 v2 w.hp) :
    tD g W da σ H fun x H1 => tD g W db σ H1 fun y H2 => R x y H2 := by
  obtain ⟨w, p, e, ok, rs, h⟩ := h
  refine ⟨w, p, e, ok, rs, (Sat.bind h).imp fun v w1 ⟨ok1, ex1, d1, r1, h1⟩ => ?_⟩
  refine ⟨w1, p, rfl, ok1, rs.mono ex1, (Sat.bind h1).imp fun v2 w2 ⟨ok2, ex2, d2, r2, h2⟩ => ?_⟩
  exact k w2 d1 d2 v v2 p ok2 (rs.mono (ex1.trans ex2)) (RelD.mono ex2 _ _ r1) r2 h2

abbrev P2 := D → D → Mem → Option (D × Mem)
abbrev P1 := D → Mem → Option (D × Mem)
abbrev PN := List D → Mem → Option (D × Mem)
/-- an operation on values, told by a function -/
def OpD (g : Cf) (r : R2) (f : P2) : Prop := ∀ (w : Wd) (d1 d2 : D) (v1 v2 : V) (Q : VK), w.Ok g → RelD g w d1 v1 → RelD g w d2 v2 → SatO g w (f d1 d2 w.mm) (fun v w' => Q v w'.hp) → r v1 v2 w.hp Q
def UnD (g : Cf) (r : V → Hp → VK → Prop) (f : P1) : Prop := ∀ (w : Wd) (d1 : D) (v1 : V) (Q : VK), w.Ok g → RelD g w d1 v1 → SatO g w (f d1 w.mm) (fun v w' => Q v w'.hp) → r v1 w.hp Q
def CaD (g : Cf) (r : List V → Hp → VK → Prop) (f : PN) : Prop := ∀ (w : Wd) (ds : List D) (vs : List V) (Q : VK), w.Ok g → RelDs g w ds vs → SatO g w (f ds w.mm) (fun v w' => Q v w'.hp) → r vs w.hp Q
/-- the same as a reading -/
def rOp (g : Cf) (f : P2) : R2 := fun v1 v2 H Q => ∃ (w : Wd) (d1 d2 : D), w.hp = H ∧ w.Ok g ∧ RelD g w d1 v1 ∧ RelD g w d2 v2 ∧ SatO g w (f d1 d2 w.mm) (fun v w' => Q v w'.hp)
def rUn (g : Cf) (f : P1) : V → Hp → VK → Prop := fun v1 H Q => ∃ (w : Wd) (d1 : D), w.hp = H ∧ w.Ok g ∧ RelD g w d1 v1 ∧ SatO g w (f d1 w.mm) (fun v w' => Q v w'.hp)
def rCa (g : Cf) (f : PN) : List V → Hp → VK → Prop := fun vs H Q => ∃ (w : Wd) (ds : List D), w.hp = H ∧ w.Ok g ∧ RelDs g w ds vs ∧ SatO g w (f ds w.mm) (fun v w' => Q v w'.hp)
theorem OpR.imp {f : Value → Value → Sem Value} {r r' : R2} (h : OpR X f r) (k : ∀ x y H Q, r' x y H Q → r x y H Q) : OpR X f r' := fun pins s σ H x y v u Q I rx ry q => h pins s σ H x y v u Q I rx ry (k _ _ _ _ q)
theorem UnR.imp {f : Value → Sem Value} {r r' : V → Hp → VK → Prop} (h : UnR X f r) (k : ∀ x H Q, r' x H Q → r x H Q) : UnR X f r' := fun pins s σ H x v Q I rx q => h pins s σ H x v Q I rx (k _ _ _ q)
theorem CallR.imp {f : Value} {r r' : List V → Hp → VK → Prop} (h : CallR X f r) (k : ∀ xs H Q, r' xs H Q → r xs H Q) : CallR X f r' := fun pins s σ H xs us Q I rx q => h pins s σ H xs us Q I rx (k _ _ _ q)
theorem IxR.imp {r r' : R2} (h : IxR X r) (k : ∀ x y H Q, r' x y H Q → r x y H Q) : IxR X r' := by
  intro pins s σ H x y v u a b Q I rx ry q
  exact h pins s σ H x y v u a b Q I rx ry (k _ _ _ _ q)
theorem MtR.imp {id : String} {r r' : V → List V → Hp → VK → Prop} (h : MtR X id r) (k : ∀ x xs H Q, r' x xs H Q → r x xs H Q) : MtR X id r' := fun pins s σ H x xs v us Q I rx ry q => h pins s σ H x xs v us Q I rx ry (k _ _ _ _ q)
theorem OpD.r {f : P2} {r : R2} (h : OpD g r f) : ∀ x y H Q, rOp g f x y H Q → r x y H Q := fun x y H Q ⟨w, d1, d2, e, ok, r1, r2, s⟩ => by subst e; exact h w d1 d2 x y Q ok r1 r2 s
theorem UnD.r {f : P1} {r : V → Hp → VK → Prop} (h : UnD g r f) : ∀ x H Q, rUn g f x H Q → r x H Q := fun x H Q ⟨w, d1, e, ok, r1, s⟩ => by subst e; exact h w d1 x Q ok r1 s
theorem CaD.r {f : PN} {r : List V → Hp → VK → Prop} (h : CaD g r f) : ∀ x H Q, rCa g f x H Q → r x H Q := fun x H Q ⟨w, d1, e, ok, r1, s⟩ => by subst e; exact h w d1 x Q ok r1 s

def dOp (f : P2) (da db : Dn) : Dn := fun p m => (da p m).bind fun x m => (db p m).bind fun y m => Res.of (f x y m)
def dUn (f : P1) (da : Dn) : Dn := fun p m => (da p m).bind fun x m => Res.of (f x m)
theorem op_red {f : P2} {σ : St} {H : Hp} {Q : VK} (h : tD g W (dOp f da db) σ H Q) : tOp (rOp g f) (tD g W da) (tD g W db) σ H Q :=
  seq2 h fun w d1 d2 v1 v2 p ok rs r1 r2 s => ⟨w, d1, d2, rfl, ok, r1, r2, Sat.toO s⟩
theorem un_red {f : P1} {σ : St} {H : Hp} {Q : VK} (h : tD g W (dUn f da) σ H Q) : tUn (rUn g f) (tD g W da) σ H Q := by
  obtain ⟨w, p, e, ok, rs, h⟩ := h
  exact ⟨w, p, e, ok, rs, (Sat.bind h).imp fun v w1 ⟨ok1, ex1, d1, r1, h1⟩ => ⟨w1, d1, rfl, ok1, r1, Sat.toO h1⟩⟩
theorem e_op {op : Operator} {f : P2} (ho : OpR X (binaryOp op) (rOp g f)) (ha : PE X a (tD g W da)) (hb : PE X b (tD g W db)) : PE X (.BinOp a op b pos) (tD g W (dOp f da db)) :=
  PE.imp (pe_op ho ha hb) fun σ H Q h => op_red h
theorem e_un {op : UnaryOp} {f : P1} (ho : UnR X (unaryOp op) (rUn g f)) (ha : PE X a (tD g W da)) : PE X (.UnaryOp op a pos) (tD g W (dUn f da)) :=
  PE.imp (pe_un ho ha) fun σ H Q h => un_red h
theorem e_cmp {op : CmpOp} {f : P2} (ho : OpR X (compareOp op) (rOp g f)) (ha : PE X a (tD g W da)) (hb : PE X b (tD g W db)) (hm : behindInMarks op b = false) : PE X (.Compare a [op] [b] pos) (tD g W (dOp f da db)) :=
  PE.imp (pe_cmpR ho ha hb hm) fun σ H Q h => op_red h
theorem e_ix {f : P2} (ho : IxR X (rOp g f)) (ha : PE X a (tD g W da)) (hb : PE X b (tD g W db)) (hs : PlainIx b) : PE X (.Subscript a b pos) (tD g W (dOp f da db)) :=
  PE.imp (pe_ix ho ha hb hs) fun σ H Q h => op_red h

/-! ### truth -/
def truD : D → Mem → Option Bool
  | .non, _ => some false
  | .bl b, _ => some b
  | .int i, _ => some (i != 0)
  | .str x, _ => if x.length ≤ sizeLine then some ((x.length : Int) != 0) else none
  | .tup xs, _ => some (!xs.isEmpty)
  | .lst xs, _ => some (!xs.isEmpty)
  | .scr xs, _ => some (!xs.isEmpty)
  | .dct ks _, _ => some (!ks.isEmpty)
  | .ref n, m => match m[n]? with
    | some (some (.lst xs)) => some (!xs.isEmpty)
    | some (some (.dct ks _)) => some (!ks.isEmpty)
    | _ => none
  | _, _ => none
theorem empty_of {w : Wd} {ds : List D} {vs : List V} (h : RelDs g w ds vs) : (!vs.isEmpty) = !ds.isEmpty := by
  have := h.length
  cases ds <;> cases vs <;> simp_all
theorem zipE {α β : Type} {ks : List α} {vs : List β} (h : ks.length = vs.length) : (!(ks.zip vs).isEmpty) = !ks.isEmpty := by
  cases ks <;> cases vs <;> simp_all
theorem tru_of {w : Wd} {d : D} {v : V} {k : Bool} (ok : w.Ok g) (r : RelD g w d v) (h : truD d w.mm = some k) : TruV g.K v w.hp k := by
  cases d with
  | non => simp only [RelD] at r; subst r; exact (Option.some.inj h).symm
  | bl b => simp only [RelD] at r; subst r; exact (Option.some.inj h).symm
  | int i => simp only [RelD] at r; subst r; exact (Option.some.inj h).symm
  | str x =>
    simp only [RelD] at r; subst r
    simp only [truD] at h
    split at h
    · rename_i hl; exact ⟨hl, (Option.some.inj h).symm⟩
    · cases h
  | tup xs =>
    simp only [RelD] at r
    obtain ⟨a, vs, rfl, t, rr⟩ := r
    exact .inr (.inl ⟨vs, t.sq, by rw [empty_of rr]; exact (Option.some.inj h).symm⟩)
  | lst xs =>
    simp only [RelD] at r
    obtain ⟨a, vs, rfl, t, rr⟩ := r
    exact .inl ⟨vs, t.sq, by rw [empty_of rr]; exact (Option.some.inj h).symm⟩
  | scr xs =>
    simp only [RelD] at r
    obtain ⟨a, vs, rfl, t, rr⟩ := r
    exact .inl ⟨vs, t.sq, by rw [empty_of rr]; exact (Option.some.inj h).symm⟩
  | dct ks ds =>
    simp only [RelD] at r
    obtain ⟨a, vs, rfl, t, l, rr⟩ := r
    exact .inr (.inr ⟨_, t.1, by rw [zipE l]; exact (Option.some.inj h).symm⟩)
  | obj c ns ds => simp [truD] at h
  | ty t => simp [truD] at h
  | ref n =>
    simp only [RelD] at r
    obtain ⟨a, rfl, ha⟩ := r
    simp only [truD] at h
    split at h
    · rename_i xs e
      obtain ⟨vs, h1, h2⟩ := ok.obj n _ a e ha
      exact .inl ⟨vs, .of h1, by rw [empty_of h2]; exact (Option.some.inj h).symm⟩
    · rename_i ks ds e
      obtain ⟨vs, h1, l, h2⟩ := ok.obj n _ a e ha
      exact .inr (.inr ⟨_, h1, by rw [zipE l]; exact (Option.some.inj h).symm⟩)
    · cases h
def ResB.of : Option Bool → Mem → ResB
  | some b, m => .ok b m
  | none, _ => .bad
def bTru (da : Dn) : DnB := fun p m => (da p m).bindB fun x m => ResB.of (truD x m) m
theorem t_tru (gK : g.K = X.K) (ha : PE X a (tD g W da)) (he : ∀ whole, isTrue a X.env whole = (do let v ← whole; standAt a.pos; holding [v] (truthy v))) : PT X a (tDB g W (bTru da)) := by
  refine PT.imp (pt_truth ha he) fun σ H Q ⟨w, p, e, ok, rs, h⟩ => ?_
  refine ⟨w, p, e, ok, rs, (SatB.ofBind h).imp fun v w1 ⟨ok1, ex1, d1, r1, h1⟩ => ?_⟩
  cases e1 : truD d1 w1.mm with
  | none => rw [e1] at h1; exact h1.elim
  | some k =>
    rw [e1] at h1
    exact ⟨k, gK ▸ tru_of ok1 r1 e1, h1 w1 rfl ok1 (Ex.refl _)⟩
def bNot (f : DnB) : DnB := fun p m => (f p m).bindB fun b m => .ok (!b) m
def bAnd (f h : DnB) : DnB := fun p m => (f p m).bindB fun b m => if b then h p m else .ok false m
def bOr (f h : DnB) : DnB := fun p m => (f p m).bindB fun b m => if b then .ok true m else h p m
theorem t_not {f : DnB} (ha : PT X a (tDB g W f)) : PT X (.UnaryOp .Not a pos) (tDB g W (bNot f)) := by
  refine PT.imp (pt_not ha) fun σ H Q ⟨w, p, e, ok, rs, h⟩ => ?_
  exact ⟨w, p, e, ok, rs, (SatB.ofB h).imp fun b w1 ⟨ok1, ex1, h1⟩ => h1 w1 rfl ok1 (Ex.refl _)⟩
theorem w_and1 {f : DnB} (ha : PT X a (tDB g W f)) : PW X (.BoolOp .And [a] pos) (tDB g W f) := pw_and1 ha
theorem w_or1 {f : DnB} (ha : PT X a (tDB g W f)) : PW X (.BoolOp .Or [a] pos) (tDB g W f) := pw_or1 ha
theorem w_and {f h : DnB} {rest : List Expr} (ha : PT X a (tDB g W f)) (hb : PW X (.BoolOp .And (b :: rest) pos) (tDB g W h)) : PW X (.BoolOp .And (a :: b :: rest) pos) (tDB g W (bAnd f h)) := by
  refine PW.imp (pw_and ha hb) fun σ H Q ⟨w, p, e, ok, rs, h⟩ => ?_
  refine ⟨w, p, e, ok, rs, (SatB.ofB h).imp fun b w1 ⟨ok1, ex1, h1⟩ => ?_⟩
  cases b with
  | true => exact ⟨w1, p, rfl, ok1, rs.mono ex1, h1⟩
  | false => exact h1 w1 rfl ok1 (Ex.refl _)
theorem w_or {f h : DnB} {rest : List Expr} (ha : PT X a (tDB g W f)) (hb : PW X (.BoolOp .Or (b :: rest) pos) (tDB g W h)) : PW X (.BoolOp .Or (a :: b :: rest) pos) (tDB g W (bOr f h)) := by
  refine PW.imp (pw_or ha hb) fun σ H Q ⟨w, p, e, ok, rs, h⟩ => ?_
  refine ⟨w, p, e, ok, rs, (SatB.ofB h).imp fun b w1 ⟨ok1, ex1, h1⟩ => ?_⟩
  cases b with
  | true => exact h1 w1 rfl ok1 (Ex.refl _)
  | false => exact ⟨w1, p, rfl, ok1, rs.mono ex1, h1⟩
/-- as values -/
def dAnd (da db : Dn) : Dn := fun p m => (da p m).bind fun x m => match truD x m with
  | some true => db p m
  | some false => .ok x m
  | none => .bad
def dOr (da db : Dn) : Dn := fun p m => (da p m).bind fun x m => match truD x m with
  | some true => .ok x m
  | some false => db p m
  | none => .bad
def dNot (da : Dn) : Dn := fun p m => (da p m).bind fun x m => match truD x m with
  | some k => .ok (.bl (!k)) m
  | none => .bad
theorem e_one {op} (ha : PE X a (tD g W da)) : PE X (.BoolOp op [a] pos) (tD g W da) := pe_one ha
theorem e_and {rest : List Expr} (gK : g.K = X.K) (ha : PE X a (tD g W da)) (hb : PE X (.BoolOp .And (b :: rest) pos) (tD g W db)) : PE X (.BoolOp .And (a :: b :: rest) pos) (tD g W (dAnd da db)) := by
  refine PE.imp (pe_andT ha hb) fun σ H Q ⟨w, p, e, ok, rs, h⟩ => ?_
  refine ⟨w, p, e, ok, rs, (Sat.bind h).imp fun v w1 ⟨ok1, ex1, d1, r1, h1⟩ => ?_⟩
  cases e1 : truD d1 w1.mm with
  | none => rw [e1] at h1; exact h1.elim
  | some k =>
    rw [e1] at h1
    refine ⟨k, gK ▸ tru_of ok1 r1 e1, ?_⟩
    cases k with
    | true => exact ⟨w1, p, rfl, ok1, rs.mono ex1, h1⟩
    | false => exact h1 w1 v rfl ok1 (Ex.refl _) r1
theorem e_or {rest : List Expr} (gK : g.K = X.K) (ha : PE X a (tD g W da)) (hb : PE X (.BoolOp .Or (b :: rest) pos) (tD g W db)) : PE X (.BoolOp .Or (a :: b :: rest) pos) (tD g W (dOr da db)) := by
  refine PE.imp (pe_orT ha hb) fun σ H Q ⟨w, p, e, ok, rs, h⟩ => ?_
  refine ⟨w, p, e, ok, rs, (Sat.bind h).imp fun v w1 ⟨ok1, ex1, d1, r1, h1⟩ => ?_⟩
  cases e1 : truD d1 w1.mm with
  | none => rw [e1] at h1; exact h1.elim
  | some k =>
    rw [e1] at h1
    refine ⟨k, gK ▸ tru_of ok1 r1 e1, ?_⟩
    cases k with
    | false => exact ⟨w1, p, rfl, ok1, rs.mono ex1, h1⟩
    | true => exact h1 w1 v rfl ok1 (Ex.refl _) r1
theorem e_not (gK : g.K = X.K) (ha : PE X a (tD g W da)) : PE X (.UnaryOp .Not a pos) (tD g W (dNot da)) := by
  refine PE.imp (pe_notT ha) fun σ H Q ⟨w, p, e, ok, rs, h⟩ => ?_
  refine ⟨w, p, e, ok, rs, (Sat.bind h).imp fun v w1 ⟨ok1, ex1, d1, r1, h1⟩ => ?_⟩
  cases e1 : truD d1 w1.mm with
  | none => rw [e1] at h1; exact h1.elim
  | some k =>
    rw [e1] at h1
    exact ⟨k, gK ▸ tru_of ok1 r1 e1, h1 w1 _ rfl ok1 (Ex.refl _) (by simp only [RelD])⟩
def dIf (c : DnB) (da db : Dn) : Dn := fun p m => (c p m).bind fun b m => if b then da p m else db p m
theorem e_if {f : DnB} (hc : PT X c (tDB g W f)) (ha : PE X a (tD g W da)) (hb : PE X b (tD g W db)) : PE X (.IfExp c a b pos) (tD g W (dIf f da db)) := by
  refine PE.imp (pe_ifExp hc ha hb) fun σ H Q ⟨w, p, e, ok, rs, h⟩ => ?_
  refine ⟨w, p, e, ok, rs, (Sat.ofB h).imp fun b w1 ⟨ok1, ex1, h1⟩ => ?_⟩
  cases b with
  | true => exact ⟨w1, p, rfl, ok1, rs.mono ex1, h1⟩
  | false => exact ⟨w1, p, rfl, ok1, rs.mono ex1, h1⟩

/-! ### rows of parts -/
def dNil : DnL := fun _ m => .ok [] m
def dCons (da : Dn) (r : DnL) : DnL := fun p m => (da p m).bindL fun x m => (r p m).bindL fun xs m => .ok (x :: xs) m
theorem a_nil : PA X [] (tDL g W dNil) := PA.imp pa_nil fun σ H Q ⟨w, p, e, ok, rs, h⟩ => by
  subst e
  exact h w [] rfl ok (Ex.refl _) RelDs.nil
theorem a_cons {es : List Expr} {r : DnL} (ha : PE X a (tD g W da)) (hr : PA X es (tDL g W r)) (hs : starEach (a :: es) X.env = (false, eval a X.env) :: starEach es X.env) : PA X (a :: es) (tDL g W (dCons da r)) := by
  refine PA.imp (pa_cons ha hr hs) fun σ H Q ⟨w, p, e, ok, rs, h⟩ => ?_
  refine ⟨w, p, e, ok, rs, (SatL.ofBind h).imp fun v w1 ⟨ok1, ex1, d1, r1, h1⟩ => ?_⟩
  refine ⟨w1, p, rfl, ok1, rs.mono ex1, (SatL.ofL h1).imp fun vs w2 ⟨ok2, ex2, ds, r2, h2⟩ => ?_⟩
  exact h2 w2 _ rfl ok2 (Ex.refl _) (RelDs.cons (RelD.mono ex2 _ _ r1) r2)
def dTup (r : DnL) : Dn := fun p m => (r p m).bind fun xs m => if xs.length ≤ sizeLine then .ok (.tup xs) m else .bad
def dLst (r : DnL) : Dn := fun p m => (r p m).bind fun xs m => if xs.length ≤ sizeLine then .ok (.lst xs) m else .bad
/-- a list that will change -/
def dNew (r : DnL) : Dn := fun p m => (r p m).bind fun xs m => if xs.length ≤ sizeLine then .ok (.ref m.length) (m ++ [some (.lst xs)]) else .bad
theorem e_tup {es : List Expr} {r : DnL} {x1} (h : PA X es (tDL g W r)) : PE X (.Tuple es x1 pos) (tD g W (dTup r)) := by
  refine PE.imp (pe_tup h) fun σ H Q ⟨w, p, e, ok, rs, h⟩ => ?_
  refine ⟨w, p, e, ok, rs, (Sat.ofL h).imp fun vs w1 ⟨ok1, ex1, ds, r1, h1⟩ => ?_⟩
  split at h1
  · rename_i hl
    refine ⟨by rw [r1.length]; exact hl, fun q hq => ?_⟩
    exact h1 (w1.lay q (.tup vs)) _ rfl (ok1.lay hq) (ok1.lay_ex hq) (by simp only [RelD]; exact ⟨q, vs, rfl, .inl (.inl (ok1.lay_fx hq)), RelDs.mono (ok1.lay_ex hq) _ _ r1⟩)
  · exact h1.elim
theorem e_lst {es : List Expr} {r : DnL} (h : PA X es (tDL g W r)) : PE X (.List es pos) (tD g W (dLst r)) := by
  refine PE.imp (pe_lst h) fun σ H Q ⟨w, p, e, ok, rs, h⟩ => ?_
  refine ⟨w, p, e, ok, rs, (Sat.ofL h).imp fun vs w1 ⟨ok1, ex1, ds, r1, h1⟩ => ?_⟩
  split at h1
  · rename_i hl
    refine ⟨by rw [r1.length]; exact hl, fun q hq => ?_⟩
    exact h1 (w1.lay q (.lst vs)) _ rfl (ok1.lay hq) (ok1.lay_ex hq) (by simp only [RelD]; exact ⟨q, vs, rfl, ok1.lay_fx hq, RelDs.mono (ok1.lay_ex hq) _ _ r1⟩)
  · exact h1.elim
theorem e_new {es : List Expr} {r : DnL} (h : PA X es (tDL g W r)) : PE X (.List es pos) (tD g W (dNew r)) := by
  refine PE.imp (pe_lst h) fun σ H Q ⟨w, p, e, ok, rs, h⟩ => ?_
  refine ⟨w, p, e, ok, rs, (Sat.ofL h).imp fun vs w1 ⟨ok1, ex1, ds, r1, h1⟩ => ?_⟩
  split at h1
  · rename_i hl
    refine ⟨by rw [r1.length]; exact hl, fun q hq => ?_⟩
    exact h1 (w1.new q (.lst vs) (.lst ds)) _ rfl (ok1.new hq ⟨vs, upd_same, RelDs.mono (ok1.new_ex hq) _ _ r1⟩) (ok1.new_ex hq) (by simp only [RelD]; exact ⟨q, rfl, ok1.new_at⟩)
  · exact h1.elim

/-! ### built-ins by name -/
def dCa (f : PN) (r : DnL) : Dn := fun p m => (r p m).bind fun xs m => Res.of (f xs m)
theorem ca_red {f : PN} {r : DnL} {σ : St} {H : Hp} {Q : VK} (h : tD g W (dCa f r) σ H Q) : tCB (rCa g f) (tDL g W r) σ H Q := by
  obtain ⟨w, p, e, ok, rs, h⟩ := h
  exact ⟨w, p, e, ok, rs, (Sat.ofL h).imp fun vs w1 ⟨ok1, ex1, ds, r1, h1⟩ => ⟨w1, ds, rfl, ok1, r1, Sat.toO h1⟩⟩
theorem e_callB {f : PN} {r : DnL} {id : String} {x : Str} {p : Pos} {es : List Expr} (hc : CallR X (.builtin id) (rCa g f)) (hg : Gl X x) (hm : X.mg x = none) (hv : bootBuiltins x = some (.builtin id)) (ha : PA X (a :: es) (tDL g W r)) (hn : x ≠ "__name__") (hdb : (x == ("__debug__" : Str)) = false)
    (he : starEach (a :: es) X.env = (false, eval a X.env) :: starEach es X.env) (hpl : (backTo pos (starEach es X.env)).any (·.1) = false) : PE X (.Call (.Name x p) (a :: es) [] pos) (tD g W (dCa f r)) :=
  PE.imp (pe_callB hc hg hm hv ha hn hdb he hpl) fun σ H Q h => ca_red h
theorem e_callTy {f : PN} {r : DnL} {id : String} {x : Str} {p : Pos} {es : List Expr} (hc : CallR X (.type id) (rCa g f)) (hg : Gl X x) (hm : X.mg x = none) (hv : bootBuiltins x = some (.type id)) (ha : PA X (a :: es) (tDL g W r)) (hn : x ≠ "__name__") (hdb : (x == ("__debug__" : Str)) = false)
    (he : starEach (a :: es) X.env = (false, eval a X.env) :: starEach es X.env) (hpl : (backTo pos (starEach es X.env)).any (·.1) = false) : PE X (.Call (.Name x p) (a :: es) [] pos) (tD g W (dCa f r)) :=
  PE.imp (pe_callTy hc hg hm hv ha hn hdb he hpl) fun σ H Q h => ca_red h
end
end Rf

namespace Rf
open PySem L2

/-! ### statements -/
inductive SRes where
  | nx (p : Sl) (m : Mem)
  | rt (d : D) (m : Mem)
  | bk (p : Sl) (m : Mem)
  | ct (p : Sl) (m : Mem)
  | exc (x : Xn) (p : Sl) (m : Mem)
  | bad
abbrev DnS := Sl → Mem → SRes
def SatS (g : Cf) (w : Wd) (r : SRes) (D : Ends) (W : WX) : Prop := match r with
  | .nx p m => ∀ (w' : Wd) (σ' : St), w'.mm = m → w'.Ok g → Ex w w' → RelS g w' p σ' → D.nx σ' w'.hp
  | .bk p m => ∀ (w' : Wd) (σ' : St), w'.mm = m → w'.Ok g → Ex w w' → RelS g w' p σ' → D.bk σ' w'.hp
  | .ct p m => ∀ (w' : Wd) (σ' : St), w'.mm = m → w'.Ok g → Ex w w' → RelS g w' p σ' → D.ct σ' w'.hp
  | .rt d m => ∀ (w' : Wd) (v : V), w'.mm = m → w'.Ok g → Ex w w' → RelD g w' d v → D.rt v w'.hp
  | .exc x p m => ∀ (w' : Wd) (σ' : St) (c : Value) (dd : Option Addr), w'.mm = m → w'.Ok g → Ex w w' → RelS g w' p σ' → RelX g w' x c dd → W c dd σ' w'.hp
  | .bad => False
theorem SatS.ex {g : Cf} {w w1 : Wd} {D : Ends} {W : WX} {r : SRes} (e : Ex w w1) (h : SatS g w r D W) : SatS g w1 r D W := by
  cases r with
  | nx p m => exact fun w' s h1 h2 h3 h4 => h w' s h1 h2 (e.trans h3) h4
  | bk p m => exact fun w' s h1 h2 h3 h4 => h w' s h1 h2 (e.trans h3) h4
  | ct p m => exact fun w' s h1 h2 h3 h4 => h w' s h1 h2 (e.trans h3) h4
  | rt p m => exact fun w' s h1 h2 h3 h4 => h w' s h1 h2 (e.trans h3) h4
  | exc x p m => exact fun w' s c dd h1 h2 h3 h4 => h w' s c dd h1 h2 (e.trans h3) h4
  | bad => exact h
def tDS (g : Cf) (W : WX) (f : DnS) : TS := fun D σ H => ∃ (w : Wd) (p : Sl), w.hp = H ∧ w.Ok g ∧ RelS g w p σ ∧ SatS g w (f p w.mm) D W

def Res.bindS (r : Res) (p : Sl) (f : D → Mem → SRes) : SRes := match r with
  | .ok d m => f d m
  | .exc x m => .exc x p m
  | .bad => .bad
def ResB.bindS (r : ResB) (p : Sl) (f : Bool → Mem → SRes) : SRes := match r with
  | .ok d m => f d m
  | .exc x m => .exc x p m
  | .bad => .bad
def ResL.bindS (r : ResL) (p : Sl) (f : List D → Mem → SRes) : SRes := match r with
  | .ok d m => f d m
  | .exc x m => .exc x p m
  | .bad => .bad
section
variable {g : Cf} {w : Wd} {Dd : Ends} {W : WX} {p : Sl} {σ : St}
theorem SatS.of {r : Res} {f : D → Mem → SRes} (rs : RelS g w p σ) (h : SatS g w (r.bindS p f) Dd W) : Sat g w r (fun v w1 => w1.Ok g ∧ Ex w w1 ∧ ∃ d, RelD g w1 d v ∧ SatS g w1 (f d w1.mm) Dd W) (fun c dd w' => W c dd σ w'.hp) := by
  cases r with
  | ok d m => intro w' v h1 h2 h3 h4; subst h1; exact ⟨h2, h3, d, h4, SatS.ex h3 h⟩
  | exc x m => exact fun w' c dd h1 h2 h3 h4 => h w' σ c dd h1 h2 h3 (rs.mono h3) h4
  | bad => exact h
theorem SatS.ofB {r : ResB} {f : Bool → Mem → SRes} (rs : RelS g w p σ) (h : SatS g w (r.bindS p f) Dd W) : SatB g w r (fun b w1 => w1.Ok g ∧ Ex w w1 ∧ SatS g w1 (f b w1.mm) Dd W) (fun c dd w' => W c dd σ w'.hp) := by
  cases r with
  | ok d m => intro w' h1 h2 h3; subst h1; exact ⟨h2, h3, SatS.ex h3 h⟩
  | exc x m => exact fun w' c dd h1 h2 h3 h4 => h w' σ c dd h1 h2 h3 (rs.mono h3) h4
  | bad => exact h
theorem SatS.ofL {r : ResL} {f : List D → Mem → SRes} (rs : RelS g w p σ) (h : SatS g w (r.bindS p f) Dd W) : SatL g w r (fun v w1 => w1.Ok g ∧ Ex w w1 ∧ ∃ d, RelDs g w1 d v ∧ SatS g w1 (f d w1.mm) Dd W) (fun c dd w' => W c dd σ w'.hp) := by
  cases r with
  | ok d m => intro w' v h1 h2 h3 h4; subst h1; exact ⟨h2, h3, d, h4, SatS.ex h3 h⟩
  | exc x m => exact fun w' c dd h1 h2 h3 h4 => h w' σ c dd h1 h2 h3 (rs.mono h3) h4
  | bad => exact h
end

section
variable {X : Cx} {g : Cf} {W : WX} {a b c : Expr} {da db dc : Dn} {pos : Pos}
theorem PS.imp {e : Stmt} {t t' : TS} (h : PS X e t) (k : ∀ D σ H, t' D σ H → t D σ H) : PS X e t' := ⟨fun pins s σ H Q I hw => h.run pins s σ H Q I (k Q σ H hw)⟩
theorem PSs.imp {e : List Stmt} {t t' : TS} (h : PSs X e t) (k : ∀ D σ H, t' D σ H → t D σ H) : PSs X e t' := ⟨fun pins s σ H Q I hw => h.run pins s σ H Q I (k Q σ H hw)⟩
def sNext : DnS := fun p m => .nx p m
def sSeq (f h : DnS) : DnS := fun p m => match f p m with
  | .nx p m => h p m
  | r => r
theorem s_nil : PSs X [] (tDS g W sNext) := PSs.imp pss_nil fun D σ H ⟨w, p, e, ok, rs, h⟩ => by subst e; exact h w σ rfl ok (Ex.refl _) rs
theorem s_cons {st : Stmt} {rest : List Stmt} {f h : DnS} (h1 : PS X st (tDS g W f)) (h2 : PSs X rest (tDS g W h)) : PSs X (st :: rest) (tDS g W (sSeq f h)) := by
  refine PSs.imp (pss_cons h1 h2) fun D σ H ⟨w, p, e, ok, rs, hh⟩ => ?_
  refine ⟨w, p, e, ok, rs, ?_⟩
  unfold sSeq at hh
  cases e1 : f p w.mm with
  | nx p1 m1 =>
    rw [e1] at hh
    intro w' σ' h1 h2 h3 h4
    subst h1
    exact ⟨w', p1, rfl, h2, h4, hh.ex h3⟩
  | _ => rw [e1] at hh; exact hh
theorem s_pass : PS X (.Pass pos) (tDS g W sNext) := PS.imp ps_pass fun D σ H ⟨w, p, e, ok, rs, h⟩ => by subst e; exact h w σ rfl ok (Ex.refl _) rs
theorem s_doc {x j pos'} : PS X (.Expr (.Constant (.str x) j pos) pos') (tDS g W sNext) := PS.imp ps_doc fun D σ H ⟨w, p, e, ok, rs, h⟩ => by subst e; exact h w σ rfl ok (Ex.refl _) rs
theorem s_break : PS X (.Break pos) (tDS g W fun p m => .bk p m) := PS.imp ps_break fun D σ H ⟨w, p, e, ok, rs, h⟩ => by subst e; exact h w σ rfl ok (Ex.refl _) rs
theorem s_cont : PS X (.Continue pos) (tDS g W fun p m => .ct p m) := PS.imp ps_continue fun D σ H ⟨w, p, e, ok, rs, h⟩ => by subst e; exact h w σ rfl ok (Ex.refl _) rs
def sRet (da : Dn) : DnS := fun p m => (da p m).bindS p fun d m => .rt d m
theorem s_ret (he : PE X a (tD g W da)) : PS X (.Return (some a) pos) (tDS g W (sRet da)) := by
  refine PS.imp (ps_ret he) fun D σ H ⟨w, p, e, ok, rs, h⟩ => ?_
  exact ⟨w, p, e, ok, rs, (SatS.of rs h).imp fun v w1 ⟨ok1, ex1, d, r1, h1⟩ => h1 w1 v rfl ok1 (Ex.refl _) r1⟩
theorem s_retN : PS X (.Return none pos) (tDS g W fun _ m => .rt .non m) := PS.imp ps_retN fun D σ H ⟨w, p, e, ok, rs, h⟩ => by subst e; exact h w _ rfl ok (Ex.refl _) (by simp only [RelD])
def sExpr (da : Dn) : DnS := fun p m => (da p m).bindS p fun _ m => .nx p m
theorem s_expr (he : PE X a (tD g W da)) (hs : swapsWith a none pos.line X.env = pure false) : PS X (.Expr a pos) (tDS g W (sExpr da)) := by
  refine PS.imp (ps_expr he hs) fun D σ H ⟨w, p, e, ok, rs, h⟩ => ?_
  exact ⟨w, p, e, ok, rs, (SatS.of rs h).imp fun v w1 ⟨ok1, ex1, d, r1, h1⟩ => h1 w1 σ rfl ok1 (Ex.refl _) (rs.mono ex1)⟩
def sIf (f : DnB) (u v : DnS) : DnS := fun p m => (f p m).bindS p fun b m => if b then u p m else v p m
theorem s_if {f : DnB} {ss ts : List Stmt} {u v : DnS} (hc : PT X c (tDB g W f)) (ha : PSs X ss (tDS g W u)) (hb : PSs X ts (tDS g W v)) : PS X (.If c ss ts pos) (tDS g W (sIf f u v)) := by
  refine PS.imp (ps_if hc ha hb) fun D σ H ⟨w, p, e, ok, rs, h⟩ => ?_
  refine ⟨w, p, e, ok, rs, (SatS.ofB rs h).imp fun b w1 ⟨ok1, ex1, h1⟩ => ?_⟩
  cases b with
  | true => exact ⟨w1, p, rfl, ok1, rs.mono ex1, h1⟩
  | false => exact ⟨w1, p, rfl, ok1, rs.mono ex1, h1⟩

/-! ### targets -/
abbrev TgF := D → Sl → Option Sl
/-- σ' differs from σ at some slots alone -/
def But (l : List Nat) (σ σ' : St) : Prop := σ'.length = σ.length ∧ ∀ i, i ∉ l → σ'[i]? = σ[i]?
theorem But.refl {σ : St} : But [] σ σ := ⟨rfl, fun _ _ => rfl⟩
theorem But.mono {l l' : List Nat} {σ σ' : St} (h : But l σ σ') (s : ∀ i ∈ l, i ∈ l') : But l' σ σ' := ⟨h.1, fun i hi => h.2 i fun z => hi (s i z)⟩
theorem But.trans {l : List Nat} {σ σ' σ2 : St} (h : But l σ σ') (h' : But l σ' σ2) : But l σ σ2 := ⟨h'.1.trans h.1, fun i hi => (h'.2 i hi).trans (h.2 i hi)⟩
def gD (g : Cf) (f : TgF) (l : List Nat) : TG := fun v σ H Q => ∃ (w : Wd) (p : Sl) (d : D), w.hp = H ∧ w.Ok g ∧ RelS g w p σ ∧ RelD g w d v ∧ ∃ p', f d p = some p' ∧ ∀ σ', RelS g w p' σ' → But l σ σ' → Q σ' H
def gDs (g : Cf) (f : List D → Sl → Option Sl) (l : List Nat) : TGs := fun vs σ H Q => ∃ (w : Wd) (p : Sl) (ds : List D), w.hp = H ∧ w.Ok g ∧ RelS g w p σ ∧ RelDs g w ds vs ∧ ∃ p', f ds p = some p' ∧ ∀ σ', RelS g w p' σ' → But l σ σ' → Q σ' H
theorem PG.imp {e : Expr} {t t' : TG} (h : PG X e t) (k : ∀ v σ H Q, t' v σ H Q → t v σ H Q) : PG X e t' := ⟨fun pins s σ H v u Q I r hw => h.run pins s σ H v u Q I r (k v σ H Q hw)⟩
theorem PGs.imp {e : List Expr} {t t' : TGs} (h : PGs X e t) (k : ∀ v σ H Q, t' v σ H Q → t v σ H Q) : PGs X e t' := ⟨fun pins s σ H v u Q I r hw => h.run pins s σ H v u Q I r (k v σ H Q hw)⟩
def tgN (i : Nat) : TgF := fun d p => some (p.set i (some d))
def tgNil : List D → Sl → Option Sl
  | [], p => some p
  | _, _ => none
def tgCons (f : TgF) (h : List D → Sl → Option Sl) : List D → Sl → Option Sl
  | d :: ds, p => (f d p).bind (h ds)
  | [], _ => none
def tgT (n : Nat) (f : List D → Sl → Option Sl) : TgF := fun d p => match d with
  | .tup ds => if ds.length = n then f ds p else none
  | _ => none
theorem but_set {σ : St} {i : Nat} {x : Option V} : But [i] σ (σ.set i x) := ⟨by simp, fun j hj => List.getElem?_set_ne (fun e => hj (by simp [e]))⟩
theorem g_name {i : Nat} {x : Str} (hN : X.N.Nodup) (hi : X.N[i]? = some x) (hx : Loc X.env.scope x) (hf : X.fn x = true ∨ X.env.scope.names.lookup x = some .local) : PG X (.Name x pos) (gD g (tgN i) [i]) := by
  refine PG.imp (pg_name hN hi hx hf) fun v σ H Q ⟨w, p, d, e, ok, rs, r, p', ep, h⟩ => ?_
  cases ep
  exact h _ (rs.set r) but_set
theorem gs_nil : PGs X [] (gDs g tgNil []) := by
  refine PGs.imp pgs_nil fun v σ H Q ⟨w, p, ds, e, ok, rs, r, p', ep, h⟩ => ?_
  cases ds with
  | nil =>
    simp only [RelDs] at r
    cases ep
    exact ⟨r, h σ rs But.refl⟩
  | cons d ds => simp [tgNil] at ep
theorem gs_cons {e : Expr} {es : List Expr} {f : TgF} {h : List D → Sl → Option Sl} {l l' : List Nat} (h1 : PG X e (gD g f l)) (h2 : PGs X es (gDs g h l'))
    (hs : (assignEach (e :: es) X.env).map (·.2) = assign e X.env :: (assignEach es X.env).map (·.2)) : PGs X (e :: es) (gDs g (tgCons f h) (l ++ l')) := by
  refine PGs.imp (pgs_cons h1 h2 hs) fun v σ H Q ⟨w, p, ds, e, ok, rs, r, p', ep, hh⟩ => ?_
  cases ds with
  | nil => simp [tgCons] at ep
  | cons d ds =>
    simp only [RelDs] at r
    obtain ⟨v1, vr, rfl, r1, r2⟩ := r
    obtain ⟨p1, e1, e2⟩ := Option.bind_eq_some_iff.mp ep
    refine ⟨v1, vr, rfl, w, p, d, e, ok, rs, r1, p1, e1, fun σ1 rs1 b1 => ?_⟩
    refine ⟨w, p1, ds, e, ok, rs1, r2, p', e2, fun σ2 rs2 b2 => hh σ2 rs2 ?_⟩
    exact (b1.mono fun i hi => List.mem_append_left _ hi).trans (b2.mono fun i hi => List.mem_append_right _ hi)
theorem g_tup {es : List Expr} {k : Nat} {f : List D → Sl → Option Sl} {n : Nat} {l : List Nat} (gK : g.K = X.K) (hc : X.calm = true) (h : PGs X es (gDs g f l))
    (hn : (assignEach es X.env).length = n) (hst : (assignEach es X.env).findIdx? (·.1) = none) : PG X (.Tuple es k pos) (gD g (tgT n f) l) := by
  refine PG.imp (pg_tup hc h hn hst) fun v σ H Q ⟨w, p, d, e, ok, rs, r, p', ep, hh⟩ => ?_
  cases d with
  | tup ds =>
    simp only [RelD] at r
    obtain ⟨a, vs, rfl, t, r2⟩ := r
    simp only [tgT] at ep
    split at ep
    · rename_i hl
      exact ⟨a, vs, rfl, by rw [← gK, ← e]; exact t.sq, by rw [r2.length]; exact hl, w, p, ds, e, ok, rs, r2, p', ep, hh⟩
    · cases ep
  | _ => simp [tgT] at ep
def sAsg (da : Dn) (f : TgF) : DnS := fun p m => (da p m).bindS p fun d m => match f d p with
  | some p' => .nx p' m
  | none => .bad
theorem asg_red {f : TgF} {l : List Nat} {D : Ends} {σ : St} {H : Hp} (h : tDS g W (sAsg da f) D σ H) : tAsg (tD g W da) (gD g f l) D σ H := by
  obtain ⟨w, p, e, ok, rs, h⟩ := h
  refine ⟨w, p, e, ok, rs, (SatS.of rs h).imp fun v w1 ⟨ok1, ex1, d, r1, h1⟩ => ?_⟩
  cases e1 : f d p with
  | none => rw [e1] at h1; exact h1.elim
  | some p' =>
    rw [e1] at h1
    exact ⟨w1, p, d, rfl, ok1, rs.mono ex1, r1, p', e1, fun σ' rs' _ => h1 w1 σ' rfl ok1 (Ex.refl _) rs'⟩
theorem s_asg {tg : Expr} {f : TgF} {l : List Nat} (he : PE X a (tD g W da)) (hg : PG X tg (gD g f l)) (hs : swapsWithSole [tg] a pos.line X.env = pure false) (hw : swappedStores [tg] a X.env = pure none)
    (h1 : (assignEach [tg] X.env).map (·.2) = [assign tg X.env]) : PS X (.Assign [tg] a pos) (tDS g W (sAsg da f)) :=
  PS.imp (ps_asg he hg hs hw h1) fun D σ H h => asg_red h
theorem s_set {i : Nat} {x : Str} {pos' : Pos} (hN : X.N.Nodup) (hi : X.N[i]? = some x) (hx : Loc X.env.scope x) (he : PE X a (tD g W da)) (hs : swapsWith a (some (.Name x pos')) pos.line X.env = pure false) (hf : X.fn x = true ∨ X.env.scope.names.lookup x = some .local) :
    PS X (.Assign [.Name x pos'] a pos) (tDS g W (sAsg da (tgN i))) := by
  refine PS.imp (ps_set hN hi hx he hs hf) fun D σ H ⟨w, p, e, ok, rs, h⟩ => ?_
  refine ⟨w, p, e, ok, rs, (SatS.of rs h).imp fun v w1 ⟨ok1, ex1, d, r1, h1⟩ => ?_⟩
  exact h1 w1 _ rfl ok1 (Ex.refl _) ((rs.mono ex1).set r1)
def sPar (i j : Nat) (r : DnL) : DnS := fun p m => (r p m).bindS p fun ds m => match ds with
  | [x, y] => .nx ((p.set i (some x)).set j (some y)) m
  | _ => .bad
theorem s_par {i j : Nat} {x y : Str} {r : DnL} {px py pt : Pos} {kt k2 pt2} (hc : X.calm = true) (hN : X.N.Nodup) (hi : X.N[i]? = some x) (hj : X.N[j]? = some y) (hij : i ≠ j)
    (hx : X.env.scope.names.lookup x = some .local) (hy : X.env.scope.names.lookup y = some .local) (ha : PA X [a, b] (tDL g W r))
    (hw : swappedStores [.Tuple [.Name x px, .Name y py] kt pt] (.Tuple [a, b] k2 pt2) X.env = pure (some [x, y]))
    (hs : swapsWithSole [.Tuple [.Name x px, .Name y py] kt pt] (.Tuple [a, b] k2 pt2) pos.line X.env = pure false) :
    PS X (.Assign [.Tuple [.Name x px, .Name y py] kt pt] (.Tuple [a, b] k2 pt2) pos) (tDS g W (sPar i j r)) := by
  refine PS.imp (ps_par hc hN hi hj hij hx hy ha hw hs) fun D σ H ⟨w, p, e, ok, rs, h⟩ => ?_
  refine ⟨w, p, e, ok, rs, (SatS.ofL rs h).imp fun vs w1 ⟨ok1, ex1, ds, r1, h1⟩ => ?_⟩
  match ds, r1, h1 with
  | [d1, d2], r1, h1 =>
    simp only [RelDs] at r1
    obtain ⟨v1, _, rfl, q1, v2, _, rfl, q2, rfl⟩ := r1
    exact ⟨v1, v2, rfl, h1 w1 _ rfl ok1 (Ex.refl _) (((rs.mono ex1).set q1).set q2)⟩
  | [], _, h1 => exact h1.elim
  | [_], _, h1 => exact h1.elim
  | _ :: _ :: _ :: _, _, h1 => exact h1.elim
/-- o[i] = e, o a list that may change -/
abbrev P3 := D → D → D → Mem → Option Mem
def SetD (g : Cf) (t : TSet) (f : P3) : Prop := ∀ (w : Wd) (d1 d2 d3 : D) (v1 v2 v3 : V) (m : Mem) (Q : Hp → Prop), w.Ok g → RelD g w d1 v1 → RelD g w d2 v2 → RelD g w d3 v3 → f d1 d2 d3 w.mm = some m → (∀ w', w'.mm = m → w'.Ok g → Ex w w' → Q w'.hp) → t v1 v2 v3 w.hp Q
def sSub (dv dobj di : Dn) (f : P3) : DnS := fun p m => (dv p m).bindS p fun v m => (dobj p m).bindS p fun o m => (di p m).bindS p fun i m => match f o i v m with
  | some m => .nx p m
  | none => .bad
theorem s_sub {o i : Expr} {dv dobj di : Dn} {t : TSet} {f : P3} {tpos : Pos} (he : PE X a (tD g W dv)) (ho : PE X o (tD g W dobj)) (hi : PE X i (tD g W di)) (hset : PSet X t) (hd : SetD g t f)
    (hs : swapsWithSole [.Subscript o i tpos] a pos.line X.env = pure false) (hw : swappedStores [.Subscript o i tpos] a X.env = pure none)
    (h1 : (assignEach [.Subscript o i tpos] X.env).map (·.2) = [assign (.Subscript o i tpos) X.env])
    (ha : ∀ v, assign (.Subscript o i tpos) X.env v = (do
      let ov ← holding [v] (eval o X.env)
      let iv ← holding [v, ov] (eval i X.env)
      standAt tpos
      holding [v, ov, iv] (setItem ov iv v)
      release [v, ov, iv] [])) : PS X (.Assign [.Subscript o i tpos] a pos) (tDS g W (sSub dv dobj di f)) := by
  refine PS.imp (ps_asg he (pg_sub ho hi hset ha) hs hw h1) fun D σ H ⟨w, p, e, ok, rs, h⟩ => ?_
  refine ⟨w, p, e, ok, rs, (SatS.of rs h).imp fun v w1 ⟨ok1, ex1, d, r1, h1⟩ => ?_⟩
  have rs1 := rs.mono ex1
  refine ⟨w1, p, rfl, ok1, rs1, (SatS.of rs1 h1).imp fun ov w2 ⟨ok2, ex2, od, r2, h2⟩ => ?_⟩
  have rs2 := rs1.mono ex2
  refine ⟨w2, p, rfl, ok2, rs2, (SatS.of rs2 h2).imp fun iv w3 ⟨ok3, ex3, idd, r3, h3⟩ => ?_⟩
  cases e1 : f od idd d w3.mm with
  | none => rw [e1] at h3; exact h3.elim
  | some m =>
    rw [e1] at h3
    exact hd w3 od idd d ov iv v m _ ok3 (RelD.mono ex3 _ _ r2) r3 (RelD.mono (ex2.trans ex3) _ _ r1) e1 fun w' q1 q2 q3 => h3 w' σ q1 q2 q3 ((rs2.mono ex3).mono q3)

/-! ### what is walked -/
/-- an iterator J that gives the values ds -/
def Walks (g : Cf) (w0 : Wd) (J : It) (ds : List D) : Prop := ∀ (w : Wd), Em w0 w → w.Ok g → ∀ (i : Nat),
  (∀ d, ds[i]? = some d → J.go i w.hp ∧ ∀ x H', J.yld i w.hp x H' → ∃ w', w'.hp = H' ∧ w'.mm = w.mm ∧ w'.Ok g ∧ Ex w w' ∧ RelD g w' d x) ∧ (ds[i]? = none → J.stop i w.hp)
theorem Walks.em {w w' : Wd} {J : It} {ds : List D} (h : Walks g w J ds) (e : Em w w') : Walks g w' J ds := fun w1 e1 => h w1 (e.trans e1)
def iD (g : Cf) (W : WX) (f : DnL) : TI := fun σ H R => ∃ (w : Wd) (p : Sl), w.hp = H ∧ w.Ok g ∧ RelS g w p σ ∧ match f p w.mm with
  | .ok ds m => ∀ (w' : Wd) (J : It), w'.mm = m → w'.Ok g → Ex w w' → Walks g w' J ds → R J w'.hp
  | .exc x m => ∀ (w' : Wd) (c : Value) (dd : Option Addr), w'.mm = m → w'.Ok g → Ex w w' → RelX g w' x c dd → W c dd σ w'.hp
  | .bad => False
theorem PI.imp {tg e : Expr} {t t' : TI} (h : PI X tg e t) (k : ∀ σ H R, t' σ H R → t σ H R) : PI X tg e t' := ⟨fun pins s σ H R I hw => h.run pins s σ H R I (k σ H R hw)⟩
theorem walks_range {w : Wd} {lo : Int} {n : Nat} : Walks g w (Itr lo n) ((List.range n).map fun i => .int (lo + (i : Nat))) := by
  intro w1 e1 ok1 i
  by_cases hi : i < n
  · refine ⟨fun d hd => ⟨hi, fun x H' ⟨eH, ex⟩ => ⟨w1, eH.symm, rfl, ok1, Ex.refl _, ?_⟩⟩, fun hn => ?_⟩
    · simp only [List.getElem?_map, List.getElem?_range hi, Option.map_some, Option.some.injEq] at hd
      subst hd; subst ex
      simp only [RelD]
    · simp [List.getElem?_range hi] at hn
  · refine ⟨fun d hd => ?_, fun _ => by show n ≤ i; omega⟩
    rw [List.getElem?_map, List.getElem?_eq_none (by simpa using hi)] at hd
    cases hd
def rng1 : List D → Option (List D)
  | [.int j] => if -(2 ^ 62) ≤ j ∧ j < 2 ^ 62 then some ((List.range j.toNat).map fun i => .int (0 + (i : Nat))) else none
  | _ => none
def rng2 : List D → Option (List D)
  | [.int i, .int j] => if (-(2 ^ 62) ≤ i ∧ i < 2 ^ 62) ∧ -(2 ^ 62) ≤ j ∧ j < 2 ^ 62 then some ((List.range (j - i).toNat).map fun k => .int (i + (k : Nat))) else none
  | _ => none
def ResL.ofO : Option (List D) → Mem → ResL
  | some ds, m => .ok ds m
  | none, _ => .bad
theorem i_range1 {tg : Expr} {r : DnL} {p pos : Pos} (hg : Gl X "range") (hm : X.mg "range" = none) (ha : PA X [a] (tDL g W r)) (hs : starEach [a] X.env = [(false, eval a X.env)]) : PI X tg (.Call (.Name "range" p) [a] [] pos) (iD g W (fun p m => (r p m).bindL fun ds m => ResL.ofO (rng1 ds) m)) := by
  refine PI.imp (pi_range1 hg hm ha hs) fun σ H R ⟨w, p, e, ok, rs, h⟩ => ?_
  refine ⟨w, p, e, ok, rs, ?_⟩
  cases e1 : r p w.mm with
  | bad => simp [e1, ResL.bindL] at h
  | exc x m => simp only [e1, ResL.bindL] at h; exact h
  | ok ds m =>
    simp only [e1, ResL.bindL] at h
    intro w' vs h1 h2 h3 h4
    match ds, h4, h with
    | [.int j], h4, h =>
      simp only [RelDs, RelD] at h4
      obtain ⟨_, _, rfl, rfl, rfl⟩ := h4
      simp only [rng1] at h
      by_cases hj : -(2 ^ 62) ≤ j ∧ j < 2 ^ 62
      · rw [if_pos hj] at h
        exact ⟨j, rfl, hj.1, hj.2, h w' _ h1 h2 h3 walks_range⟩
      · rw [if_neg hj] at h; exact h.elim
    | [], _, h => exact h.elim
    | .int _ :: _ :: _, _, h => exact h.elim
    | .non :: _, _, h => exact h.elim
    | .bl _ :: _, _, h => exact h.elim
    | .str _ :: _, _, h => exact h.elim
    | .tup _ :: _, _, h => exact h.elim
    | .lst _ :: _, _, h => exact h.elim
    | .scr _ :: _, _, h => exact h.elim
    | .dct _ _ :: _, _, h => exact h.elim
    | .obj _ _ _ :: _, _, h => exact h.elim
    | .ref _ :: _, _, h => exact h.elim
    | .ty _ :: _, _, h => exact h.elim
/-- by values -/
def ItR (X : Cx) (tg : Expr) (r : V → Hp → (It → Hp → Prop) → Prop) : Prop := ∀ (pins : List (Addr × Obj)) (s : Shared) (σ : St) (H : Hp) (x : V) (v : Value) (R : It → Hp → Prop), Inv X pins σ H s → RelV x v → r x H R → wpAny (model X.prog X.w) X.A (pyIter v) (PIE X pins σ tg R) X.xe s
theorem it_any {tg : Expr} : ItR X tg (fun x H R => (∃ a, x = .ref a ∧ (∃ xs, SqL X.K H a xs) ∧ R (Itl X.K a) H) ∨ (∃ a, x = .ref a ∧ (∃ xs, SqT X.K H a xs) ∧ R (Itt X.K a) H) ∨ ∃ z, x = .str z ∧ R (Its z) H) := by
  intro pins s1 σ H1 x v R I1 r1 q1
  rcases q1 with ⟨a, e, ⟨xs, hq⟩, q⟩ | ⟨a, e, ⟨xs, hq⟩, q⟩ | ⟨z, e, q⟩
  · subst e
    cases r1
    obtain ⟨its, rv, p, hz⟩ := I1.list hq
    refine wpAny_pyIter_list p.isList ?_
    refine ⟨s1.heap.objs.size, [s1.heap.objs.size], _, _, H1, rfl, I1.kept (t' := s1.toks) fun b o e => Heap.get?_push_of_some _ e, turn_list a _, ⟨_, Heap.get?_push_size _ rfl, rfl, rfl⟩, fun b hb => ?_, q⟩
    have e : b = s1.heap.objs.size := by simpa using hb
    subst e
    exact I1.fpOk (Nat.le_refl _) (I1.hok.fresh (Nat.le_refl _))
  · subst e
    cases r1
    obtain ⟨its, rv, p, hz⟩ := I1.tuple hq
    refine wpAny_pyIter_tuple (show s1.heap.IsTuple a its.toArray from p) ?_
    refine ⟨s1.heap.objs.size, [s1.heap.objs.size], _, _, H1, rfl, I1.kept (t' := s1.toks) fun b o e => Heap.get?_push_of_some _ e, turn_tuple a _, ⟨_, Heap.get?_push_size _ rfl, rfl, rfl⟩, fun b hb => ?_, q⟩
    have e : b = s1.heap.objs.size := by simpa using hb
    subst e
    exact I1.fpOk (Nat.le_refl _) (I1.hok.fresh (Nat.le_refl _))
  · subst e
    obtain ⟨t, rfl⟩ := r1
    cases ha : z.cps.all (· < 128)
    · exact wpAny_pyIter_wide ha (pi_one (tk := s1.toks) I1 _ (turn_str _ z t "str_iterator" (.inr rfl)) ⟨_, Heap.get?_push_size _ rfl, rfl, rfl⟩ q)
    · exact wpAny_pyIter_ascii ha (pi_one (tk := s1.toks) I1 _ (turn_str _ z t "str_ascii_iterator" (.inl rfl)) ⟨_, Heap.get?_push_size _ rfl, rfl, rfl⟩ q)
theorem pi_val {tg : Expr} {t : TE} {r : V → Hp → (It → Hp → Prop) → Prop} (h : PE X a t) (k : ItR X tg r) : PI X tg a (fun σ H R => t σ H fun x H1 => r x H1 R) := by
  refine ⟨fun pins s σ H R I hw => ?_⟩
  exact thn (h.run pins s σ H _ I hw) fun v s1 ⟨x, H1, I1, r1, q1⟩ => k pins s1 σ H1 x v R I1 r1 q1
end
end Rf

namespace Rf
open PySem L2
section
variable {X : Cx} {g : Cf} {W : WX} {a b c : Expr} {da db dc : Dn} {pos : Pos}

/-! ### lists, tuples, texts walked -/
def iterD : D → Option (List D)
  | .tup ds => some ds
  | .lst ds => some ds
  | .scr ds => some ds
  | .str x => some (x.cps.toList.map fun c => .str ⟨#[c]⟩)
  | _ => none
theorem walks_list {w : Wd} {a : Addr} {vs : List V} {ds : List D} (t : w.Sc g.K a vs) (r : RelDs g w ds vs) : Walks g w (Itl g.K a) ds := by
  intro w1 e1 ok1 i
  have t1 := e1.sc t
  have r1 := RelDs.mono' e1 _ _ r
  refine ⟨fun d hd => ?_, fun hn => ?_⟩
  · obtain ⟨v, hv, rv⟩ := r1.get hd
    refine ⟨⟨vs, v, t1.sq, hv⟩, fun x H' ⟨eH, ey⟩ => ⟨w1, eH.symm, rfl, ok1, Ex.refl _, ?_⟩⟩
    have := ey vs t1.sq
    rw [hv] at this; cases this; exact rv
  · exact ⟨vs, t1.sq, by rw [r1.length]; exact List.getElem?_eq_none_iff.mp hn⟩
theorem walks_tup {w : Wd} {a : Addr} {vs : List V} {ds : List D} (t : w.Tp g.K a vs) (r : RelDs g w ds vs) : Walks g w (Itt g.K a) ds := by
  intro w1 e1 ok1 i
  have t1 := e1.tp t
  have r1 := RelDs.mono' e1 _ _ r
  refine ⟨fun d hd => ?_, fun hn => ?_⟩
  · obtain ⟨v, hv, rv⟩ := r1.get hd
    refine ⟨⟨vs, v, t1.sq, hv⟩, fun x H' ⟨eH, ey⟩ => ⟨w1, eH.symm, rfl, ok1, Ex.refl _, ?_⟩⟩
    have := ey vs t1.sq
    rw [hv] at this; cases this; exact rv
  · exact ⟨vs, t1.sq, by rw [r1.length]; exact List.getElem?_eq_none_iff.mp hn⟩
theorem walks_str {w : Wd} {x : Str} : Walks g w (Its x) (x.cps.toList.map fun c => .str ⟨#[c]⟩) := by
  intro w1 e1 ok1 i
  by_cases hi : i < x.cps.size
  · refine ⟨fun d hd => ⟨hi, fun v H' ⟨eH, c, hc, ev⟩ => ⟨w1, eH.symm, rfl, ok1, Ex.refl _, ?_⟩⟩, fun hn => ?_⟩
    · rw [List.getElem?_map, Array.getElem?_toList, hc] at hd
      cases hd
      simp only [RelD]; exact ev
    · rw [List.getElem?_map, Array.getElem?_toList, Array.getElem?_eq_getElem hi] at hn; cases hn
  · refine ⟨fun d hd => ?_, fun _ => by show x.cps.size ≤ i; omega⟩
    rw [List.getElem?_map, Array.getElem?_toList, Array.getElem?_eq_none (by omega)] at hd
    cases hd
def iVal (da : Dn) : DnL := fun p m => (da p m).bindL fun d m => ResL.ofO (iterD d) m
theorem i_val {tg : Expr} (gK : g.K = X.K) (ha : PE X a (tD g W da)) : PI X tg a (iD g W (iVal da)) := by
  refine PI.imp (pi_val ha it_any) fun σ H R ⟨w, p, e, ok, rs, h⟩ => ?_
  refine ⟨w, p, e, ok, rs, ?_⟩
  unfold iVal at h
  cases e1 : da p w.mm with
  | bad => simp [e1, Res.bindL] at h
  | exc x m => simp only [e1, Res.bindL] at h; exact h
  | ok d m =>
    simp only [e1, Res.bindL] at h
    intro w' v h1 h2 h3 h4
    cases d with
    | tup ds =>
      simp only [RelD] at h4
      obtain ⟨a, vs, rfl, t, r⟩ := h4
      rw [← gK]
      exact .inr (.inl ⟨a, rfl, ⟨vs, t.sq⟩, h w' _ h1 h2 h3 (walks_tup t r)⟩)
    | lst ds =>
      simp only [RelD] at h4
      obtain ⟨a, vs, rfl, t, r⟩ := h4
      rw [← gK]
      exact .inl ⟨a, rfl, ⟨vs, t.sq⟩, h w' _ h1 h2 h3 (walks_list (.inl (.inl t)) r)⟩
    | scr ds =>
      simp only [RelD] at h4
      obtain ⟨a, vs, rfl, t, r⟩ := h4
      rw [← gK]
      exact .inl ⟨a, rfl, ⟨vs, t.sq⟩, h w' _ h1 h2 h3 (walks_list t r)⟩
    | str x =>
      simp only [RelD] at h4
      subst h4
      exact .inr (.inr ⟨x, rfl, h w' _ h1 h2 h3 walks_str⟩)
    | _ => exact h.elim
theorem rng2_some {ds xs : List D} (h : rng2 ds = some xs) : ∃ i j, ds = [.int i, .int j] ∧ ((-(2 ^ 62) ≤ i ∧ i < 2 ^ 62) ∧ -(2 ^ 62) ≤ j ∧ j < 2 ^ 62) ∧ xs = (List.range (j - i).toNat).map fun k => .int (i + (k : Nat)) := by
  unfold rng2 at h
  split at h
  · rename_i i j
    split at h
    · rename_i hj
      exact ⟨i, j, rfl, hj, (Option.some.inj h).symm⟩
    · cases h
  · cases h
theorem i_range2 {tg : Expr} {r : DnL} {p pos : Pos} (hg : Gl X "range") (hm : X.mg "range" = none) (ha : PA X [a, b] (tDL g W r)) (hs : starEach [a, b] X.env = [(false, eval a X.env), (false, eval b X.env)]) (hs2 : starEach [b] X.env = [(false, eval b X.env)]) : PI X tg (.Call (.Name "range" p) [a, b] [] pos) (iD g W (fun p m => (r p m).bindL fun ds m => ResL.ofO (rng2 ds) m)) := by
  refine PI.imp (pi_range2 hg hm ha hs hs2) fun σ H R ⟨w, p, e, ok, rs, h⟩ => ?_
  refine ⟨w, p, e, ok, rs, ?_⟩
  cases e1 : r p w.mm with
  | bad => simp [e1, ResL.bindL] at h
  | exc x m => simp only [e1, ResL.bindL] at h; exact h
  | ok ds m =>
    simp only [e1, ResL.bindL] at h
    intro w' vs h1 h2 h3 h4
    cases e2 : rng2 ds with
    | none => rw [e2] at h; exact h.elim
    | some xs =>
      rw [e2] at h
      obtain ⟨i, j, rfl, hj, rfl⟩ := rng2_some e2
      simp only [RelDs, RelD] at h4
      obtain ⟨_, _, rfl, rfl, _, _, rfl, rfl, rfl⟩ := h4
      exact ⟨i, j, rfl, ⟨hj.1.1, hj.1.2, hj.2.1, hj.2.2⟩, h w' _ h1 h2 h3 walks_range⟩

/-! ### for -/
def forD (tf : TgF) (bd : DnS) : List D → DnS
  | [], p, m => .nx p m
  | d :: ds, p, m => match tf d p with
    | none => .bad
    | some p1 => match bd p1 m with
      | .nx p2 m2 => forD tf bd ds p2 m2
      | .ct p2 m2 => forD tf bd ds p2 m2
      | .bk p2 m2 => .nx p2 m2
      | r => r
def sFor (f : DnL) (tf : TgF) (bd : DnS) : DnS := fun p m => (f p m).bindS p fun ds m => forD tf bd ds p m
theorem s_for {tg iter : Expr} {body : List Stmt} {f : DnL} {tf : TgF} {bd : DnS} {l : List Nat} (hp : PassesOwn (model X.prog X.w) X.A X.env X.xe) (hc : X.calm = true) (hi : PI X tg iter (iD g W f)) (hg : PG X tg (gD g tf l)) (hb : PSs X body (tDS g W bd))
    (hs : ∀ x, foldedSetIterable iter X.env x = pure x) : PS X (.For tg iter body [] pos) (tDS g W (sFor f tf bd)) := by
  refine PS.imp (ps_for hp hc hi hg hb hs) fun D σ H ⟨w, p, e, ok, rs, h⟩ => ?_
  refine ⟨w, p, e, ok, rs, ?_⟩
  unfold sFor at h
  cases e1 : f p w.mm with
  | bad => simp [e1, ResL.bindS, SatS] at h
  | exc x m => simp only [e1, ResL.bindS] at h; exact fun w' c dd h1 h2 h3 h4 => h w' σ c dd h1 h2 h3 (rs.mono h3) h4
  | ok ds m0 =>
    simp only [e1, ResL.bindS] at h
    intro w0 J h1 h2 h3 hJ
    subst h1
    refine ⟨fun i mm σ H => ∃ (w : Wd) (p : Sl), w.hp = H ∧ w.Ok g ∧ RelS g w p σ ∧ Em w0 w ∧ mm = ds.length - i ∧ i ≤ ds.length ∧ SatS g w (forD tf bd (ds.drop i) p w.mm) D W,
      ⟨ds.length, w0, p, rfl, h2, rs.mono h3, ⟨fun _ _ q => q, fun q => q⟩, by simp, Nat.zero_le _, SatS.ex h3 h⟩, ?_⟩
    rintro i mm σ1 H1 ⟨w1, p1, rfl, ok1, rs1, em1, rfl, hle, hs1⟩
    obtain ⟨hgo, hst⟩ := hJ w1 em1 ok1 i
    by_cases hlt : i < ds.length
    · have hd : ds[i]? = some ds[i] := List.getElem?_eq_getElem hlt
      obtain ⟨go, yl⟩ := hgo _ hd
      refine .inr ⟨go, fun σ' H' => ∃ (w : Wd) (p : Sl), w.hp = H' ∧ w.Ok g ∧ RelS g w p σ' ∧ Em w0 w ∧ SatS g w (forD tf bd (ds.drop (i + 1)) p w.mm) D W, fun σ' H' ⟨w', p', a1, a2, a3, a4, a5⟩ => ⟨ds.length - (i + 1), by omega, w', p', a1, a2, a3, a4, rfl, hlt, a5⟩, fun x H' hy => ?_⟩
      obtain ⟨w2, rfl, mm2, ok2, ex2, rd⟩ := yl x H' hy
      rw [List.drop_eq_getElem_cons hlt] at hs1
      simp only [forD] at hs1
      cases e2 : tf ds[i] p1 with
      | none => rw [e2] at hs1; exact hs1.elim
      | some p2 =>
        rw [e2] at hs1
        simp only at hs1
        refine ⟨w2, p1, ds[i], rfl, ok2, rs1.mono ex2, rd, p2, e2, fun σ2 rs2 _ => ?_⟩
        refine ⟨w2, p2, rfl, ok2, rs2, ?_⟩
        rw [← mm2] at hs1
        replace hs1 := SatS.ex ex2 hs1
        have em2 : Em w0 w2 := em1.trans ex2.em
        cases e3 : bd p2 w2.mm with
        | nx p3 m3 =>
          rw [e3] at hs1
          exact fun w' σ' q1 q2 q3 q4 => ⟨w', p3, rfl, q2, q4, em2.trans q3.em, by subst q1; exact SatS.ex q3 hs1⟩
        | ct p3 m3 =>
          rw [e3] at hs1
          exact fun w' σ' q1 q2 q3 q4 => ⟨w', p3, rfl, q2, q4, em2.trans q3.em, by subst q1; exact SatS.ex q3 hs1⟩
        | bk p3 m3 => rw [e3] at hs1; exact hs1
        | rt d m3 => rw [e3] at hs1; exact hs1
        | exc x p3 m3 => rw [e3] at hs1; exact hs1
        | bad => rw [e3] at hs1; exact hs1
    · have hi : i = ds.length := by omega
      subst hi
      refine .inl ⟨hst (List.getElem?_eq_none (Nat.le_refl _)), ?_⟩
      rw [List.drop_length] at hs1
      exact hs1 w1 σ1 rfl ok1 (Ex.refl _) rs1

/-! ### while -/
def whileD (c : DnB) (bd : DnS) : Nat → DnS
  | 0, _, _ => .bad
  | n + 1, p, m => (c p m).bindS p fun b m => if b then (match bd p m with
      | .nx p2 m2 => whileD c bd n p2 m2
      | .ct p2 m2 => whileD c bd n p2 m2
      | .bk p2 m2 => .nx p2 m2
      | r => r) else .nx p m
theorem s_while {c : Expr} {body : List Stmt} {cd : DnB} {bd : DnS} (n : Nat) (hp : PassesOwn (model X.prog X.w) X.A X.env X.xe) (hc : PT X c (tDB g W cd)) (hb : PSs X body (tDS g W bd)) : PS X (.While c body [] pos) (tDS g W (whileD cd bd n)) := by
  refine PS.imp (ps_while hp hc hb) fun D σ H ⟨w, p, e, ok, rs, h⟩ => ?_
  refine ⟨fun mm σ H => ∃ (w : Wd) (p : Sl), w.hp = H ∧ w.Ok g ∧ RelS g w p σ ∧ SatS g w (whileD cd bd mm p w.mm) D W, ⟨n, w, p, e, ok, rs, h⟩, ?_⟩
  rintro mm σ1 H1 ⟨w1, p1, rfl, ok1, rs1, hs1⟩
  cases mm with
  | zero => exact hs1.elim
  | succ k =>
    unfold whileD at hs1
    refine ⟨w1, p1, rfl, ok1, rs1, (SatS.ofB rs1 hs1).imp fun b w2 ⟨ok2, ex2, h2⟩ => ?_⟩
    cases b with
    | false => exact h2 w2 σ1 rfl ok2 (Ex.refl _) (rs1.mono ex2)
    | true =>
      simp only [if_true] at h2 ⊢
      refine ⟨fun σ' H' => ∃ (w : Wd) (p : Sl), w.hp = H' ∧ w.Ok g ∧ RelS g w p σ' ∧ SatS g w (whileD cd bd k p w.mm) D W, fun σ' H' q => ⟨k, Nat.lt_succ_self k, q⟩, ?_⟩
      refine ⟨w2, p1, rfl, ok2, rs1.mono ex2, ?_⟩
      cases e3 : bd p1 w2.mm with
      | nx p3 m3 =>
        rw [e3] at h2
        exact fun w' σ' q1 q2 q3 q4 => ⟨w', p3, rfl, q2, q4, by subst q1; exact SatS.ex q3 h2⟩
      | ct p3 m3 =>
        rw [e3] at h2
        exact fun w' σ' q1 q2 q3 q4 => ⟨w', p3, rfl, q2, q4, by subst q1; exact SatS.ex q3 h2⟩
      | bk p3 m3 => rw [e3] at h2; exact h2
      | rt d m3 => rw [e3] at h2; exact h2
      | exc x p3 m3 => rw [e3] at h2; exact h2
      | bad => rw [e3] at h2; exact h2

/-! ### comprehensions -/
def W0 : WX := fun _ _ _ _ => False
def wipeD (p : Sl) : List Nat → Sl
  | [] => p
  | v :: vs => (wipeD p vs).set v none
theorem wipeD_len (p : Sl) : ∀ vs, (wipeD p vs).length = p.length
  | [] => rfl
  | v :: vs => by unfold wipeD; rw [List.length_set, wipeD_len p vs]
theorem RelS.wipe {w : Wd} {p : Sl} {σ : St} (h : RelS g w p σ) : ∀ vs, RelS g w (wipeD p vs) (wipe σ vs)
  | [] => h
  | v :: vs => by
    have ih := RelS.wipe h vs
    refine ⟨by simp [wipeD, L2.wipe, ih.len], fun i d q => ?_⟩
    unfold wipeD at q
    by_cases e : v = i
    · subst e
      by_cases hv : v < (wipeD p vs).length
      · rw [List.getElem?_set_self hv] at q; cases q
      · rw [List.getElem?_eq_none (by simpa using hv)] at q; cases q
    · rw [List.getElem?_set_ne e] at q
      obtain ⟨x, h1, h2⟩ := ih.get i d q
      exact ⟨x, by unfold L2.wipe; rw [List.getElem?_set_ne e]; exact h1, h2⟩
theorem wipe_in {σ : St} : ∀ {vs : List Nat} {i : Nat}, i ∈ vs → i < σ.length → (wipe σ vs)[i]? = some none
  | v :: vs, i, h, hl => by
    unfold L2.wipe
    by_cases e : v = i
    · subst e
      rw [List.getElem?_set_self (by rw [wipe_length]; exact hl)]
    · rw [List.getElem?_set_ne e]
      rcases List.mem_cons.mp h with z | z
      · exact absurd z.symm e
      · exact wipe_in z hl
theorem wipe_out' {σ : St} {i : Nat} {vs : List Nat} (h : i ∉ vs) : (wipe σ vs)[i]? = σ[i]? := by
  induction vs with
  | nil => rfl
  | cons v vs ih =>
    unfold L2.wipe
    rw [List.getElem?_set_ne (fun e => h (by simp [e]))]
    exact ih fun z => h (List.mem_cons_of_mem _ z)
theorem wipe_but {l vs : List Nat} {σ σ2 : St} (hl : ∀ i ∈ l, i ∈ vs) (h : But l (wipe σ vs) σ2) : wipe σ2 vs = wipe σ vs := by
  have hlen : σ2.length = σ.length := by rw [h.1, wipe_length]
  apply List.ext_getElem?
  intro i
  by_cases hi : i ∈ vs
  · by_cases hs : i < σ.length
    · rw [wipe_in hi (by omega), wipe_in hi hs]
    · rw [List.getElem?_eq_none (by rw [wipe_length]; omega), List.getElem?_eq_none (by rw [wipe_length]; omega)]
  · rw [wipe_out' hi, h.2 i (fun z => hi (hl i z))]
def Res.nx (r : Res) : Res := match r with
  | .exc _ _ => .bad
  | r => r
def ResB.nx (r : ResB) : ResB := match r with
  | .exc _ _ => .bad
  | r => r
/-- the items that a comprehension's block makes -/
def compD (tf : TgF) (tt : DnB) (te : Dn) (vs : List Nat) (p : Sl) : List D → Mem → ResL
  | [], m => .ok [] m
  | d :: ds, m => match tf d (wipeD p vs) with
    | none => .bad
    | some p1 => match tt p1 m with
      | .ok true m1 => (match te p1 m1 with
        | .ok y m2 => (compD tf tt te vs p ds m2).bindL fun ys m3 => .ok (y :: ys) m3
        | _ => .bad)
      | .ok false m1 => compD tf tt te vs p ds m1
      | _ => .bad
theorem compD_nox (tf : TgF) (tt : DnB) (te : Dn) (vs : List Nat) (p : Sl) : ∀ (ds : List D) (m : Mem) (x : Xn) (m' : Mem), compD tf tt te vs p ds m ≠ .exc x m'
  | [], m, x, m' => by simp [compD]
  | d :: ds, m, x, m' => by
    unfold compD
    split
    · simp
    · split
      · split
        · intro h
          cases e : compD tf tt te vs p ds ‹Mem› with
          | ok ys m3 => simp [e, ResL.bindL] at h
          | exc x2 m3 => exact compD_nox tf tt te vs p ds _ _ _ e
          | bad => simp [e, ResL.bindL] at h
        · simp
      · exact compD_nox tf tt te vs p ds _ x m'
      · simp
def dLc (f : DnL) (tf : TgF) (tt : DnB) (te : Dn) (vs : List Nat) : Dn := fun p m => (f p m).bind fun ds m => match compD tf tt te vs p ds m with
  | .ok ys m => if ys.length ≤ sizeLine then .ok (.lst ys) m else .bad
  | _ => .bad
/-- the view in which a new list D is made -/
def Wd.hide (w : Wd) (p : Addr) (o : HO) : Wd := ⟨w.ad, w.mm, upd w.hp p o, p :: w.hid⟩
theorem Wd.hide_fx {w : Wd} {p : Addr} {o : HO} (h : w.hp p = none) {b : Addr} {u : HO} (q : w.Fx b u) : (w.hide p o).Fx b u := by
  have nb : b ≠ p := ne_of_none q.1 h
  exact ⟨by show upd w.hp p o b = some u; rw [upd_ne nb]; exact q.1, q.2.1, fun z => (List.mem_cons.mp z).elim nb q.2.2⟩
theorem Wd.Ok.hide {w : Wd} {p : Addr} {o : HO} (k : w.Ok g) (h : w.hp p = none) : (w.hide p o).Ok g := by
  refine ⟨k.len, k.inj, fun n ob a h1 h2 => ?_, fun a ha => ?_⟩
  · have r := k.obj n ob a h1 h2
    refine r.mono (w := w) (w' := w.hide p o) ⟨fun _ _ q => q, fun q => Wd.hide_fx h q⟩ ?_
    obtain ⟨u, q⟩ := r.there
    show w.hp a = upd w.hp p o a
    rw [upd_ne (ne_of_none q h)]
  · rcases List.mem_cons.mp ha with z | z
    · subst z
      exact ⟨⟨o, upd_same⟩, k.fresh h⟩
    · obtain ⟨⟨u, q⟩, n⟩ := k.hd a z
      refine ⟨⟨u, ?_⟩, n⟩
      show upd w.hp p o a = some u
      rw [upd_ne (ne_of_none q h)]; exact q
/-- the hidden list has grown -/
def Wd.grow (w : Wd) (p : Addr) (o : HO) : Wd := ⟨w.ad, w.mm, upd w.hp p o, w.hid⟩
theorem Wd.grow_em {w : Wd} {p : Addr} {o : HO} (h : p ∈ w.hid) : Em w (w.grow p o) := by
  refine ⟨fun _ _ q => q, fun {b u} q => ?_⟩
  have nb : b ≠ p := fun z => q.2.2 (z ▸ h)
  exact ⟨by show upd w.hp p o b = some u; rw [upd_ne nb]; exact q.1, q.2.1, q.2.2⟩
theorem Wd.Ok.grow {w : Wd} {p : Addr} {o : HO} (k : w.Ok g) (h : p ∈ w.hid) : (w.grow p o).Ok g := by
  have nm := (k.hd p h).2
  refine ⟨k.len, k.inj, fun n ob a h1 h2 => ?_, fun a ha => ?_⟩
  · have r := k.obj n ob a h1 h2
    refine r.mono (Wd.grow_em h) ?_
    show w.hp a = upd w.hp p o a
    rw [upd_ne (fun z => nm (by subst z; exact ⟨n, ob, h1, h2⟩))]
  · by_cases z : a = p
    · subst z
      exact ⟨⟨o, upd_same⟩, nm⟩
    · obtain ⟨⟨u, q⟩, n⟩ := k.hd a ha
      refine ⟨⟨u, ?_⟩, n⟩
      show upd w.hp p o a = some u
      rw [upd_ne z]; exact q
/-- it is seen again -/
def Wd.show' (w : Wd) (l : List Addr) : Wd := ⟨w.ad, w.mm, w.hp, l⟩
theorem Wd.Ok.show' {w : Wd} {l : List Addr} (k : w.Ok g) (h : ∀ a ∈ l, a ∈ w.hid) : (w.show' l).Ok g := by
  refine ⟨k.len, k.inj, fun n ob a h1 h2 => ?_, fun a ha => k.hd a (h a ha)⟩
  exact (k.obj n ob a h1 h2).mono (w := w) (w' := w.show' l) ⟨fun _ _ q => q, fun q => ⟨q.1, q.2.1, fun z => q.2.2 (h _ z)⟩⟩ rfl
theorem lc_red {f : DnL} {tf : TgF} {tt : DnB} {te : Dn} {vs l : List Nat} {σ : St} {H : Hp} {Q : VK} (hl : ∀ i ∈ l, i ∈ vs) (h : tD g W (dLc f tf tt te vs) σ H Q) : tLc (iD g W f) (gD g tf l) (tDB g W0 tt) (tD g W0 te) vs σ H Q := by
  obtain ⟨w, p, e, ok, rs, h⟩ := h
  refine ⟨w, p, e, ok, rs, ?_⟩
  unfold dLc at h
  cases e1 : f p w.mm with
  | bad => simp [e1, ResL.bind, Sat] at h
  | exc x m => simp only [e1, ResL.bind] at h; exact h
  | ok ds m0 =>
    simp only [e1, ResL.bind] at h
    intro w0 J h1 h2 h3 hJ L hD
    subst h1
    have rs0 := rs.mono h3
    cases e2 : compD tf tt te vs p ds w0.mm with
    | bad => rw [e2] at h; exact h.elim
    | exc x m => rw [e2] at h; exact h.elim
    | ok ys mE =>
      rw [e2] at h
      simp only at h
      by_cases hz : ys.length ≤ sizeLine
      · rw [if_pos hz] at h
        refine ⟨fun i mm H => ∃ (w : Wd) (acc : List D) (av : List V) (rest : List D), w.hp = H ∧ w.Ok g ∧ w.hid = L :: w0.hid ∧ Em w0 w ∧ (∀ a o, w0.hp a = some o → ¬ w0.Mu a → w.hp a = some o ∧ ¬ w.Mu a) ∧
          H L = some (.lst av) ∧ RelDs g w acc av ∧ mm = ds.length - i ∧ i ≤ ds.length ∧ compD tf tt te vs p (ds.drop i) w.mm = .ok rest mE ∧ ys = acc ++ rest,
          ⟨ds.length, w0.hide L (.lst []), [], [], ys, rfl, h2.hide hD, rfl, ⟨fun _ _ q => q, fun q => Wd.hide_fx hD q⟩, fun a o q n => ⟨by show upd w0.hp L _ a = some o; rw [upd_ne (ne_of_none q hD)]; exact q, n⟩, upd_same, RelDs.nil, by simp, Nat.zero_le _, e2, rfl⟩, ?_⟩
        rintro i mm H1 ⟨w1, acc, av, rest, rfl, ok1, hid1, em1, st1, hD1, ra1, rfl, hle, hc1, hy1⟩
        have Dh : L ∈ w1.hid := by rw [hid1]; exact List.mem_cons_self
        obtain ⟨hgo, hst⟩ := hJ w1 em1 ok1 i
        by_cases hlt : i < ds.length
        · have hd : ds[i]? = some ds[i] := List.getElem?_eq_getElem hlt
          obtain ⟨go, yl⟩ := hgo _ hd
          rw [List.drop_eq_getElem_cons hlt] at hc1
          unfold compD at hc1
          cases e3 : tf ds[i] (wipeD p vs) with
          | none => rw [e3] at hc1; simp at hc1
          | some p1 =>
            rw [e3] at hc1
            simp only at hc1
            refine .inr ⟨go, fun H' => ∃ (w : Wd) (acc : List D) (av : List V) (rest : List D), w.hp = H' ∧ w.Ok g ∧ w.hid = L :: w0.hid ∧ Em w0 w ∧ (∀ a o, w0.hp a = some o → ¬ w0.Mu a → w.hp a = some o ∧ ¬ w.Mu a) ∧
              H' L = some (.lst av) ∧ RelDs g w acc av ∧ compD tf tt te vs p (ds.drop (i + 1)) w.mm = .ok rest mE ∧ ys = acc ++ rest, fun H' ⟨w', acc', av', rest', a1, a2, a3, a4, a5, a6, a7, a8, a9⟩ => ⟨ds.length - (i + 1), by omega, w', acc', av', rest', a1, a2, a3, a4, a5, a6, a7, rfl, hlt, a8, a9⟩, fun x H' hy => ?_⟩
            obtain ⟨w2, rfl, mm2, ok2, ex2, rd⟩ := yl x H' hy
            have rsw : RelS g w2 (wipeD p vs) (wipe σ vs) := RelS.wipe ⟨rs0.len, fun i d q => let ⟨v, b1, b2⟩ := rs0.get i d q; ⟨v, b1, RelD.mono' (em1.trans ex2.em) _ _ b2⟩⟩ vs
            refine ⟨w2, wipeD p vs, ds[i], rfl, ok2, rsw, rd, p1, e3, fun σ2 rs2 bt => ⟨wipe_but hl bt, ?_⟩⟩
            rw [← mm2] at hc1
            have hD2 : w2.hp L = some (.lst av) := (ex2.fx L _ hD1 (ok1.hd L Dh).2).1
            have st2 : ∀ a o, w0.hp a = some o → ¬ w0.Mu a → w2.hp a = some o ∧ ¬ w2.Mu a := fun a o q n => ex2.fx a o (st1 a o q n).1 (st1 a o q n).2
            have hid2 : w2.hid = L :: w0.hid := ex2.hid.trans hid1
            refine ⟨w2, p1, rfl, ok2, rs2, ?_⟩
            cases e4 : tt p1 w2.mm with
            | bad => rw [e4] at hc1; simp at hc1
            | exc x m => rw [e4] at hc1; simp at hc1
            | ok b m3 =>
              rw [e4] at hc1
              intro w3 q1 q2 q3
              subst q1
              have hD3 : w3.hp L = some (.lst av) := (q3.fx L _ hD2 (ok2.hd L (hid2 ▸ List.mem_cons_self)).2).1
              have st3 : ∀ a o, w0.hp a = some o → ¬ w0.Mu a → w3.hp a = some o ∧ ¬ w3.Mu a := fun a o q n => q3.fx a o (st2 a o q n).1 (st2 a o q n).2
              have hid3 : w3.hid = L :: w0.hid := q3.hid.trans hid2
              have em3 : Em w0 w3 := (em1.trans ex2.em).trans q3.em
              have ra3 : RelDs g w3 acc av := RelDs.mono' (ex2.em.trans q3.em) _ _ ra1
              cases b with
              | false =>
                simp only at hc1
                exact ⟨w3, acc, av, rest, rfl, q2, hid3, em3, st3, hD3, ra3, hc1, hy1⟩
              | true =>
                simp only [if_true] at hc1 ⊢
                refine ⟨w3, p1, rfl, q2, rs2.mono q3, ?_⟩
                cases e5 : te p1 w3.mm with
                | bad => rw [e5] at hc1; simp at hc1
                | exc x m => rw [e5] at hc1; simp at hc1
                | ok y m4 =>
                  rw [e5] at hc1
                  simp only at hc1
                  intro w4 v r1 r2 r3 r4
                  subst r1
                  have hD4 : w4.hp L = some (.lst av) := (r3.fx L _ hD3 (q2.hd L (hid3 ▸ List.mem_cons_self)).2).1
                  have hid4 : w4.hid = L :: w0.hid := r3.hid.trans hid3
                  have Dh4 : L ∈ w4.hid := by rw [hid4]; exact List.mem_cons_self
                  have ra4 : RelDs g w4 acc av := RelDs.mono r3 _ _ ra3
                  cases e6 : compD tf tt te vs p (ds.drop (i + 1)) w4.mm with
                  | bad => rw [e6] at hc1; simp [ResL.bindL] at hc1
                  | exc x m => rw [e6] at hc1; simp [ResL.bindL] at hc1
                  | ok zs m5 =>
                    rw [e6] at hc1
                    simp only [ResL.bindL, ResL.ok.injEq] at hc1
                    obtain ⟨hr, rfl⟩ := hc1
                    have em5 : Em w4 (w4.grow L (.lst (av ++ [v]))) := Wd.grow_em Dh4
                    refine ⟨av, hD4, ?_, w4.grow L (.lst (av ++ [v])), acc ++ [y], av ++ [v], zs, rfl, r2.grow Dh4, hid4, (em3.trans r3.em).trans em5, fun a o q n => ?_, upd_same, RelDs.mono' em5 _ _ (ra4.append (RelDs.one r4)), e6, by rw [hy1, ← hr]; simp⟩
                    · rw [ra4.length]
                      have : ys.length = acc.length + (zs.length + 1) := by rw [hy1, ← hr]; simp
                      omega
                    · obtain ⟨b1, b2⟩ := r3.fx a o (st3 a o q n).1 (st3 a o q n).2
                      exact ⟨by show upd w4.hp L _ a = some o; rw [upd_ne (ne_of_none q hD)]; exact b1, b2⟩
        · have hi : i = ds.length := by omega
          subst hi
          refine .inl ⟨hst (List.getElem?_eq_none (Nat.le_refl _)), ?_⟩
          rw [List.drop_length] at hc1
          simp only [compD, ResL.ok.injEq] at hc1
          obtain ⟨rfl, rfl⟩ := hc1
          rw [List.append_nil] at hy1
          subst hy1
          have sub : ∀ a ∈ w0.hid, a ∈ w1.hid := fun a ha => by rw [hid1]; exact List.mem_cons_of_mem _ ha
          have exE : Ex w0 (w1.show' w0.hid) := ⟨em1.ad, fun a o q n => st1 a o q n, rfl⟩
          refine h (w1.show' w0.hid) (.ref L) rfl (ok1.show' sub) (h3.trans exE) ?_
          simp only [RelD]
          exact ⟨L, av, rfl, ⟨hD1, (ok1.hd L Dh).2, h2.nohid hD⟩, RelDs.mono' (w := w1) (w' := w1.show' w0.hid) ⟨fun _ _ q => q, fun q => ⟨q.1, q.2.1, fun z => q.2.2 (sub _ z)⟩⟩ _ _ ra1⟩
      · rw [if_neg hz] at h; exact h.elim
theorem e_lc {elt tg iter : Expr} {ifs : List Expr} {scope : Scope} {own : List (Str × Nat)} {f : DnL} {tf : TgF} {tt : DnB} {te : Dn} {l : List Nat} (hc : X.calm = true) (hN : X.N.Nodup) (hi : PI X tg iter (iD g W f)) (ok : BlkOk X.N X.env.scope scope own)
    (hg : ∀ (s : Shared) (H : Hp) (C : Addr) (cl : List (Str × Addr)) (fp : List Addr), PG (X.blk s H scope (compEnvC scope cl C X.env) fp) tg (gD g tf l)) (ht : ∀ (s : Shared) (H : Hp) (C : Addr) (cl : List (Str × Addr)) (fp : List Addr), PTs (X.blk s H scope (compEnvC scope cl C X.env) fp) ifs (tDB g W0 tt))
    (he : ∀ (s : Shared) (H : Hp) (C : Addr) (cl : List (Str × Addr)) (fp : List Addr), PE (X.blk s H scope (compEnvC scope cl C X.env) fp) elt (tD g W0 te)) (hs : ∀ x, foldedSetIterable iter X.env x = pure x) (hl : ∀ i ∈ l, i ∈ own.map (·.2)) :
    PE X (.ListComp elt [⟨tg, iter, ifs, 0⟩] scope pos) (tD g W (dLc f tf tt te (own.map (·.2)))) :=
  PE.imp (pe_lc hc hN hi ok hg ht he hs) fun σ H Q h => lc_red hl h
theorem s_setLc {i : Nat} {y : Str} {py spos : Pos} {elt tg iter : Expr} {ifs : List Expr} {scope : Scope} {own : List (Str × Nat)} {f : DnL} {tf : TgF} {tt : DnB} {te : Dn} {l : List Nat} (hc : X.calm = true) (hN : X.N.Nodup) (hy : X.N[i]? = some y) (hyl : X.env.scope.names.lookup y = some .local)
    (hsw : swapsWith (.ListComp elt [⟨tg, iter, ifs, 0⟩] scope pos) (some (.Name y py)) spos.line X.env = pure true) (hi : PI X tg iter (iD g W f)) (ok : BlkOk X.N X.env.scope scope own)
    (hg : ∀ (s : Shared) (H : Hp) (C : Addr) (cl : List (Str × Addr)) (fp : List Addr), PG (X.blk s H scope (compEnvC scope cl C X.env) fp) tg (gD g tf l)) (ht : ∀ (s : Shared) (H : Hp) (C : Addr) (cl : List (Str × Addr)) (fp : List Addr), PTs (X.blk s H scope (compEnvC scope cl C X.env) fp) ifs (tDB g W0 tt))
    (he : ∀ (s : Shared) (H : Hp) (C : Addr) (cl : List (Str × Addr)) (fp : List Addr), PE (X.blk s H scope (compEnvC scope cl C X.env) fp) elt (tD g W0 te)) (hs : ∀ x, foldedSetIterable iter X.env x = pure x) (hl : ∀ i ∈ l, i ∈ own.map (·.2)) :
    PS X (.Assign [.Name y py] (.ListComp elt [⟨tg, iter, ifs, 0⟩] scope pos) spos) (tDS g W (sAsg (dLc f tf tt te (own.map (·.2))) (tgN i))) := by
  refine PS.imp (ps_setLc hc hN hy hyl hsw hi ok hg ht he hs) fun D σ H ⟨w, p, e, ok, rs, h⟩ => ?_
  refine lc_red hl ⟨w, p, e, ok, rs, (SatS.of rs h).imp fun v w1 ⟨ok1, ex1, d, r1, h1⟩ => ?_⟩
  exact h1 w1 _ rfl ok1 (Ex.refl _) ((rs.mono ex1).set r1)

/-! ### defs -/
abbrev Fn := List D → Mem → Res
def dCall (n : Nat) (f : Fn) (r : DnL) : Dn := fun p m => (r p m).bind fun ds m => if ds.length = n then f ds m else .bad
def spD (g : Cf) (n : Nat) (f : Fn) : Sp := fun vs H Q E => ∃ (w : Wd) (ds : List D), w.hp = H ∧ w.Ok g ∧ RelDs g w ds vs ∧ ds.length = n ∧ Sat g w (f ds w.mm) (fun v w' => Q v w'.hp) (fun c dd w' => E c dd w'.hp)
/-- a def's promise where nothing is being shown (repr) around -/
structure FnG (P : Program) (w : World) (K : PySem.W.Frag) (mg : Str → Option Value) (base : Heap) (k : Nat) (f : Addr) (fd : FuncData) (ps : List Str) (sp : Sp) : Prop where
  len : ∀ vs H Q E, sp vs H Q E → vs.length = ps.length
  run : ∀ (A : Around) (outer : List Env) (s : Shared) (H : Hp) (args : Args) (us : List Value) (vs : List V) (Q : VK) (E : XK), Room k A → A.guards = some [] → Env0 P w K mg base A outer s H → BindsTo s fd args (ps.zip us) → Vals vs us → sp vs H Q E →
    codeAny (model P w) A (.call (.ref f) args) (CR (L2.CX P w) outer P w H s Q E) s
theorem FnG.mono {P : Program} {w : World} {K : PySem.W.Frag} {mg : Str → Option Value} {base : Heap} {j k : Nat} {f : Addr} {fd : FuncData} {ps : List Str} {sp : Sp} (F : FnG P w K mg base j f fd ps sp) (h : j ≤ k) : FnG P w K mg base k f fd ps sp :=
  ⟨F.len, fun A outer s H args us vs Q E hr => F.run A outer s H args us vs Q E (hr.mono h)⟩
theorem run_g {k : Nat} {fa : Addr} {fd : FuncData} {ps : List Str} {sp : Sp} {pins : List (Addr × Obj)} {σ : St} {H : Hp} {s : Shared} {Q : VK} {E : XK} {args : Args} {us : List Value} {vs : List V} (F : FnG X.prog X.w X.K X.mg X.base k fa fd ps sp) (hr : Room k X.A) (hgd : X.A.guards = some [])
    (hx : PassesAt (L2.CX X.prog X.w) X σ E) (I : Inv X pins σ H s) (hb : BindsTo s fd args (ps.zip us)) (r : Vals vs us) (h : sp vs H Q E) : codeAny (model X.prog X.w) X.A (.call (.ref fa) args) (fun r s' => match r with | .ok (.ret u) => EP X pins σ Q u s' | .ok _ => False | .error e => X.xe e s') s := by
  refine codeAny_mono (F.run X.A X.stack s H args us vs Q E hr hgd I.env0 hb r h) fun r s' hq => ?_
  match r, hq with
  | .error e, hq => exact hx pins H s e s' I hq
  | .ok (.ret u), hq => exact I.after hq
  | .ok .next, hq => exact hq
  | .ok .brk, hq => exact hq
  | .ok .cont, hq => exact hq
theorem run_g1 {k : Nat} {fa : Addr} {fd : FuncData} {ps : List Str} {sp : Sp} {pins : List (Addr × Obj)} {σ : St} {H : Hp} {s : Shared} {Q : VK} {E : XK} {us : List Value} {vs : List V} (F : FnG X.prog X.w X.K X.mg X.base k fa fd ps sp) (hr : Room k X.A) (hgd : X.A.guards = some [])
    (hx : PassesAt (L2.CX X.prog X.w) X σ E) (I : Inv X pins σ H s) (hb : Binds X.K fd ps []) (r : Vals vs us) (h : sp vs H Q E) : wpAny (model X.prog X.w) X.A (call (.ref fa) us) (EP X pins σ Q) X.xe s := by
  have hl : (us ++ []).length = ps.length := by rw [List.append_nil, ← r.length]; exact F.len _ _ _ _ h
  have hb' := hb s us I.kIn hl
  rw [List.append_nil] at hb'
  refine wpAny_call (codeAny_mono (run_g F hr hgd hx I hb' r h) fun r s' hq => ?_)
  match r, hq with
  | .error e, hq => exact hq
  | .ok (.ret u), hq => exact hq
  | .ok .next, hq => exact hq.elim
  | .ok .brk, hq => exact hq.elim
  | .ok .cont, hq => exact hq.elim
theorem e_call {n k : Nat} {f : Fn} {r : DnL} {fa : Addr} {fd : FuncData} {ps : List Str} {x : Str} {p : Pos} {es : List Expr} (tk : Takes X W) (F : FnG X.prog X.w X.K X.mg X.base k fa fd ps (spD g n f)) (hr : Room k X.A) (hgd : X.A.guards = some []) (hg : Gl X x) (hm : X.mg x = some (.ref fa)) (hk : PySem.W.keepIn X.K (.ref fa) = true) (hb : Binds X.K fd ps [])
    (ha : PA X (a :: es) (tDL g W r)) (hdb : (x == ("__debug__" : Str)) = false) (he : starEach (a :: es) X.env = (false, eval a X.env) :: starEach es X.env) (hpl : (backTo pos (starEach es X.env)).any (·.1) = false) :
    PE X (.Call (.Name x p) (a :: es) [] pos) (tD g W (dCall n f r)) := by
  refine ⟨fun pins s σ H Q I ⟨w, p, e, ok, rs, h⟩ => ?_⟩
  have hA : tDL g W r σ H fun vs H1 => spD g n f vs H1 Q (WE W σ) := by
    refine ⟨w, p, e, ok, rs, (Sat.ofL h).imp fun vs w1 ⟨ok1, ex1, ds, r1, h1⟩ => ?_⟩
    by_cases hn : ds.length = n
    · rw [if_pos hn] at h1
      exact ⟨w1, ds, rfl, ok1, r1, hn, h1⟩
    · rw [if_neg hn] at h1; exact h1.elim
  refine wpAny_Call_Name_kw (ld_glob I hg hm ?_ hdb)
  exact PySem.W.callWith_K (h₀ := X.base) I.ok.mod.kin hk (thn (ha.run pos pins s σ H _ I hA) fun us s1 ⟨vs, H1, I1, rv, q⟩ => ⟨I1.kIn, run_g1 F hr hgd (passAt tk σ) I1 hb rv q⟩) he hpl
theorem e_call0 {k : Nat} {f : Fn} {fa : Addr} {fd : FuncData} {ps : List Str} {x : Str} {p : Pos} (tk : Takes X W) (F : FnG X.prog X.w X.K X.mg X.base k fa fd ps (spD g 0 f)) (hr : Room k X.A) (hgd : X.A.guards = some []) (hg : Gl X x) (hm : X.mg x = some (.ref fa)) (hk : PySem.W.keepIn X.K (.ref fa) = true) (hb : Binds X.K fd ps [])
    (hdb : (x == ("__debug__" : Str)) = false) : PE X (.Call (.Name x p) [] [] pos) (tD g W (dCall 0 f dNil)) := by
  refine ⟨fun pins s σ H Q I ⟨w, p, e, ok, rs, h⟩ => ?_⟩
  subst e
  refine wpAny_Call_Name_kw (ld_glob I hg hm ?_ hdb)
  exact PySem.W.callWith_K0 I.kIn hk (run_g1 (us := []) (vs := []) F hr hgd (passAt tk σ) I hb .nil ⟨w, [], rfl, ok, RelDs.nil, rfl, h⟩)
def fnD (k : Nat) (bd : DnS) : Fn := fun ds m => match bd (ds.map some ++ List.replicate (k - ds.length) none) m with
  | .nx _ m => .ok .non m
  | .rt d m => .ok d m
  | .exc x _ m => .exc x m
  | _ => .bad
theorem relS_start {w : Wd} {N : List Str} {ds : List D} {vs : List V} (r : RelDs g w ds vs) : RelS g w (ds.map some ++ List.replicate (N.length - ds.length) none) (L2.start N vs) := by
  have hl := r.length
  refine ⟨by simp [L2.start, hl], fun i d q => ?_⟩
  by_cases hi : i < ds.length
  · rw [List.getElem?_append_left (by simpa using hi), List.getElem?_map] at q
    obtain ⟨x, e1, e2⟩ := Option.map_eq_some_iff.mp q
    cases e2
    obtain ⟨v, h1, h2⟩ := r.get e1
    refine ⟨v, ?_, h2⟩
    unfold L2.start
    rw [List.getElem?_append_left (by simp; omega), List.getElem?_map, h1]; rfl
  · rw [List.getElem?_append_right (by simpa using hi)] at q
    have := List.mem_of_getElem? q
    simp at this
theorem Around.deeper_gd {A : Around} {env : Env} (h : A.guards = some []) : (A.deeper env).guards = some [] := h
theorem fn_ok {P : Program} {w : World} {mg : Str → Option Value} {base : Heap} {x qual : Str} {st : Stmt} {f : Addr} {fd : FuncData} {N ps : List Str} {k n : Nat} {bd : DnS} (F : Fun g.K x qual st f fd) (S : FnScope N ps (defScope st)) (hn : ps.length = n)
    (hbody : ∀ (X : Cx) (W : WX), X.prog = P → X.w = w → X.K = g.K → X.mg = mg → X.base = base → X.N = N → X.env.scope = defScope st → X.calm = true → (∀ x, X.fn x = true) → Room k X.A → X.A.guards = some [] → PassesOwn (model X.prog X.w) X.A X.env X.xe → Takes X W → PSs X (defBody st) (tDS g W bd)) :
    FnG P w g.K mg base (k + 1) f fd ps (spD g n (fnD N.length bd)) := by
  have len : ∀ vs H Q E, spD g n (fnD N.length bd) vs H Q E → vs.length = ps.length := fun vs H Q E ⟨w, ds, e, ok, r, hl, _⟩ => by rw [r.length, hl, hn]
  obtain ⟨oc, od, kV, doc, pm, an, cdv, ct, osl, rfl, lk, hcd⟩ := F.ex
  refine ⟨len, fun A outer s H args us vs Q E hr hgd e0 hb r hsp => ?_⟩
  have hl := len _ _ _ _ hsp
  have stays : ∀ b o, base.get? b = some o → s.heap.get? b = some o := fun b o e => (e0.bs b o e).1
  have KX : g.K.In s.heap := e0.mod.kin.keeps stays
  refine codeAny_call_function hr.depth (KX _ _ lk) rfl S.co S.gen rfl (PySem.W.codeRec_of KX hcd) (hb _ _ _ _ ?_)
  refine wpAny_newFunctionEnv_cells S.kind (fun y hy => ?_) fun env he s1 x => ?_
  · rcases S.par y.1 (List.of_mem_zip hy).1 with q | q
    · exact .inl q
    · exact .inr ⟨q, PySem.W.cellsFrom_some _ _ _ (.inl q)⟩
  subst he
  refine ⟨(e0.mod.nolimit.keeps stays).keeps x.toInCall.keep, codeAny_func ?_⟩
  obtain ⟨w1, ds, e, ok, rd, hl1, h⟩ := hsp
  have ht := hbody (cxOf (L2.CX P w) P w g.K mg base N qual (defScope st) f cdv A outer s H E) (fun c dd _ H => E c dd H) rfl rfl rfl rfl rfl rfl rfl rfl (fun _ => rfl) (hr.deeper _) (Around.deeper_gd hgd) (passes_of rfl) (takes_of rfl rfl rfl rfl)
  have hq : tDS g (fun c dd _ H => E c dd H) bd { nx := fun _ H' => Q .non H', rt := Q } (L2.start N vs) H := by
    refine ⟨w1, _, e, ok, relS_start rd, ?_⟩
    unfold fnD at h
    cases e1 : bd (ds.map some ++ List.replicate (N.length - ds.length) none) w1.mm with
    | nx p m => rw [e1] at h; exact fun w' σ' q1 q2 q3 _ => h w' .non q1 q2 q3 (by simp only [RelD])
    | rt d m => rw [e1] at h; exact h
    | exc x p m => rw [e1] at h; exact fun w' σ' c dd q1 q2 q3 _ q5 => h w' c dd q1 q2 q3 q5
    | bk p m => rw [e1] at h; exact h.elim
    | ct p m => rw [e1] at h; exact h.elim
    | bad => rw [e1] at h; exact h.elim
  have I := inv_start (CX := L2.CX P w) (E := E) S hr.hd e0 hl r x
  refine wpAny_mono (ht.run [] s1 (L2.start N vs) H _ I hq) (fun fl s' hs => ?_) fun e s' hs => hs
  match fl, hs with
  | .ret u, ⟨v, σ', H', J, rv, q⟩ => exact ⟨v, H', J.os, J.bare, J.base, J.hok, rv, q⟩
  | .next, ⟨σ', H', J, q⟩ => exact ⟨.non, H', J.os, J.bare, J.base, J.hok, rfl, q⟩
  | .brk, ⟨_, _, _, q⟩ => exact q.elim
  | .cont, ⟨_, _, _, q⟩ => exact q.elim
end
end Rf

namespace Rf
open PySem L2

/-! ### data -/
mutual
def dat0 : D → Option PyData
  | .non => some .none
  | .bl b => some (.bool b)
  | .int i => some (.int i)
  | .str x => some (.str x)
  | .tup ds => (dat0s ds).map .tuple
  | .lst ds => (dat0s ds).map .list
  | _ => none
def dat0s : List D → Option (List PyData)
  | [] => some []
  | d :: ds => match dat0 d, dat0s ds with
    | some x, some xs => some (x :: xs)
    | _, _ => none
end
mutual
def datD (m : Mem) : D → Option PyData
  | .non => some .none
  | .bl b => some (.bool b)
  | .int i => some (.int i)
  | .str x => some (.str x)
  | .tup ds => (datDs m ds).map .tuple
  | .lst ds => (datDs m ds).map .list
  | .dct [] _ => some (.dict [])
  | .ref n => match m[n]? with
    | some (some (.lst ds)) => (dat0s ds).map .list
    | _ => none
  | _ => none
def datDs (m : Mem) : List D → Option (List PyData)
  | [] => some []
  | d :: ds => match datD m d, datDs m ds with
    | some x, some xs => some (x :: xs)
    | _, _ => none
end
section
variable {X : Cx} {g : Cf} {pins : List (Addr × Obj)} {σ : St} {w : Wd} {s : Shared}
theorem reads_list {a : Addr} {its : List Value} {n : Nat} {ds : List PyData} {as : List Addr} (e : s.heap.get? a = some { cls := .type "list", data := .seq its.toArray n }) (r : ReadsAll s.heap its ds as) : Reads s.heap (.ref a) (.list ds) (a :: as) :=
  .list e rfl rfl (by simpa using r)
theorem sysNo (hsm : ∃ o, X.base.get? sysModules = some o) (I : Inv X pins σ w.hp s) {a : Addr} {o : HO} (h : w.hp a = some o) : a ≠ sysModules := fun z => by
  obtain ⟨ob, e⟩ := hsm
  have := (I.bs _ _ e).2
  rw [← z, h] at this; cases this
mutual
theorem dat0_nodict : ∀ (d : D) (x : PyData), dat0 d = some x → x.hasDict = false
  | .non, x, e => by simp only [dat0, Option.some.injEq] at e; subst e; simp [PyData.hasDict]
  | .bl _, x, e => by simp only [dat0, Option.some.injEq] at e; subst e; simp [PyData.hasDict]
  | .int _, x, e => by simp only [dat0, Option.some.injEq] at e; subst e; simp [PyData.hasDict]
  | .str _, x, e => by simp only [dat0, Option.some.injEq] at e; subst e; simp [PyData.hasDict]
  | .tup ds, x, e => by
    simp only [dat0] at e
    obtain ⟨xs, e1, rfl⟩ := Option.map_eq_some_iff.mp e
    simp [PyData.hasDict, dat0s_nodict ds xs e1]
  | .lst ds, x, e => by
    simp only [dat0] at e
    obtain ⟨xs, e1, rfl⟩ := Option.map_eq_some_iff.mp e
    simp [PyData.hasDict, dat0s_nodict ds xs e1]
  | .scr _, _, e => by simp [dat0] at e
  | .dct _ _, _, e => by simp [dat0] at e
  | .obj _ _ _, _, e => by simp [dat0] at e
  | .ref _, _, e => by simp [dat0] at e
  | .ty _, _, e => by simp [dat0] at e
theorem dat0s_nodict : ∀ (ds : List D) (xs : List PyData), dat0s ds = some xs → PyData.hasDictAll xs = false
  | [], xs, e => by simp only [dat0s, Option.some.injEq] at e; subst e; simp [PyData.hasDictAll]
  | d :: ds, xs, e => by
    simp only [dat0s] at e
    split at e
    · rename_i x xs' e1 e2
      cases e
      simp [PyData.hasDictAll, dat0_nodict d x e1, dat0s_nodict ds xs' e2]
    · cases e
end
mutual
theorem reads0 (gK : g.K = X.K) (hsm : ∃ o, X.base.get? sysModules = some o) (I : Inv X pins σ w.hp s) : ∀ (d : D) (v : V) (u : Value) (x : PyData), RelD g w d v → dat0 d = some x → RelV v u → ∃ as, Reads s.heap u x as ∧ sysModules ∉ as
  | .non, v, u, x, r, e, ru => by simp only [RelD] at r; simp only [dat0, Option.some.injEq] at e; subst r e; cases ru; exact ⟨_, .none, by simp⟩
  | .bl b, v, u, x, r, e, ru => by simp only [RelD] at r; simp only [dat0, Option.some.injEq] at e; subst r e; cases ru; exact ⟨_, .bool b, by simp⟩
  | .int i, v, u, x, r, e, ru => by simp only [RelD] at r; simp only [dat0, Option.some.injEq] at e; subst r e; obtain ⟨t, rfl⟩ := ru; exact ⟨_, .int i t, by simp⟩
  | .str i, v, u, x, r, e, ru => by simp only [RelD] at r; simp only [dat0, Option.some.injEq] at e; subst r e; obtain ⟨t, rfl⟩ := ru; exact ⟨_, .str i t, by simp⟩
  | .tup ds, v, u, x, r, e, ru => by
    simp only [RelD] at r
    obtain ⟨a, vs, rfl, t, rr⟩ := r
    simp only [dat0] at e
    obtain ⟨xs, e1, rfl⟩ := Option.map_eq_some_iff.mp e
    cases ru
    obtain ⟨its, rv, ⟨o, ho, hc, n, hd⟩, _⟩ := I.tuple (gK ▸ t.sq)
    obtain ⟨as, ra, hs⟩ := reads0s' gK hsm I ds vs its xs rr e1 rv
    exact ⟨as, .tuple ho hc hd (by simpa using ra), hs⟩
  | .lst ds, v, u, x, r, e, ru => by
    simp only [RelD] at r
    obtain ⟨a, vs, rfl, t, rr⟩ := r
    simp only [dat0] at e
    obtain ⟨xs, e1, rfl⟩ := Option.map_eq_some_iff.mp e
    cases ru
    obtain ⟨_, its, n, rv, ho⟩ := I.hok a _ t.1
    obtain ⟨as, ra, hs⟩ := reads0s' gK hsm I ds vs its xs rr e1 rv
    refine ⟨_, reads_list ho ra, fun hm => ?_⟩
    rcases List.mem_cons.mp hm with q | q
    · exact sysNo hsm I t.1 q.symm
    · exact hs q
  | .dct _ _, _, _, _, _, e, _ => by simp [dat0] at e
  | .obj _ _ _, _, _, _, _, e, _ => by simp [dat0] at e
  | .scr _, _, _, _, _, e, _ => by simp [dat0] at e
  | .ref _, _, _, _, _, e, _ => by simp [dat0] at e
  | .ty _, _, _, _, _, e, _ => by simp [dat0] at e
theorem reads0s' (gK : g.K = X.K) (hsm : ∃ o, X.base.get? sysModules = some o) (I : Inv X pins σ w.hp s) : ∀ (ds : List D) (vs : List V) (us : List Value) (xs : List PyData), RelDs g w ds vs → dat0s ds = some xs → Vals vs us → ∃ as, ReadsAll s.heap us xs as ∧ sysModules ∉ as
  | [], vs, us, xs, r, e, ru => by simp only [RelDs] at r; simp only [dat0s, Option.some.injEq] at e; subst r e; cases ru; exact ⟨_, .nil, by simp⟩
  | d :: ds, vs, us, xs, r, e, ru => by
    simp only [RelDs] at r
    obtain ⟨v, vr, rfl, r1, r2⟩ := r
    simp only [dat0s] at e
    split at e
    · rename_i x xs' e1 e2
      cases e
      cases ru with
      | cons q1 q2 =>
        obtain ⟨as, a1, a2⟩ := reads0 gK hsm I d v _ x r1 e1 q1
        obtain ⟨bs, b1, b2⟩ := reads0s' gK hsm I ds vr _ xs' r2 e2 q2
        refine ⟨_, .cons a1 b1, fun hm => ?_⟩
        rcases List.mem_append.mp hm with q | q
        · exact a2 q
        · exact b2 q
    · cases e
end
mutual
theorem readsD (gK : g.K = X.K) (hsm : ∃ o, X.base.get? sysModules = some o) (ok : w.Ok g) (I : Inv X pins σ w.hp s) : ∀ (d : D) (v : V) (u : Value) (x : PyData), RelD g w d v → datD w.mm d = some x → RelV v u → ∃ as, Reads s.heap u x as ∧ sysModules ∉ as
  | .non, v, u, x, r, e, ru => by simp only [RelD] at r; simp only [datD, Option.some.injEq] at e; subst r e; cases ru; exact ⟨_, .none, by simp⟩
  | .bl b, v, u, x, r, e, ru => by simp only [RelD] at r; simp only [datD, Option.some.injEq] at e; subst r e; cases ru; exact ⟨_, .bool b, by simp⟩
  | .int i, v, u, x, r, e, ru => by simp only [RelD] at r; simp only [datD, Option.some.injEq] at e; subst r e; obtain ⟨t, rfl⟩ := ru; exact ⟨_, .int i t, by simp⟩
  | .str i, v, u, x, r, e, ru => by simp only [RelD] at r; simp only [datD, Option.some.injEq] at e; subst r e; obtain ⟨t, rfl⟩ := ru; exact ⟨_, .str i t, by simp⟩
  | .tup ds, v, u, x, r, e, ru => by
    simp only [RelD] at r
    obtain ⟨a, vs, rfl, t, rr⟩ := r
    simp only [datD] at e
    obtain ⟨xs, e1, rfl⟩ := Option.map_eq_some_iff.mp e
    cases ru
    obtain ⟨its, rv, ⟨o, ho, hc, n, hd⟩, _⟩ := I.tuple (gK ▸ t.sq)
    obtain ⟨as, ra, hs⟩ := readsDs gK hsm ok I ds vs its xs rr e1 rv
    exact ⟨as, .tuple ho hc hd (by simpa using ra), hs⟩
  | .lst ds, v, u, x, r, e, ru => by
    simp only [RelD] at r
    obtain ⟨a, vs, rfl, t, rr⟩ := r
    simp only [datD] at e
    obtain ⟨xs, e1, rfl⟩ := Option.map_eq_some_iff.mp e
    cases ru
    obtain ⟨_, its, n, rv, ho⟩ := I.hok a _ t.1
    obtain ⟨as, ra, hs⟩ := readsDs gK hsm ok I ds vs its xs rr e1 rv
    refine ⟨_, reads_list ho ra, fun hm => ?_⟩
    rcases List.mem_cons.mp hm with q | q
    · exact sysNo hsm I t.1 q.symm
    · exact hs q
  | .dct [] ds, v, u, x, r, e, ru => by
    simp only [RelD] at r
    obtain ⟨a, vs, rfl, t, hl, rr⟩ := r
    simp only [datD, Option.some.injEq] at e
    subst e
    cases ru
    obtain ⟨hz, hS, kvs, rk, o, es, ep, h1, h2, h3, h4, h5, _⟩ : ObjOk X.prog X.w w.hp s.heap a (.dK (([] : List Key).zip vs)) := I.hok a _ t.1
    rw [List.zip_nil_left] at rk
    cases rk
    have he : es.toList = [] := by
      generalize es.toList = l at h5
      cases h5
      rfl
    refine ⟨_, .dict (kvs := []) h1 h2.1 h3 (by rw [he]; exact .nil) (by rw [he]; exact .nil), fun hm => ?_⟩
    simp at hm
    rw [← hm] at hS
    simp at hS
  | .dct (_ :: _) _, _, _, _, _, e, _ => by simp [datD] at e
  | .obj _ _ _, _, _, _, _, e, _ => by simp [datD] at e
  | .scr _, _, _, _, _, e, _ => by simp [datD] at e
  | .ref n, v, u, x, r, e, ru => by
    simp only [RelD] at r
    obtain ⟨a, rfl, ha⟩ := r
    simp only [datD] at e
    split at e
    · rename_i ds e1
      obtain ⟨xs, e2, rfl⟩ := Option.map_eq_some_iff.mp e
      obtain ⟨vs, h1, h2⟩ := ok.obj n _ a e1 ha
      cases ru
      obtain ⟨z, its, k, rv, ho⟩ := I.hok a _ h1
      obtain ⟨as2, ra2, hs2⟩ := reads0s' gK hsm I ds vs its xs h2 e2 rv
      refine ⟨_, reads_list ho ra2, fun hm => ?_⟩
      rcases List.mem_cons.mp hm with q | q
      · exact sysNo hsm I h1 q.symm
      · exact hs2 q
    · cases e
  | .ty _, _, _, _, _, e, _ => by simp [datD] at e
theorem readsDs (gK : g.K = X.K) (hsm : ∃ o, X.base.get? sysModules = some o) (ok : w.Ok g) (I : Inv X pins σ w.hp s) : ∀ (ds : List D) (vs : List V) (us : List Value) (xs : List PyData), RelDs g w ds vs → datDs w.mm ds = some xs → Vals vs us → ∃ as, ReadsAll s.heap us xs as ∧ sysModules ∉ as
  | [], vs, us, xs, r, e, ru => by simp only [RelDs] at r; simp only [datDs, Option.some.injEq] at e; subst r e; cases ru; exact ⟨_, .nil, by simp⟩
  | d :: ds, vs, us, xs, r, e, ru => by
    simp only [RelDs] at r
    obtain ⟨v, vr, rfl, r1, r2⟩ := r
    simp only [datDs] at e
    split at e
    · rename_i x xs' e1 e2
      cases e
      cases ru with
      | cons q1 q2 =>
        obtain ⟨as, a1, a2⟩ := readsD gK hsm ok I d v _ x r1 e1 q1
        obtain ⟨bs, b1, b2⟩ := readsDs gK hsm ok I ds vr _ xs' r2 e2 q2
        refine ⟨_, .cons a1 b1, fun hm => ?_⟩
        rcases List.mem_append.mp hm with q | q
        · exact a2 q
        · exact b2 q
    · cases e
end
end
end Rf

namespace Rf
open PySem L2

/-- what a context grants -/
structure Gd (X : Cx) (g : Cf) (k : Nat) : Prop where
  gK : g.K = X.K
  calm : X.calm = true
  room : Room k X.A
  gd : X.A.guards = some []
  sm : ∃ o, X.base.get? sysModules = some o
  nd : X.N.Nodup
theorem Gd.blk {X : Cx} {g : Cf} {k : Nat} (G : Gd X g k) (s : Shared) (H : Hp) (scope : Scope) (cenv : Env) (fp : List Addr) : Gd (X.blk s H scope cenv fp) g k := ⟨G.gK, G.calm, G.room, G.gd, G.sm, G.nd⟩

section
variable {X : Cx} {g : Cf} {k : Nat}

theorem rel_bl {w : Wd} {b : Bool} : RelD g w (.bl b) (.bl b) := by simp only [RelD]
theorem rel_int {w : Wd} {b : Int} : RelD g w (.int b) (.int b) := by simp only [RelD]
theorem rel_str {w : Wd} {b : Str} : RelD g w (.str b) (.str b) := by simp only [RelD]
theorem rel_non {w : Wd} : RelD g w .non .non := by simp only [RelD]
/-! ### sums -/
def addD : P2
  | .int i, .int j, m => some (.int (i + j), m)
  | .str x, .str y, m => if x.length + y.length ≤ sizeLine then some (.str (x ++ y), m) else none
  | .tup x, .tup y, m => if x.length + y.length ≤ sizeLine then some (.tup (x ++ y), m) else none
  | .lst x, .lst y, m => if x.length + y.length ≤ sizeLine then some (.lst (x ++ y), m) else none
  | _, _, _ => none
/-- two fixed lists put together -/
def rCatF (g : Cf) : R2 := fun x y H Q => ∃ a b xs ys, x = .ref a ∧ y = .ref b ∧ H a = some (.lst xs) ∧ H b = some (.lst ys) ∧ xs.length + ys.length ≤ sizeLine ∧ ∀ p, H p = none → Q (.ref p) (upd H p (.lst (xs ++ ys)))
theorem o_add (gK : g.K = X.K) : OpR X (binaryOp .Add) (rOp g addD) := by
  refine OpR.imp (op_add.or (op_add_str.or (op_cat.or op_catA))) fun x y H Q ⟨w, d1, d2, e, ok, r1, r2, s⟩ => ?_
  subst e
  cases d1 <;> cases d2 <;> simp only [addD] at s <;> first | exact s.elim | skip
  · simp only [RelD] at r1 r2
    exact .inl ⟨_, _, r1, r2, s w _ rfl ok (Ex.refl _) (by simp only [RelD])⟩
  · simp only [RelD] at r1 r2
    split at s
    · rename_i hz
      exact .inr (.inl ⟨_, _, r1, r2, hz, s w _ rfl ok (Ex.refl _) (by simp only [RelD])⟩)
    · exact s.elim
  · rename_i xs ys
    simp only [RelD] at r1 r2
    obtain ⟨a, vs, rfl, t1, q1⟩ := r1
    obtain ⟨b, us, rfl, t2, q2⟩ := r2
    split at s
    · rename_i hz
      refine .inr (.inr (.inr ⟨a, b, vs, us, rfl, rfl, gK ▸ t1.sq, gK ▸ t2.sq, by rw [q1.length, q2.length]; exact hz, fun h0 => ?_, fun h0 h1 => ?_, fun h0 h1 p hp => ?_⟩))
      · have : xs = [] := List.eq_nil_of_length_eq_zero (by rw [← q1.length, h0]; rfl)
        subst this
        exact s w _ rfl ok (Ex.refl _) (by simp only [RelD]; exact ⟨b, us, rfl, t2, q2⟩)
      · have : ys = [] := List.eq_nil_of_length_eq_zero (by rw [← q2.length, h1]; rfl)
        subst this
        exact s w _ rfl ok (Ex.refl _) (by simp only [RelD, List.append_nil]; exact ⟨a, vs, rfl, t1, q1⟩)
      · exact s (w.lay p (.tup (vs ++ us))) _ rfl (ok.lay hp) (ok.lay_ex hp) (by simp only [RelD]; exact ⟨p, _, rfl, .inl (.inl (ok.lay_fx hp)), RelDs.mono (ok.lay_ex hp) _ _ (q1.append q2)⟩)
    · exact s.elim
  · simp only [RelD] at r1 r2
    obtain ⟨a, vs, rfl, t1, q1⟩ := r1
    obtain ⟨b, us, rfl, t2, q2⟩ := r2
    split at s
    · rename_i hz
      refine .inr (.inr (.inl ⟨a, b, vs, us, rfl, rfl, t1.1, t2.1, by rw [q1.length, q2.length]; exact hz, fun p hp => ?_⟩))
      exact s (w.lay p (.lst (vs ++ us))) _ rfl (ok.lay hp) (ok.lay_ex hp) (by simp only [RelD]; exact ⟨p, _, rfl, ok.lay_fx hp, RelDs.mono (ok.lay_ex hp) _ _ (q1.append q2)⟩)
    · exact s.elim

/-! ### ints -/
def iiD (C : Int → Int → Bool) (f : Int → Int → Int) : P2
  | .int i, .int j, m => if C i j then some (.int (f i j), m) else none
  | _, _, _ => none
theorem o_ii {op : Value → Value → Sem Value} {C : Int → Int → Prop} {Cb : Int → Int → Bool} {f : Int → Int → Int} (h : OpR X op (rI C fun i j => .int (f i j))) (hC : ∀ i j, Cb i j = true → C i j) : OpR X op (rOp g (iiD Cb f)) := by
  refine OpR.imp h fun x y H Q ⟨w, d1, d2, e, ok, r1, r2, s⟩ => ?_
  subst e
  cases d1 <;> cases d2 <;> simp only [iiD] at s <;> first | exact s.elim | skip
  simp only [RelD] at r1 r2
  split at s
  · rename_i hc
    exact ⟨_, _, r1, r2, hC _ _ hc, s w _ rfl ok (Ex.refl _) (by simp only [RelD])⟩
  · exact s.elim
def subD : P2
  | .int i, .int j, m => some (.int (i - j), m)
  | _, _, _ => none
theorem o_sub : OpR X (binaryOp .Sub) (rOp g subD) := by
  refine OpR.imp op_sub fun x y H Q ⟨w, d1, d2, e, ok, r1, r2, s⟩ => ?_
  subst e
  cases d1 <;> cases d2 <;> simp only [subD] at s <;> first | exact s.elim | skip
  simp only [RelD] at r1 r2
  exact ⟨_, _, r1, r2, s w _ rfl ok (Ex.refl _) (by simp only [RelD])⟩
def cMul (i j : Int) : Bool := decide (-(2 ^ 64) < i ∧ i < 2 ^ 64) || decide (-(2 ^ 64) < j ∧ j < 2 ^ 64)
def cDiv (i j : Int) : Bool := decide (0 < j ∧ j < 1073741824)
def cMod (i j : Int) : Bool := decide (0 < j)
def cPow (i j : Int) : Bool := decide (0 ≤ j ∧ (Builtin.Int.intBits i : Int) * j ≤ 2 ^ 27)
theorem op_powW : OpR X (binaryOp .Pow) (rI (fun i j => 0 ≤ j ∧ (Builtin.Int.intBits i : Int) * j ≤ 2 ^ 27) fun i j => .int (i ^ j.toNat)) := opI fun _ _ _ _ _ _ _ hc q => PyProof.Rows.pow_int hc.1 hc.2 q
def fdivD : P2 := iiD cDiv fun i j => i / j
def modD : P2 := iiD cMod fun i j => i % j
def powD : P2 := iiD cPow fun i j => i ^ j.toNat
theorem o_fdiv : OpR X (binaryOp .FloorDiv) (rOp g fdivD) := o_ii op_fdiv fun i j h => show 0 < j ∧ j < 1073741824 from of_decide_eq_true h
theorem o_mod : OpR X (binaryOp .Mod) (rOp g modD) := o_ii op_mod fun _ _ h => of_decide_eq_true h
theorem o_pow : OpR X (binaryOp .Pow) (rOp g powD) := o_ii op_powW fun _ _ h => of_decide_eq_true h
def bitD (f : Int → Int → Int) : P2
  | .int i, .int j, m => some (.int (f i j), m)
  | _, _, _ => none
theorem o_bit {op : Value → Value → Sem Value} {f : Int → Int → Int} (h : OpR X op (rI0 fun i j => .int (f i j))) : OpR X op (rOp g (bitD f)) := by
  refine OpR.imp h fun x y H Q ⟨w, d1, d2, e, ok, r1, r2, s⟩ => ?_
  subst e
  cases d1 <;> cases d2 <;> simp only [bitD] at s <;> first | exact s.elim | skip
  simp only [RelD] at r1 r2
  exact ⟨_, _, r1, r2, s w _ rfl ok (Ex.refl _) (by simp only [RelD])⟩
theorem o_or : OpR X (binaryOp .BitOr) (rOp g (bitD Builtin.bitOr)) := o_bit op_or
theorem o_and : OpR X (binaryOp .BitAnd) (rOp g (bitD Builtin.bitAnd)) := o_bit op_and
def negD : P1
  | .int i, m => some (.int (-i), m)
  | _, _ => none
theorem u_neg : UnR X (unaryOp .USub) (rUn g negD) := by
  refine UnR.imp un_neg fun x H Q ⟨w, d1, e, ok, r1, s⟩ => ?_
  subst e
  cases d1 <;> simp only [negD] at s <;> first | exact s.elim | skip
  simp only [RelD] at r1
  exact ⟨_, r1, s w _ rfl ok (Ex.refl _) (by simp only [RelD])⟩
/-- products: ints; a list or a tuple, so many times -/
def mulD : P2
  | .int i, .int j, m => if cMul i j then some (.int (i * j), m) else none
  | .lst xs, .int j, m => if -(2 ^ 63) ≤ j ∧ j < 2 ^ 63 ∧ xs.length * j.toNat ≤ sizeLine then some (.lst (List.replicate j.toNat xs).flatten, m) else none
  | .tup xs, .int j, m => if xs ≠ [] ∧ 2 ≤ j ∧ j ≤ 1000 ∧ xs.length ≤ 1000 then some (.tup (List.replicate j.toNat xs).flatten, m) else none
  | _, _, _ => none
theorem RelDs.rep {w : Wd} {ds : List D} {vs : List V} (r : RelDs g w ds vs) : ∀ n, RelDs g w (List.replicate n ds).flatten (List.replicate n vs).flatten
  | 0 => RelDs.nil
  | n + 1 => by
    rw [List.replicate_succ, List.replicate_succ, List.flatten_cons, List.flatten_cons]
    exact r.append (RelDs.rep r n)
theorem o_mul (gK : g.K = X.K) : OpR X (binaryOp .Mult) (rOp g mulD) := by
  refine OpR.imp (op_mul.or (op_rep.or op_repT)) fun x y H Q ⟨w, d1, d2, e, ok, r1, r2, s⟩ => ?_
  subst e
  cases d1 <;> cases d2 <;> simp only [mulD] at s <;> first | exact s.elim | skip
  · simp only [RelD] at r1 r2
    split at s
    · rename_i hc
      refine .inl ⟨_, _, r1, r2, ?_, s w _ rfl ok (Ex.refl _) (by simp only [RelD])⟩
      rcases Bool.or_eq_true_iff.mp hc with q | q
      · exact .inl (of_decide_eq_true q)
      · exact .inr (of_decide_eq_true q)
    · exact s.elim
  · rename_i xs j
    simp only [RelD] at r1 r2
    obtain ⟨a, vs, rfl, t1, q1⟩ := r1
    split at s
    · rename_i hc
      refine .inr (.inr ⟨a, j, vs, rfl, r2, gK ▸ t1.sq, fun z => hc.1 ?_, hc.2.1, hc.2.2.1, by rw [q1.length]; exact hc.2.2.2, fun p hp => ?_⟩)
      · exact List.eq_nil_of_length_eq_zero (by rw [← q1.length, z]; rfl)
      · exact s (w.lay p (.tup (List.replicate j.toNat vs).flatten)) _ rfl (ok.lay hp) (ok.lay_ex hp) (by simp only [RelD]; exact ⟨p, _, rfl, .inl (.inl (ok.lay_fx hp)), RelDs.mono (ok.lay_ex hp) _ _ (q1.rep _)⟩)
    · exact s.elim
  · rename_i xs j
    simp only [RelD] at r1 r2
    obtain ⟨a, vs, rfl, t1, q1⟩ := r1
    split at s
    · rename_i hc
      refine .inr (.inl ⟨a, j, vs, rfl, r2, t1.1, hc.1, hc.2.1, by rw [q1.length]; exact hc.2.2, fun p hp => ?_⟩)
      exact s (w.lay p (.lst (List.replicate j.toNat vs).flatten)) _ rfl (ok.lay hp) (ok.lay_ex hp) (by simp only [RelD]; exact ⟨p, _, rfl, ok.lay_fx hp, RelDs.mono (ok.lay_ex hp) _ _ (q1.rep _)⟩)
    · exact s.elim

/-! ### comparisons -/
def eqB : D → D → Mem → Option Bool
  | .int i, .int j, _ => some (decide (i = j))
  | .str x, .str y, _ => some (decide (x = y))
  | d1, d2, m => match datD m d1, datD m d2 with
    | some a, some b => if SeqAt.shaped a && SeqAt.shaped b then some (PyData.eqv a b) else none
    | _, _ => none
def eqD : P2 := fun d1 d2 m => (eqB d1 d2 m).map fun b => (.bl b, m)
def neD : P2 := fun d1 d2 m => (eqB d1 d2 m).map fun b => (.bl (!b), m)
/-- data compared -/
theorem o_eqData (G : Gd X g k) : OpR X (compareOp .Eq) (fun x y H Q => ∃ (w : Wd) (d1 d2 : D) (a b : PyData), w.hp = H ∧ w.Ok g ∧ RelD g w d1 x ∧ RelD g w d2 y ∧ datD w.mm d1 = some a ∧ datD w.mm d2 = some b ∧ SeqAt.shaped a = true ∧ SeqAt.shaped b = true ∧ Q (.bl (PyData.eqv a b)) H) := by
  intro pins s σ H x y v u Q I rx ry ⟨w, d1, d2, a, b, e, ok, r1, r2, e1, e2, s1, s2, q⟩
  subst e
  obtain ⟨as, a1, _⟩ := readsD G.gK G.sm ok I d1 x v a r1 e1 rx
  obtain ⟨bs, b1, _⟩ := readsD G.gK G.sm ok I d2 y u b r2 e2 ry
  exact SeqAt.compareEq_shaped a1 b1 s1 s2 G.room.units ⟨.bl _, _, I, rfl, q⟩
theorem o_neData (G : Gd X g k) : OpR X (compareOp .NotEq) (fun x y H Q => ∃ (w : Wd) (d1 d2 : D) (a b : PyData), w.hp = H ∧ w.Ok g ∧ RelD g w d1 x ∧ RelD g w d2 y ∧ datD w.mm d1 = some a ∧ datD w.mm d2 = some b ∧ SeqAt.shaped a = true ∧ SeqAt.shaped b = true ∧ Q (.bl (!PyData.eqv a b)) H) := by
  intro pins s σ H x y v u Q I rx ry ⟨w, d1, d2, a, b, e, ok, r1, r2, e1, e2, s1, s2, q⟩
  subst e
  obtain ⟨as, a1, _⟩ := readsD G.gK G.sm ok I d1 x v a r1 e1 rx
  obtain ⟨bs, b1, _⟩ := readsD G.gK G.sm ok I d2 y u b r2 e2 ry
  exact SeqAt.compareNe_shaped a1 b1 s1 s2 G.room.units ⟨.bl _, _, I, rfl, q⟩
theorem eqB_cases {d1 d2 : D} {m : Mem} {b : Bool} (h : eqB d1 d2 m = some b) : (∃ i j, d1 = .int i ∧ d2 = .int j ∧ b = decide (i = j)) ∨ (∃ i j, d1 = .str i ∧ d2 = .str j ∧ b = decide (i = j)) ∨
    ∃ x y, datD m d1 = some x ∧ datD m d2 = some y ∧ SeqAt.shaped x = true ∧ SeqAt.shaped y = true ∧ b = PyData.eqv x y := by
  unfold eqB at h
  split at h
  · exact .inl ⟨_, _, rfl, rfl, (Option.some.inj h).symm⟩
  · exact .inr (.inl ⟨_, _, rfl, rfl, (Option.some.inj h).symm⟩)
  · split at h
    · rename_i x y e1 e2
      split at h
      · rename_i hs
        obtain ⟨h1, h2⟩ := Bool.and_eq_true_iff.mp hs
        exact .inr (.inr ⟨x, y, e1, e2, h1, h2, (Option.some.inj h).symm⟩)
      · cases h
    · cases h
theorem o_eq (G : Gd X g k) : OpR X (compareOp .Eq) (rOp g eqD) := by
  refine OpR.imp (op_eq.or (o_eqData G)) fun x y H Q ⟨w, d1, d2, e, ok, r1, r2, s⟩ => ?_
  subst e
  unfold eqD at s
  cases e1 : eqB d1 d2 w.mm with
  | none => rw [e1] at s; exact s.elim
  | some b =>
    rw [e1] at s
    have q := s w _ rfl ok (Ex.refl _) rel_bl
    rcases eqB_cases e1 with ⟨i, j, rfl, rfl, rfl⟩ | ⟨i, j, rfl, rfl, rfl⟩ | ⟨a, c, h1, h2, h3, h4, rfl⟩
    · simp only [RelD] at r1 r2
      subst r1 r2
      exact .inl ⟨rfl, by simpa using q⟩
    · simp only [RelD] at r1 r2
      subst r1 r2
      exact .inl ⟨rfl, by simpa using q⟩
    · exact .inr ⟨w, d1, d2, a, c, rfl, ok, r1, r2, h1, h2, h3, h4, q⟩
theorem o_ne (G : Gd X g k) : OpR X (compareOp .NotEq) (rOp g neD) := by
  refine OpR.imp (op_ne.or (o_neData G)) fun x y H Q ⟨w, d1, d2, e, ok, r1, r2, s⟩ => ?_
  subst e
  unfold neD at s
  cases e1 : eqB d1 d2 w.mm with
  | none => rw [e1] at s; exact s.elim
  | some b =>
    rw [e1] at s
    have q := s w _ rfl ok (Ex.refl _) rel_bl
    rcases eqB_cases e1 with ⟨i, j, rfl, rfl, rfl⟩ | ⟨i, j, rfl, rfl, rfl⟩ | ⟨a, c, h1, h2, h3, h4, rfl⟩
    · simp only [RelD] at r1 r2
      subst r1 r2
      exact .inl ⟨rfl, by simpa using q⟩
    · simp only [RelD] at r1 r2
      subst r1 r2
      exact .inl ⟨rfl, by simpa using q⟩
    · exact .inr ⟨w, d1, d2, a, c, rfl, ok, r1, r2, h1, h2, h3, h4, q⟩
/-- order: ints, texts -/
def ordD (f : Int → Int → Bool) (h : List Nat → List Nat → Bool) : P2
  | .int i, .int j, m => some (.bl (f i j), m)
  | .str x, .str y, m => some (.bl (h x.cps.toList y.cps.toList), m)
  | _, _, _ => none
theorem o_ord {op : Value → Value → Sem Value} {f : Int → Int → Bool} {h : List Nat → List Nat → Bool} (h1 : OpR X op (rI0 fun i j => .bl (f i j))) (h2 : OpR X op (fun x y H Q => ∃ i j, x = .str i ∧ y = .str j ∧ Q (.bl (h i.cps.toList j.cps.toList)) H)) : OpR X op (rOp g (ordD f h)) := by
  refine OpR.imp (h1.or h2) fun x y H Q ⟨w, d1, d2, e, ok, r1, r2, s⟩ => ?_
  subst e
  cases d1 <;> cases d2 <;> simp only [ordD] at s <;> first | exact s.elim | skip
  · simp only [RelD] at r1 r2
    exact .inl ⟨_, _, r1, r2, s w _ rfl ok (Ex.refl _) (by simp only [RelD])⟩
  · simp only [RelD] at r1 r2
    exact .inr ⟨_, _, r1, r2, s w _ rfl ok (Ex.refl _) (by simp only [RelD])⟩
def ltD : P2 := ordD (fun i j => decide (i < j)) fun a b => decide (a < b)
def leD : P2 := ordD (fun i j => decide (i ≤ j)) fun a b => !decide (b < a)
def gtD : P2 := ordD (fun i j => decide (j < i)) fun a b => decide (b < a)
def geD : P2 := ordD (fun i j => decide (j ≤ i)) fun a b => !decide (a < b)
theorem o_lt : OpR X (compareOp .Lt) (rOp g ltD) := o_ord op_lt op_lt_str
theorem o_le : OpR X (compareOp .LtE) (rOp g leD) := o_ord op_le op_le_str
theorem o_gt : OpR X (compareOp .Gt) (rOp g gtD) := o_ord op_gt op_gt_str
theorem o_ge : OpR X (compareOp .GtE) (rOp g geD) := o_ord op_ge op_ge_str
/-- is None -/
def isN : D → Bool
  | .non => true
  | _ => false
def isD : P2
  | d, .non, m => some (.bl (isN d), m)
  | _, _, _ => none
def isnD : P2
  | d, .non, m => some (.bl (!isN d), m)
  | _, _, _ => none
theorem isN_rel {w : Wd} {d : D} {v : V} (r : RelD g w d v) : decide (v = V.non) = isN d := by
  cases d <;> simp only [RelD] at r <;> first
    | (subst r; rfl)
    | (obtain ⟨a, vs, rfl, _⟩ := r; rfl)
    | (obtain ⟨a, dx, vs, rfl, _⟩ := r; rfl)
    | (obtain ⟨a, rfl, _⟩ := r; rfl)
theorem o_is : OpR X (compareOp .Is) (rOp g isD) := by
  refine OpR.imp op_isN fun x y H Q ⟨w, d1, d2, e, ok, r1, r2, s⟩ => ?_
  subst e
  cases d2 <;> simp only [isD] at s <;> first | exact s.elim | skip
  have q := s w _ rfl ok (Ex.refl _) rel_bl
  simp only [RelD] at r2
  exact ⟨r2, by rw [isN_rel r1]; exact q⟩
theorem o_isn : OpR X (compareOp .IsNot) (rOp g isnD) := by
  refine OpR.imp op_notN fun x y H Q ⟨w, d1, d2, e, ok, r1, r2, s⟩ => ?_
  subst e
  cases d2 <;> simp only [isnD] at s <;> first | exact s.elim | skip
  have q := s w _ rfl ok (Ex.refl _) rel_bl
  simp only [RelD] at r2
  exact ⟨r2, by rw [isN_rel r1]; exact q⟩
/-- in: a sign in a text; a flat thing in a list or tuple of such -/
def flatD : D → Bool
  | .non => true | .bl _ => true | .int _ => true | .str _ => true | _ => false
def eqF : D → D → Bool
  | .non, .non => true
  | .bl a, .bl b => a == b
  | .bl a, .int b => (if a then 1 else 0) == b
  | .int a, .bl b => a == (if b then 1 else 0)
  | .int a, .int b => a == b
  | .str a, .str b => a == b
  | _, _ => false
def inFD (d : D) (ds : List D) : Bool := ds.any fun y => eqF y d
theorem flat_rel {w : Wd} {d : D} {v : V} (r : RelD g w d v) (f : flatD d = true) : flatV v = true := by
  cases d <;> simp [flatD] at f <;> (simp only [RelD] at r; subst r; rfl)
theorem eqF_rel {w : Wd} {d d' : D} {v v' : V} (r : RelD g w d v) (f : flatD d = true) (r' : RelD g w d' v') (f' : flatD d' = true) : eqV v v' = eqF d d' := by
  cases d <;> simp [flatD] at f <;> cases d' <;> simp [flatD] at f' <;> (simp only [RelD] at r r'; subst r r'; rfl)
theorem flats_rel {w : Wd} : ∀ {ds : List D} {vs : List V}, RelDs g w ds vs → ds.all flatD = true → vs.all flatV = true
  | [], vs, r, _ => by simp only [RelDs] at r; subst r; rfl
  | d :: ds, vs, r, f => by
    simp only [RelDs] at r
    obtain ⟨v, vr, rfl, r1, r2⟩ := r
    rw [List.all_cons, Bool.and_eq_true] at f
    rw [List.all_cons, flat_rel r1 f.1, flats_rel r2 f.2]; rfl
theorem inF_rel {w : Wd} {d : D} {v : V} (r0 : RelD g w d v) (f0 : flatD d = true) : ∀ {ds : List D} {vs : List V}, RelDs g w ds vs → ds.all flatD = true → inV v vs = inFD d ds
  | [], vs, r, _ => by simp only [RelDs] at r; subst r; rfl
  | x :: ds, vs, r, f => by
    simp only [RelDs] at r
    obtain ⟨v', vr, rfl, r1, r2⟩ := r
    rw [List.all_cons, Bool.and_eq_true] at f
    have ih := inF_rel r0 f0 r2 f.2
    unfold inV inFD at ih ⊢
    rw [List.any_cons, List.any_cons, eqF_rel r1 f.1 r0 f0, ih]
def inD (neg : Bool) : P2
  | .str x, .str z, m => match x.cps.toList with
    | [c] => some (.bl (cond neg (!decide (c ∈ z.cps.toList)) (decide (c ∈ z.cps.toList))), m)
    | _ => none
  | d, .lst ds, m => if flatD d && ds.all flatD then some (.bl (cond neg (!inFD d ds) (inFD d ds)), m) else none
  | d, .tup ds, m => if flatD d && ds.all flatD then some (.bl (cond neg (!inFD d ds) (inFD d ds)), m) else none
  | _, _, _ => none
theorem one_sign {x : Str} {c : Nat} (h : x.cps.toList = [c]) : x = ⟨#[c]⟩ := by
  cases x with
  | mk a => congr 1; exact Array.toList_inj.mp h
theorem o_in (gK : g.K = X.K) : OpR X (compareOp .In) (rOp g (inD false)) := by
  refine OpR.imp (op_in_sign.or op_in_seq) fun x y H Q ⟨w, d1, d2, e, ok, r1, r2, s⟩ => ?_
  subst e
  unfold inD at s
  split at s
  · rename_i x z
    simp only [RelD] at r1 r2
    subst r1 r2
    split at s
    · rename_i c hc
      exact .inl ⟨c, z, by rw [one_sign hc], rfl, s w (.bl _) rfl ok (Ex.refl _) rel_bl⟩
    · exact s.elim
  · split at s
    · rename_i hf
      obtain ⟨h1, h2⟩ := Bool.and_eq_true_iff.mp hf
      simp only [RelD] at r2
      obtain ⟨a, vs, rfl, t, r3⟩ := r2
      refine .inr ⟨a, vs, rfl, .inl t.sq, flat_rel r1 h1, flats_rel r3 h2, ?_⟩
      rw [inF_rel r1 h1 r3 h2]
      exact s w (.bl _) rfl ok (Ex.refl _) rel_bl
    · exact s.elim
  · split at s
    · rename_i hf
      obtain ⟨h1, h2⟩ := Bool.and_eq_true_iff.mp hf
      simp only [RelD] at r2
      obtain ⟨a, vs, rfl, t, r3⟩ := r2
      refine .inr ⟨a, vs, rfl, .inr (gK ▸ t.sq), flat_rel r1 h1, flats_rel r3 h2, ?_⟩
      rw [inF_rel r1 h1 r3 h2]
      exact s w (.bl _) rfl ok (Ex.refl _) rel_bl
    · exact s.elim
  · exact s.elim
theorem o_notin (gK : g.K = X.K) : OpR X (compareOp .NotIn) (rOp g (inD true)) := by
  refine OpR.imp (op_notIn_sign.or op_notIn_seq) fun x y H Q ⟨w, d1, d2, e, ok, r1, r2, s⟩ => ?_
  subst e
  unfold inD at s
  split at s
  · rename_i x z
    simp only [RelD] at r1 r2
    subst r1 r2
    split at s
    · rename_i c hc
      exact .inl ⟨c, z, by rw [one_sign hc], rfl, s w (.bl _) rfl ok (Ex.refl _) rel_bl⟩
    · exact s.elim
  · split at s
    · rename_i hf
      obtain ⟨h1, h2⟩ := Bool.and_eq_true_iff.mp hf
      simp only [RelD] at r2
      obtain ⟨a, vs, rfl, t, r3⟩ := r2
      refine .inr ⟨a, vs, rfl, .inl t.sq, flat_rel r1 h1, flats_rel r3 h2, ?_⟩
      rw [inF_rel r1 h1 r3 h2]
      exact s w (.bl _) rfl ok (Ex.refl _) rel_bl
    · exact s.elim
  · split at s
    · rename_i hf
      obtain ⟨h1, h2⟩ := Bool.and_eq_true_iff.mp hf
      simp only [RelD] at r2
      obtain ⟨a, vs, rfl, t, r3⟩ := r2
      refine .inr ⟨a, vs, rfl, .inr (gK ▸ t.sq), flat_rel r1 h1, flats_rel r3 h2, ?_⟩
      rw [inF_rel r1 h1 r3 h2]
      exact s w (.bl _) rfl ok (Ex.refl _) rel_bl
    · exact s.elim
  · exact s.elim
/-! ### places -/
def ixD : P2
  | .lst xs, .int i, m => (atI xs i).map fun d => (d, m)
  | .scr xs, .int i, m => (atI xs i).map fun d => (d, m)
  | .tup xs, .int i, m => (atI xs i).map fun d => (d, m)
  | .str x, .int i, m => if x.length ≤ sizeLine then (atI x.cps.toList i).map fun c => (.str ⟨#[c]⟩, m) else none
  | .ref n, .int i, m => match m[n]? with
    | some (some (.lst xs)) => (atI xs i).map fun d => (d, m)
    | _ => none
  | _, _, _ => none
theorem atI_rel {w : Wd} {ds : List D} {vs : List V} {i : Int} {d : D} (r : RelDs g w ds vs) (h : atI ds i = some d) : ∃ v, atI vs i = some v ∧ RelD g w d v := by
  unfold atI at h ⊢
  rw [r.length]
  obtain ⟨j, e1, e2⟩ := Option.bind_eq_some_iff.mp h
  obtain ⟨v, h1, h2⟩ := r.get e2
  exact ⟨v, by rw [e1]; exact h1, h2⟩
theorem o_ix (gK : g.K = X.K) : IxR X (rOp g ixD) := by
  refine IxR.imp ix_seq fun x y H Q ⟨w, d1, d2, e, ok, r1, r2, s⟩ => ?_
  subst e
  unfold ixD at s
  split at s
  · rename_i xs i
    cases e1 : atI xs i with
    | none => rw [e1] at s; exact s.elim
    | some d =>
      rw [e1] at s
      simp only [RelD] at r1 r2
      obtain ⟨a, vs, rfl, t, r3⟩ := r1
      obtain ⟨v, h1, h2⟩ := atI_rel r3 e1
      exact .inl ⟨a, vs, i, v, rfl, r2, t.sq, h1, s w v rfl ok (Ex.refl _) h2⟩
  · rename_i xs i
    cases e1 : atI xs i with
    | none => rw [e1] at s; exact s.elim
    | some d =>
      rw [e1] at s
      simp only [RelD] at r1 r2
      obtain ⟨a, vs, rfl, t, r3⟩ := r1
      obtain ⟨v, h1, h2⟩ := atI_rel r3 e1
      exact .inl ⟨a, vs, i, v, rfl, r2, gK ▸ t.sq, h1, s w v rfl ok (Ex.refl _) h2⟩
  · rename_i xs i
    cases e1 : atI xs i with
    | none => rw [e1] at s; exact s.elim
    | some d =>
      rw [e1] at s
      simp only [RelD] at r1 r2
      obtain ⟨a, vs, rfl, t, r3⟩ := r1
      obtain ⟨v, h1, h2⟩ := atI_rel r3 e1
      exact .inr (.inl ⟨a, vs, i, v, rfl, r2, gK ▸ t.sq, h1, s w v rfl ok (Ex.refl _) h2⟩)
  · rename_i z i
    split at s
    · rename_i hz
      cases e1 : atI z.cps.toList i with
      | none => rw [e1] at s; exact s.elim
      | some c =>
        rw [e1] at s
        simp only [RelD] at r1 r2
        exact .inr (.inr ⟨z, i, c, r1, r2, hz, e1, s w _ rfl ok (Ex.refl _) (by simp only [RelD])⟩)
    · exact s.elim
  · rename_i n i
    split at s
    · rename_i xs e0
      cases e1 : atI xs i with
      | none => rw [e1] at s; exact s.elim
      | some d =>
        rw [e1] at s
        simp only [RelD] at r1 r2
        obtain ⟨a, rfl, ha⟩ := r1
        obtain ⟨vs, h1, h2⟩ := ok.obj n _ a e0 ha
        obtain ⟨v, h3, h4⟩ := atI_rel h2 e1
        exact .inl ⟨a, vs, i, v, rfl, r2, .of h1, h3, s w v rfl ok (Ex.refl _) h4⟩
    · exact s.elim
  · exact s.elim
/-- xs[i] = v -/
def setD : P3
  | .ref n, .int i, d, m => match m[n]? with
    | some (some (.lst xs)) => (ixN xs.length i).map fun j => m.set n (some (.lst (xs.set j d)))
    | _ => none
  | _, _, _, _ => none
theorem d_set : SetD g rSetL setD := by
  intro w d1 d2 d3 v1 v2 v3 m Q ok r1 r2 r3 h hq
  cases d1 <;> cases d2 <;> simp only [setD] at h <;> first | cases h | skip
  rename_i n i
  split at h
  · rename_i xs e0
    obtain ⟨j, e1, e2⟩ := Option.map_eq_some_iff.mp h
    simp only [RelD] at r1 r2
    obtain ⟨a, rfl, ha⟩ := r1
    obtain ⟨vs, h1, h2⟩ := ok.obj n _ a e0 ha
    refine ⟨a, vs, i, j, rfl, r2, h1, by rw [h2.length]; exact e1, ?_⟩
    have ex := Wd.put_ex (w := w) (n := n) (a := a) (o := .lst (vs.set j v3)) (ob := .lst (xs.set j d3)) e0 ha
    exact hq (w.put n a (.lst (vs.set j v3)) (.lst (xs.set j d3))) e2 (ok.put e0 ha ⟨_, upd_same, RelDs.mono ex _ _ (h2.set j r3)⟩) ex
  · cases h
end
end Rf

namespace Rf
open PySem L2
section
variable {X : Cx} {g : Cf} {k : Nat} {W : WX} {a b c : Expr} {da db dc : Dn} {pos : Pos}

/-- the items of a list, a tuple -/
def seqD (m : Mem) : D → Option (List D)
  | .lst xs => some xs
  | .scr xs => some xs
  | .tup xs => some xs
  | .ref n => match m[n]? with
    | some (some (.lst xs)) => some xs
    | _ => none
  | _ => none
theorem seq_rel {w : Wd} {d : D} {v : V} {xs : List D} (gK : g.K = X.K) (ok : w.Ok g) (r : RelD g w d v) (h : seqD w.mm d = some xs) : ∃ a vs, v = .ref a ∧ (SqL X.K w.hp a vs ∨ SqT X.K w.hp a vs) ∧ RelDs g w xs vs := by
  unfold seqD at h
  split at h
  · cases h
    simp only [RelD] at r
    obtain ⟨a, vs, rfl, t, r3⟩ := r
    exact ⟨a, vs, rfl, .inl t.sq, r3⟩
  · cases h
    simp only [RelD] at r
    obtain ⟨a, vs, rfl, t, r3⟩ := r
    exact ⟨a, vs, rfl, .inl (gK ▸ t.sq), r3⟩
  · cases h
    simp only [RelD] at r
    obtain ⟨a, vs, rfl, t, r3⟩ := r
    exact ⟨a, vs, rfl, .inr (gK ▸ t.sq), r3⟩
  · split at h
    · rename_i e0
      cases h
      simp only [RelD] at r
      obtain ⟨a, rfl, ha⟩ := r
      obtain ⟨vs, h1, h2⟩ := ok.obj _ _ a e0 ha
      exact ⟨a, vs, rfl, .inl (.of h1), h2⟩
    · cases h
  · cases h
/-- a list's items (no tuple) -/
def lstD (m : Mem) : D → Option (List D)
  | .lst xs => some xs
  | .ref n => match m[n]? with
    | some (some (.lst xs)) => some xs
    | _ => none
  | _ => none
theorem lst_rel {w : Wd} {d : D} {v : V} {xs : List D} (ok : w.Ok g) (r : RelD g w d v) (h : lstD w.mm d = some xs) : ∃ a vs, v = .ref a ∧ w.hp a = some (.lst vs) ∧ RelDs g w xs vs := by
  unfold lstD at h
  split at h
  · cases h
    simp only [RelD] at r
    obtain ⟨a, vs, rfl, t, r3⟩ := r
    exact ⟨a, vs, rfl, t.1, r3⟩
  · split at h
    · rename_i e0
      cases h
      simp only [RelD] at r
      obtain ⟨a, rfl, ha⟩ := r
      obtain ⟨vs, h1, h2⟩ := ok.obj _ _ a e0 ha
      exact ⟨a, vs, rfl, h1, h2⟩
    · cases h
  · cases h
theorem rel1 {w : Wd} {d : D} {vs : List V} (r : RelDs g w [d] vs) : ∃ v, vs = [v] ∧ RelD g w d v := by
  simp only [RelDs] at r
  obtain ⟨v, _, rfl, r1, rfl⟩ := r
  exact ⟨v, rfl, r1⟩
theorem rel2 {w : Wd} {d e : D} {vs : List V} (r : RelDs g w [d, e] vs) : ∃ v u, vs = [v, u] ∧ RelD g w d v ∧ RelD g w e u := by
  simp only [RelDs] at r
  obtain ⟨v, _, rfl, r1, u, _, rfl, r2, rfl⟩ := r
  exact ⟨v, u, rfl, r1, r2⟩
/-- a function of one argument, of two -/
def fn1 (f : D → Mem → Option (D × Mem)) : PN
  | [d], m => f d m
  | _, _ => none
def fn2 (f : D → D → Mem → Option (D × Mem)) : PN
  | [d, e], m => f d e m
  | _, _ => none
theorem ca1 {f : D → Mem → Option (D × Mem)} {cf : Value} {r : List V → Hp → VK → Prop} (h : CallR X cf r) (k : ∀ (w : Wd) (d : D) (v : V) (Q : VK), w.Ok g → RelD g w d v → SatO g w (f d w.mm) (fun v w' => Q v w'.hp) → r [v] w.hp Q) : CallR X cf (rCa g (fn1 f)) := by
  refine CallR.imp h fun vs H Q ⟨w, ds, e, ok, r1, s⟩ => ?_
  subst e
  match ds, r1, s with
  | [d], r1, s =>
    obtain ⟨v, rfl, r2⟩ := rel1 r1
    exact k w d v Q ok r2 s
  | [], _, s => exact s.elim
  | _ :: _ :: _, _, s => exact s.elim
theorem ca2 {f : D → D → Mem → Option (D × Mem)} {cf : Value} {r : List V → Hp → VK → Prop} (h : CallR X cf r) (k : ∀ (w : Wd) (d e : D) (v u : V) (Q : VK), w.Ok g → RelD g w d v → RelD g w e u → SatO g w (f d e w.mm) (fun v w' => Q v w'.hp) → r [v, u] w.hp Q) : CallR X cf (rCa g (fn2 f)) := by
  refine CallR.imp h fun vs H Q ⟨w, ds, e, ok, r1, s⟩ => ?_
  subst e
  match ds, r1, s with
  | [d, e], r1, s =>
    obtain ⟨v, u, rfl, r2, r3⟩ := rel2 r1
    exact k w d e v u Q ok r2 r3 s
  | [], _, s => exact s.elim
  | [_], _, s => exact s.elim
  | _ :: _ :: _ :: _, _, s => exact s.elim

def lenD : D → Mem → Option (D × Mem)
  | .str x, m => if x.length ≤ sizeLine then some (.int x.length, m) else none
  | d, m => (seqD m d).map fun xs => (.int xs.length, m)
theorem lenD_ns {d : D} {m : Mem} (h : ∀ x, d ≠ .str x) : lenD d m = (seqD m d).map fun xs => (.int xs.length, m) := by
  cases d <;> first | rfl | exact absurd rfl (h _)
theorem c_len (gK : g.K = X.K) : CallR X (.builtin "len") (rCa g (fn1 lenD)) := by
  refine ca1 (call_len_seq.or call_len_str) fun w d v Q ok r s => ?_
  by_cases hd : ∃ x, d = .str x
  · obtain ⟨x, rfl⟩ := hd
    simp only [RelD] at r
    simp only [lenD] at s
    split at s
    · rename_i hz
      exact .inr ⟨x, by rw [r], hz, s w _ rfl ok (Ex.refl _) rel_int⟩
    · exact s.elim
  · rw [lenD_ns fun x z => hd ⟨x, z⟩] at s
    cases e1 : seqD w.mm d with
    | none => rw [e1] at s; exact s.elim
    | some xs =>
      rw [e1] at s
      obtain ⟨a, vs, rfl, t, r3⟩ := seq_rel gK ok r e1
      refine .inl ⟨a, vs, rfl, t, ?_⟩
      rw [r3.length]
      exact s w _ rfl ok (Ex.refl _) rel_int
def intD : D → Mem → Option (D × Mem)
  | .int i, m => some (.int i, m)
  | .bl b, m => some (.int (if b then 1 else 0), m)
  | _, _ => none
theorem c_int : CallR X (.type "int") (rCa g (fn1 intD)) := by
  refine ca1 call_int1 fun w d v Q ok r s => ?_
  cases d <;> simp only [intD] at s <;> first | exact s.elim | skip
  · simp only [RelD] at r
    exact .inr ⟨_, by rw [r], s w _ rfl ok (Ex.refl _) rel_int⟩
  · simp only [RelD] at r
    exact .inl ⟨_, by rw [r], s w _ rfl ok (Ex.refl _) rel_int⟩
def absD : D → Mem → Option (D × Mem)
  | .int i, m => some (.int (if i < 0 then -i else i), m)
  | _, _ => none
theorem c_abs : CallR X (.builtin "abs") (rCa g (fn1 absD)) := by
  refine ca1 call_abs fun w d v Q ok r s => ?_
  cases d <;> simp only [absD] at s <;> first | exact s.elim | skip
  simp only [RelD] at r
  exact ⟨_, by rw [r], s w _ rfl ok (Ex.refl _) rel_int⟩
def max2D : D → D → Mem → Option (D × Mem)
  | .int i, .int j, m => some (.int (if j > i then j else i), m)
  | _, _, _ => none
def min2D : D → D → Mem → Option (D × Mem)
  | .int i, .int j, m => some (.int (if j < i then j else i), m)
  | _, _, _ => none
theorem c_max2 (hc : X.calm = true) : CallR X (.builtin "max") (rCa g (fn2 max2D)) := by
  refine ca2 (call_max2 hc) fun w d e v u Q ok r1 r2 s => ?_
  cases d <;> cases e <;> simp only [max2D] at s <;> first | exact s.elim | skip
  simp only [RelD] at r1 r2
  exact ⟨_, _, by rw [r1, r2], s w _ rfl ok (Ex.refl _) rel_int⟩
theorem c_min2 (hc : X.calm = true) : CallR X (.builtin "min") (rCa g (fn2 min2D)) := by
  refine ca2 (call_min2 hc) fun w d e v u Q ok r1 r2 s => ?_
  cases d <;> cases e <;> simp only [min2D] at s <;> first | exact s.elim | skip
  simp only [RelD] at r1 r2
  exact ⟨_, _, by rw [r1, r2], s w _ rfl ok (Ex.refl _) rel_int⟩
/-- truth values, ints, texts of a list -/
def blsOf : List D → Option (List Bool)
  | [] => some []
  | .bl b :: ds => (blsOf ds).map (b :: ·)
  | _ => none
def intsOf : List D → Option (List Int)
  | [] => some []
  | .int b :: ds => (intsOf ds).map (b :: ·)
  | _ => none
def strsOf : List D → Option (List Str)
  | [] => some []
  | .str b :: ds => (strsOf ds).map (b :: ·)
  | _ => none
theorem bls_rel {w : Wd} : ∀ {ds : List D} {vs : List V} {bs : List Bool}, RelDs g w ds vs → blsOf ds = some bs → vs = bs.map V.bl
  | [], vs, bs, r, h => by simp only [RelDs] at r; cases h; rw [r]; rfl
  | d :: ds, vs, bs, r, h => by
    simp only [RelDs] at r
    obtain ⟨v, vr, rfl, r1, r2⟩ := r
    cases d <;> simp only [blsOf] at h <;> first | cases h | skip
    obtain ⟨bs', e1, rfl⟩ := Option.map_eq_some_iff.mp h
    simp only [RelD] at r1
    rw [bls_rel r2 e1, r1]; rfl
theorem ints_rel {w : Wd} : ∀ {ds : List D} {vs : List V} {bs : List Int}, RelDs g w ds vs → intsOf ds = some bs → vs = bs.map V.int
  | [], vs, bs, r, h => by simp only [RelDs] at r; cases h; rw [r]; rfl
  | d :: ds, vs, bs, r, h => by
    simp only [RelDs] at r
    obtain ⟨v, vr, rfl, r1, r2⟩ := r
    cases d <;> simp only [intsOf] at h <;> first | cases h | skip
    obtain ⟨bs', e1, rfl⟩ := Option.map_eq_some_iff.mp h
    simp only [RelD] at r1
    rw [ints_rel r2 e1, r1]; rfl
theorem strs_rel {w : Wd} : ∀ {ds : List D} {vs : List V} {bs : List Str}, RelDs g w ds vs → strsOf ds = some bs → vs = bs.map V.str
  | [], vs, bs, r, h => by simp only [RelDs] at r; cases h; rw [r]; rfl
  | d :: ds, vs, bs, r, h => by
    simp only [RelDs] at r
    obtain ⟨v, vr, rfl, r1, r2⟩ := r
    cases d <;> simp only [strsOf] at h <;> first | cases h | skip
    obtain ⟨bs', e1, rfl⟩ := Option.map_eq_some_iff.mp h
    simp only [RelD] at r1
    rw [strs_rel r2 e1, r1]; rfl
def allD (d : D) (m : Mem) : Option (D × Mem) := ((lstD m d).bind blsOf).map fun bs => (.bl (bs.all id), m)
def anyD (d : D) (m : Mem) : Option (D × Mem) := ((lstD m d).bind blsOf).map fun bs => (.bl (bs.any id), m)
def sumD (d : D) (m : Mem) : Option (D × Mem) := ((lstD m d).bind intsOf).map fun bs => (.int bs.sum, m)
theorem c_all (hc : X.calm = true) : CallR X (.builtin "all") (rCa g (fn1 allD)) := by
  refine ca1 (cr_all hc) fun w d v Q ok r s => ?_
  unfold allD at s
  cases e1 : (lstD w.mm d).bind blsOf with
  | none => rw [e1] at s; exact s.elim
  | some bs =>
    rw [e1] at s
    obtain ⟨xs, e2, e3⟩ := Option.bind_eq_some_iff.mp e1
    obtain ⟨a, vs, rfl, t, r3⟩ := lst_rel ok r e2
    exact ⟨a, bs, rfl, by rw [← bls_rel r3 e3]; exact .of t, s w _ rfl ok (Ex.refl _) rel_bl⟩
theorem c_any (hc : X.calm = true) : CallR X (.builtin "any") (rCa g (fn1 anyD)) := by
  refine ca1 (cr_any hc) fun w d v Q ok r s => ?_
  unfold anyD at s
  cases e1 : (lstD w.mm d).bind blsOf with
  | none => rw [e1] at s; exact s.elim
  | some bs =>
    rw [e1] at s
    obtain ⟨xs, e2, e3⟩ := Option.bind_eq_some_iff.mp e1
    obtain ⟨a, vs, rfl, t, r3⟩ := lst_rel ok r e2
    exact ⟨a, bs, rfl, by rw [← bls_rel r3 e3]; exact .of t, s w _ rfl ok (Ex.refl _) rel_bl⟩
theorem c_sum (hc : X.calm = true) : CallR X (.builtin "sum") (rCa g (fn1 sumD)) := by
  refine ca1 (cr_sum hc) fun w d v Q ok r s => ?_
  unfold sumD at s
  cases e1 : (lstD w.mm d).bind intsOf with
  | none => rw [e1] at s; exact s.elim
  | some bs =>
    rw [e1] at s
    obtain ⟨xs, e2, e3⟩ := Option.bind_eq_some_iff.mp e1
    obtain ⟨a, vs, rfl, t, r3⟩ := lst_rel ok r e2
    exact ⟨a, bs, rfl, by rw [← ints_rel r3 e3]; exact .of t, s w _ rfl ok (Ex.refl _) rel_int⟩

/-! ### isinstance -/
def tyD (m : Mem) : D → Option TN
  | .non => some .NoneType
  | .bl _ => some .bool
  | .int _ => some .int
  | .str _ => some .str
  | .tup _ => some .tuple
  | .lst _ => some .list
  | .dct _ _ => some .dict
  | .ref n => match m[n]? with
    | some (some (.lst _)) => some .list
    | some (some (.dct _ _)) => some .dict
    | _ => none
  | _ => none
def isiT (a b : TN) : Bool := a == b || (a == .bool && b == .int)
theorem kit_isi : ∀ a b : TN, kitB a.name b.name = some (isiT a b) := by
  intro a b
  cases a <;> cases b <;> decide +kernel
theorem ty_rel {w : Wd} {d : D} {v : V} {t : TN} (gK : g.K = X.K) (ok : w.Ok g) (r : RelD g w d v) (h : tyD w.mm d = some t) : TyX X.K w.hp v (.type t.name) := by
  cases d <;> simp only [tyD] at h <;> first | (cases h; done) | skip
  · cases h; simp only [RelD] at r; subst r; exact .base .non
  · cases h; simp only [RelD] at r; subst r; exact .base (.bl _)
  · cases h; simp only [RelD] at r; subst r; exact .base (.int _)
  · cases h; simp only [RelD] at r; subst r; exact .base (.str _)
  · cases h
    simp only [RelD] at r
    obtain ⟨a, vs, rfl, t, r3⟩ := r
    rcases t with (t | ⟨ob, t⟩) | ⟨o, its, n, h1, h2, _⟩
    · exact .base (.tup t.1)
    · exact .fTuple t.1
    · exact .kTuple (gK ▸ h1) h2
  · cases h
    simp only [RelD] at r
    obtain ⟨a, vs, rfl, t, r3⟩ := r
    exact .base (.lst t.1)
  · cases h
    simp only [RelD] at r
    obtain ⟨a, vs, rfl, t, _, r3⟩ := r
    exact .base (.dK t.1)
  · rename_i n
    simp only [RelD] at r
    obtain ⟨a, rfl, ha⟩ := r
    split at h
    · rename_i e0
      cases h
      obtain ⟨vs, h1, h2⟩ := ok.obj _ _ a e0 ha
      exact .base (.lst h1)
    · rename_i e0
      cases h
      obtain ⟨vs, h1, h2⟩ := ok.obj _ _ a e0 ha
      exact .base (.dK h1)
    · cases h
def isiD : D → D → Mem → Option (D × Mem)
  | d, .ty t, m => (tyD m d).map fun u => (.bl (isiT u t), m)
  | _, _, _ => none
theorem c_isi (gK : g.K = X.K) : CallR X (.builtin "isinstance") (rCa g (fn2 isiD)) := by
  refine ca2 call_isi fun w d e v u Q ok r1 r2 s => ?_
  cases e <;> simp only [isiD] at s <;> first | exact s.elim | skip
  rename_i t
  cases e1 : tyD w.mm d with
  | none => rw [e1] at s; exact s.elim
  | some a =>
    rw [e1] at s
    simp only [RelD] at r2
    subst r2
    exact ⟨v, .ty t.name, .type a.name, .type t.name, isiT a t, rfl, .ty _, ty_rel gK ok r1 e1, kit_ty (kit_isi a t), s w _ rfl ok (Ex.refl _) rel_bl⟩

/-! ### repr -/
def reprD (d : D) (m : Mem) : Option (D × Mem) := (datD m d).bind fun x => if x.showable && decide (x.depth ≤ 60) && decide (x.shown.length ≤ sizeLine) then some (.str x.shown, m) else none
theorem c_repr (G : Gd X g k) : CallR X (.builtin "repr") (rCa g (fn1 reprD)) := by
  intro pins s σ H vs us Q I rv ⟨w, ds, e, ok, r1, h⟩
  subst e
  match ds, r1, h with
  | [d], r1, h =>
    obtain ⟨v, rfl, r2⟩ := rel1 r1
    obtain ⟨u, rfl, ru⟩ := vals1 rv
    simp only [fn1, reprD] at h
    cases e1 : datD w.mm d with
    | none => rw [e1] at h; exact h.elim
    | some x =>
      rw [e1] at h
      simp only [Option.bind_some] at h
      split at h
      · rename_i hc
        simp only [Bool.and_eq_true, decide_eq_true_eq] at hc
        obtain ⟨⟨h1, h2⟩, h3⟩ := hc
        obtain ⟨as, a1, a2⟩ := readsD G.gK G.sm ok I d v u x r2 e1 ru
        have q : Q (.str x.shown) w.hp := h w _ rfl ok (Ex.refl _) rel_str
        have hu := G.room.units
        cases a1 with
        | none => exact PySem.P.repr_of_none ⟨.str _, _, I.tok _, ⟨_, rfl⟩, q⟩
        | bool b => exact PySem.P.repr_of_bool ⟨.str _, _, I.tok _, ⟨_, rfl⟩, by cases b <;> exact q⟩
        | int i t => exact PySem.P.repr_of_int (by simpa [PyData.showable] using h1) ⟨.str _, _, I.tok _, ⟨_, rfl⟩, q⟩
        | str z t => exact PySem.P.repr_of_str ⟨.str _, _, I.tok _, ⟨_, rfl⟩, q⟩ (by simpa [PyData.shown] using h3)
        | list b1 b2 b3 b4 => exact repr_of_reads' (.list b1 b2 b3 b4) h1 (fun _ => a2) G.gd (by omega) (fun _ _ z => z) (fun h' u tk hk => ⟨.str _, _, I.kept hk, ⟨_, rfl⟩, q⟩) h3
        | tuple b1 b2 b3 b4 => exact repr_of_reads' (.tuple b1 b2 b3 b4) h1 (fun _ => a2) G.gd (by omega) (fun _ _ z => z) (fun h' u tk hk => ⟨.str _, _, I.kept hk, ⟨_, rfl⟩, q⟩) h3
        | dict b1 b2 b3 b4 b5 => exact repr_of_reads' (.dict b1 b2 b3 b4 b5) h1 (fun _ => a2) G.gd (by omega) (fun _ _ z => z) (fun h' u tk hk => ⟨.str _, _, I.kept hk, ⟨_, rfl⟩, q⟩) h3
      · exact h.elim
  | [], _, h => exact h.elim
  | _ :: _ :: _, _, h => exact h.elim

/-! ### copies -/
def tupleD (d : D) (m : Mem) : Option (D × Mem) := (seqD m d).map fun xs => (.tup xs, m)
def listD (d : D) (m : Mem) : Option (D × Mem) := (seqD m d).map fun xs => (.lst xs, m)
theorem c_list (gK : g.K = X.K) : CallR X (.type "list") (rCa g (fn1 listD)) := by
  refine ca1 call_list_of fun w d v Q ok r s => ?_
  unfold listD at s
  cases e1 : seqD w.mm d with
  | none => rw [e1] at s; exact s.elim
  | some xs =>
    rw [e1] at s
    obtain ⟨a, vs, rfl, t, r3⟩ := seq_rel gK ok r e1
    refine ⟨a, vs, rfl, t, fun p hp => ?_⟩
    exact s (w.lay p (.lst vs)) _ rfl (ok.lay hp) (ok.lay_ex hp) (by simp only [RelD]; exact ⟨p, _, rfl, ok.lay_fx hp, RelDs.mono (ok.lay_ex hp) _ _ r3⟩)
theorem c_tuple (gK : g.K = X.K) : CallR X (.type "tuple") (rCa g (fn1 tupleD)) := by
  refine ca1 call_tuple_of fun w d v Q ok r s => ?_
  unfold tupleD at s
  cases e1 : seqD w.mm d with
  | none => rw [e1] at s; exact s.elim
  | some xs =>
    rw [e1] at s
    unfold seqD at e1
    split at e1
    · cases e1
      simp only [RelD] at r
      obtain ⟨a, vs, rfl, t, r3⟩ := r
      exact ⟨a, vs, rfl, .inl ⟨t.sq, fun p hp => s (w.lay p (.tup vs)) _ rfl (ok.lay hp) (ok.lay_ex hp) (by simp only [RelD]; exact ⟨p, _, rfl, .inl (.inl (ok.lay_fx hp)), RelDs.mono (ok.lay_ex hp) _ _ r3⟩)⟩⟩
    · cases e1
      simp only [RelD] at r
      obtain ⟨a, vs, rfl, t, r3⟩ := r
      exact ⟨a, vs, rfl, .inl ⟨gK ▸ t.sq, fun p hp => s (w.lay p (.tup vs)) _ rfl (ok.lay hp) (ok.lay_ex hp) (by simp only [RelD]; exact ⟨p, _, rfl, .inl (.inl (ok.lay_fx hp)), RelDs.mono (ok.lay_ex hp) _ _ r3⟩)⟩⟩
    · cases e1
      have r0 := r
      simp only [RelD] at r
      obtain ⟨a, vs, rfl, t, r3⟩ := r
      exact ⟨a, vs, rfl, .inr ⟨gK ▸ t.sq, s w _ rfl ok (Ex.refl _) r0⟩⟩
    · split at e1
      · rename_i e0
        cases e1
        simp only [RelD] at r
        obtain ⟨a, rfl, ha⟩ := r
        obtain ⟨vs, h1, r3⟩ := ok.obj _ _ a e0 ha
        exact ⟨a, vs, rfl, .inl ⟨.of h1, fun p hp => s (w.lay p (.tup vs)) _ rfl (ok.lay hp) (ok.lay_ex hp) (by simp only [RelD]; exact ⟨p, _, rfl, .inl (.inl (ok.lay_fx hp)), RelDs.mono (ok.lay_ex hp) _ _ r3⟩)⟩⟩
      · cases e1
    · cases e1

/-! ### slices -/
def cutD (xs : List D) (lo hi : Option Int) : List D := (xs.drop (HT.sIx xs.length 0 lo)).take (HT.sIx xs.length xs.length hi - HT.sIx xs.length 0 lo)
def slD : D → Option Int → Option Int → Mem → Option (D × Mem)
  | .str x, lo, hi, m => if x.length ≤ sizeLine then some (.str (cutS x lo hi), m) else none
  | .lst xs, lo, hi, m => some (.lst (cutD xs lo hi), m)
  | .scr xs, lo, hi, m => some (.lst (cutD xs lo hi), m)
  | .tup xs, lo, hi, m => some (.tup (cutD xs lo hi), m)
  | .ref n, lo, hi, m => match m[n]? with
    | some (some (.lst xs)) => some (.lst (cutD xs lo hi), m)
    | _ => none
  | _, _, _, _ => none
theorem cut_rel {w : Wd} {ds : List D} {vs : List V} {lo hi : Option Int} (r : RelDs g w ds vs) : RelDs g w (cutD ds lo hi) (cutV vs lo hi) := by
  unfold cutD cutV
  rw [r.length]
  exact (r.drop _).take _
/-- the ends of a slice -/
def dPart (o : Option Dn) : Sl → Mem → Res := fun p m => match o with
  | none => .ok .non m
  | some f => (f p m).bind fun d m => match d with
    | .int i => .ok (.int i) m
    | _ => .bad
def prt : D → Option Int
  | .int i => some i
  | _ => none
def dSl (da : Dn) (lo hi : Option Dn) : Dn := fun p m => (da p m).bind fun d m => (dPart lo p m).bind fun l m => (dPart hi p m).bind fun h m => Res.of (slD d (prt l) (prt h) m)
def tPo (g : Cf) (W : WX) (o : Option Dn) : TO := fun σ H Q => ∃ (w : Wd) (p : Sl), w.hp = H ∧ w.Ok g ∧ RelS g w p σ ∧ Sat g w (dPart o p w.mm) (fun v w' => (v = .non ∧ Q none w'.hp) ∨ ∃ i, v = .int i ∧ Q (some i) w'.hp) (fun c dd w' => W c dd σ w'.hp)
theorem PO.imp {e : Option Expr} {t t' : TO} (h : PO X e t) (k : ∀ σ H Q, t' σ H Q → t σ H Q) : PO X e t' := ⟨fun pins s σ H Q I hw => h.run pins s σ H Q I (k σ H Q hw)⟩
theorem p_none : PO X none (tPo g W none) := PO.imp po_none fun σ H Q ⟨w, p, e, ok, rs, h⟩ => by
  subst e
  rcases h w .non rfl ok (Ex.refl _) rel_non with ⟨_, q⟩ | ⟨i, z, _⟩
  · exact q
  · cases z
theorem p_some (ha : PE X a (tD g W da)) : PO X (some a) (tPo g W (some da)) := PO.imp (po_some ha) fun σ H Q ⟨w, p, e, ok, rs, h⟩ => by
  refine ⟨w, p, e, ok, rs, (Sat.bind h).imp fun v w1 ⟨ok1, ex1, d, r1, h1⟩ => ?_⟩
  cases d <;> simp only at h1 <;> first | exact h1.elim | skip
  simp only [RelD] at r1
  subst r1
  rcases h1 w1 (.int _) rfl ok1 (Ex.refl _) rel_int with ⟨z, _⟩ | ⟨i, z, q⟩
  · cases z
  · exact ⟨i, z, q⟩
def rSl (g : Cf) : V → Option Int → Option Int → Hp → VK → Prop := fun v lo hi H Q => ∃ (w : Wd) (d : D), w.hp = H ∧ w.Ok g ∧ RelD g w d v ∧ SatO g w (slD d lo hi w.mm) (fun v w' => Q v w'.hp)
theorem SlR.imp {r r' : V → Option Int → Option Int → Hp → VK → Prop} (h : SlR X r) (k : ∀ x lo hi H Q, r' x lo hi H Q → r x lo hi H Q) : SlR X r' := fun pins s σ H x v vl vu lo hi sl Q I rx hs pl pu q => h pins s σ H x v vl vu lo hi sl Q I rx hs pl pu (k _ _ _ _ _ q)
theorem sl_ok (gK : g.K = X.K) : SlR X (rSl g) := by
  refine SlR.imp (sl_str.or (sl_list.or sl_tupA)) fun v lo hi H Q ⟨w, d, e, ok, r, s⟩ => ?_
  subst e
  unfold slD at s
  split at s
  · simp only [RelD] at r
    split at s
    · rename_i hz
      exact .inl ⟨_, r, hz, s w _ rfl ok (Ex.refl _) rel_str⟩
    · exact s.elim
  · simp only [RelD] at r
    obtain ⟨a, vs, rfl, t, r3⟩ := r
    exact .inr (.inl ⟨a, vs, rfl, t.sq, fun p hp => s (w.lay p (.lst (cutV vs _ _))) _ rfl (ok.lay hp) (ok.lay_ex hp) (by simp only [RelD]; exact ⟨p, _, rfl, ok.lay_fx hp, RelDs.mono (ok.lay_ex hp) _ _ (cut_rel r3)⟩)⟩)
  · simp only [RelD] at r
    obtain ⟨a, vs, rfl, t, r3⟩ := r
    exact .inr (.inl ⟨a, vs, rfl, gK ▸ t.sq, fun p hp => s (w.lay p (.lst (cutV vs _ _))) _ rfl (ok.lay hp) (ok.lay_ex hp) (by simp only [RelD]; exact ⟨p, _, rfl, ok.lay_fx hp, RelDs.mono (ok.lay_ex hp) _ _ (cut_rel r3)⟩)⟩)
  · simp only [RelD] at r
    obtain ⟨a, vs, rfl, t, r3⟩ := r
    refine .inr (.inr ⟨a, vs, rfl, gK ▸ t.sq, fun hw => ?_, fun _ p hp => s (w.lay p (.tup (cutV vs _ _))) _ rfl (ok.lay hp) (ok.lay_ex hp) (by simp only [RelD]; exact ⟨p, _, rfl, .inl (.inl (ok.lay_fx hp)), RelDs.mono (ok.lay_ex hp) _ _ (cut_rel r3)⟩)⟩)
    refine s w _ rfl ok (Ex.refl _) ?_
    simp only [RelD]
    refine ⟨a, vs, rfl, t, ?_⟩
    rw [r3.length] at hw
    unfold cutD
    rw [hw.1, hw.2, Nat.sub_zero, List.drop_zero, List.take_length]
    exact r3
  · split at s
    · rename_i e0
      simp only [RelD] at r
      obtain ⟨a, rfl, ha⟩ := r
      obtain ⟨vs, h1, r3⟩ := ok.obj _ _ a e0 ha
      exact .inr (.inl ⟨a, vs, rfl, .of h1, fun p hp => s (w.lay p (.lst (cutV vs _ _))) _ rfl (ok.lay hp) (ok.lay_ex hp) (by simp only [RelD]; exact ⟨p, _, rfl, ok.lay_fx hp, RelDs.mono (ok.lay_ex hp) _ _ (cut_rel r3)⟩)⟩)
    · exact s.elim
  · exact s.elim
theorem part_in {w : Wd} {p : Sl} {σ : St} {o : Option Dn} {f : D → Mem → Res} {H : Hp} {Q : Option Int → Hp → Prop} {Q' : V → Wd → Prop} (e : w.hp = H) (ok : w.Ok g) (rs : RelS g w p σ)
    (h : Sat g w ((dPart o p w.mm).bind f) Q' (fun c dd w' => W c dd σ w'.hp)) (k : ∀ (w1 : Wd) (d : D), w1.Ok g → Ex w w1 → Sat g w1 (f d w1.mm) Q' (fun c dd w' => W c dd σ w'.hp) → Q (prt d) w1.hp) : tPo g W o σ H Q := by
  refine ⟨w, p, e, ok, rs, ?_⟩
  cases o with
  | none =>
    intro w' v h1 h2 h3 h4
    simp only [RelD] at h4
    exact .inl ⟨h4, k w' .non h2 h3 (by rw [h1]; exact Sat.ex h3 h)⟩
  | some f0 =>
    simp only [dPart] at h ⊢
    cases e1 : f0 p w.mm with
    | bad => rw [e1] at h; exact h
    | exc x m => rw [e1] at h; exact h
    | ok d m =>
      rw [e1] at h
      simp only [Res.bind] at h ⊢
      cases d <;> first | exact h | skip
      intro w' v h1 h2 h3 h4
      simp only [RelD] at h4
      subst h1
      exact .inr ⟨_, h4, k w' (.int _) h2 h3 (Sat.ex h3 h)⟩
theorem e_sl {lo hi : Option Expr} {dl dh : Option Dn} {p2 : Pos} (gK : g.K = X.K) (ha : PE X a (tD g W da)) (hl : PO X lo (tPo g W dl)) (hu : PO X hi (tPo g W dh)) : PE X (.Subscript a (.Slice lo hi none p2) pos) (tD g W (dSl da dl dh)) := by
  refine PE.imp (pe_slice (sl_ok gK) ha hl hu) fun σ H Q ⟨w, p, e, ok, rs, h⟩ => ?_
  refine ⟨w, p, e, ok, rs, (Sat.bind h).imp fun v w1 ⟨ok1, ex1, d, r1, h1⟩ => ?_⟩
  refine part_in rfl ok1 (rs.mono ex1) h1 fun w2 l ok2 ex2 h2 => ?_
  refine part_in rfl ok2 ((rs.mono ex1).mono ex2) h2 fun w3 u ok3 ex3 h3 => ?_
  exact ⟨w3, d, rfl, ok3, RelD.mono (ex2.trans ex3) _ _ r1, Sat.toO h3⟩

/-! ### two comparisons in a row -/
def dCh (f h : P2) (da db dc : Dn) : Dn := fun p m => (da p m).bind fun x m => (db p m).bind fun y m => match f x y m with
  | some (.bl true, m) => (dc p m).bind fun z m => Res.of (h y z m)
  | some (.bl false, m) => .ok (.bl false) m
  | _ => .bad
theorem ch_red {f h : P2} {σ : St} {H : Hp} {Q : VK} (hh : tD g W (dCh f h da db dc) σ H Q) : tChain (rOp g f) (rOp g h) (tD g W da) (tD g W db) (tD g W dc) σ H Q := by
  obtain ⟨w, p, e, ok, rs, hh⟩ := hh
  refine ⟨w, p, e, ok, rs, (Sat.bind hh).imp fun v w1 ⟨ok1, ex1, d1, r1, h1⟩ => ?_⟩
  have rs1 := rs.mono ex1
  refine ⟨w1, p, rfl, ok1, rs1, (Sat.bind h1).imp fun u w2 ⟨ok2, ex2, d2, r2, h2⟩ => ?_⟩
  have rs2 := rs1.mono ex2
  refine ⟨w2, d1, d2, rfl, ok2, RelD.mono ex2 _ _ r1, r2, ?_⟩
  split at h2
  · rename_i m e1
    rw [e1]
    intro w3 z q1 q2 q3 q4
    simp only [RelD] at q4
    subst q1
    refine ⟨true, q4, ?_⟩
    simp only [if_true]
    have rs3 := rs2.mono q3
    exact ⟨w3, p, rfl, q2, rs3, (Sat.bind (Sat.ex q3 h2)).imp fun t w4 ⟨ok4, ex4, d4, r4, h4⟩ => ⟨w4, d2, d4, rfl, ok4, RelD.mono (q3.trans ex4) _ _ r2, r4, Sat.toO h4⟩⟩
  · rename_i m e1
    rw [e1]
    intro w3 z q1 q2 q3 q4
    simp only [RelD] at q4
    refine ⟨false, q4, ?_⟩
    simp only [Bool.false_eq_true, if_false]
    exact h2 w3 _ q1 q2 q3 rel_bl
  · exact h2.elim
theorem e_ch {op op' : CmpOp} {f h : P2} (ho : OpR X (compareOp op) (rOp g f)) (ho' : OpR X (compareOp op') (rOp g h)) (ha : PE X a (tD g W da)) (hb : PE X b (tD g W db)) (hc : PE X c (tD g W dc)) (hm : lastMarks [op, op'] [b, c] = false) :
    PE X (.Compare a [op, op'] [b, c] pos) (tD g W (dCh f h da db dc)) := PE.imp (pe_chain ho ho' ha hb hc hm) fun σ H Q h => ch_red h
/-- tests of one comparison, of two -/
def bVal (da : Dn) : DnB := fun p m => (da p m).bindB fun x m => match x with
  | .bl b => .ok b m
  | _ => .bad
theorem bval_red {t : TE} {σ : St} {H : Hp} {Q : Bool → Hp → Prop} (ht : ∀ σ H Q, tD g W da σ H Q → t σ H Q) (h : tDB g W (bVal da) σ H Q) : tTest t σ H Q := by
  obtain ⟨w, p, e, ok, rs, h⟩ := h
  refine ht σ H _ ⟨w, p, e, ok, rs, (SatB.ofBind h).imp fun v w1 ⟨ok1, ex1, d, r1, h1⟩ => ?_⟩
  cases d <;> simp only at h1 <;> first | exact h1.elim | skip
  simp only [RelD] at r1
  exact ⟨_, r1, h1 w1 rfl ok1 (Ex.refl _)⟩
theorem t_cmp {op : CmpOp} {f : P2} (ho : OpR X (compareOp op) (rOp g f)) (ha : PE X a (tD g W da)) (hb : PE X b (tD g W db)) (hm : behindInMarks op b = false) : PT X (.Compare a [op] [b] pos) (tDB g W (bVal (dOp f da db))) :=
  PT.imp (pt_cmpR ho ha hb hm) fun σ H Q h => bval_red (fun σ H Q => op_red) h
theorem t_ch {op op' : CmpOp} {f h : P2} (ho : OpR X (compareOp op) (rOp g f)) (ho' : OpR X (compareOp op') (rOp g h)) (ha : PE X a (tD g W da)) (hb : PE X b (tD g W db)) (hc : PE X c (tD g W dc)) (hm : lastMarks [op, op'] [b, c] = false) :
    PT X (.Compare a [op, op'] [b, c] pos) (tDB g W (bVal (dCh f h da db dc))) := PT.imp (pt_chain ho ho' ha hb hc hm) fun σ H Q h => bval_red (fun σ H Q => ch_red) h
end
end Rf

namespace Rf
open PySem L2

/-! ### a text's parts translated: what a name of the module is -/
inductive Gk where
  | fn (i n : Nat)
  | cst (d : D)
  | free
/-- what is known of a body's place -/
structure Ct where
  N : List Str
  sc : Scope
  tab : List (Str × Gk)
  cl : Nat → Fn
  fn : Str → Bool
  mt : List Str
  mtR : Bool
  wf : Nat

/-- facts of the module: each name is what the table says -/
structure Tf (X : Cx) (g : Cf) (tab : List (Str × Gk)) (cl : Nat → Fn) (k : Nat) : Prop where
  fn : ∀ x i n, tab.lookup x = some (.fn i n) → ∃ (j : Nat) (fa : Addr) (fd : FuncData) (ps : List Str), j ≤ k ∧ X.mg x = some (.ref fa) ∧ PySem.W.keepIn X.K (.ref fa) = true ∧ Binds X.K fd ps [] ∧ FnG X.prog X.w X.K X.mg X.base j fa fd ps (spD g n (cl i))
  cst : ∀ x d, tab.lookup x = some (.cst d) → ∃ v u, X.mg x = some u ∧ RelV v u ∧ ∀ w, RelD g w d v
  free : ∀ x, tab.lookup x = some .free → X.mg x = none
structure Fk (X : Cx) (g : Cf) (c : Ct) (k : Nat) (W : WX) : Prop where
  G : Gd X g k
  hN : X.N = c.N
  hsc : X.env.scope = c.sc
  kind : c.sc.kind = .function
  fn : ∀ x, c.fn x = true → X.fn x = true
  tk : Takes X W
  po : PassesOwn (model X.prog X.w) X.A X.env X.xe
  T : Tf X g c.tab c.cl k

/-! ### forms of syntax -/
def isStar : Expr → Bool
  | .Starred _ _ => true
  | _ => false
theorem star_no {e : Expr} {es : List Expr} {env : Env} (h : isStar e = false) : starEach (e :: es) env = (false, eval e env) :: starEach es env := by
  cases e <;> first | rfl | (simp [isStar] at h)
theorem star_any {pos : Pos} {env : Env} : ∀ {es : List Expr}, es.all (fun e => !isStar e) = true → (backTo pos (starEach es env)).any (·.1) = false
  | [], _ => rfl
  | e :: es, h => by
    rw [List.all_cons, Bool.and_eq_true] at h
    have h1 : isStar e = false := by simpa using h.1
    rw [star_no h1]
    show (false || (backTo pos (starEach es env)).any (·.1)) = false
    rw [star_any h.2]; rfl
def isSlice : Expr → Bool
  | .Slice _ _ _ _ => true
  | _ => false
theorem plain_ix {b : Expr} (h : isSlice b = false) : PlainIx b := by
  intro o i
  cases b <;> first | rfl | (simp [isSlice] at h)
def isSet : Expr → Bool
  | .Set _ _ _ => true
  | _ => false
theorem no_mark {op : CmpOp} {b : Expr} (h : isSet b = false) : behindInMarks op b = false := by
  cases b <;> first | rfl | (simp [isSet] at h)
theorem no_fold {e : Expr} {env : Env} (h : isSet e = false) : ∀ x, foldedSetIterable e env x = pure x := by
  intro x
  cases e <;> first | rfl | (simp [isSet] at h)
def isTest : Expr → Bool
  | .UnaryOp .Not _ _ => true
  | .BoolOp _ _ _ => true
  | .IfExp _ _ _ _ => true
  | .Compare _ _ _ _ => true
  | _ => false
theorem tru_plain {e : Expr} {env : Env} (h : isTest e = false) : ∀ whole, isTrue e env whole = (do let v ← whole; standAt e.pos; holding [v] (truthy v)) := by
  intro whole
  cases e <;> first | rfl | (simp [isTest] at h) | skip
  rename_i op a p
  cases op <;> first | rfl | (simp [isTest] at h)
def isComp : Expr → Bool
  | .ListComp _ _ _ _ => true
  | .SetComp _ _ _ _ => true
  | .DictComp _ _ _ _ _ => true
  | _ => false
theorem no_swap {e : Expr} {t : Option Expr} {l : Nat} {env : Env} (h : isComp e = false) : swapsWith e t l env = pure false := by
  cases e <;> first | rfl | (simp [isComp] at h)
def isTup : Expr → Bool
  | .Tuple _ _ _ => true
  | _ => false
theorem no_par {t e : Expr} {env : Env} (h : isTup e = false) : swappedStores [t] e env = pure none := by
  cases e <;> first | (simp [isTup] at h; done) | (cases t <;> rfl)
theorem no_par1 {o i : Expr} {p : Pos} {e : Expr} {env : Env} : swappedStores [.Subscript o i p] e env = pure none := rfl
theorem each_one {t : Expr} {env : Env} (h : isStar t = false) : (assignEach [t] env).map (·.2) = [assign t env] := by
  cases t <;> first | rfl | (simp [isStar] at h)
theorem each_cons {t : Expr} {ts : List Expr} {env : Env} (h : isStar t = false) : assignEach (t :: ts) env = (false, assign t env) :: assignEach ts env := by
  cases t <;> first | rfl | (simp [isStar] at h)
/-- the receiver of a method is no call of super() -/
def isCall0 : Expr → Bool
  | .Call (.Name _ _) [] [] _ => true
  | _ => false
theorem att_base {o : Expr} {f : Str} {env : Env} {wh : Sem Value} (h : isCall0 o = false) : attributeBase o f env wh = wh := by
  unfold attributeBase
  split
  · simp [isCall0] at h
  · rfl
def slot : List Str → Str → Option Nat
  | [], _ => none
  | y :: ys, x => if y = x then some 0 else (slot ys x).map (· + 1)
theorem slot_at : ∀ {N : List Str} {x : Str} {i : Nat}, slot N x = some i → N[i]? = some x
  | [], x, i, h => by simp [slot] at h
  | y :: ys, x, i, h => by
    simp only [slot] at h
    split at h
    · rename_i e; cases h; rw [e]; rfl
    · obtain ⟨j, e1, rfl⟩ := Option.map_eq_some_iff.mp h
      simpa using slot_at e1
def own (x : Str) : Bool := x == ("__debug__" : Str) || x == ("__classdict__" : Str) || x == ("__name__" : Str)
theorem own_no {x : Str} (h : own x = false) : (x == ("__debug__" : Str)) = false ∧ (x == ("__classdict__" : Str)) = false ∧ x ≠ "__name__" := by
  simp only [own, Bool.or_eq_false_iff] at h
  exact ⟨h.1.1, h.1.2, by simpa using h.2⟩

/-! ### operators, built-ins -/
def binF : Operator → Option P2
  | .Add => some addD
  | .Sub => some subD
  | .Mult => some mulD
  | .FloorDiv => some fdivD
  | .Mod => some modD
  | .Pow => some powD
  | .BitOr => some (bitD Builtin.bitOr)
  | .BitAnd => some (bitD Builtin.bitAnd)
  | _ => none
theorem bin_ok {X : Cx} {g : Cf} (gK : g.K = X.K) {op : Operator} {f : P2} (h : binF op = some f) : OpR X (binaryOp op) (rOp g f) := by
  cases op <;> simp only [binF] at h <;> first | (cases h; done) | (cases h; first | exact o_add gK | exact o_sub | exact o_mul gK | exact o_fdiv | exact o_mod | exact o_pow | exact o_or | exact o_and)
def cmpF : CmpOp → Option P2
  | .Eq => some eqD
  | .NotEq => some neD
  | .Lt => some ltD
  | .LtE => some leD
  | .Gt => some gtD
  | .GtE => some geD
  | .Is => some isD
  | .IsNot => some isnD
  | .In => some (inD false)
  | .NotIn => some (inD true)
theorem cmp_ok {X : Cx} {g : Cf} {k : Nat} (G : Gd X g k) {op : CmpOp} {f : P2} (h : cmpF op = some f) : OpR X (compareOp op) (rOp g f) := by
  cases op <;> (simp only [cmpF] at h; cases h; first | exact o_eq G | exact o_ne G | exact o_lt | exact o_le | exact o_gt | exact o_ge | exact o_is | exact o_isn | exact o_in G.gK | exact o_notin G.gK)
inductive Bf where
  | len | abs | max | min | all | any | sum | isi | repr | int | list | tuple
def Bf.den : Bf → PN
  | .len => fn1 lenD
  | .abs => fn1 absD
  | .max => fn2 max2D
  | .min => fn2 min2D
  | .all => fn1 allD
  | .any => fn1 anyD
  | .sum => fn1 sumD
  | .isi => fn2 isiD
  | .repr => fn1 reprD
  | .int => fn1 intD
  | .list => fn1 listD
  | .tuple => fn1 tupleD
def Bf.val : Bf → Value
  | .len => .builtin "len"
  | .abs => .builtin "abs"
  | .max => .builtin "max"
  | .min => .builtin "min"
  | .all => .builtin "all"
  | .any => .builtin "any"
  | .sum => .builtin "sum"
  | .isi => .builtin "isinstance"
  | .repr => .builtin "repr"
  | .int => .type "int"
  | .list => .type "list"
  | .tuple => .type "tuple"
def bfs : List (Str × Bf) := [("len", .len), ("abs", .abs), ("max", .max), ("min", .min), ("all", .all), ("any", .any), ("sum", .sum), ("isinstance", .isi), ("repr", .repr), ("int", .int), ("list", .list), ("tuple", .tuple)]
theorem bf_boot : ∀ p ∈ bfs, bootBuiltins p.1 = some p.2.val := by
  intro p hp
  simp only [bfs, List.mem_cons, List.not_mem_nil, or_false] at hp
  rcases hp with rfl | rfl | rfl | rfl | rfl | rfl | rfl | rfl | rfl | rfl | rfl | rfl <;> decide +kernel
theorem lookup_mem {α : Type} : ∀ {l : List (Str × α)} {x : Str} {b : α}, l.lookup x = some b → (x, b) ∈ l
  | (y, c) :: r, x, b, h => by
    simp only [List.lookup_cons] at h
    split at h
    · rename_i e
      cases h
      have : x = y := by simpa using e
      subst this
      exact List.mem_cons_self
    · exact List.mem_cons_of_mem _ (lookup_mem h)
theorem bf_call {X : Cx} {g : Cf} {k : Nat} (G : Gd X g k) (b : Bf) : CallR X b.val (rCa g b.den) := by
  cases b
  · exact c_len G.gK
  · exact c_abs
  · exact c_max2 G.calm
  · exact c_min2 G.calm
  · exact c_all G.calm
  · exact c_any G.calm
  · exact c_sum G.calm
  · exact c_isi G.gK
  · exact c_repr G
  · exact c_int
  · exact c_list G.gK
  · exact c_tuple G.gK
/-- built-in classes as values -/
def tys : List (Str × TN) := [("int", .int), ("str", .str), ("bool", .bool), ("tuple", .tuple), ("list", .list), ("dict", .dict)]
theorem ty_boot : ∀ p ∈ tys, bootBuiltins p.1 = some (.type p.2.name) := by
  intro p hp
  simp only [tys, List.mem_cons, List.not_mem_nil, or_false] at hp
  rcases hp with rfl | rfl | rfl | rfl | rfl | rfl <;> decide +kernel

section
variable {X : Cx} {g : Cf} {k : Nat} {W : WX} {a b : Expr} {pos : Pos}
theorem e_bf {bf : Bf} {r : DnL} {x : Str} {p : Pos} {es : List Expr} (G : Gd X g k) (hb : bfs.lookup x = some bf) (hg : Gl X x) (hm : X.mg x = none) (ho : own x = false) (ha : PA X (a :: es) (tDL g W r)) (hs : (a :: es).all (fun e => !isStar e) = true) : PE X (.Call (.Name x p) (a :: es) [] pos) (tD g W (dCa bf.den r)) := by
  have hv := bf_boot _ (lookup_mem hb)
  have hc := bf_call G bf
  obtain ⟨h1, h2, h3⟩ := own_no ho
  rw [List.all_cons, Bool.and_eq_true] at hs
  have hse := star_no (env := X.env) (es := es) (by simpa using hs.1 : isStar a = false)
  have hsa := star_any (pos := pos) (env := X.env) hs.2
  cases bf <;> first
    | exact e_callB hc hg hm hv ha h3 h1 hse hsa
    | exact e_callTy hc hg hm hv ha h3 h1 hse hsa
theorem e_ty {t : TN} {x : Str} (hb : tys.lookup x = some t) (hg : Gl X x) (hm : X.mg x = none) (ho : own x = false) : PE X (.Name x pos) (tD g W (dC (.ty t))) := by
  have hv := ty_boot _ (lookup_mem hb)
  obtain ⟨h1, h2, h3⟩ := own_no ho
  exact e_c (pe_bltn (v := .ty t.name) hg hm hv rfl h3 h1) fun w => by simp only [RelD]
end
end Rf

namespace Rf
open PySem L2

/-! ### the translator, level by level -/
structure Tr where
  E : Ct → Expr → Option Dn
  T : Ct → Expr → Option DnB
  G : Ct → Expr → Option (TgF × List Nat)
  S : Ct → Stmt → Option DnS

def esD (f : Expr → Option Dn) : List Expr → Option DnL
  | [] => some dNil
  | e :: es => if isStar e then none else match f e, esD f es with
    | some x, some xs => some (dCons x xs)
    | _, _ => none
def isVis : NameKind → Bool
  | .local => true
  | .cell => true
  | .free => true
  | _ => false
def nameD (c : Ct) (x : Str) : Option Dn := if own x then none else match c.sc.names.lookup x with
  | some .globalImplicit => (match c.tab.lookup x with
    | some (.cst d) => some (dC d)
    | some .free => (tys.lookup x).map fun t => dC (.ty t)
    | _ => none)
  | some kd => if isVis kd then (slot c.N x).map dVar else none
  | none => none
def constD : Const → Option Dn
  | .none => some (dC .non)
  | .bool b => some (dC (.bl b))
  | .int i => some (dC (.int i))
  | .str x => some (dC (.str x))
  | _ => none
def isGlob (c : Ct) (x : Str) : Bool := match c.sc.names.lookup x with
  | some .globalImplicit => true
  | _ => false
def callD (r : Tr) (c : Ct) (x : Str) (args : List Expr) : Option Dn :=
  if own x || !isGlob c x then none else match c.tab.lookup x, args with
  | some (.fn i n), [] => if n = 0 then some (dCall 0 (c.cl i) dNil) else none
  | some (.fn i n), a :: es => (esD (r.E c) (a :: es)).map fun xs => dCall n (c.cl i) xs
  | some .free, a :: es => (match bfs.lookup x, esD (r.E c) (a :: es) with
    | some b, some xs => some (dCa b.den xs)
    | _, _ => none)
  | _, _ => none
def boolD (r : Tr) (c : Ct) (h : Dn → Dn → Dn) : List Expr → Option Dn
  | [] => none
  | [a] => r.E c a
  | a :: b :: es => (match r.E c a, boolD r c h (b :: es) with
    | some x, some y => some (h x y)
    | _, _ => none)
def boolB (r : Tr) (c : Ct) (h : DnB → DnB → DnB) : List Expr → Option DnB
  | [] => none
  | [a] => r.T c a
  | a :: b :: es => (match r.T c a, boolB r c h (b :: es) with
    | some x, some y => some (h x y)
    | _, _ => none)
def poD (r : Tr) (c : Ct) : Option Expr → Option (Option Dn)
  | none => some none
  | some e => (r.E c e).map some
def iR1 (f : Dn) : DnL := fun p m => (dCons f dNil p m).bindL fun ds m => ResL.ofO (rng1 ds) m
def iR2 (f h : Dn) : DnL := fun p m => (dCons f (dCons h dNil) p m).bindL fun ds m => ResL.ofO (rng2 ds) m
def itD (r : Tr) (c : Ct) (e : Expr) : Option DnL := match e with
  | .Call (.Name x _) [a] [] _ => if x = "range" ∧ isGlob c x = true ∧ isStar a = false then (match c.tab.lookup x, r.E c a with
      | some .free, some f => some (iR1 f)
      | _, _ => none) else (r.E c e).map iVal
  | .Call (.Name x _) [a, b] [] _ => if x = "range" ∧ isGlob c x = true ∧ isStar a = false ∧ isStar b = false then (match c.tab.lookup x, r.E c a, r.E c b with
      | some .free, some f, some h => some (iR2 f h)
      | _, _, _ => none) else (r.E c e).map iVal
  | e => (r.E c e).map iVal
def ownOf (N : List Str) : List (Str × NameKind) → List (Str × Nat)
  | [] => []
  | (x, kd) :: r => match kd, slot N x with
    | .local, some i => (x, i) :: ownOf N r
    | .cell, some i => (x, i) :: ownOf N r
    | _, _ => ownOf N r
def bYes : DnB := fun _ m => .ok true m
def ifsD (r : Tr) (c : Ct) : List Expr → Option DnB
  | [] => some bYes
  | [t] => r.T c t
  | _ => none
def Ct.blk (c : Ct) (scope : Scope) : Ct := { c with sc := relS scope c.sc, fn := fun x => scope.names.lookup x == some .cell }
structure Lc where
  f : DnL
  tf : TgF
  tt : DnB
  te : Dn
  own : List (Str × Nat)
def lcD (r : Tr) (c : Ct) (elt tg iter : Expr) (ifs : List Expr) (scope : Scope) : Option Lc :=
  let o := ownOf c.N scope.names
  if blkC c.N c.sc scope o && !isSet iter then
    match itD r c iter, r.G (c.blk scope) tg, ifsD r (c.blk scope) ifs, r.E (c.blk scope) elt with
    | some f, some (tf, l), some tt, some te => if l.all fun i => (o.map (·.2)).contains i then some ⟨f, tf, tt, te, o⟩ else none
    | _, _, _, _ => none
  else none
def Lc.den (l : Lc) : Dn := dLc l.f l.tf l.tt l.te (l.own.map (·.2))
/-! ### methods of built-in types -/
inductive Mf where
  | upper | join | append | extend | pop
def Mf.name : Mf → Str
  | .upper => "upper" | .join => "join" | .append => "append" | .extend => "extend" | .pop => "pop"
def Mf.ty : Mf → TN
  | .upper => .str | .join => .str | .append => .list | .extend => .list | .pop => .list
def Mf.id : Mf → String
  | .upper => "str.upper" | .join => "str.join" | .append => "list.append" | .extend => "list.extend" | .pop => "list.pop"
def upperD : D → List D → Mem → Option (D × Mem)
  | .str x, [], m => if x.length ≤ 5592405 then some (.str (Txt.upper x), m) else none
  | _, _, _ => none
def joinD : D → List D → Mem → Option (D × Mem)
  | .str x, [d], m => ((seqD m d).bind strsOf).bind fun ys => if (ys.map (·.length)).sum + ys.length * x.length ≤ 16777216 then some (.str (Txt.join x ys), m) else none
  | _, _, _ => none
def appendD : D → List D → Mem → Option (D × Mem)
  | .ref n, [d], m => match m[n]? with
    | some (some (.lst xs)) => if xs.length < sizeLine then some (.non, m.set n (some (.lst (xs ++ [d])))) else none
    | _ => none
  | _, _, _ => none
def extendD : D → List D → Mem → Option (D × Mem)
  | .ref n, [d], m => match m[n]?, lstD m d with
    | some (some (.lst xs)), some ys => if xs.length + ys.length ≤ sizeLine then some (.non, m.set n (some (.lst (xs ++ ys)))) else none
    | _, _ => none
  | _, _, _ => none
def popD : D → List D → Mem → Option (D × Mem)
  | .ref n, [], m => match m[n]? with
    | some (some (.lst xs)) => (xs[xs.length - 1]?).map fun y => (y, m.set n (some (.lst xs.dropLast)))
    | _ => none
  | _, _, _ => none
def Mf.den : Mf → D → List D → Mem → Option (D × Mem)
  | .upper => upperD
  | .join => joinD
  | .append => appendD
  | .extend => extendD
  | .pop => popD
def mfs : List Mf := [.upper, .join, .append, .extend, .pop]
def mfOf (x : Str) (t : TN) : Option Mf := mfs.find? fun f => f.name == x && f.ty == t
def dMt (x : Str) (da : Dn) (r : DnL) : Dn := fun p m => (da p m).bind fun d m => match (tyD m d).bind (mfOf x) with
  | some f => (r p m).bind fun ds m => Res.of (f.den d ds m)
  | none => .bad
def stepE (r : Tr) (c : Ct) : Expr → Option Dn
  | .Name x _ => nameD c x
  | .Constant q _ _ => constD q
  | .BinOp a op b _ => (match binF op, r.E c a, r.E c b with
    | some f, some x, some y => some (dOp f x y)
    | _, _, _ => none)
  | .UnaryOp .USub a _ => (r.E c a).map (dUn negD)
  | .UnaryOp .Not a _ => (r.E c a).map dNot
  | .BoolOp .And es _ => boolD r c dAnd es
  | .BoolOp .Or es _ => boolD r c dOr es
  | .Compare a [op] [b] _ => if isSet b then none else (match cmpF op, r.E c a, r.E c b with
    | some f, some x, some y => some (dOp f x y)
    | _, _, _ => none)
  | .Compare a [op, op'] [b, d] _ => if isSet d then none else (match cmpF op, cmpF op', r.E c a, r.E c b, r.E c d with
    | some f, some f', some x, some y, some z => some (dCh f f' x y z)
    | _, _, _, _, _ => none)
  | .IfExp t a b _ => (match r.T c t, r.E c a, r.E c b with
    | some f, some x, some y => some (dIf f x y)
    | _, _, _ => none)
  | .Tuple es _ _ => (esD (r.E c) es).map dTup
  | .List es _ => (esD (r.E c) es).map dLst
  | .Dict [] [] _ => some (dC (.dct [] []))
  | .Subscript a (.Slice lo hi none _) _ => (match r.E c a, poD r c lo, poD r c hi with
    | some x, some l, some h => some (dSl x l h)
    | _, _, _ => none)
  | .Subscript a b _ => if isSlice b then none else (match r.E c a, r.E c b with
    | some x, some y => some (dOp ixD x y)
    | _, _ => none)
  | .Call (.Name x _) args [] _ => callD r c x args
  | .Call (.Attribute o m ap) args [] cp => if isCall0 o || !(ap.endLine == cp.line) || !(mfs.any fun f => f.name == m) || !decide (args.length < 30) then none else (match r.E c o, esD (r.E c) args with
    | some x, some y => some (dMt m x y)
    | _, _ => none)
  | .ListComp elt [⟨tg, iter, ifs, 0⟩] scope _ => (lcD r c elt tg iter ifs scope).map Lc.den
  | _ => none
def stepT (r : Tr) (c : Ct) (e : Expr) : Option DnB := match e with
  | .UnaryOp .Not a _ => (r.T c a).map bNot
  | .BoolOp .And es _ => boolB r c bAnd es
  | .BoolOp .Or es _ => boolB r c bOr es
  | .Compare a [op] [b] _ => if isSet b then none else (match cmpF op, r.E c a, r.E c b with
    | some f, some x, some y => some (bVal (dOp f x y))
    | _, _, _ => none)
  | .Compare a [op, op'] [b, d] _ => if isSet d then none else (match cmpF op, cmpF op', r.E c a, r.E c b, r.E c d with
    | some f, some f', some x, some y, some z => some (bVal (dCh f f' x y z))
    | _, _, _, _, _ => none)
  | e => if isTest e then none else (r.E c e).map bTru
def tgsD (f : Expr → Option (TgF × List Nat)) : List Expr → Option ((List D → Sl → Option Sl) × List Nat)
  | [] => some (tgNil, [])
  | e :: es => if isStar e then none else match f e, tgsD f es with
    | some (x, l), some (xs, ls) => some (tgCons x xs, l ++ ls)
    | _, _ => none
def stepG (r : Tr) (c : Ct) : Expr → Option (TgF × List Nat)
  | .Name x _ => (match c.sc.names.lookup x, slot c.N x with
    | some .local, some i => some (tgN i, [i])
    | some .cell, some i => if c.fn x then some (tgN i, [i]) else none
    | _, _ => none)
  | .Tuple es _ _ => (tgsD (r.G c) es).map fun (f, l) => (tgT es.length f, l)
  | _ => none
def ssD (f : Stmt → Option DnS) : List Stmt → Option DnS
  | [] => some sNext
  | s :: ss => match f s, ssD f ss with
    | some x, some xs => some (sSeq x xs)
    | _, _ => none
/-- two names at once -/
def parD (c : Ct) (r : Tr) (x y a b : Expr) (sl : Nat) : Option DnS := match x, y with
  | .Name nx px, .Name ny py => if nx = ny ∨ !(px.line == py.line) ∨ (foldedForSure 8 a && foldedForSure 8 b) ∨ (constantsAlone 8 a && constantsAlone 8 b) ∨ isStar a ∨ isStar b then none else
    (match c.sc.names.lookup nx, c.sc.names.lookup ny, slot c.N nx, slot c.N ny, r.E c a, r.E c b with
    | some .local, some .local, some i, some j, some da, some db => some (sPar i j (dCons da (dCons db dNil)))
    | _, _, _, _, _, _ => none)
  | _, _ => none
def newD (r : Tr) (c : Ct) : Expr → Option Dn
  | .List es _ => (esD (r.E c) es).map dNew
  | _ => none
def stepS (r : Tr) (c : Ct) : Stmt → Option DnS
  | .Pass _ => some sNext
  | .Break _ => some fun p m => .bk p m
  | .Continue _ => some fun p m => .ct p m
  | .Return none _ => some fun _ m => .rt .non m
  | .Return (some e) _ => (if c.mtR then newD r c e else r.E c e).map sRet
  | .Expr e _ => if isComp e then none else (r.E c e).map sExpr
  | .If t a b _ => (match r.T c t, ssD (r.S c) a, ssD (r.S c) b with
    | some f, some x, some y => some (sIf f x y)
    | _, _, _ => none)
  | .While t b [] _ => (match r.T c t, ssD (r.S c) b with
    | some f, some x => some (whileD f x c.wf)
    | _, _ => none)
  | .For tg it b [] _ => if isSet it then none else (match itD r c it, r.G c tg, ssD (r.S c) b with
    | some f, some (tf, _), some x => some (sFor f tf x)
    | _, _, _ => none)
  | .Assign [.Subscript o i _] e _ => if isComp e || isSlice i then none else (match r.E c e, r.E c o, r.E c i with
    | some v, some x, some y => some (sSub v x y setD)
    | _, _, _ => none)
  | .Assign [.Tuple [x, y] _ _] (.Tuple [a, b] _ _) p => parD c r x y a b p.line
  | .Assign [.Name x px] (.ListComp elt [⟨tg, iter, ifs, 0⟩] scope q) _ => (match c.sc.names.lookup x, slot c.N x, lcD r c elt tg iter ifs scope with
    | some .local, some i, some l => if (px.line == q.line) && !(scope.names.any fun (n, kd) => n == x && (kd == .local || kd == .cell)) then some (sAsg l.den (tgN i)) else none
    | _, _, _ => none)
  | .Assign [tg] e _ => if isComp e || isTup e || isStar tg then none else (match r.G c tg, (match tg with | .Name x _ => if c.mt.contains x then newD r c e else r.E c e | _ => r.E c e) with
    | some (f, _), some v => some (sAsg v f)
    | _, _ => none)
  | _ => none
def tr : Nat → Tr
  | 0 => ⟨fun _ _ => none, fun _ _ => none, fun _ _ => none, fun _ _ => none⟩
  | n + 1 => ⟨stepE (tr n), stepT (tr n), stepG (tr n), stepS (tr n)⟩

/-! ### it is right -/
structure Snd (r : Tr) : Prop where
  E : ∀ {X : Cx} {g : Cf} {c : Ct} {k : Nat} {W : WX}, Fk X g c k W → ∀ e f, r.E c e = some f → PE X e (tD g W f)
  T : ∀ {X : Cx} {g : Cf} {c : Ct} {k : Nat} {W : WX}, Fk X g c k W → ∀ e f, r.T c e = some f → PT X e (tDB g W f)
  G : ∀ {X : Cx} {g : Cf} {c : Ct} {k : Nat} {W : WX}, Fk X g c k W → ∀ e f l, r.G c e = some (f, l) → PG X e (gD g f l)
  S : ∀ {X : Cx} {g : Cf} {c : Ct} {k : Nat} {W : WX}, Fk X g c k W → ∀ e f, r.S c e = some f → PS X e (tDS g W f)

section
variable {X : Cx} {g : Cf} {c : Ct} {k : Nat} {W : WX} {r : Tr}
theorem esD_star {f : Expr → Option Dn} : ∀ {es : List Expr} {d : DnL}, esD f es = some d → es.all (fun e => !isStar e) = true
  | [], d, h => rfl
  | e :: es, d, h => by
    simp only [esD] at h
    split at h
    · cases h
    · rename_i hs
      split at h
      · rename_i x xs e1 e2
        rw [List.all_cons, esD_star e2]
        simp [hs]
      · cases h
theorem esD_ok (h0 : ∀ e f, r.E c e = some f → PE X e (tD g W f)) : ∀ {es : List Expr} {d : DnL}, esD (r.E c) es = some d → PA X es (tDL g W d)
  | [], d, h => by cases h; exact a_nil
  | e :: es, d, h => by
    simp only [esD] at h
    split at h
    · cases h
    · rename_i hs
      split at h
      · rename_i x xs e1 e2
        cases h
        exact a_cons (h0 e x e1) (esD_ok h0 e2) (star_no (by simpa using hs))
      · cases h
theorem gl_of (F : Fk X g c k W) {x : Str} (h : isGlob c x = true) : Gl X x := by
  unfold isGlob at h
  split at h
  · rename_i e
    show X.env.scope.names.lookup x = some .globalImplicit
    rw [F.hsc]; exact e
  · cases h
theorem name_ok (F : Fk X g c k W) {x : Str} {pos : Pos} {f : Dn} (h : nameD c x = some f) : PE X (.Name x pos) (tD g W f) := by
  unfold nameD at h
  split at h
  · cases h
  · rename_i ho
    have ho : own x = false := by simpa using ho
    obtain ⟨o1, o2, o3⟩ := own_no ho
    split at h
    · rename_i e
      have hg : Gl X x := by show X.env.scope.names.lookup x = _; rw [F.hsc]; exact e
      split at h
      · rename_i d e2
        cases h
        obtain ⟨v, u, m1, m2, m3⟩ := F.T.cst x d e2
        exact e_c (pe_glob hg m1 m2 o1) m3
      · rename_i e2
        obtain ⟨t, e3, rfl⟩ := Option.map_eq_some_iff.mp h
        exact e_ty e3 hg (F.T.free x e2) ho
      · cases h
    · rename_i kd _ e
      split at h
      · rename_i hv
        obtain ⟨i, e3, rfl⟩ := Option.map_eq_some_iff.mp h
        refine e_var (by rw [F.hN]; exact slot_at e3) ?_ o1 o2
        unfold Vis
        rw [F.hsc, e]
        cases kd <;> first | exact .inl rfl | exact .inr (.inl rfl) | exact .inr (.inr rfl) | (simp [isVis] at hv)
      · cases h
    · cases h
theorem call_ok (F : Fk X g c k W) (h0 : ∀ e f, r.E c e = some f → PE X e (tD g W f)) {x : Str} {p pos : Pos} {args : List Expr} {f : Dn} (h : callD r c x args = some f) : PE X (.Call (.Name x p) args [] pos) (tD g W f) := by
  unfold callD at h
  split at h
  · cases h
  · rename_i ho
    simp only [Bool.or_eq_true, Bool.not_eq_true', not_or, Bool.not_eq_true, Bool.not_eq_false] at ho
    obtain ⟨ho, hgl⟩ := ho
    obtain ⟨o1, o2, o3⟩ := own_no ho
    have hg := gl_of F hgl
    split at h
    · rename_i i n e
      split at h
      · rename_i hn
        cases h
        subst hn
        obtain ⟨j, fa, fd, ps, hj, m1, m2, m3, m4⟩ := F.T.fn x i 0 e
        exact e_call0 F.tk m4 (F.G.room.mono hj) F.G.gd hg m1 m2 m3 o1
      · cases h
    · rename_i i n a es e
      obtain ⟨xs, e2, rfl⟩ := Option.map_eq_some_iff.mp h
      obtain ⟨j, fa, fd, ps, hj, m1, m2, m3, m4⟩ := F.T.fn x i n e
      have hs := esD_star e2
      rw [List.all_cons, Bool.and_eq_true] at hs
      exact e_call F.tk m4 (F.G.room.mono hj) F.G.gd hg m1 m2 m3 (esD_ok h0 e2) o1 (star_no (by simpa using hs.1)) (star_any hs.2)
    · rename_i a es e
      split at h
      · rename_i b xs e1 e2
        cases h
        exact e_bf F.G e1 hg (F.T.free x e) ho (esD_ok h0 e2) (esD_star e2)
      · cases h
    · cases h
theorem bool_and (F : Fk X g c k W) (h0 : ∀ e f, r.E c e = some f → PE X e (tD g W f)) {pos : Pos} : ∀ {es : List Expr} {f : Dn}, boolD r c dAnd es = some f → PE X (.BoolOp .And es pos) (tD g W f)
  | [], f, h => by simp [boolD] at h
  | [a], f, h => e_one (h0 a f h)
  | a :: b :: es, f, h => by
    simp only [boolD] at h
    split at h
    · rename_i x y e1 e2
      cases h
      exact e_and F.G.gK (h0 a x e1) (bool_and F h0 e2)
    · cases h
theorem bool_or (F : Fk X g c k W) (h0 : ∀ e f, r.E c e = some f → PE X e (tD g W f)) {pos : Pos} : ∀ {es : List Expr} {f : Dn}, boolD r c dOr es = some f → PE X (.BoolOp .Or es pos) (tD g W f)
  | [], f, h => by simp [boolD] at h
  | [a], f, h => e_one (h0 a f h)
  | a :: b :: es, f, h => by
    simp only [boolD] at h
    split at h
    · rename_i x y e1 e2
      cases h
      exact e_or F.G.gK (h0 a x e1) (bool_or F h0 e2)
    · cases h
theorem boolB_and (h0 : ∀ e f, r.T c e = some f → PT X e (tDB g W f)) {pos : Pos} : ∀ {es : List Expr} {f : DnB}, boolB r c bAnd es = some f → PW X (.BoolOp .And es pos) (tDB g W f)
  | [], f, h => by simp [boolB] at h
  | [a], f, h => w_and1 (h0 a f h)
  | a :: b :: es, f, h => by
    simp only [boolB] at h
    split at h
    · rename_i x y e1 e2
      cases h
      exact w_and (h0 a x e1) (boolB_and h0 e2)
    · cases h
theorem boolB_or (h0 : ∀ e f, r.T c e = some f → PT X e (tDB g W f)) {pos : Pos} : ∀ {es : List Expr} {f : DnB}, boolB r c bOr es = some f → PW X (.BoolOp .Or es pos) (tDB g W f)
  | [], f, h => by simp [boolB] at h
  | [a], f, h => w_or1 (h0 a f h)
  | a :: b :: es, f, h => by
    simp only [boolB] at h
    split at h
    · rename_i x y e1 e2
      cases h
      exact w_or (h0 a x e1) (boolB_or h0 e2)
    · cases h
theorem po_ok (h0 : ∀ e f, r.E c e = some f → PE X e (tD g W f)) {o : Option Expr} {f : Option Dn} (h : poD r c o = some f) : PO X o (tPo g W f) := by
  cases o with
  | none => cases h; exact p_none
  | some e =>
    obtain ⟨x, e1, rfl⟩ := Option.map_eq_some_iff.mp h
    exact p_some (h0 e x e1)
theorem it_ok (F : Fk X g c k W) (h0 : ∀ e f, r.E c e = some f → PE X e (tD g W f)) {tg e : Expr} {f : DnL} (h : itD r c e = some f) : PI X tg e (iD g W f) := by
  have val : ∀ {e : Expr} {f : DnL}, (r.E c e).map iVal = some f → PI X tg e (iD g W f) := fun {e f} h => by
    obtain ⟨x, e1, rfl⟩ := Option.map_eq_some_iff.mp h
    exact i_val F.G.gK (h0 e x e1)
  unfold itD at h
  split at h
  · rename_i x p a q
    split at h
    · rename_i hc
      obtain ⟨rfl, hg, hs⟩ := hc
      split at h
      · rename_i y e1 e2
        cases h
        exact i_range1 (gl_of F hg) (F.T.free _ e1) (a_cons (h0 a y e2) a_nil (star_no hs)) (star_no hs)
      · cases h
    · exact val h
  · rename_i x p a b q
    split at h
    · rename_i hc
      obtain ⟨rfl, hg, hs, hs2⟩ := hc
      split at h
      · rename_i y z e1 e2 e3
        cases h
        exact i_range2 (gl_of F hg) (F.T.free _ e1) (a_cons (h0 a y e2) (a_cons (h0 b z e3) a_nil (star_no hs2)) (star_no hs)) (by rw [star_no hs, star_no hs2]; rfl) (star_no hs2)
      · cases h
    · exact val h
  · exact val h
theorem blk_ok (F : Fk X g c k W) {scope : Scope} {o : List (Str × Nat)} (hb : BlkOk c.N c.sc scope o) (s : Shared) (H : Hp) (C : Addr) (cl : List (Str × Addr)) (fp : List Addr) : Fk (X.blk s H scope (compEnvC scope cl C X.env) fp) g (c.blk scope) k W0 := by
  refine ⟨F.G.blk _ _ _ _ _, F.hN, ?_, hb.kind, fun x h => h, takes0, PassesOwn.never, ⟨F.T.fn, F.T.cst, F.T.free⟩⟩
  show relS scope X.env.scope = relS scope c.sc
  rw [F.hsc]
structure LcOk (X : Cx) (g : Cf) (W : WX) (elt tg iter : Expr) (ifs : List Expr) (scope : Scope) (l : Lc) (ls : List Nat) : Prop where
  hi : PI X tg iter (iD g W l.f)
  bk : BlkOk X.N X.env.scope scope l.own
  hg : ∀ (s : Shared) (H : Hp) (C : Addr) (cl : List (Str × Addr)) (fp : List Addr), PG (X.blk s H scope (compEnvC scope cl C X.env) fp) tg (gD g l.tf ls)
  ht : ∀ (s : Shared) (H : Hp) (C : Addr) (cl : List (Str × Addr)) (fp : List Addr), PTs (X.blk s H scope (compEnvC scope cl C X.env) fp) ifs (tDB g W0 l.tt)
  he : ∀ (s : Shared) (H : Hp) (C : Addr) (cl : List (Str × Addr)) (fp : List Addr), PE (X.blk s H scope (compEnvC scope cl C X.env) fp) elt (tD g W0 l.te)
  hs : ∀ x, foldedSetIterable iter X.env x = pure x
  hl : ∀ i ∈ ls, i ∈ l.own.map (·.2)
theorem PTs.imp {X : Cx} {ifs : List Expr} {t t' : TT} (h : PTs X ifs t) (k : ∀ σ H Q, t' σ H Q → t σ H Q) : PTs X ifs t' := ⟨fun pins s σ H Q I hw => h.run pins s σ H Q I (k σ H Q hw)⟩
theorem lc_ok (R : Snd r) (F : Fk X g c k W) {elt tg iter : Expr} {ifs : List Expr} {scope : Scope} {l : Lc} (h : lcD r c elt tg iter ifs scope = some l) : ∃ ls, LcOk X g W elt tg iter ifs scope l ls := by
  unfold lcD at h
  simp only at h
  split at h
  · rename_i hc
    simp only [Bool.and_eq_true, Bool.not_eq_true'] at hc
    split at h
    · rename_i f tf ls tt te e1 e2 e3 e4
      split at h
      · rename_i hl
        cases h
        have hb := blkOk_by hc.1
        refine ⟨ls, it_ok F (R.E F) e1, by rw [F.hN, F.hsc]; exact hb, fun s H C cl fp => R.G (blk_ok F hb s H C cl fp) _ _ _ e2, fun s H C cl fp => ?_, fun s H C cl fp => R.E (blk_ok F hb s H C cl fp) _ _ e4, no_fold hc.2, fun i hi => ?_⟩
        · match ifs, e3 with
          | [], e3 =>
            cases e3
            refine PTs.imp pts_nil fun σ H Q ⟨w, p, e, ok, rs, h⟩ => ?_
            subst e
            exact h w rfl ok (Ex.refl _)
          | [t], e3 => exact pts_one (R.T (blk_ok F hb s H C cl fp) _ _ e3)
          | _ :: _ :: _, e3 => cases e3
        · have := List.all_eq_true.mp hl i hi
          simpa using this
      · cases h
    · cases h
  · cases h
theorem tgs_ok (h0 : ∀ e f l, r.G c e = some (f, l) → PG X e (gD g f l)) : ∀ {es : List Expr} {f : List D → Sl → Option Sl} {l : List Nat}, tgsD (r.G c) es = some (f, l) → PGs X es (gDs g f l) ∧ (assignEach es X.env).length = es.length ∧ (assignEach es X.env).findIdx? (·.1) = none
  | [], f, l, h => by cases h; exact ⟨gs_nil, rfl, rfl⟩
  | e :: es, f, l, h => by
    simp only [tgsD] at h
    split at h
    · cases h
    · rename_i hs
      have hs : isStar e = false := by simpa using hs
      split at h
      · rename_i x lx xs ls e1 e2
        cases h
        obtain ⟨a1, a2, a3⟩ := tgs_ok h0 e2
        refine ⟨gs_cons (h0 e x lx e1) a1 (by rw [each_cons hs]; rfl), by rw [each_cons hs, List.length_cons, a2, List.length_cons], ?_⟩
        rw [each_cons hs, List.findIdx?_cons, a3]
        rfl
      · cases h
theorem ss_ok (h0 : ∀ e f, r.S c e = some f → PS X e (tDS g W f)) : ∀ {ss : List Stmt} {f : DnS}, ssD (r.S c) ss = some f → PSs X ss (tDS g W f)
  | [], f, h => by cases h; exact s_nil
  | e :: es, f, h => by
    simp only [ssD] at h
    split at h
    · rename_i x xs e1 e2
      cases h
      exact s_cons (h0 e x e1) (ss_ok h0 e2)
    · cases h
end
end Rf

namespace Rf
open PySem L2
section
variable {X : Cx} {g : Cf} {c : Ct} {k : Nat} {W : WX} {r : Tr} {a b : Expr} {da db : Dn} {pos ap cp : Pos}
/-- the reading may be chosen where one stands -/
theorem PE.pick {e : Expr} {t' : TE} (h : ∀ σ H Q, t' σ H Q → ∃ t, PE X e t ∧ t σ H Q) : PE X e t' := ⟨fun pins s σ H Q I hw => let ⟨t, p, q⟩ := h σ H Q hw; p.run pins s σ H Q I q⟩
def rMt (g : Cf) (f : D → List D → Mem → Option (D × Mem)) : V → List V → Hp → VK → Prop := fun v vs H Q => ∃ (w : Wd) (d : D) (ds : List D), w.hp = H ∧ w.Ok g ∧ RelD g w d v ∧ RelDs g w ds vs ∧ SatO g w (f d ds w.mm) (fun v w' => Q v w'.hp)
theorem m_upper : MtR X "str.upper" (rMt g upperD) := by
  refine MtR.imp mt_upper fun v vs H Q ⟨w, d, ds, e, ok, r1, r2, s⟩ => ?_
  subst e
  match d, ds, r1, r2, s with
  | .str x, [], r1, r2, s =>
    simp only [RelD] at r1
    simp only [RelDs] at r2
    simp only [upperD] at s
    split at s
    · rename_i hz
      exact ⟨x, r1, r2, hz, s w _ rfl ok (Ex.refl _) rel_str⟩
    · exact s.elim
  | .str _, _ :: _, _, _, s => exact s.elim
  | .non, _, _, _, s => exact s.elim
  | .bl _, _, _, _, s => exact s.elim
  | .int _, _, _, _, s => exact s.elim
  | .tup _, _, _, _, s => exact s.elim
  | .lst _, _, _, _, s => exact s.elim
  | .scr _, _, _, _, s => exact s.elim
  | .dct _ _, _, _, _, s => exact s.elim
  | .obj _ _ _, _, _, _, s => exact s.elim
  | .ref _, _, _, _, s => exact s.elim
  | .ty _, _, _, _, s => exact s.elim
theorem m_join (gK : g.K = X.K) : MtR X "str.join" (rMt g joinD) := by
  refine MtR.imp mt_join fun v vs H Q ⟨w, d, ds, e, ok, r1, r2, s⟩ => ?_
  subst e
  unfold joinD at s
  split at s
  · rename_i _ x d2
    obtain ⟨u, rfl, r3⟩ := rel1 r2
    simp only [RelD] at r1
    cases e2 : (seqD w.mm d2).bind strsOf with
    | none => rw [e2] at s; exact s.elim
    | some ys =>
      rw [e2] at s
      simp only [Option.bind_some] at s
      obtain ⟨xs, e3, e4⟩ := Option.bind_eq_some_iff.mp e2
      obtain ⟨a, vs, rfl, t, r4⟩ := seq_rel gK ok r3 e3
      have := strs_rel r4 e4
      subst this
      split at s
      · rename_i hz
        exact ⟨x, a, ys, r1, rfl, t, hz, s w _ rfl ok (Ex.refl _) rel_str⟩
      · exact s.elim
  · exact s.elim
theorem m_append : MtR X "list.append" (rMt g appendD) := by
  refine MtR.imp (r := rAppend) mt_append fun v vs H Q ⟨w, d, ds, e, ok, r1, r2, s⟩ => ?_
  subst e
  unfold appendD at s
  split at s
  · rename_i _ n d2
    obtain ⟨u, rfl, r3⟩ := rel1 r2
    simp only [RelD] at r1
    obtain ⟨a, rfl, ha⟩ := r1
    split at s
    · rename_i xs e0
      split at s
      · rename_i hz
        obtain ⟨vs, h1, h2⟩ := ok.obj n _ a e0 ha
        have ex := Wd.put_ex (w := w) (n := n) (a := a) (o := .lst (vs ++ [u])) (ob := .lst (xs ++ [d2])) e0 ha
        exact ⟨a, vs, u, rfl, rfl, h1, by rw [h2.length]; exact hz, s (w.put n a (.lst (vs ++ [u])) (.lst (xs ++ [d2]))) _ rfl (ok.put e0 ha ⟨_, upd_same, RelDs.mono ex _ _ (h2.append (RelDs.one r3))⟩) ex rel_non⟩
      · exact s.elim
    · exact s.elim
  · exact s.elim
theorem m_extend : MtR X "list.extend" (rMt g extendD) := by
  refine MtR.imp (r := rExtend) mt_extend fun v vs H Q ⟨w, d, ds, e, ok, r1, r2, s⟩ => ?_
  subst e
  unfold extendD at s
  split at s
  · rename_i _ n d2
    obtain ⟨u, rfl, r3⟩ := rel1 r2
    simp only [RelD] at r1
    obtain ⟨a, rfl, ha⟩ := r1
    split at s
    · rename_i xs ys e0 e1
      split at s
      · rename_i hz
        obtain ⟨vs, h1, h2⟩ := ok.obj n _ a e0 ha
        obtain ⟨b, us, rfl, hb, h3⟩ := lst_rel ok r3 e1
        have ex := Wd.put_ex (w := w) (n := n) (a := a) (o := .lst (vs ++ us)) (ob := .lst (xs ++ ys)) e0 ha
        exact ⟨a, b, vs, us, rfl, rfl, h1, hb, by rw [h2.length, h3.length]; exact hz, s (w.put n a (.lst (vs ++ us)) (.lst (xs ++ ys))) _ rfl (ok.put e0 ha ⟨_, upd_same, RelDs.mono ex _ _ (h2.append h3)⟩) ex rel_non⟩
      · exact s.elim
    · exact s.elim
  · exact s.elim
theorem RelDs.dropLast {w : Wd} {ds : List D} {vs : List V} (h : RelDs g w ds vs) : RelDs g w ds.dropLast vs.dropLast := by
  rw [List.dropLast_eq_take, List.dropLast_eq_take, h.length]
  exact h.take _
theorem m_pop : MtR X "list.pop" (rMt g popD) := by
  refine MtR.imp (r := rPop) mt_pop fun v vs H Q ⟨w, d, ds, e, ok, r1, r2, s⟩ => ?_
  subst e
  unfold popD at s
  split at s
  · rename_i _ n
    simp only [RelDs] at r2
    simp only [RelD] at r1
    obtain ⟨a, rfl, ha⟩ := r1
    split at s
    · rename_i xs e0
      cases e1 : xs[xs.length - 1]? with
      | none => rw [e1] at s; exact s.elim
      | some y =>
        rw [e1] at s
        obtain ⟨vs, h1, h2⟩ := ok.obj n _ a e0 ha
        obtain ⟨u, h3, h4⟩ := h2.get e1
        have ex := Wd.put_ex (w := w) (n := n) (a := a) (o := .lst vs.dropLast) (ob := .lst xs.dropLast) e0 ha
        exact ⟨a, vs, u, rfl, r2, h1, by rw [h2.length]; exact h3, s (w.put n a (.lst vs.dropLast) (.lst xs.dropLast)) _ rfl (ok.put e0 ha ⟨_, upd_same, RelDs.mono ex _ _ h2.dropLast⟩) ex (RelD.mono ex _ _ h4)⟩
    · exact s.elim
  · exact s.elim
theorem mf_ok (gK : g.K = X.K) : ∀ f : Mf, MtR X f.id (rMt g f.den)
  | .upper => m_upper
  | .join => m_join gK
  | .append => m_append
  | .extend => m_extend
  | .pop => m_pop
theorem mf_pa : ∀ f : Mf, PlainAttrs f.ty.name ∧ Slot f.ty.name f.name f.id ∧ typeOf (.builtin f.id) = pure (.type "method_descriptor")
  | .upper => ⟨PySem.F.plainAttrs_str, PySem.F.slot_str_upper, PySem.F.type_str_upper⟩
  | .join => ⟨PySem.F.plainAttrs_str, PySem.F.slot_str_join, PySem.F.type_str_join⟩
  | .append => ⟨PySem.F.plainAttrs_list, PySem.F.slot_list_append, PySem.F.type_list_append⟩
  | .extend => ⟨PySem.F.plainAttrs_list, PySem.F.slot_list_extend, PySem.F.type_list_extend⟩
  | .pop => ⟨PySem.F.plainAttrs_list, PySem.F.slot_list_pop, PySem.F.type_list_pop⟩
theorem tyV_of {w : Wd} {d : D} {v : V} {t : TN} (ok : w.Ok g) (r : RelD g w d v) (h : tyD w.mm d = some t) (hm : t = .str ∨ t = .list) : tyV X.K t.name v w.hp := by
  cases d <;> simp only [tyD] at h <;> first | (cases h; done) | skip
  · cases h; rcases hm with z | z <;> cases z
  · cases h; rcases hm with z | z <;> cases z
  · cases h; rcases hm with z | z <;> cases z
  · cases h; simp only [RelD] at r; subst r; exact rfl
  · cases h; rcases hm with z | z <;> cases z
  · cases h
    simp only [RelD] at r
    obtain ⟨a, vs, rfl, t, _⟩ := r
    exact .inl ⟨rfl, vs, t.sq⟩
  · cases h; rcases hm with z | z <;> cases z
  · simp only [RelD] at r
    obtain ⟨a, rfl, ha⟩ := r
    split at h
    · rename_i e0
      cases h
      obtain ⟨vs, h1, _⟩ := ok.obj _ _ a e0 ha
      exact .inl ⟨rfl, vs, .of h1⟩
    · cases h; rcases hm with z | z <;> cases z
    · cases h
theorem mf_ty : ∀ f : Mf, f.ty = .str ∨ f.ty = .list
  | .upper => .inl rfl
  | .join => .inl rfl
  | .append => .inr rfl
  | .extend => .inr rfl
  | .pop => .inr rfl
theorem star_few {pos : Pos} {env : Env} : ∀ {es : List Expr}, es.all (fun e => !isStar e) = true → (backTo pos (starEach es env)).all (fun x => !x.1) = true
  | [], _ => rfl
  | e :: es, h => by
    rw [List.all_cons, Bool.and_eq_true] at h
    have h1 : isStar e = false := by simpa using h.1
    rw [star_no h1]
    show (!false && (backTo pos (starEach es env)).all (fun x => !x.1)) = true
    rw [star_few h.2]; rfl
theorem e_mt {m : Str} {args : List Expr} {d : DnL} (gK : g.K = X.K) (ha : PE X a (tD g W da)) (hb : isCall0 a = false) (hl : (ap.endLine == cp.line) = true) (hm : (mfs.any fun f => f.name == m) = true) (hf : args.length < 30) (hs : args.all (fun e => !isStar e) = true) (hd : PA X args (tDL g W d)) (h0 : args = [] → d = dNil) :
    PE X (.Call (.Attribute a m ap) args [] cp) (tD g W (dMt m da d)) := by
  have one : ∀ f : Mf, f.name = m → PE X (.Call (.Attribute a m ap) args [] cp) (tBM X.K f.ty.name (rMt g f.den) (tD g W da) (tDL g W d)) := fun f hn => by
    obtain ⟨pa, sl, ty⟩ := mf_pa f
    rw [hn] at sl
    match args, hs, hd, hf, h0 with
    | [], _, _, _, h0 =>
      rw [h0 rfl]
      refine PE.imp (pe_bm0 pa sl ty (mf_ok gK f) ha (att_base hb) hl) fun σ H Q h => ?_
      obtain ⟨w, p, e, ok, rs, h⟩ := h
      refine ⟨w, p, e, ok, rs, ?_⟩
      revert h
      refine fun h => h.imp fun v w1 ⟨t1, w2, p2, e2, ok2, rs2, h2⟩ => ⟨t1, ?_⟩
      rw [← e2]
      exact h2 w2 [] rfl ok2 (Ex.refl _) RelDs.nil
    | b :: bs, hs, hd, hf, _ =>
      have hs0 := hs
      rw [List.all_cons, Bool.and_eq_true] at hs
      have h1 : isStar b = false := by simpa using hs.1
      refine pe_bm pa sl ty (mf_ok gK f) ha hd (att_base hb) ?_ hl (star_no h1) (star_any hs.2)
      rw [star_few hs0]
      simp only [keywordEach, backToKw, List.map_nil, List.all_nil, Bool.true_and, List.length_nil, List.isEmpty_nil, if_true, Nat.add_zero, decide_eq_true_eq]
      exact hf
  refine PE.pick fun σ H Q ⟨w, p, e, ok, rs, h⟩ => ?_
  unfold dMt at h
  cases e1 : da p w.mm with
  | bad => simp [e1, Res.bind, Sat] at h
  | exc x m1 =>
    simp only [e1, Res.bind] at h
    obtain ⟨f, _, hn⟩ := List.any_eq_true.mp hm
    exact ⟨_, one f (by simpa using hn), w, p, e, ok, rs, by rw [e1]; exact h⟩
  | ok x m1 =>
    simp only [e1, Res.bind] at h
    cases e2 : (tyD m1 x).bind (mfOf m) with
    | none => rw [e2] at h; exact h.elim
    | some f =>
      rw [e2] at h
      simp only at h
      obtain ⟨t, e3, e4⟩ := Option.bind_eq_some_iff.mp e2
      have e5 := List.find?_some e4
      simp only [Bool.and_eq_true, beq_iff_eq] at e5
      refine ⟨_, one f e5.1, w, p, e, ok, rs, ?_⟩
      rw [e1]
      intro w1 v q1 q2 q3 q4
      subst q1
      refine ⟨?_, w1, p, rfl, q2, rs.mono q3, (Sat.ofL (Sat.ex q3 h)).imp fun vs w2 ⟨ok2, ex2, ds, r2, h2⟩ => ?_⟩
      · rw [e5.2]
        exact tyV_of q2 q4 e3 (by rw [← e5.2]; exact mf_ty f)
      · exact ⟨w2, x, ds, rfl, ok2, RelD.mono ex2 _ _ q4, r2, Sat.toO h2⟩
end
end Rf

namespace Rf
open PySem L2
section
variable {X : Cx} {g : Cf} {c : Ct} {k : Nat} {W : WX} {r : Tr}
theorem e_dict0 {pos : Pos} : PE X (.Dict [] [] pos) (tD g W (dC (.dct [] []))) := by
  refine PE.imp pe_dnewK fun σ H Q ⟨w, p, e, ok, rs, h⟩ => ?_
  subst e
  intro q hq
  exact h (w.lay q (.dK [])) _ rfl (ok.lay hq) (ok.lay_ex hq) (by simp only [RelD]; exact ⟨q, [], rfl, ok.lay_fx hq, rfl, RelDs.nil⟩)
theorem const_ok {q : Const} {j : Nat} {pos : Pos} {f : Dn} (h : constD q = some f) : PE X (.Constant q j pos) (tD g W f) := by
  cases q <;> simp only [constD] at h <;> first | (cases h; done) | skip
  · cases h; exact e_non
  · cases h; exact e_bl
  · cases h; exact e_int
  · cases h; exact e_str
theorem esD_nil {f : Expr → Option Dn} {es : List Expr} {d : DnL} (h : esD f es = some d) (he : es = []) : d = dNil := by
  subst he; cases h; rfl
theorem stepE_ok (R : Snd r) (F : Fk X g c k W) (e : Expr) (f : Dn) (h : stepE r c e = some f) : PE X e (tD g W f) := by
  have h0 := R.E F
  unfold stepE at h
  split at h
  · exact name_ok F h
  · exact const_ok h
  · split at h
    · rename_i fo x y e1 e2 e3
      cases h
      exact e_op (bin_ok F.G.gK e1) (h0 _ _ e2) (h0 _ _ e3)
    · cases h
  · obtain ⟨x, e1, rfl⟩ := Option.map_eq_some_iff.mp h
    exact e_un u_neg (h0 _ _ e1)
  · obtain ⟨x, e1, rfl⟩ := Option.map_eq_some_iff.mp h
    exact e_not F.G.gK (h0 _ _ e1)
  · exact bool_and F h0 h
  · exact bool_or F h0 h
  · split at h
    · cases h
    · rename_i hs
      split at h
      · rename_i fo x y e1 e2 e3
        cases h
        exact e_cmp (cmp_ok F.G e1) (h0 _ _ e2) (h0 _ _ e3) (no_mark (by simpa using hs))
      · cases h
  · split at h
    · cases h
    · rename_i hs
      split at h
      · rename_i fo fo' x y z e1 e2 e3 e4 e5
        cases h
        exact e_ch (cmp_ok F.G e1) (cmp_ok F.G e2) (h0 _ _ e3) (h0 _ _ e4) (h0 _ _ e5) (by simp only [lastMarks]; exact no_mark (by simpa using hs))
      · cases h
  · split at h
    · rename_i t x y e1 e2 e3
      cases h
      exact e_if (R.T F _ _ e1) (h0 _ _ e2) (h0 _ _ e3)
    · cases h
  · obtain ⟨x, e1, rfl⟩ := Option.map_eq_some_iff.mp h
    exact e_tup (esD_ok h0 e1)
  · obtain ⟨x, e1, rfl⟩ := Option.map_eq_some_iff.mp h
    exact e_lst (esD_ok h0 e1)
  · cases h
    exact e_dict0
  · split at h
    · rename_i x l u e1 e2 e3
      cases h
      exact e_sl F.G.gK (h0 _ _ e1) (po_ok h0 e2) (po_ok h0 e3)
    · cases h
  · split at h
    · cases h
    · rename_i hs
      split at h
      · rename_i x y e1 e2
        cases h
        exact e_ix (o_ix F.G.gK) (h0 _ _ e1) (h0 _ _ e2) (plain_ix (by simpa using hs))
      · cases h
  · exact call_ok F h0 h
  · split at h
    · cases h
    · rename_i hs
      simp only [Bool.or_eq_true, Bool.not_eq_true', not_or, Bool.not_eq_true, Bool.not_eq_false, decide_eq_false_iff_not, Decidable.not_not] at hs
      split at h
      · rename_i x y e1 e2
        cases h
        exact e_mt F.G.gK (h0 _ _ e1) hs.1.1.1 hs.1.1.2 hs.1.2 hs.2 (esD_star e2) (esD_ok h0 e2) (esD_nil e2)
      · cases h
  · obtain ⟨l, e1, rfl⟩ := Option.map_eq_some_iff.mp h
    obtain ⟨ls, L⟩ := lc_ok R F e1
    exact e_lc F.G.calm F.G.nd L.hi L.bk L.hg L.ht L.he L.hs L.hl
  · cases h
theorem stepT_ok (R : Snd r) (F : Fk X g c k W) (e : Expr) (f : DnB) (h : stepT r c e = some f) : PT X e (tDB g W f) := by
  have h0 := R.E F
  unfold stepT at h
  split at h
  · obtain ⟨x, e1, rfl⟩ := Option.map_eq_some_iff.mp h
    exact t_not (R.T F _ _ e1)
  · exact (boolB_and (R.T F) h).pt
  · exact (boolB_or (R.T F) h).pt
  · split at h
    · cases h
    · rename_i hs
      split at h
      · rename_i fo x y e1 e2 e3
        cases h
        exact t_cmp (cmp_ok F.G e1) (h0 _ _ e2) (h0 _ _ e3) (no_mark (by simpa using hs))
      · cases h
  · split at h
    · cases h
    · rename_i hs
      split at h
      · rename_i fo fo' x y z e1 e2 e3 e4 e5
        cases h
        exact t_ch (cmp_ok F.G e1) (cmp_ok F.G e2) (h0 _ _ e3) (h0 _ _ e4) (h0 _ _ e5) (by simp only [lastMarks]; exact no_mark (by simpa using hs))
      · cases h
  · split at h
    · cases h
    · rename_i hs
      obtain ⟨x, e1, rfl⟩ := Option.map_eq_some_iff.mp h
      exact t_tru F.G.gK (h0 _ _ e1) (tru_plain (by simpa using hs))
theorem stepG_ok (R : Snd r) (F : Fk X g c k W) (e : Expr) (f : TgF) (l : List Nat) (h : stepG r c e = some (f, l)) : PG X e (gD g f l) := by
  unfold stepG at h
  split at h
  · split at h
    · rename_i i e1 e2
      cases h
      exact g_name F.G.nd (by rw [F.hN]; exact slot_at e2) (.inl (by rw [F.hsc]; exact e1)) (.inr (by rw [F.hsc]; exact e1))
    · rename_i i e1 e2
      split at h
      · rename_i hf
        cases h
        exact g_name F.G.nd (by rw [F.hN]; exact slot_at e2) (.inr (by rw [F.hsc]; exact e1)) (.inl (F.fn _ hf))
      · cases h
    · cases h
  · obtain ⟨⟨f1, l1⟩, e1, e2⟩ := Option.map_eq_some_iff.mp h
    cases e2
    obtain ⟨a1, a2, a3⟩ := tgs_ok (R.G F) e1
    exact g_tup F.G.gK F.G.calm a1 a2 a3
  · cases h
theorem asg_sub {o i : Expr} {p : Pos} {env : Env} {v : Value} (h : isSlice i = false) : assign (.Subscript o i p) env v = (do
      let ov ← holding [v] (eval o env)
      let iv ← holding [v, ov] (eval i env)
      standAt p
      holding [v, ov, iv] (setItem ov iv v)
      release [v, ov, iv] []) := by
  cases i <;> first | rfl | (simp [isSlice] at h)
theorem no_swapS {e t : Expr} {l : Nat} {env : Env} (h : isComp e = false) : swapsWithSole [t] e l env = pure false := no_swap h
theorem any2 {a b : Expr} (f : Expr → Bool) (h : f a = false) (h' : f b = false) : [a, b].any f = false := by simp [h, h']
theorem all2 {a b : Expr} (f : Expr → Bool) (h : (f a && f b) = false) : [a, b].all f = false := by simpa using h
theorem par_sw {nx ny : Str} {px py pt pt2 : Pos} {kt k2 : Nat} {a b : Expr} {env : Env} (hb : env.blockKind = .function) (h1 : env.kindOf nx = some .local) (h2 : env.kindOf ny = some .local) (hl : (px.line == py.line) = true) (hn : ¬ nx = ny)
    (h3 : (foldedForSure 8 a && foldedForSure 8 b) = false) (h4 : (constantsAlone 8 a && constantsAlone 8 b) = false) (h5 : isStar a = false) (h6 : isStar b = false) :
    swappedStores [.Tuple [.Name nx px, .Name ny py] kt pt] (.Tuple [a, b] k2 pt2) env = pure (some [nx, ny]) := by
  have hl' : px.line = py.line := by simpa using hl
  unfold swappedStores
  simp only [List.length_cons, List.length_nil, hb]
  rw [any2 _ ?g1 ?g2]
  case g1 => cases a <;> first | rfl | (simp [isStar] at h5)
  case g2 => cases b <;> first | rfl | (simp [isStar] at h6)
  simp only [List.head?_cons, Option.map_some, Expr.pos, Option.getD_some, List.filterMap_cons, List.filterMap_nil, h1, h2, hl', all2 _ h3, all2 _ h4]
  simp [hn, List.eraseDups_cons, List.eraseDups_nil, Ne.symm hn]
theorem blockK (F : Fk X g c k W) : X.env.blockKind = .function := by
  unfold Env.blockKind
  rw [F.hsc, F.kind]; rfl
theorem stepS_ok (R : Snd r) (F : Fk X g c k W) (e : Stmt) (f : DnS) (h : stepS r c e = some f) : PS X e (tDS g W f) := by
  have h0 := R.E F
  have hnew : ∀ e f, newD r c e = some f → PE X e (tD g W f) := fun e f h => by
    unfold newD at h
    split at h
    · obtain ⟨x, e1, rfl⟩ := Option.map_eq_some_iff.mp h
      exact e_new (esD_ok h0 e1)
    · cases h
  unfold stepS at h
  split at h
  · cases h; exact s_pass
  · cases h; exact s_break
  · cases h; exact s_cont
  · cases h; exact s_retN
  · obtain ⟨x, e1, rfl⟩ := Option.map_eq_some_iff.mp h
    split at e1
    · exact s_ret (hnew _ _ e1)
    · exact s_ret (h0 _ _ e1)
  · split at h
    · cases h
    · rename_i hs
      obtain ⟨x, e1, rfl⟩ := Option.map_eq_some_iff.mp h
      exact s_expr (h0 _ _ e1) (no_swap (by simpa using hs))
  · split at h
    · rename_i t x y e1 e2 e3
      cases h
      exact s_if (R.T F _ _ e1) (ss_ok (R.S F) e2) (ss_ok (R.S F) e3)
    · cases h
  · split at h
    · rename_i t x e1 e2
      cases h
      exact s_while _ F.po (R.T F _ _ e1) (ss_ok (R.S F) e2)
    · cases h
  · split at h
    · cases h
    · rename_i hs
      split at h
      · rename_i fi tf l x e1 e2 e3
        cases h
        exact s_for F.po F.G.calm (it_ok F h0 e1) (R.G F _ _ _ e2) (ss_ok (R.S F) e3) (no_fold (by simpa using hs))
      · cases h
  · split at h
    · cases h
    · rename_i hs
      simp only [Bool.or_eq_true, not_or, Bool.not_eq_true] at hs
      split at h
      · rename_i v x y e1 e2 e3
        cases h
        exact s_sub (h0 _ _ e1) (h0 _ _ e2) (h0 _ _ e3) set_list d_set (no_swapS hs.1) no_par1 rfl fun v => asg_sub hs.2
      · cases h
  · unfold parD at h
    split at h
    · rename_i nx px ny py
      split at h
      · cases h
      · rename_i hs
        simp only [not_or, Bool.not_eq_true, Bool.not_eq_true', Bool.not_eq_false] at hs
        obtain ⟨s1, s2, s3, s4, s5, s6⟩ := hs
        split at h
        · rename_i i j da db e1 e2 e3 e4 e5 e6
          cases h
          have hij : i ≠ j := fun z => by
            subst z
            have a1 := slot_at e3
            have a2 := slot_at e4
            rw [a1] at a2
            exact s1 (Option.some.inj a2)
          refine s_par F.G.calm F.G.nd (by rw [F.hN]; exact slot_at e3) (by rw [F.hN]; exact slot_at e4) hij (by rw [F.hsc]; exact e1) (by rw [F.hsc]; exact e2) (a_cons (h0 _ _ e5) (a_cons (h0 _ _ e6) a_nil (star_no s6)) (star_no s5)) ?_ rfl
          exact par_sw (blockK F) (by unfold Env.kindOf; rw [F.hsc]; exact e1) (by unfold Env.kindOf; rw [F.hsc]; exact e2) s2 s1 s3 s4 s5 s6
        · cases h
    · cases h
  · split at h
    · rename_i i l e1 e2 e3
      split at h
      · rename_i hs
        simp only [Bool.and_eq_true, Bool.not_eq_true'] at hs
        cases h
        obtain ⟨ls, L⟩ := lc_ok R F e3
        refine s_setLc F.G.calm F.G.nd (by rw [F.hN]; exact slot_at e2) (by rw [F.hsc]; exact e1) ?_ L.hi L.bk L.hg L.ht L.he L.hs L.hl
        exact sw_true (by rw [F.hsc]; exact F.kind) (by rw [F.hsc]; exact e1) hs.1 hs.2
      · cases h
    · cases h
  · split at h
    · cases h
    · rename_i hs
      simp only [Bool.or_eq_true, not_or, Bool.not_eq_true] at hs
      split at h
      · rename_i tf l v e1 e2
        cases h
        refine s_asg ?_ (R.G F _ _ _ e1) (no_swapS hs.1.1) (no_par hs.1.2) (each_one hs.2)
        split at e2
        · split at e2
          · exact hnew _ _ e2
          · exact h0 _ _ e2
        · exact h0 _ _ e2
      · cases h
  · cases h
end
theorem tr_ok : ∀ n, Snd (tr n)
  | 0 => ⟨fun _ _ _ h => (by cases h), fun _ _ _ h => (by cases h), fun _ _ _ _ h => (by cases h), fun _ _ _ h => (by cases h)⟩
  | n + 1 => ⟨fun F e f h => stepE_ok (tr_ok n) F e f h, fun F e f h => stepT_ok (tr_ok n) F e f h, fun F e f l h => stepG_ok (tr_ok n) F e f l h, fun F e f h => stepS_ok (tr_ok n) F e f h⟩
end Rf

namespace Rf
open PySem L2 PyProof.Rows

/-! ### the defs of a text -/
structure Df where
  x : Str
  st : Stmt
  N : List Str
  ps : List Str
  mt : List Str
  mtR : Bool
/-- the whole text: its defs, its table, how deep terms may be, how often a while may turn -/
structure Tx where
  ds : List Df
  tab : List (Str × Gk)
  dep : Nat
  wf : Nat
def Tx.ct (t : Tx) (cl : Nat → Fn) (d : Df) : Ct := ⟨d.N, defScope d.st, t.tab, cl, fun _ => true, d.mt, d.mtR, t.wf⟩
def Tx.body (t : Tx) (cl : Nat → Fn) (d : Df) : DnS := (ssD ((tr t.dep).S (t.ct cl d)) (defBody d.st)).getD fun _ _ => .bad
/-- the def with this number, by so many calls within one another -/
def Tx.cl (t : Tx) : Nat → Nat → Fn
  | 0, _ => fun _ _ => .bad
  | k + 1, i => match t.ds[i]? with
    | some d => fnD d.N.length (t.body (t.cl k) d)
    | none => fun _ _ => .bad

/-- what the top has left of them -/
structure Left (t : Tx) (K : PySem.W.Frag) (mg : Str → Option Value) (fa : Nat → Addr) (fd : Nat → FuncData) (g : Cf) : Prop where
  gK : g.K = K
  fn : ∀ i d, t.ds[i]? = some d → Fun K d.x d.x d.st (fa i) (fd i) ∧ Binds K (fd i) d.ps [] ∧ FnScope d.N d.ps (defScope d.st)
  tf : ∀ x i n, t.tab.lookup x = some (.fn i n) → ∃ d, t.ds[i]? = some d ∧ n = d.ps.length ∧ mg x = some (.ref (fa i))
  cst : ∀ x d, t.tab.lookup x = some (.cst d) → ∃ v u, mg x = some u ∧ RelV v u ∧ ∀ w, RelD g w d v
  free : ∀ x, t.tab.lookup x = some .free → mg x = none
theorem bad_ok {P : Program} {w : World} {K : PySem.W.Frag} {mg : Str → Option Value} {base : Heap} {g : Cf} {k n : Nat} {f : Addr} {fd : FuncData} {ps : List Str} (hn : ps.length = n) : FnG P w K mg base k f fd ps (spD g n fun _ _ => .bad) :=
  ⟨fun vs H Q E ⟨w, ds, e, ok, r, hl, _⟩ => by rw [r.length, hl, hn], fun A outer s H args us vs Q E hr hg he hb hv ⟨w, ds, e, ok, r, hl, h⟩ => h.elim⟩
theorem defs_ok {t : Tx} {P : Program} {w : World} {K : PySem.W.Frag} {mg : Str → Option Value} {base : Heap} {fa : Nat → Addr} {fd : Nat → FuncData} {g : Cf} (L : Left t K mg fa fd g) (sm : ∃ o, base.get? sysModules = some o) :
    ∀ k i d, t.ds[i]? = some d → FnG P w K mg base k (fa i) (fd i) d.ps (spD g d.ps.length (t.cl k i))
  | 0, i, d, h => bad_ok rfl
  | k + 1, i, d, h => by
    obtain ⟨F, B, S⟩ := L.fn i d h
    have e : t.cl (k + 1) i = fnD d.N.length (t.body (t.cl k) d) := by simp only [Tx.cl, h]
    rw [e]
    cases q : ssD ((tr t.dep).S (t.ct (t.cl k) d)) (defBody d.st) with
    | none =>
      have eb : fnD d.N.length (t.body (t.cl k) d) = fun _ _ => .bad := by
        funext ds m
        simp only [fnD, Tx.body, q, Option.getD_none]
      rw [eb]
      exact bad_ok rfl
    | some f =>
      have eb : t.body (t.cl k) d = f := by simp only [Tx.body, q, Option.getD_some]
      rw [eb, ← L.gK]
      refine fn_ok (g := g) (by rw [L.gK]; exact F) S rfl fun X W h1 h2 h3 h4 h5 h6 h7 h8 h9 h10 h11 h12 h13 => ?_
      have Fx : Fk X g (t.ct (t.cl k) d) k W := by
        refine ⟨⟨h3.symm, h8, h10, h11, by rw [h5]; exact sm, by rw [h6]; exact S.nd⟩, h6, h7, S.kind, fun x _ => h9 x, h13, h12, ⟨fun x i n e => ?_, fun x d' e => ?_, fun x e => ?_⟩⟩
        · obtain ⟨d', e1, e2, e3⟩ := L.tf x i n e
          obtain ⟨F', B', S'⟩ := L.fn i d' e1
          have ih := defs_ok (P := P) (w := w) (base := base) L sm k i d' e1
          refine ⟨k, fa i, fd i, d'.ps, Nat.le_refl _, by rw [h4]; exact e3, by rw [h3, L.gK]; exact F'.kp, by rw [h3, L.gK]; exact B', ?_⟩
          rw [h1, h2, h3, h4, h5, L.gK, e2]
          exact ih
        · rw [h4]; exact L.cst x d' e
        · rw [h4]; exact L.free x e
      exact ss_ok ((tr_ok t.dep).S Fx) q

/-! ### the law's own call -/
theorem law_g {P : Program} {w : World} {K : PySem.W.Frag} {mg mb : Str → Option Value} {k : Nat} {fa a : Addr} {fd : FuncData} {x : Str} {sp : Sp} {s1 : Shared} {vs : List Value} {ns : List Int}
    (KX : K.In s1.heap) (hns : s1.heap.Ns mainGlobals mg) (hb : s1.heap.Ns builtinsNs mb) (hbb : ∀ x : Str, x ≠ "__name__" → mb x = bootBuiltins x) (hlim : s1.heap.NoLimit) (hg : s1.gens = #[])
    (ha : s1.heap.get? a = some { cls := .type "list", data := .seq vs.toArray }) (hi : IntsAre vs ns) (hl : ns.length ≤ sizeLine) (hr : Room k callerA) (hsm : ∃ o, s1.heap.get? sysModules = some o) (has : a ≠ sysModules)
    (F : ∀ base : Heap, K.In base → base.Ns mainGlobals mg → (∃ o, base.get? sysModules = some o) → FnG P w K mg base k fa fd [x] sp) (hbind : ∀ (s : Shared) (u : Value), BindsTo s fd ⟨[u], []⟩ [(x, u)])
    (hsp : ∀ H : Hp, Only H → ((∃ o, H a = some (.frz o (.lst (ns.map V.int)))) ∨ WrL K a (ns.map V.int)) → sp [.ref a] H (fun v _ => v = .bl true) fun _ _ _ => False) :
    codeAny (model P w) callerA (.call (.ref fa) ⟨[.ref a], []⟩) (fun r s' => r = .ok (.ret (.bool true)) ∧ OldK s1.heap s'.heap ∧ s'.os = s1.os ∧ AllBare s'.gens) s1 := by
  have rv := vals_ints hi
  have lenV := hi.length
  obtain ⟨om, hom⟩ := hsm
  -- an abstract heap that tracks at most the script
  have core : ∀ H : Hp, Only H → ((∃ o, H a = some (.frz o (.lst (ns.map V.int)))) ∨ WrL K a (ns.map V.int)) → HOk P w H s1.heap → (∀ b, b ≠ a → H b = none) → (H a ≠ none → K.lookup a = none) →
      codeAny (model P w) callerA (.call (.ref fa) ⟨[.ref a], []⟩) (fun r s' => r = .ok (.ret (.bool true)) ∧ OldK s1.heap s'.heap ∧ s'.os = s1.os ∧ AllBare s'.gens) s1 := by
    intro H hO hS hok hA hK
    have keepNs : ∀ {b : Addr} {m : Str → Option Value}, s1.heap.Ns b m → (hidT s1.heap H).Ns b m := fun {b m} ⟨o, es, ep, e, d, rest⟩ => by
      refine ⟨o, es, ep, hidT_get e (hA b fun z => ?_), d, rest⟩
      rw [z, ha] at e
      cases e
      cases (show Data.seq vs.toArray _ = Data.dict es ep from d)
    have hKb : K.In (hidT s1.heap H) := fun b o e => by
      refine hidT_get (KX b o e) ?_
      by_cases hb : b = a
      · subst hb
        cases q : H b with
        | none => rfl
        | some u =>
          rw [hK (by rw [q]; simp)] at e
          cases e
      · exact hA b hb
    have lim : (hidT s1.heap H).NoLimit := let ⟨mc, l1, l2⟩ := hlim; ⟨mc, keepNs l1, l2⟩
    have M : Mod K mg (hidT s1.heap H) := ⟨hKb, keepNs hns, ⟨mb, keepNs hb, hbb⟩, lim⟩
    have E0 : Env0 P w K mg (hidT s1.heap H) callerA [] s1 H := ⟨rfl, M, fun b o e => of_hidT e, Nat.le_of_eq (hidT_size _ _), trivial, fun b hb => (by cases hb), hok, .of_eq hg⟩
    have FF := F _ hKb (keepNs hns) ⟨om, hidT_get hom (hA _ (Ne.symm has))⟩
    refine codeAny_mono (FF.run callerA [] s1 H ⟨[.ref a], []⟩ [.ref a] [.ref a] _ _ hr rfl E0 (hbind s1 (.ref a)) (.cons rfl .nil) (hsp H hO hS)) fun r s' h => ?_
    match r, h with
    | .error e, h =>
      obtain ⟨_, _, _, _, _, _, _, _, _, _, _, _, z⟩ := h
      exact z.elim
    | .ok .next, h => exact h.elim
    | .ok .brk, h => exact h.elim
    | .ok .cont, h => exact h.elim
    | .ok (.ret u), ⟨v, H', os, bare, un, hok', r', q⟩ =>
      have q : v = .bl true := q
      subst q
      cases (show u = Value.bool true from r')
      refine ⟨rfl, OldK.of_keep fun b o e => ?_, os, bare⟩
      by_cases hb : H b = none
      · exact un.keep b o e hb (fun z => by cases z) (by simp)
      · rcases hO b with z | ⟨ob, xs, z⟩
        · exact absurd z hb
        · have e1 := (hok b _ z).1
          have e2 := (hok' b _ (un.frzs b ob _ z)).1
          rw [e] at e1
          cases e1
          exact e2
  cases hk : K.lookup a with
  | some o =>
    have e := KX a o hk
    rw [ha] at e
    cases e
    exact core (fun _ => none) (fun _ => .inl rfl) (.inr ⟨_, vs.toArray, _, hk, rfl, rfl, rfl, by rw [List.size_toArray, lenV]; exact hl, by simpa using rv⟩) (fun b u z => by cases z) (fun _ _ => rfl) fun z => absurd rfl z
  | none =>
    refine core (fun b => if b = a then some (.frz { cls := .type "list", data := .seq vs.toArray } (.lst (ns.map V.int))) else none) (fun b => ?_) (.inl ⟨_, if_pos rfl⟩) (fun b u z => ?_) (fun b z => if_neg z) fun _ => hk
    · by_cases hb : b = a
      · exact .inr ⟨_, _, if_pos hb⟩
      · exact .inl (if_neg hb)
    · by_cases hb : b = a
      · subst hb
        cases (if_pos rfl).symm.trans z
        exact ⟨ha, by rw [List.length_map]; exact hl, vs, _, rv, ha⟩
      · cases (if_neg hb).symm.trans z
/-- a law's walk, from its def's promise -/
theorem walk_g {l : PySem.W.OpenLaw} {n k : Nat} {q : Program} {loose : List Str} {XP : (Str → Option Value) → Heap → Prop} {YP : World → Heap → Prop} {d : DefRec} {x : Str}
    (hn : l.most = some n) (hn2 : n ≤ sizeLine) (hdf : d.params.defaults = []) (hr : Room k callerA)
    (F : ∀ (w : World) (mg : Str → Option Value) (fa : Addr) (h : Heap), YP w h → h.Ns mainGlobals mg → mg d.name = some (.ref fa) →
      ∃ (K : PySem.W.Frag) (fd : FuncData) (sp : Sp), K.In h ∧ (∃ o, h.get? sysModules = some o) ∧ (∀ (s : Shared) (u : Value), BindsTo s fd ⟨[u], []⟩ [(x, u)]) ∧
        (∀ (H : Hp) (a : Addr) (ns : List Int), ns.length ≤ n → Only H → ((∃ o, H a = some (.frz o (.lst (ns.map V.int)))) ∨ WrL K a (ns.map V.int)) → sp [.ref a] H (fun v _ => v = .bl true) fun _ _ _ => False) ∧
        ∀ base : Heap, K.In base → base.Ns mainGlobals mg → (∃ o, base.get? sysModules = some o) → FnG l.prog w K mg base k fa fd [x] sp) :
    PySem.W.WalkO q loose XP YP l.row.toRowW d [] (fun f vs => PySem.call f vs) := by
  intro w s0 s1 mg mb G Y fa o pm cd doc dV kV ho hd hcd hD hmg hg args vals as hpre hlay hrd hwl hlo
  obtain rfl : dV = .none := PySem.W.Dflts.none hD hdf
  obtain rfl : kV = .none := PySem.W.Dflts.noKw hD
  obtain ⟨a, vs, ns, rfl, rfl, hobj, hints, hlen⟩ := Att.script_of hn hpre hwl
  have has : a ≠ sysModules := by
    cases hrd with
    | cons r1 r2 =>
      cases r1 with
      | list h1 h2 h3 h4 => simpa using hlo a (by simp)
  obtain ⟨K, fd, sp, KX, hsm, hb, hsp, hF⟩ := F w mg fa _ Y G.T.g hmg
  refine PySem.W.enter_call (codeAny_mono (law_g KX G.T.g G.T.b G.T.builtins G.T.nolimit hg hobj hints (Nat.le_trans hlen hn2) hr hsm has hF hb fun H hO hS => hsp H a ns hlen hO hS) fun r s' hq => ?_)
  obtain ⟨rfl, h2, h3, h4⟩ := hq
  exact ⟨.inl ⟨.bool true, .bool true, [], rfl, fun _ => rfl, .bool true, Att.post_true l _, fun _ => ⟨List.Pairwise.nil, fun _ hm => (nomatch hm)⟩⟩, h2, h3, h4⟩
/-- the script as a value -/
theorem scr_rel {g : Cf} {H : Hp} {a : Addr} {ns : List Int} (h : (∃ o, H a = some (.frz o (.lst (ns.map V.int)))) ∨ WrL g.K a (ns.map V.int)) : RelDs g ⟨[], [], H, []⟩ [.scr (ns.map .int)] [.ref a] := by
  have nomu : ¬ (⟨[], [], H, []⟩ : Wd).Mu a := fun ⟨n, ob, h1, _⟩ => by simp at h1
  have hin : ∀ l : List Int, RelDs g ⟨[], [], H, []⟩ (l.map .int) (l.map V.int) := fun l => by
    induction l with
    | nil => exact RelDs.nil
    | cons i l ih => exact RelDs.cons rel_int ih
  refine RelDs.one ?_
  simp only [RelD]
  refine ⟨a, _, rfl, ?_, hin ns⟩
  rcases h with ⟨o, h⟩ | h
  · exact .inl (.inr ⟨o, h, nomu, by simp⟩)
  · exact .inr h
theorem ok0 {g : Cf} {H : Hp} : (⟨[], [], H, []⟩ : Wd).Ok g := ⟨rfl, fun i j a oi oj h => by simp at h, fun n ob a h => by simp at h, fun a h => by cases h⟩
/-- the law's promise, from its run -/
theorem sp_law {g : Cf} {f : Fn} {n : Nat} (hf : ∀ ns : List Int, ns.length ≤ n → ∃ m, f [.scr (ns.map .int)] [] = .ok (.bl true) m) : ∀ (H : Hp) (a : Addr) (ns : List Int), ns.length ≤ n → Only H → ((∃ o, H a = some (.frz o (.lst (ns.map V.int)))) ∨ WrL g.K a (ns.map V.int)) →
    spD g 1 f [.ref a] H (fun v _ => v = .bl true) fun _ _ _ => False := by
  intro H a ns hl hO hS
  obtain ⟨m, e⟩ := hf ns hl
  refine ⟨⟨[], [], H, []⟩, _, rfl, ok0, scr_rel hS, rfl, ?_⟩
  show Sat g _ (f [.scr (ns.map .int)] []) _ _
  rw [e]
  intro w' v _ _ _ r
  simpa only [RelD] using r
/-- the head's Hook, and that sys.modules stands -/
def hookS (n : Nat) (fa : List He.Fa) (fn : List He.FnD) : PySem.W.Hook where
  α := He.Al × Bool
  obs := fun s => (He.obsG n fa fn s.heap.get?, (s.heap.get? sysModules).isSome)
  val := fun _ => (He.valE fn, true)
  says := fun _ h => (∃ K : PySem.W.Frag, K.In h ∧ He.SaysE fa fn K) ∧ ∃ o, h.get? sysModules = some o
  of := fun _ _ e => ⟨⟨_, He.frG_in, congrArg Prod.fst e⟩, Option.isSome_iff_exists.mp (congrArg Prod.snd e)⟩
  keeps := fun _ _ _ ⟨⟨K, hK, c⟩, o, ho⟩ k => ⟨⟨K, PySem.W.Frag.In.keeps hK k, c⟩, o, k _ _ ho⟩
def obS (n : Nat) (fa : List He.Fa) (fn : List He.FnD) (s : PySem.W.SharedT) : He.Al × Bool := (He.obsG n fa fn (HandSHeadRun.getT s), (HandSHeadRun.getT s sysModules).isSome)
theorem obS_eq (n : Nat) (fa : List He.Fa) (fn : List He.FnD) (s : PySem.W.SharedT) : obS n fa fn s = (hookS n fa fn).obs s.abs := by
  have e : HandSHeadRun.getT s = s.abs.heap.get? := funext (HandSHeadRun.getT_eq s)
  show (_, _) = (_, _)
  rw [e]
end Rf

namespace Rf
open PySem L2 PyProof.Rows

def Df.fnd (d : Df) : He.FnD := ⟨(d.x, none), d.x, d.x, defArgs d.st, defBody d.st, defScope d.st⟩
def Df.bindOk (d : Df) : Prop := ∀ (kV doc pm : Value) (an : Option Addr) (cdv ct : Value) (us : List Value), us.length = d.ps.length → bindArgs (PySem.W.fnOf d.x d.x (defArgs d.st) (defBody d.st) (defScope d.st) .none kV doc pm an cdv ct) ⟨us, []⟩ = pure (d.ps.zip us)
def dfTab : Nat → List Df → List (Str × Gk)
  | _, [] => []
  | i, d :: ds => (d.x, .fn i d.ps.length) :: dfTab (i + 1) ds
def gkFa (p : Str × Gk) : List He.Fa := match p.2 with
  | .free => [.free p.1]
  | .cst (.int i) => [.int p.1 i]
  | .cst (.str z) => [.str p.1 z]
  | _ => []
def exOk (p : Str × Gk) : Bool := match p.2 with
  | .free => true
  | .cst (.int _) => true
  | .cst (.str _) => true
  | _ => false
def faOf (ds : List Df) (ex : List (Str × Gk)) : List He.Fa := (ds.flatMap fun d => [He.Fa.glo d.x, He.Fa.keep d.x]) ++ ex.flatMap gkFa
theorem dfTab_mem : ∀ {ds : List Df} {i j n : Nat} {x : Str}, (x, Gk.fn j n) ∈ dfTab i ds → ∃ d, ds[j - i]? = some d ∧ i ≤ j ∧ n = d.ps.length ∧ x = d.x
  | [], i, j, n, x, h => by cases h
  | d :: ds, i, j, n, x, h => by
    rcases List.mem_cons.mp h with h | h
    · cases h
      exact ⟨d, by simp, Nat.le_refl _, rfl, rfl⟩
    · obtain ⟨d', h1, h2, h3, h4⟩ := dfTab_mem h
      refine ⟨d', ?_, by omega, h3, h4⟩
      have : j - i = (j - (i + 1)) + 1 := by omega
      rw [this]
      simpa using h1
theorem dfTab_fn : ∀ {ds : List Df} {i : Nat} {p : Str × Gk}, p ∈ dfTab i ds → ∃ j n, p.2 = .fn j n
  | [], i, p, h => by cases h
  | d :: ds, i, p, h => by
    rcases List.mem_cons.mp h with h | h
    · cases h; exact ⟨_, _, rfl⟩
    · exact dfTab_fn h
theorem says_mem {fa : List He.Fa} {fn : List He.FnD} {K : PySem.W.Frag} (c : He.SaysE fa fn K) {f : He.Fa} (h : f ∈ fa) : f.ok K = true := by
  obtain ⟨i, e⟩ := List.getElem?_of_mem h
  exact c.fact i e
theorem left_of {t : Tx} {ex : List (Str × Gk)} {K : PySem.W.Frag} {h : Heap} {mg : Str → Option Value} (X : K.In h) (G : h.Ns mainGlobals mg) (c : He.SaysE (faOf t.ds ex) (t.ds.map Df.fnd) K) (ht : t.tab = dfTab 0 t.ds ++ ex) (hx : ex.all exOk = true)
    (hB : ∀ d ∈ t.ds, d.bindOk) (hS : ∀ d ∈ t.ds, FnScope d.N d.ps (defScope d.st)) :
    ∃ fd : Nat → FuncData, Left t K mg (fun i => match t.ds[i]? with | some d => He.ga K d.x | none => 0) fd ⟨K, fun _ => 0⟩ := by
  have one : ∀ (i : Nat), ∃ fd : FuncData, ∀ (d : Df), t.ds[i]? = some d → Fun K d.x d.x d.st (He.ga K d.x) fd ∧ Binds K fd d.ps [] := fun i => by
    cases q : t.ds[i]? with
    | none => exact ⟨PySem.W.fnOf "" "" (defArgs (.Pass ⟨0, 0, 0, 0⟩)) [] (defScope (.Pass ⟨0, 0, 0, 0⟩)) .none .none .none .none none .none .none, fun d e => by cases e⟩
    | some d =>
      have hm := List.mem_of_getElem? q
      obtain ⟨oc, od, osl, kV, doc, pm, an, cdv, ct, l1, l2⟩ := c.def_ i (d := d.fnd) (by rw [List.getElem?_map, q]; rfl)
      have kp : PySem.W.keepIn K (.ref (He.ga K d.x)) = true := He.keep_ok (says_mem c (List.mem_append_left _ (List.mem_flatMap.mpr ⟨d, hm, by simp⟩)))
      have F : Fun K d.x d.x d.st (He.ga K d.x) _ := fun_mk (st := d.st) l1 l2 kp
      refine ⟨PySem.W.fnOf d.x d.x (defArgs d.st) (defBody d.st) (defScope d.st) .none kV doc pm an cdv ct, fun d' e => ?_⟩
      cases e
      exact ⟨F, F.binds (hB d hm)⟩
  obtain ⟨fd, hfd⟩ : ∃ fd : Nat → FuncData, ∀ (i : Nat) (d : Df), t.ds[i]? = some d → Fun K d.x d.x d.st (He.ga K d.x) (fd i) ∧ Binds K (fd i) d.ps [] := ⟨fun i => Classical.choose (one i), fun i d e => Classical.choose_spec (one i) d e⟩
  refine ⟨fd, rfl, fun i d e => ?_, fun x i n e => ?_, fun x d e => ?_, fun x e => ?_⟩
  · obtain ⟨a1, a2⟩ := hfd i d e
    simp only [e]
    exact ⟨a1, a2, hS d (List.mem_of_getElem? e)⟩
  · have hm := lookup_mem e
    rw [ht] at hm
    rcases List.mem_append.mp hm with hm | hm
    · obtain ⟨d, h1, _, h3, h4⟩ := dfTab_mem hm
      rw [Nat.sub_zero] at h1
      refine ⟨d, h1, h3, ?_⟩
      simp only [h1]
      rw [h4]
      exact He.glo_ok X G (says_mem c (List.mem_append_left _ (List.mem_flatMap.mpr ⟨d, List.mem_of_getElem? h1, by simp⟩)))
    · have := List.all_eq_true.mp hx _ hm
      cases this
  · have hm := lookup_mem e
    rw [ht] at hm
    rcases List.mem_append.mp hm with hm | hm
    · obtain ⟨j, n, z⟩ := dfTab_fn hm
      cases z
    · have ho := List.all_eq_true.mp hx _ hm
      cases d with
      | int i =>
        obtain ⟨tk, e1⟩ := He.int_ok X G (says_mem c (List.mem_append_right _ (List.mem_flatMap.mpr ⟨_, hm, List.mem_singleton.mpr rfl⟩)) : (He.Fa.int x i).ok K = true)
        exact ⟨.int i, _, e1, ⟨tk, rfl⟩, fun w => rel_int⟩
      | str z =>
        obtain ⟨tk, e1⟩ := He.str_ok X G (says_mem c (List.mem_append_right _ (List.mem_flatMap.mpr ⟨_, hm, List.mem_singleton.mpr rfl⟩)) : (He.Fa.str x z).ok K = true)
        exact ⟨.str z, _, e1, ⟨tk, rfl⟩, fun w => rel_str⟩
      | _ => cases ho
  · have hm := lookup_mem e
    rw [ht] at hm
    rcases List.mem_append.mp hm with hm | hm
    · obtain ⟨j, n, z⟩ := dfTab_fn hm
      cases z
    · exact He.free_ok X G (says_mem c (List.mem_append_right _ (List.mem_flatMap.mpr ⟨_, hm, List.mem_singleton.mpr rfl⟩)))
/-- the law's walk over a text -/
theorem walk_tx {t : Tx} {ex : List (Str × Gk)} {l : PySem.W.OpenLaw} {q : Program} {loose : List Str} {XP : (Str → Option Value) → Heap → Prop} {d : DefRec} {dl : Df} {i k n hn : Nat} {x : Str} (hm : l.most = some n) (hn2 : n ≤ sizeLine) (hdf : d.params.defaults = []) (hr : Room k callerA)
    (ht : t.tab = dfTab 0 t.ds ++ ex) (hx : ex.all exOk = true) (hB : ∀ d ∈ t.ds, d.bindOk) (hS : ∀ d ∈ t.ds, FnScope d.N d.ps (defScope d.st)) (hi : t.ds[i]? = some dl) (hps : dl.ps = [x]) (hdn : d.name = dl.x)
    (hb : ∀ (kV doc pm : Value) (an : Option Addr) (cdv ct : Value) (u : Value), bindArgs (PySem.W.fnOf dl.x dl.x (defArgs dl.st) (defBody dl.st) (defScope dl.st) .none kV doc pm an cdv ct) ⟨[u], []⟩ = pure [(x, u)])
    (hf : ∀ ns : List Int, ns.length ≤ n → ∃ m, t.cl k i [.scr (ns.map .int)] [] = .ok (.bl true) m) :
    PySem.W.WalkO q loose XP (hookS hn (faOf t.ds ex) (t.ds.map Df.fnd)).says l.row.toRowW d [] (fun f vs => PySem.call f vs) := by
  refine walk_g (x := x) hm hn2 hdf hr fun w mg fa h Y G hmg => ?_
  obtain ⟨⟨K, KX, c⟩, sm⟩ := Y
  obtain ⟨fd, L⟩ := left_of KX G c ht hx hB hS
  obtain ⟨F, B, S⟩ := L.fn i dl hi
  have hfa : fa = He.ga K dl.x := by
    have e1 := He.glo_ok KX G (says_mem c (List.mem_append_left _ (List.mem_flatMap.mpr ⟨dl, List.mem_of_getElem? hi, by simp⟩)) : (He.Fa.glo dl.x).ok K = true)
    rw [hdn, e1] at hmg
    cases hmg; rfl
  simp only [hi] at F
  refine ⟨K, fd i, spD ⟨K, fun _ => 0⟩ 1 (t.cl k i), KX, sm, fun s u => ?_, sp_law (g := ⟨K, fun _ => 0⟩) hf, fun base hK hG hs => ?_⟩
  · obtain ⟨oc, od, kV, doc, pm, an, cdv, ct, osl, e, _, _⟩ := F.ex
    rw [e]
    exact .of_eq (hb kV doc pm an cdv ct u)
  · have := defs_ok (P := l.prog) (w := w) (base := base) L hs k i dl hi
    simp only [hi] at this
    rw [hps] at this
    rw [hfa]
    exact this
end Rf

namespace Rf
open PySem L2
/-! ### runs by rewriting: each part first, what follows as a closed function -/
section
variable {f f2 : P2} {f1 : P1} {fN : PN} {da db dc : Dn} {ra : DnL} {ca cb : DnB} {sa sb : DnS} {p p' : Sl} {m m' : Mem} {d x y : D} {ds : List D} {b : Bool} {i j n : Nat} {o : Option Dn}
def kOp2 (f : P2) (x : D) : D → Mem → Res := fun y m => Res.of (f x y m)
def kOp (f : P2) (db : Dn) (p : Sl) : D → Mem → Res := fun x m => (db p m).bind (kOp2 f x)
theorem r_op : dOp f da db p m = (da p m).bind (kOp f db p) := Eq.trans rfl rfl
theorem r_kop : kOp f db p x m = (db p m).bind (kOp2 f x) := Eq.trans rfl rfl
theorem r_kop2 : kOp2 f x y m = Res.of (f x y m) := Eq.trans rfl rfl
theorem r_bind {g : D → Mem → Res} : (Res.ok d m).bind g = g d m := Eq.trans rfl rfl
theorem r_bindL {g : D → Mem → ResL} : (Res.ok d m).bindL g = g d m := Eq.trans rfl rfl
theorem r_bindB {g : D → Mem → ResB} : (Res.ok d m).bindB g = g d m := Eq.trans rfl rfl
theorem r_bindS {g : D → Mem → SRes} : (Res.ok d m).bindS p g = g d m := Eq.trans rfl rfl
theorem r_Lbind {g : List D → Mem → Res} : (ResL.ok ds m).bind g = g ds m := Eq.trans rfl rfl
theorem r_LbindL {g : List D → Mem → ResL} : (ResL.ok ds m).bindL g = g ds m := Eq.trans rfl rfl
theorem r_LbindS {g : List D → Mem → SRes} : (ResL.ok ds m).bindS p g = g ds m := Eq.trans rfl rfl
theorem r_Bbind {g : Bool → Mem → Res} : (ResB.ok b m).bind g = g b m := Eq.trans rfl rfl
theorem r_BbindB {g : Bool → Mem → ResB} : (ResB.ok b m).bindB g = g b m := Eq.trans rfl rfl
theorem r_BbindS {g : Bool → Mem → SRes} : (ResB.ok b m).bindS p g = g b m := Eq.trans rfl rfl
theorem r_of : Res.of (some (d, m)) = .ok d m := Eq.trans rfl rfl
theorem r_ofB : ResB.of (some b) m = .ok b m := Eq.trans rfl rfl
theorem r_ofL : ResL.ofO (some ds) m = .ok ds m := Eq.trans rfl rfl
theorem r_var (h : p[i]? = some (some d)) : dVar i p m = .ok d m := by simp only [dVar, h]
theorem r_var0 {r : Sl} : dVar 0 (some d :: r) m = .ok d m := Eq.trans rfl rfl
theorem r_varS {z : Option D} {r : Sl} : dVar (i + 1) (z :: r) m = dVar i r m := Eq.trans rfl rfl
theorem r_c : dC d p m = .ok d m := Eq.trans rfl rfl
def kUn (f : P1) : D → Mem → Res := fun x m => Res.of (f x m)
theorem r_un : dUn f1 da p m = (da p m).bind (kUn f1) := Eq.trans rfl rfl
theorem r_kun : kUn f1 x m = Res.of (f1 x m) := Eq.trans rfl rfl
def kIf (da db : Dn) (p : Sl) : Bool → Mem → Res := fun b m => if b then da p m else db p m
theorem r_if : dIf ca da db p m = (ca p m).bind (kIf da db p) := Eq.trans rfl rfl
theorem r_kifT : kIf da db p true m = da p m := Eq.trans rfl rfl
theorem r_kifF : kIf da db p false m = db p m := Eq.trans rfl rfl
def kCons2 (x : D) : List D → Mem → ResL := fun xs m => .ok (x :: xs) m
def kCons (r : DnL) (p : Sl) : D → Mem → ResL := fun x m => (r p m).bindL (kCons2 x)
theorem r_cons : dCons da ra p m = (da p m).bindL (kCons ra p) := Eq.trans rfl rfl
theorem r_kcons : kCons ra p x m = (ra p m).bindL (kCons2 x) := Eq.trans rfl rfl
theorem r_kcons2 : kCons2 x ds m = .ok (x :: ds) m := Eq.trans rfl rfl
theorem r_nil : dNil p m = .ok [] m := Eq.trans rfl rfl
def kTup : List D → Mem → Res := fun xs m => if xs.length ≤ sizeLine then .ok (.tup xs) m else .bad
def kLst : List D → Mem → Res := fun xs m => if xs.length ≤ sizeLine then .ok (.lst xs) m else .bad
def kNew : List D → Mem → Res := fun xs m => if xs.length ≤ sizeLine then .ok (.ref m.length) (m ++ [some (.lst xs)]) else .bad
theorem r_tup : dTup ra p m = (ra p m).bind kTup := Eq.trans rfl rfl
theorem r_lst : dLst ra p m = (ra p m).bind kLst := Eq.trans rfl rfl
theorem r_new : dNew ra p m = (ra p m).bind kNew := Eq.trans rfl rfl
theorem r_ktup (h : ds.length ≤ 1000) : kTup ds m = .ok (.tup ds) m := if_pos (Nat.le_trans h (by decide))
theorem r_klst (h : ds.length ≤ 1000) : kLst ds m = .ok (.lst ds) m := if_pos (Nat.le_trans h (by decide))
theorem r_knew (h : ds.length ≤ 1000) : kNew ds m = .ok (.ref m.length) (m ++ [some (.lst ds)]) := if_pos (Nat.le_trans h (by decide))
def kCa (f : PN) : List D → Mem → Res := fun xs m => Res.of (f xs m)
theorem r_ca : dCa fN ra p m = (ra p m).bind (kCa fN) := Eq.trans rfl rfl
theorem r_kca : kCa fN ds m = Res.of (fN ds m) := Eq.trans rfl rfl
def kCall (n : Nat) (f : Fn) : List D → Mem → Res := fun ds m => if ds.length = n then f ds m else .bad
theorem r_call {fn : Fn} : dCall n fn ra p m = (ra p m).bind (kCall n fn) := Eq.trans rfl rfl
theorem r_kcall {fn : Fn} (h : ds.length = n) : kCall n fn ds m = fn ds m := if_pos h
def kCh3 (h : P2) (y : D) : D → Mem → Res := fun z m => Res.of (h y z m)
def kCh2 (f h : P2) (x : D) (dc : Dn) (p : Sl) : D → Mem → Res := fun y m => match f x y m with
  | some (.bl true, m) => (dc p m).bind (kCh3 h y)
  | some (.bl false, m) => .ok (.bl false) m
  | _ => .bad
def kCh (f h : P2) (db dc : Dn) (p : Sl) : D → Mem → Res := fun x m => (db p m).bind (kCh2 f h x dc p)
theorem r_ch : dCh f f2 da db dc p m = (da p m).bind (kCh f f2 db dc p) := Eq.trans rfl rfl
theorem r_kch : kCh f f2 db dc p x m = (db p m).bind (kCh2 f f2 x dc p) := Eq.trans rfl rfl
theorem r_kch2 : kCh2 f f2 x dc p y m = (match f x y m with
  | some (.bl true, m) => (dc p m).bind (kCh3 f2 y)
  | some (.bl false, m) => .ok (.bl false) m
  | _ => .bad) := rfl
theorem r_kch2T (h : f x y m = some (.bl true, m')) : kCh2 f f2 x dc p y m = (dc p m').bind (kCh3 f2 y) := by simp only [kCh2, h]
theorem r_kch2F (h : f x y m = some (.bl false, m')) : kCh2 f f2 x dc p y m = .ok (.bl false) m' := by simp only [kCh2, h]
theorem r_kch3 : kCh3 f x y m = Res.of (f x y m) := Eq.trans rfl rfl
def kSl3 (d l : D) : D → Mem → Res := fun h m => Res.of (slD d (prt l) (prt h) m)
def kSl2 (d : D) (hi : Option Dn) (p : Sl) : D → Mem → Res := fun l m => (dPart hi p m).bind (kSl3 d l)
def kSl (lo hi : Option Dn) (p : Sl) : D → Mem → Res := fun d m => (dPart lo p m).bind (kSl2 d hi p)
theorem r_sl {lo hi : Option Dn} : dSl da lo hi p m = (da p m).bind (kSl lo hi p) := Eq.trans rfl rfl
theorem r_ksl {lo hi : Option Dn} : kSl lo hi p d m = (dPart lo p m).bind (kSl2 d hi p) := Eq.trans rfl rfl
theorem r_ksl2 {hi : Option Dn} : kSl2 d hi p x m = (dPart hi p m).bind (kSl3 d x) := Eq.trans rfl rfl
theorem r_ksl3 : kSl3 d x y m = Res.of (slD d (prt x) (prt y) m) := Eq.trans rfl rfl
def kPart : D → Mem → Res := fun d m => match d with
  | .int i => .ok (.int i) m
  | _ => .bad
theorem r_partN : dPart none p m = .ok .non m := Eq.trans rfl rfl
theorem r_partS : dPart (some da) p m = (da p m).bind kPart := Eq.trans rfl rfl
theorem r_kpart {i : Int} : kPart (.int i) m = .ok (.int i) m := Eq.trans rfl rfl
theorem r_prtN : prt .non = none := Eq.trans rfl rfl
theorem r_prtI {i : Int} : prt (.int i) = some i := Eq.trans rfl rfl
def kMt2 (f : Mf) (d : D) : List D → Mem → Res := fun ds m => Res.of (f.den d ds m)
def kMt (x : Str) (r : DnL) (p : Sl) : D → Mem → Res := fun d m => match (tyD m d).bind (mfOf x) with
  | some f => (r p m).bind (kMt2 f d)
  | none => .bad
theorem r_mt {s : Str} : dMt s da ra p m = (da p m).bind (kMt s ra p) := Eq.trans rfl rfl
theorem r_kmt {s : Str} {f : Mf} (h : (tyD m d).bind (mfOf s) = some f) : kMt s ra p d m = (ra p m).bind (kMt2 f d) := by simp only [kMt, h]
theorem r_kmt2 {f : Mf} : kMt2 f d ds m = Res.of (f.den d ds m) := Eq.trans rfl rfl
def kAnd (db : Dn) (p : Sl) : D → Mem → Res := fun x m => match truD x m with
  | some true => db p m
  | some false => .ok x m
  | none => .bad
def kOr (db : Dn) (p : Sl) : D → Mem → Res := fun x m => match truD x m with
  | some true => .ok x m
  | some false => db p m
  | none => .bad
def kNot : D → Mem → Res := fun x m => match truD x m with
  | some k => .ok (.bl (!k)) m
  | none => .bad
theorem r_and : dAnd da db p m = (da p m).bind (kAnd db p) := Eq.trans rfl rfl
theorem r_or : dOr da db p m = (da p m).bind (kOr db p) := Eq.trans rfl rfl
theorem r_not : dNot da p m = (da p m).bind kNot := Eq.trans rfl rfl
theorem r_kand : kAnd db p (.bl b) m = if b then db p m else .ok (.bl false) m := by cases b <;> rfl
theorem r_kor : kOr db p (.bl b) m = if b then .ok (.bl true) m else db p m := by cases b <;> rfl
theorem r_knot : kNot (.bl b) m = .ok (.bl (!b)) m := Eq.trans rfl rfl
def kVal : D → Mem → ResB := fun x m => match x with
  | .bl b => .ok b m
  | _ => .bad
theorem r_val : bVal da p m = (da p m).bindB kVal := Eq.trans rfl rfl
theorem r_kval : kVal (.bl b) m = .ok b m := Eq.trans rfl rfl
def kTru : D → Mem → ResB := fun x m => ResB.of (truD x m) m
theorem r_tru : bTru da p m = (da p m).bindB kTru := Eq.trans rfl rfl
theorem r_ktru : kTru x m = ResB.of (truD x m) m := Eq.trans rfl rfl
theorem r_truB : truD (.bl b) m = some b := Eq.trans rfl rfl
def kBnot : Bool → Mem → ResB := fun b m => .ok (!b) m
def kBand (h : DnB) (p : Sl) : Bool → Mem → ResB := fun b m => if b then h p m else .ok false m
def kBor (h : DnB) (p : Sl) : Bool → Mem → ResB := fun b m => if b then .ok true m else h p m
theorem r_bnot : bNot ca p m = (ca p m).bindB kBnot := Eq.trans rfl rfl
theorem r_kbnot : kBnot b m = .ok (!b) m := Eq.trans rfl rfl
theorem r_band : bAnd ca cb p m = (ca p m).bindB (kBand cb p) := Eq.trans rfl rfl
theorem r_bor : bOr ca cb p m = (ca p m).bindB (kBor cb p) := Eq.trans rfl rfl
theorem r_kbandT : kBand cb p true m = cb p m := Eq.trans rfl rfl
theorem r_kbandF : kBand cb p false m = .ok false m := Eq.trans rfl rfl
theorem r_kborT : kBor cb p true m = .ok true m := Eq.trans rfl rfl
theorem r_kborF : kBor cb p false m = cb p m := Eq.trans rfl rfl
def SRes.seq (r : SRes) (h : DnS) : SRes := match r with
  | .nx p m => h p m
  | r => r
theorem r_seq : sSeq sa sb p m = (sa p m).seq sb := Eq.trans rfl rfl
theorem r_seqN : (SRes.nx p m).seq sb = sb p m := Eq.trans rfl rfl
theorem r_seqR : (SRes.rt d m).seq sb = .rt d m := Eq.trans rfl rfl
theorem r_seqX {x : Xn} : (SRes.exc x p m).seq sb = .exc x p m := Eq.trans rfl rfl
theorem r_next : sNext p m = .nx p m := Eq.trans rfl rfl
def kRt : D → Mem → SRes := fun d m => .rt d m
theorem r_ret : sRet da p m = (da p m).bindS p kRt := Eq.trans rfl rfl
theorem r_krt : kRt d m = .rt d m := Eq.trans rfl rfl
def kEx (p : Sl) : D → Mem → SRes := fun _ m => .nx p m
theorem r_expr : sExpr da p m = (da p m).bindS p (kEx p) := Eq.trans rfl rfl
theorem r_kex : kEx p d m = .nx p m := Eq.trans rfl rfl
def kSif (u v : DnS) (p : Sl) : Bool → Mem → SRes := fun b m => if b then u p m else v p m
theorem r_sif : sIf ca sa sb p m = (ca p m).bindS p (kSif sa sb p) := Eq.trans rfl rfl
theorem r_ksifT : kSif sa sb p true m = sa p m := Eq.trans rfl rfl
theorem r_ksifF : kSif sa sb p false m = sb p m := Eq.trans rfl rfl
def kAsg (i : Nat) (p : Sl) : D → Mem → SRes := fun d m => .nx (p.set i (some d)) m
theorem r_asg : sAsg da (tgN i) p m = (da p m).bindS p (kAsg i p) := Eq.trans rfl rfl
theorem r_kasg : kAsg i p d m = .nx (p.set i (some d)) m := Eq.trans rfl rfl
def kSub3 (f : P3) (v o : D) (p : Sl) : D → Mem → SRes := fun i m => match f o i v m with
  | some m => .nx p m
  | none => .bad
def kSub2 (f : P3) (di : Dn) (v : D) (p : Sl) : D → Mem → SRes := fun o m => (di p m).bindS p (kSub3 f v o p)
def kSub (f : P3) (dobj di : Dn) (p : Sl) : D → Mem → SRes := fun v m => (dobj p m).bindS p (kSub2 f di v p)
theorem r_sub {g : P3} : sSub da db dc g p m = (da p m).bindS p (kSub g db dc p) := Eq.trans rfl rfl
theorem r_ksub {g : P3} : kSub g db dc p d m = (db p m).bindS p (kSub2 g dc d p) := Eq.trans rfl rfl
theorem r_ksub2 {g : P3} : kSub2 g dc d p x m = (dc p m).bindS p (kSub3 g d x p) := Eq.trans rfl rfl
theorem r_ksub3 {g : P3} (h : g x y d m = some m') : kSub3 g d x p y m = .nx p m' := by simp only [kSub3, h]
def kPar (i j : Nat) (p : Sl) : List D → Mem → SRes := fun ds m => match ds with
  | [x, y] => .nx ((p.set i (some x)).set j (some y)) m
  | _ => .bad
theorem r_par : sPar i j ra p m = (ra p m).bindS p (kPar i j p) := Eq.trans rfl rfl
theorem r_kpar : kPar i j p [x, y] m = .nx ((p.set i (some x)).set j (some y)) m := Eq.trans rfl rfl
def kFor (tf : TgF) (bd : DnS) (p : Sl) : List D → Mem → SRes := fun ds m => forD tf bd ds p m
theorem r_for {tf : TgF} : sFor ra tf sa p m = (ra p m).bindS p (kFor tf sa p) := Eq.trans rfl rfl
theorem r_kfor {tf : TgF} : kFor tf sa p ds m = forD tf sa ds p m := Eq.trans rfl rfl
def SRes.fin (r : SRes) : Res := match r with
  | .nx _ m => .ok .non m
  | .rt d m => .ok d m
  | .exc x _ m => .exc x m
  | _ => .bad
theorem r_fn : fnD n sa ds m = (sa (ds.map some ++ List.replicate (n - ds.length) none) m).fin := Eq.trans rfl rfl
theorem r_finR : (SRes.rt d m).fin = .ok d m := Eq.trans rfl rfl
theorem r_finN : (SRes.nx p m).fin = .ok .non m := Eq.trans rfl rfl
theorem r_fn1 : fn1 f1 [d] m = f1 d m := Eq.trans rfl rfl
theorem r_fn2 : fn2 f [x, y] m = f x y m := Eq.trans rfl rfl
/-! prims -/
theorem r_add {i j : Int} : addD (.int i) (.int j) m = some (.int (i + j), m) := Eq.trans rfl rfl
theorem r_subI {i j : Int} : subD (.int i) (.int j) m = some (.int (i - j), m) := Eq.trans rfl rfl
theorem r_mul {i j : Int} (h : cMul i j = true) : mulD (.int i) (.int j) m = some (.int (i * j), m) := by simp only [mulD, h, if_true]
theorem r_fdiv {i j : Int} (h : cDiv i j = true) : fdivD (.int i) (.int j) m = some (.int (i / j), m) := by simp only [fdivD, iiD, h, if_true]
theorem r_mod {i j : Int} (h : cMod i j = true) : modD (.int i) (.int j) m = some (.int (i % j), m) := by simp only [modD, iiD, h, if_true]
theorem r_pow {i j : Int} (h : cPow i j = true) : powD (.int i) (.int j) m = some (.int (i ^ j.toNat), m) := by simp only [powD, iiD, h, if_true]
theorem r_neg {i : Int} : negD (.int i) m = some (.int (-i), m) := Eq.trans rfl rfl
theorem r_lt {i j : Int} : ltD (.int i) (.int j) m = some (.bl (decide (i < j)), m) := Eq.trans rfl rfl
theorem r_le {i j : Int} : leD (.int i) (.int j) m = some (.bl (decide (i ≤ j)), m) := Eq.trans rfl rfl
theorem r_gt {i j : Int} : gtD (.int i) (.int j) m = some (.bl (decide (j < i)), m) := Eq.trans rfl rfl
theorem r_ge {i j : Int} : geD (.int i) (.int j) m = some (.bl (decide (j ≤ i)), m) := Eq.trans rfl rfl
theorem r_intI {i : Int} : Rf.intD (.int i) m = some (.int i, m) := Eq.trans rfl rfl
theorem r_intB : Rf.intD (.bl b) m = some (.int (if b then 1 else 0), m) := Eq.trans rfl rfl
theorem r_abs {i : Int} : absD (.int i) m = some (.int (if i < 0 then -i else i), m) := Eq.trans rfl rfl
theorem r_max {i j : Int} : max2D (.int i) (.int j) m = some (.int (if j > i then j else i), m) := Eq.trans rfl rfl
theorem r_min {i j : Int} : min2D (.int i) (.int j) m = some (.int (if j < i then j else i), m) := Eq.trans rfl rfl
theorem r_ixL {xs : List D} {i : Int} (h : atI xs i = some d) : ixD (.lst xs) (.int i) m = some (d, m) := by simp only [ixD, h, Option.map_some]
theorem r_ixC {xs : List D} {i : Int} (h : atI xs i = some d) : ixD (.scr xs) (.int i) m = some (d, m) := by simp only [ixD, h, Option.map_some]
theorem r_ixT {xs : List D} {i : Int} (h : atI xs i = some d) : ixD (.tup xs) (.int i) m = some (d, m) := by simp only [ixD, h, Option.map_some]
theorem r_ixR {xs : List D} {i : Int} (h0 : m[n]? = some (some (.lst xs))) (h : atI xs i = some d) : ixD (.ref n) (.int i) m = some (d, m) := by simp only [ixD, h0, h, Option.map_some]
theorem r_setR {xs : List D} {i : Int} {j : Nat} (h0 : m[n]? = some (some (.lst xs))) (h : ixN xs.length i = some j) : setD (.ref n) (.int i) d m = some (m.set n (some (.lst (xs.set j d)))) := by simp only [setD, h0, h, Option.map_some]
theorem cm_pos {i j : Int} (h : 0 < j) : cMod i j = true := by simp [cMod, h]
theorem cmul_l {i j : Int} (h : -(2 ^ 64) < i) (h' : i < 2 ^ 64) : cMul i j = true := by simp [cMul]; omega
theorem cmul_r {i j : Int} (h : -(2 ^ 64) < j) (h' : j < 2 ^ 64) : cMul i j = true := by simp [cMul]; omega
theorem cdiv_ok {i j : Int} (h : 0 < j) (h' : j < 1073741824) : cDiv i j = true := by simp [cDiv, h, h']
end
/-! ### runs, statement by statement -/
section
variable {f h : DnS} {p p' : Sl} {m m' : Mem} {d : D} {da : Dn} {i : Nat} {c : DnB} {x : Xn}
theorem seq_nx (e : f p m = .nx p' m') : sSeq f h p m = h p' m' := by simp only [sSeq, e]
theorem seq_rt (e : f p m = .rt d m') : sSeq f h p m = .rt d m' := by simp only [sSeq, e]
theorem seq_exc (e : f p m = .exc x p' m') : sSeq f h p m = .exc x p' m' := by simp only [sSeq, e]
theorem asg_nx (e : da p m = .ok d m') : sAsg da (tgN i) p m = .nx (p.set i (some d)) m' := by simp only [sAsg, e, Res.bindS, tgN]
theorem ret_rt (e : da p m = .ok d m') : sRet da p m = .rt d m' := by simp only [sRet, e, Res.bindS]
theorem expr_nx (e : da p m = .ok d m') : sExpr da p m = .nx p m' := by simp only [sExpr, e, Res.bindS]
theorem if_t (e : c p m = .ok true m') : sIf c f h p m = f p m' := by simp only [sIf, e, ResB.bindS, if_true]
theorem if_f (e : c p m = .ok false m') : sIf c f h p m = h p m' := by simp only [sIf, e, ResB.bindS, Bool.false_eq_true, if_false]
theorem fn_rt {k : Nat} {ds : List D} (e : f (ds.map some ++ List.replicate (k - ds.length) none) m = .rt d m') : fnD k f ds m = .ok d m' := by simp only [fnD, e]
theorem fn_nx {k : Nat} {ds : List D} (e : f (ds.map some ++ List.replicate (k - ds.length) none) m = .nx p' m') : fnD k f ds m = .ok .non m' := by simp only [fnD, e]
theorem call_ok' {n : Nat} {fn : Fn} {r : DnL} {ds : List D} {m1 : Mem} (e : r p m = .ok ds m1) (hn : ds.length = n) : dCall n fn r p m = fn ds m1 := by simp only [dCall, e, ResL.bind, hn, if_true]
end
/-! ### loops by their items -/
theorem for_cons {tf : TgF} {bd : DnS} {d : D} {ds : List D} {p p1 p2 : Sl} {m m2 : Mem} (h1 : tf d p = some p1) (h2 : bd p1 m = .nx p2 m2) : forD tf bd (d :: ds) p m = forD tf bd ds p2 m2 := by simp only [forD, h1, h2]
theorem for_nil {tf : TgF} {bd : DnS} {p : Sl} {m : Mem} : forD tf bd [] p m = .nx p m := rfl
theorem for_rt {tf : TgF} {bd : DnS} {d x : D} {ds : List D} {p p1 : Sl} {m m2 : Mem} (h1 : tf d p = some p1) (h2 : bd p1 m = .rt x m2) : forD tf bd (d :: ds) p m = .rt x m2 := by simp only [forD, h1, h2]
theorem sfor {f : DnL} {tf : TgF} {bd : DnS} {p : Sl} {m m1 : Mem} {ds : List D} (h : f p m = .ok ds m1) : sFor f tf bd p m = forD tf bd ds p m1 := by simp only [sFor, h, ResL.bindS]
/-- a loop that always goes on, by an invariant -/
theorem for_inv {tf : TgF} {bd : DnS} (I : Sl → Mem → Prop) : ∀ {ds : List D} {p : Sl} {m : Mem}, I p m → (∀ d ∈ ds, ∀ p m, I p m → ∃ p1 p2 m2, tf d p = some p1 ∧ bd p1 m = .nx p2 m2 ∧ I p2 m2) → ∃ p' m', forD tf bd ds p m = .nx p' m' ∧ I p' m'
  | [], p, m, h, _ => ⟨p, m, rfl, h⟩
  | d :: ds, p, m, h, hs => by
    obtain ⟨p1, p2, m2, e1, e2, h2⟩ := hs d List.mem_cons_self p m h
    obtain ⟨p', m', e3, h3⟩ := for_inv I h2 fun x hx => hs x (List.mem_cons_of_mem _ hx)
    exact ⟨p', m', (for_cons e1 e2).trans e3, h3⟩
/-- a comprehension whose test and element leave the memory as it is -/
theorem comp_map {tf : TgF} {tt : DnB} {te : Dn} {vs : List Nat} {p : Sl} {m : Mem} {b : D → Bool} {y : D → D} : ∀ {ds : List D}, (∀ d ∈ ds, ∃ p1, tf d (wipeD p vs) = some p1 ∧ tt p1 m = .ok (b d) m ∧ (b d = true → te p1 m = .ok (y d) m)) → compD tf tt te vs p ds m = .ok ((ds.filter b).map y) m
  | [], _ => rfl
  | d :: ds, h => by
    obtain ⟨p1, e1, e2, e3⟩ := h d List.mem_cons_self
    have ih := comp_map (ds := ds) fun x hx => h x (List.mem_cons_of_mem _ hx)
    unfold compD
    rw [e1]
    simp only [e2]
    cases hb : b d with
    | true => simp only [e3 hb, ih, ResL.bindL, List.filter_cons, hb, if_true, List.map_cons]
    | false => simp only [ih, List.filter_cons, hb, Bool.false_eq_true, if_false]
/-- one whose element may change the memory, by an invariant -/
theorem comp_inv {tf : TgF} {te : Dn} {vs : List Nat} {p : Sl} (I : Mem → Prop) (Y : D → Prop) : ∀ {ds : List D} {m : Mem}, I m → (∀ d ∈ ds, ∀ m, I m → ∃ p1 y m', tf d (wipeD p vs) = some p1 ∧ te p1 m = .ok y m' ∧ I m' ∧ Y y) → ∃ ys m', compD tf bYes te vs p ds m = .ok ys m' ∧ I m' ∧ ys.length = ds.length ∧ ∀ y ∈ ys, Y y
  | [], m, h, _ => ⟨[], m, rfl, h, rfl, by simp⟩
  | d :: ds, m, h, hs => by
    obtain ⟨p1, y, m1, e1, e2, h1, hy⟩ := hs d List.mem_cons_self m h
    obtain ⟨ys, m', e3, h3, hl, hY⟩ := comp_inv I Y h1 fun x hx => hs x (List.mem_cons_of_mem _ hx)
    refine ⟨y :: ys, m', ?_, h3, by simp [hl], ?_⟩
    · unfold compD
      rw [e1]
      simp only [bYes, e2, e3, ResL.bindL]
    · intro z hz
      rcases List.mem_cons.mp hz with rfl | hz
      · exact hy
      · exact hY z hz
theorem lc_ok' {f : DnL} {tf : TgF} {tt : DnB} {te : Dn} {vs : List Nat} {p : Sl} {m m1 m2 : Mem} {ds ys : List D} (h1 : f p m = .ok ds m1) (h2 : compD tf tt te vs p ds m1 = .ok ys m2) (hl : ys.length ≤ sizeLine) : dLc f tf tt te vs p m = .ok (.lst ys) m2 := by
  simp only [dLc, h1, ResL.bind, h2, hl, if_true]
end Rf

namespace Rf
open PySem L2
/-! ### plain texts -/
structure Asc (n : Nat) (x : Str) : Prop where
  len : x.length ≤ n
  sg : ∀ c ∈ x.cps.toList, c < 128
theorem Asc.mono {n n' : Nat} {x : Str} (h : Asc n x) (l : n ≤ n') : Asc n' x := ⟨Nat.le_trans h.len l, h.sg⟩
theorem Asc.add {n n' : Nat} {x y : Str} (h : Asc n x) (h' : Asc n' y) : Asc (n + n') (x ++ y) := by
  refine ⟨by rw [Str.length_append]; exact Nat.add_le_add h.len h'.len, fun c hc => ?_⟩
  rw [Str.cps_append, Array.toList_append, List.mem_append] at hc
  exact hc.elim (h.sg c) (h'.sg c)
theorem Asc.cut {n : Nat} {x : Str} (h : Asc n x) (lo hi : Option Int) : Asc n (cutS x lo hi) := by
  refine ⟨Nat.le_trans (cutS_length x lo hi) h.len, fun c hc => h.sg c ?_⟩
  unfold cutS at hc
  exact List.mem_of_mem_drop (List.mem_of_mem_take hc)
theorem upper_asc : ∀ c, c < 128 → ∀ d ∈ Unicode.upperOf c, d < 128 := by decide +kernel
theorem Asc.upper {n : Nat} {x : Str} (h : Asc n x) : Asc (3 * n) (Txt.upper x) := by
  refine ⟨?_, fun c hc => ?_⟩
  · have := StrLaws.placedRaw_le3 x.cps (fun _ c => Unicode.upperOf c) (fun _ c => StrLaws.upperOf_le3 c)
    have l := h.len
    have e : (Txt.upper x).length = ((x.cps.mapIdx fun _ c => (Unicode.upperOf c).toArray)).flatten.size := rfl
    rw [e]
    simp only [Str.length] at l
    omega
  · have e : (Txt.upper x).cps = ((x.cps.mapIdx fun _ c => (Unicode.upperOf c).toArray)).flatten := rfl
    rw [e, Array.toList_flatten] at hc
    simp only [List.mem_flatten, List.mem_map, Array.toList_mapIdx, List.mem_mapIdx] at hc
    obtain ⟨l, ⟨a, ⟨i, hi, rfl⟩, rfl⟩, hc⟩ := hc
    exact upper_asc _ (h.sg _ (List.getElem_mem hi)) c (by simpa using hc)
theorem join_ones : ∀ cs : List Nat, (Str.join ⟨#[]⟩ (cs.map fun c => ⟨#[c]⟩)).cps.toList = cs
  | [] => rfl
  | [c] => rfl
  | c :: d :: r => by
    have ih := join_ones (d :: r)
    show ((⟨#[c]⟩ : Str) ++ ⟨#[]⟩ ++ Str.join ⟨#[]⟩ ((d :: r).map fun c => ⟨#[c]⟩)).cps.toList = _
    rw [Str.cps_append, Str.cps_append, Array.toList_append, ih]
    rfl
theorem join_asc {cs : List Nat} (h : ∀ c ∈ cs, c < 128) : Asc cs.length (Txt.join ⟨#[]⟩ (cs.map fun c => ⟨#[c]⟩)) := by
  have e : Txt.join ⟨#[]⟩ (cs.map fun c => ⟨#[c]⟩) = Str.join ⟨#[]⟩ (cs.map fun c => ⟨#[c]⟩) := StrLaws.glued_eq_join _ _
  rw [e]
  have j := join_ones cs
  refine ⟨?_, fun c hc => h c (by rwa [j] at hc)⟩
  have : (Str.join ⟨#[]⟩ (cs.map fun c => ⟨#[c]⟩)).cps.toList.length = cs.length := by rw [j]
  exact Nat.le_of_eq (by simpa [Str.length] using this)
/-! ### lists -/
theorem comp_mapf {α : Type} {tf : TgF} {tt : DnB} {te : Dn} {vs : List Nat} {p : Sl} {m : Mem} (f : α → D) (b : α → Bool) (y : α → D) : ∀ {xs : List α}, (∀ a ∈ xs, ∃ p1, tf (f a) (wipeD p vs) = some p1 ∧ tt p1 m = .ok (b a) m ∧ (b a = true → te p1 m = .ok (y a) m)) → compD tf tt te vs p (xs.map f) m = .ok ((xs.filter b).map y) m
  | [], _ => rfl
  | d :: ds, h => by
    obtain ⟨p1, e1, e2, e3⟩ := h d List.mem_cons_self
    have ih := comp_mapf f b y (xs := ds) fun x hx => h x (List.mem_cons_of_mem _ hx)
    rw [List.map_cons]
    unfold compD
    rw [e1]
    simp only [e2]
    cases hb : b d with
    | true => simp only [e3 hb, ih, ResL.bindL, List.filter_cons, hb, if_true, List.map_cons]
    | false => simp only [ih, List.filter_cons, hb, Bool.false_eq_true, if_false]
theorem comp_mapy {α : Type} {tf : TgF} {te : Dn} {vs : List Nat} {p : Sl} {m : Mem} (f : α → D) (y : α → D) {xs : List α} (h : ∀ a ∈ xs, ∃ p1, tf (f a) (wipeD p vs) = some p1 ∧ te p1 m = .ok (y a) m) : compD tf bYes te vs p (xs.map f) m = .ok (xs.map y) m := by
  have := comp_mapf (tf := tf) (tt := bYes) (te := te) (vs := vs) (p := p) (m := m) f (fun _ => true) y (xs := xs) fun a ha => by
    obtain ⟨p1, e1, e2⟩ := h a ha
    exact ⟨p1, e1, rfl, fun _ => e2⟩
  rwa [List.filter_eq_self.mpr (by simp)] at this
theorem bls_map {α : Type} (f : α → Bool) : ∀ xs : List α, blsOf (xs.map fun a => .bl (f a)) = some (xs.map f)
  | [] => rfl
  | a :: xs => by simp only [List.map_cons, blsOf, bls_map f xs, Option.map_some]
theorem all_map {α : Type} {m : Mem} (f : α → Bool) (xs : List α) : allD (.lst (xs.map fun a => .bl (f a))) m = some (.bl (xs.all f), m) := by
  simp only [allD, lstD, Option.bind_some, bls_map, Option.map_some, List.all_map]; rfl
theorem any_map {α : Type} {m : Mem} (f : α → Bool) (xs : List α) : anyD (.lst (xs.map fun a => .bl (f a))) m = some (.bl (xs.any f), m) := by
  simp only [anyD, lstD, Option.bind_some, bls_map, Option.map_some, List.any_map]; rfl
theorem dat_strs {m : Mem} : ∀ cs : List Nat, datDs m (cs.map fun c => .str ⟨#[c]⟩) = some (cs.map fun c => .str ⟨#[c]⟩)
  | [] => rfl
  | c :: cs => by simp only [List.map_cons, datDs, datD, dat_strs cs]
theorem lay_strs : ∀ cs : List Nat, (∀ c ∈ cs, c < 1114112) → PyData.canLayAll0 (cs.map fun c => .str ⟨#[c]⟩) = true
  | [], _ => rfl
  | c :: cs, h => by
    simp only [List.map_cons, PyData.canLayAll0, PyData.canLay0, PyData.strOk, lay_strs cs fun d hd => h d (List.mem_cons_of_mem _ hd), Bool.and_true]
    simpa using h c List.mem_cons_self
theorem deep_strs : ∀ cs : List Nat, PyData.depthAll (cs.map fun c => .str ⟨#[c]⟩) = 0
  | [] => rfl
  | c :: cs => by simp only [List.map_cons, PyData.depthAll, PyData.depth, deep_strs cs, Nat.max_self]
theorem eq_strs {m : Mem} {cs : List Nat} (h : ∀ c ∈ cs, c < 1114112) : eqD (.lst (cs.map fun c => .str ⟨#[c]⟩)) (.lst []) m = some (.bl cs.isEmpty, m) := by
  simp only [eqD, eqB, datD, dat_strs, Option.map_some, datDs, SeqAt.shaped, PyData.canLay0, lay_strs cs h, PyData.depth, deep_strs]
  cases cs <;> rfl
theorem at_ok {α : Type} {xs : List α} {v : Int} (h : 0 ≤ v) (h' : v < xs.length) : ∃ d, d ∈ xs ∧ atI xs v = some d := by
  obtain ⟨i, rfl⟩ : ∃ i : Nat, v = i := ⟨v.toNat, by omega⟩
  have hi : i < xs.length := by omega
  refine ⟨xs[i], List.getElem_mem hi, ?_⟩
  unfold atI
  have : ixN xs.length (i : Int) = some i := by unfold ixN; simp [hi]
  rw [this]; simp [hi]
theorem one_lt {a b : Nat} : ([a] < [b]) = (a < b) := by
  apply propext
  constructor
  · intro h
    cases h with
    | rel h => exact h
    | cons h => cases h
  · intro h; exact .rel h
theorem ktup_ok {ds : List D} {m : Mem} (h : ds.length ≤ sizeLine) : kTup ds m = .ok (.tup ds) m := if_pos h
/-! ### dice: three numbers in a cell of the memory -/
structure Upd (n : Nat) (m m' : Mem) : Prop where
  die : ∃ a b c : Int, m'[n]? = some (some (.lst [.int a, .int b, .int c]))
  len : m'.length = m.length
  rest : ∀ j, j ≠ n → m'[j]? = m[j]?
theorem set3 {m : Mem} {n : Nat} {o o' : Option Ob} (h : m[n]? = some o) : (m.set n o')[n]? = some o' := List.getElem?_set_self (List.getElem?_eq_some_iff.mp h).1
theorem upd_set {m : Mem} {n : Nat} {o : Option Ob} {a b c : Int} (h : m[n]? = some o) : Upd n m (m.set n (some (.lst [.int a, .int b, .int c]))) := ⟨⟨a, b, c, set3 h⟩, by simp, fun j hj => List.getElem?_set_ne (Ne.symm hj)⟩
theorem Upd.trans {n : Nat} {m m1 m2 : Mem} (h : Upd n m m1) (h' : Upd n m1 m2) : Upd n m m2 := ⟨h'.die, h'.len.trans h.len, fun j hj => (h'.rest j hj).trans (h.rest j hj)⟩
theorem at30 {x y z : D} : atI [x, y, z] 0 = some x := rfl
theorem at31 {x y z : D} : atI [x, y, z] 1 = some y := rfl
theorem at32 {x y z : D} : atI [x, y, z] 2 = some z := rfl
theorem ix30 : ixN 3 0 = some 0 := rfl
theorem ix32 : ixN 3 2 = some 2 := rfl
def Die (n : Nat) (m : Mem) : Prop := ∃ a b c : Int, m[n]? = some (some (.lst [.int a, .int b, .int c]))
theorem Upd.refl {n : Nat} {m : Mem} (h : Die n m) : Upd n m m := ⟨h, rfl, fun _ _ => rfl⟩
end Rf

namespace Lw
open PySem L2 PyProof.Rows Rf
def topS (i : Nat) : Stmt := PySem.Challenge.pw_handedworld_k01_names.main.body.getD i (.Pass ⟨0, 0, 0, 0⟩)
def d0 : Df := ⟨"is_name", topS 3, ["value", "letter"], ["value"], [], false⟩
def d1 : Df := ⟨"_law_numbers", topS 5, ["_law_script", "_law_at", "_law_cell", "_law_whole", "_law_mixed"], ["_law_script", "_law_at"], [], true⟩
def d2 : Df := ⟨"_law_cast", topS 6, ["_law_die", "_law_total", "_law_found", "_law_one", "_law_two"], ["_law_die", "_law_total"], [], false⟩
def d3 : Df := ⟨"_law_pick", topS 7, ["_law_die", "_law_items"], ["_law_die", "_law_items"], [], false⟩
def d4 : Df := ⟨"_law_is_word", topS 8, ["_law_value", "_law_one"], ["_law_value"], [], false⟩
def d5 : Df := ⟨"_law_odd_one", topS 9, ["_law_die", "_law_some"], ["_law_die"], [], false⟩
def d6 : Df := ⟨"_law_right", topS 10, ["_law_die", "_law_letters", "_law_word", "_law_turn", "_law_at", "_law_odd", "_law_some", "_law_value"], ["_law_die"], [], false⟩
def d7 : Df := ⟨"law", topS 11, ["_law_script", "_law_at", "_law_die", "_law_turn", "_law_told", "_law_word"], ["_law_script"], [], false⟩
def ds : List Df := [d0, d1, d2, d3, d4, d5, d6, d7]
def ex : List (Str × Gk) := [("LETTERS", .cst (.str "abcdefghijklmnopqrstuvwxyz")), ("MAX_LETTERS", .cst (.int 8)), ("len", .free), ("abs", .free), ("max", .free), ("min", .free), ("all", .free), ("isinstance", .free), ("repr", .free), ("int", .free), ("str", .free), ("range", .free)]
def tx : Tx := ⟨ds, dfTab 0 ds ++ ex, 12, 1000⟩
theorem binds : ∀ d ∈ tx.ds, d.bindOk := by
  intro d hd
  simp only [tx, ds, List.mem_cons, List.not_mem_nil, or_false] at hd
  rcases hd with rfl | rfl | rfl | rfl | rfl | rfl | rfl | rfl
  · exact fun _ _ _ _ _ _ us hl => match us, hl with | [_], _ => rfl
  · exact fun _ _ _ _ _ _ us hl => match us, hl with | [_, _], _ => rfl
  · exact fun _ _ _ _ _ _ us hl => match us, hl with | [_, _], _ => rfl
  · exact fun _ _ _ _ _ _ us hl => match us, hl with | [_, _], _ => rfl
  · exact fun _ _ _ _ _ _ us hl => match us, hl with | [_], _ => rfl
  · exact fun _ _ _ _ _ _ us hl => match us, hl with | [_], _ => rfl
  · exact fun _ _ _ _ _ _ us hl => match us, hl with | [_], _ => rfl
  · exact fun _ _ _ _ _ _ us hl => match us, hl with | [_], _ => rfl
theorem scopes : ∀ d ∈ tx.ds, FnScope d.N d.ps (defScope d.st) := by
  intro d hd
  simp only [tx, ds, List.mem_cons, List.not_mem_nil, or_false] at hd
  rcases hd with rfl | rfl | rfl | rfl | rfl | rfl | rfl | rfl <;> exact ⟨rfl, rfl, rfl, by decide +kernel, rfl, by decide +kernel, by decide +kernel⟩
abbrev R : PySem.W.OpenRow := PySem.W.OpenLaw.row PySem.Challenge.rw_handedworld_k01_names
abbrev hk : PySem.W.Hook := hookS 4 (faOf tx.ds ex) (tx.ds.map Df.fnd)
def loose : List PySem.Str := ["LETTERS", "MAX_LETTERS", "is_name", "_law_numbers", "_law_cast", "_law_pick", "_law_is_word", "_law_odd_one", "_law_right"]
set_option maxHeartbeats 0 in
theorem run (w : World) : HandSHeadRun.RunEq R (PySem.W.view R.prog [11]) hk (obS 4 (faOf tx.ds ex) (tx.ds.map Df.fnd)) 2000 loose w := by
  intro os
  kernel_rfl
/-- is_name -/
def b0 (cl : Nat → Fn) : DnS := (sSeq (sIf (bOr (bNot (bTru (dCa Bf.isi.den (dCons (dVar 0) (dCons (dC (.ty .str)) dNil))))) (bNot (bVal (dCh leD leD (dC (.int 1)) (dCa Bf.len.den (dCons (dVar 0) dNil)) (dC (.int (8))))))) (sSeq (sRet (dC (.bl false)))
  sNext) sNext)
  (sSeq (sRet (dCa Bf.all.den (dCons (dLc (iVal (dVar 0)) (tgN 1) bYes (dOp (inD false) (dVar 1) (dC (.str "abcdefghijklmnopqrstuvwxyz"))) [1]) dNil)))
  sNext))
theorem cl0 (k : Nat) : tx.cl (k + 1) 0 = fnD 2 (b0 (tx.cl k)) := by
  have e : ∀ cl, tx.body cl d0 = b0 cl := fun cl => by kernel_rfl
  show fnD d0.N.length (tx.body (tx.cl k) d0) = _
  rw [e]
  rfl
/-- _law_numbers -/
def b1 (cl : Nat → Fn) : DnS := (sSeq (sAsg (dIf (bVal (dOp ltD (dVar 1) (dCa Bf.len.den (dCons (dVar 0) dNil)))) (dOp ixD (dVar 0) (dVar 1)) (dOp addD (dOp mulD (dC (.int 59)) (dVar 1)) (dC (.int 31)))) (tgN 2))
  (sSeq (sAsg (dOp modD (dCa Bf.int.den (dCons (dCa Bf.abs.den (dCons (dVar 2) dNil)) dNil)) (dOp powD (dOp powD (dC (.int 10)) (dC (.int 59))) (dC (.int 11)))) (tgN 3))
  (sSeq (sAsg (dOp addD (dOp addD (dOp addD (dOp mulD (dVar 3) (dC (.int 1000171))) (dOp mulD (dC (.int 8273)) (dVar 1))) (dOp mulD (dC (.int 47)) (dCa Bf.int.den (dCons (dOp ltD (dVar 2) (dC (.int 0))) dNil)))) (dC (.int 17))) (tgN 4))
  (sSeq (sRet (dNew (dCons (dCa Bf.max.den (dCons (dC (.int 0)) (dCons (dOp subD (dVar 3) (dOp powD (dC (.int 10)) (dC (.int 17)))) dNil))) (dCons (dOp modD (dCa Bf.int.den (dCons (dVar 4) dNil)) (dC (.int 1152921504606847009))) (dCons (dC (.int 0)) dNil)))))
  sNext))))
theorem cl1 (k : Nat) : tx.cl (k + 1) 1 = fnD 5 (b1 (tx.cl k)) := by
  have e : ∀ cl, tx.body cl d1 = b1 cl := fun cl => by kernel_rfl
  show fnD d1.N.length (tx.body (tx.cl k) d1) = _
  rw [e]
  rfl
/-- _law_cast -/
def b2 (cl : Nat → Fn) : DnS := (sSeq (sIf (bVal (dOp gtD (dOp ixD (dVar 0) (dC (.int 0))) (dC (.int 0)))) (sSeq (sAsg (dOp modD (dCa Bf.int.den (dCons (dOp ixD (dVar 0) (dC (.int 0))) dNil)) (dVar 1)) (tgN 2))
  (sSeq (sSub (dOp fdivD (dOp ixD (dVar 0) (dC (.int 0))) (dVar 1)) (dVar 0) (dC (.int 0)) setD)
  (sSeq (sRet (dVar 2))
  sNext))) sNext)
  (sSeq (sSub (dOp addD (dOp ixD (dVar 0) (dC (.int 2))) (dC (.int 1))) (dVar 0) (dC (.int 2)) setD)
  (sSeq (sAsg (dOp modD (dCa Bf.int.den (dCons (dOp addD (dOp ixD (dVar 0) (dC (.int 1))) (dOp mulD (dC (.int 681463489)) (dOp ixD (dVar 0) (dC (.int 2))))) dNil)) (dC (.int 2305843009213693879))) (tgN 3))
  (sSeq (sAsg (dOp addD (dOp mulD (dOp modD (dCa Bf.int.den (dCons (dOp mulD (dVar 3) (dVar 3)) dNil)) (dC (.int 1152921504606846739))) (dVar 3)) (dOp mulD (dC (.int 7477)) (dOp ixD (dVar 0) (dC (.int 2))))) (tgN 4))
  (sSeq (sRet (dOp modD (dCa Bf.int.den (dCons (dOp fdivD (dOp modD (dCa Bf.int.den (dCons (dOp addD (dVar 4) (dOp ixD (dVar 0) (dC (.int 1)))) dNil)) (dC (.int 8796093022141))) (dC (.int 64))) dNil)) (dVar 1)))
  sNext)))))
theorem cl2 (k : Nat) : tx.cl (k + 1) 2 = fnD 5 (b2 (tx.cl k)) := by
  have e : ∀ cl, tx.body cl d2 = b2 cl := fun cl => by kernel_rfl
  show fnD d2.N.length (tx.body (tx.cl k) d2) = _
  rw [e]
  rfl
/-- _law_pick -/
def b3 (cl : Nat → Fn) : DnS := (sSeq (sRet (dOp ixD (dVar 1) (dCall 2 (cl 2) (dCons (dVar 0) (dCons (dCa Bf.len.den (dCons (dVar 1) dNil)) dNil)))))
  sNext)
theorem cl3 (k : Nat) : tx.cl (k + 1) 3 = fnD 2 (b3 (tx.cl k)) := by
  have e : ∀ cl, tx.body cl d3 = b3 cl := fun cl => by kernel_rfl
  show fnD d3.N.length (tx.body (tx.cl k) d3) = _
  rw [e]
  rfl
/-- _law_is_word -/
def b4 (cl : Nat → Fn) : DnS := (sSeq (sIf (bOr (bNot (bTru (dCa Bf.isi.den (dCons (dVar 0) (dCons (dC (.ty .str)) dNil))))) (bNot (bVal (dCh leD leD (dC (.int 1)) (dCa Bf.len.den (dCons (dVar 0) dNil)) (dC (.int 8)))))) (sSeq (sRet (dC (.bl false)))
  sNext) sNext)
  (sSeq (sRet (dOp eqD (dLc (iVal (dVar 0)) (tgN 1) (bNot (bVal (dCh leD leD (dC (.str "a")) (dVar 1) (dC (.str "z"))))) (dVar 1) [1]) (dLst dNil)))
  sNext))
theorem cl4 (k : Nat) : tx.cl (k + 1) 4 = fnD 2 (b4 (tx.cl k)) := by
  have e : ∀ cl, tx.body cl d4 = b4 cl := fun cl => by kernel_rfl
  show fnD d4.N.length (tx.body (tx.cl k) d4) = _
  rw [e]
  rfl
/-- _law_odd_one -/
def b5 (cl : Nat → Fn) : DnS := (sSeq (sAsg (dLst (dCons (dC .non) (dCons (dC (.int 0)) (dCons (dC (.int 1)) (dCons (dC (.int 7)) (dCons (dC (.int 99)) (dCons (dUn negD (dC (.int 1))) (dCons (dC (.bl true)) (dCons (dC (.bl false)) (dCons (dC (.str "")) (dCons (dC (.str "a")) (dCons (dC (.str "do")) (dCons (dC (.str "seq")) (dCons (dTup dNil) (dCons (dTup (dCons (dC (.int 0)) dNil)) (dCons (dTup (dCons (dC (.int 1)) (dCons (dC (.int 0)) dNil))) (dCons (dTup (dCons (dC (.str "seq")) dNil)) (dCons (dLst (dCons (dC (.int 0)) dNil)) (dCons (dC (.dct [] [])) (dCons (dC (.str "p")) dNil)))))))))))))))))))) (tgN 1))
  (sSeq (sAsg (dOp addD (dVar 1) (dLst (dCons (dOp powD (dC (.int 10)) (dC (.int 39))) (dCons (dTup (dCons (dC .non) dNil)) (dCons (dTup (dCons (dC (.str "run")) (dCons (dC (.str "b")) dNil))) (dCons (dTup (dCons (dC (.str "exit")) (dCons (dC (.str "l")) dNil))) (dCons (dTup (dCons (dC (.str "call")) (dCons (dC (.str "main")) dNil))) (dCons (dTup (dCons (dC (.str "raise")) (dCons (dC (.str "s")) dNil))) (dCons (dLst (dCons (dC (.str "seq")) dNil)) (dCons (dTup (dCons (dC (.str "or")) dNil)) dNil)))))))))) (tgN 1))
  (sSeq (sRet (dCall 2 (cl 3) (dCons (dVar 0) (dCons (dVar 1) dNil))))
  sNext)))
theorem cl5 (k : Nat) : tx.cl (k + 1) 5 = fnD 2 (b5 (tx.cl k)) := by
  have e : ∀ cl, tx.body cl d5 = b5 cl := fun cl => by kernel_rfl
  show fnD d5.N.length (tx.body (tx.cl k) d5) = _
  rw [e]
  rfl
/-- _law_right -/
def b6 (cl : Nat → Fn) : DnS := (sSeq (sAsg (dC (.str "abcdefghijklmnopqrstuvwxyz")) (tgN 1))
  (sSeq (sAsg (dMt "join" (dC (.str "")) (dCons (dLc (iR1 (dCall 2 (cl 2) (dCons (dVar 0) (dCons (dC (.int 10)) dNil)))) (tgN 3) bYes (dCall 2 (cl 3) (dCons (dVar 0) (dCons (dVar 1) dNil))) [3]) dNil)) (tgN 2))
  (sSeq (sPar 4 5 (dCons (dCall 2 (cl 2) (dCons (dVar 0) (dCons (dOp addD (dCa Bf.len.den (dCons (dVar 2) dNil)) (dC (.int 1))) dNil))) (dCons (dCall 2 (cl 3) (dCons (dVar 0) (dCons (dLst (dCons (dC (.str "A")) (dCons (dC (.str " ")) (dCons (dC (.str "0")) (dCons (dC (.str "_")) (dCons (dC (.str "-")) (dCons (dC (.str "{")) (dCons (dC (.str "`")) (dCons (dC (.str "\n")) (dCons (dC (.str "z")) (dCons (dC (.str "aa")) dNil))))))))))) dNil))) dNil)))
  (sSeq (sAsg (dLst (dCons (dVar 2) (dCons (dOp addD (dOp addD (dSl (dVar 2) none (some (dVar 4))) (dVar 5)) (dSl (dVar 2) (some (dVar 4)) none)) (dCons (dSl (dVar 2) none (some (dVar 4))) (dCons (dMt "upper" (dVar 2) dNil) (dCons (dOp addD (dVar 2) (dVar 2)) (dCons (dLst (dCons (dVar 2) dNil)) (dCons (dTup (dCons (dVar 2) dNil)) (dCons (dCall 1 (cl 5) (dCons (dVar 0) dNil)) dNil))))))))) (tgN 6))
  (sSeq (sFor (iVal (dVar 6)) (tgN 7) (sSeq (sIf (bVal (dOp neD (dCa Bf.repr.den (dCons (dCall 1 (cl 0) (dCons (dVar 7) dNil)) dNil)) (dCa Bf.repr.den (dCons (dCall 1 (cl 4) (dCons (dVar 7) dNil)) dNil)))) (sSeq (sRet (dC (.bl false)))
  sNext) sNext)
  sNext))
  (sSeq (sRet (dC (.bl true)))
  sNext))))))
theorem cl6 (k : Nat) : tx.cl (k + 1) 6 = fnD 8 (b6 (tx.cl k)) := by
  have e : ∀ cl, tx.body cl d6 = b6 cl := fun cl => by kernel_rfl
  show fnD d6.N.length (tx.body (tx.cl k) d6) = _
  rw [e]
  rfl
/-- law -/
def b7 (cl : Nat → Fn) : DnS := (sSeq (sFor (iR1 (dCa Bf.max.den (dCons (dC (.int 1)) (dCons (dCa Bf.min.den (dCons (dC (.int 8)) (dCons (dCa Bf.len.den (dCons (dVar 0) dNil)) dNil))) dNil)))) (tgN 1) (sSeq (sAsg (dCall 2 (cl 1) (dCons (dVar 0) (dCons (dVar 1) dNil))) (tgN 2))
  (sSeq (sFor (iR1 (dC (.int 6))) (tgN 3) (sSeq (sIf (bNot (bTru (dCall 1 (cl 6) (dCons (dVar 2) dNil)))) (sSeq (sRet (dC (.bl false)))
  sNext) sNext)
  sNext))
  sNext)))
  (sSeq (sAsg (dLc (iVal (dTup (dCons (dC (.str "a")) (dCons (dC (.str "zzzzzzzz")) (dCons (dC (.str "aaaaaaaaa")) (dCons (dC (.str "")) (dCons (dC (.str "block")) (dCons (dC (.str "Run")) (dCons (dC (.str "a1")) (dCons (dC (.str "blocking")) dNil)))))))))) (tgN 5) bYes (dCall 1 (cl 0) (dCons (dVar 5) dNil)) [5]) (tgN 4))
  (sSeq (sRet (dOp eqD (dVar 4) (dLst (dCons (dC (.bl true)) (dCons (dC (.bl true)) (dCons (dC (.bl false)) (dCons (dC (.bl false)) (dCons (dC (.bl true)) (dCons (dC (.bl false)) (dCons (dC (.bl false)) (dCons (dC (.bl true)) dNil)))))))))))
  sNext)))
theorem cl7 (k : Nat) : tx.cl (k + 1) 7 = fnD 6 (b7 (tx.cl k)) := by
  have e : ∀ cl, tx.body cl d7 = b7 cl := fun cl => by kernel_rfl
  show fnD d7.N.length (tx.body (tx.cl k) d7) = _
  rw [e]
  rfl
end Lw

namespace Lw
open PySem L2 PyProof.Rows Rf
local macro_rules | `(tactic| trivial) => `(tactic| simp only [r_fn, r_seq, r_seqN, r_seqR, r_sif, r_ksifT, r_ksifF, r_asg, r_kasg, r_ret, r_krt, r_expr, r_kex, r_sub, r_ksub, r_ksub2, r_next, r_finR, r_finN, r_par, r_kpar, r_op, r_kop, r_kop2, r_un, r_kun, r_bind, r_bindL, r_bindB, r_bindS, r_Lbind, r_LbindL, r_LbindS, r_Bbind, r_BbindB, r_BbindS, r_of, r_ofB, r_ofL, r_var0, r_varS, r_c, r_if, r_kifT, r_kifF, r_cons, r_kcons, r_kcons2, r_nil, r_tup, r_lst, r_new, r_ca, r_kca, r_call, r_ch, r_kch, r_kch3, r_sl, r_ksl, r_ksl2, r_ksl3, r_partN, r_partS, r_kpart, r_prtN, r_prtI, r_mt, r_and, r_or, r_not, r_kand, r_kor, r_knot, r_val, r_kval, r_tru, r_ktru, r_truB, r_bnot, r_kbnot, r_band, r_bor, r_kbandT, r_kbandF, r_kborT, r_kborF, r_for, r_kfor, r_fn1, r_fn2, r_add, r_subI, r_neg, r_lt, r_le, r_gt, r_ge, r_intI, r_intB, r_abs, r_max, r_min, Bf.den, 
  List.set_cons_zero, List.set_cons_succ, List.map_cons, List.map_nil, List.cons_append, List.nil_append, List.replicate, List.length_cons, List.length_nil, if_true, Bool.false_eq_true, if_false, Nat.reduceAdd, Nat.reduceSub, Nat.zero_add, decide_true, decide_false, Nat.reduceLeDiff, Bool.not_true, Bool.not_false, *])
set_option maxHeartbeats 1000000 in
theorem cast_ok {k n : Nat} {m : Mem} {a b c t : Int} (hm : m[n]? = some (some (.lst [.int a, .int b, .int c]))) (h0 : 0 < t) (h1 : t < 1073741824) :
    ∃ v m', tx.cl (k + 1) 2 [.ref n, .int t] m = .ok (.int v) m' ∧ 0 ≤ v ∧ v < t ∧ Upd n m m' := by
  have cm : ∀ i : Int, cMod i t = true := fun i => cm_pos h0
  have cd : ∀ i : Int, cDiv i t = true := fun i => cdiv_ok h0 h1
  have x0 : ∀ {m : Mem} {a b c : Int}, m[n]? = some (some (.lst [.int a, .int b, .int c])) → ixD (.ref n) (.int 0) m = some (.int a, m) := fun h => r_ixR h at30
  have x1 : ∀ {m : Mem} {a b c : Int}, m[n]? = some (some (.lst [.int a, .int b, .int c])) → ixD (.ref n) (.int 1) m = some (.int b, m) := fun h => r_ixR h at31
  have x2 : ∀ {m : Mem} {a b c : Int}, m[n]? = some (some (.lst [.int a, .int b, .int c])) → ixD (.ref n) (.int 2) m = some (.int c, m) := fun h => r_ixR h at32
  rw [cl2]
  by_cases ha : 0 < a
  · refine ⟨a % t, m.set n (some (.lst [.int (a / t), .int b, .int c])), ?_, Int.emod_nonneg _ (by omega), Int.emod_lt_of_pos _ h0, upd_set hm⟩
    have y0 := x0 hm
    have z0 : kSub3 setD (.int (a / t)) (.ref n) [some (.ref n), some (.int t), some (.int (a % t)), none, none] (.int 0) m = .nx _ _ := r_ksub3 (r_setR hm ix30)
    have e1 : modD (.int a) (.int t) m = some (.int (a % t), m) := r_mod (cm _)
    have e2 : fdivD (.int a) (.int t) m = some (.int (a / t), m) := r_fdiv (cd _)
    clear x0 x1 x2 cm cd
    unfold b2
    trivial
  · have ha' : decide (0 < a) = false := decide_eq_false ha
    let m1 := m.set n (some (.lst [.int a, .int b, .int (c + 1)]))
    have hm1 : m1[n]? = some (some (.lst [.int a, .int b, .int (c + 1)])) := set3 hm
    have y0 := x0 hm
    have y2 := x2 hm
    have y1' := x1 hm1
    have y2' := x2 hm1
    have z0 : kSub3 setD (.int (c + 1)) (.ref n) [some (.ref n), some (.int t), none, none, none] (.int 2) m = .nx _ m1 := r_ksub3 (r_setR hm ix32)
    have q1 : ∀ i : Int, modD (.int i) (.int 2305843009213693879) m1 = some (.int (i % 2305843009213693879), m1) := fun i => r_mod (cm_pos (by decide))
    have q2 : ∀ i : Int, modD (.int i) (.int 1152921504606846739) m1 = some (.int (i % 1152921504606846739), m1) := fun i => r_mod (cm_pos (by decide))
    have q3 : ∀ i : Int, modD (.int i) (.int 8796093022141) m1 = some (.int (i % 8796093022141), m1) := fun i => r_mod (cm_pos (by decide))
    have q4 : ∀ i : Int, fdivD (.int i) (.int 64) m1 = some (.int (i / 64), m1) := fun i => r_fdiv (cdiv_ok (by decide) (by decide))
    have q5 : ∀ i : Int, mulD (.int 681463489) (.int i) m1 = some (.int (681463489 * i), m1) := fun i => r_mul (cmul_l (by decide) (by decide))
    have q6 : ∀ i : Int, mulD (.int 7477) (.int i) m1 = some (.int (7477 * i), m1) := fun i => r_mul (cmul_l (by decide) (by decide))
    have q7 : ∀ i : Int, mulD (.int (i % 2305843009213693879)) (.int (i % 2305843009213693879)) m1 = some (.int (i % 2305843009213693879 * (i % 2305843009213693879)), m1) := fun i => r_mul (cmul_l (by omega) (by omega))
    have q8 : ∀ i j : Int, mulD (.int (i % 1152921504606846739)) (.int j) m1 = some (.int (i % 1152921504606846739 * j), m1) := fun i j => r_mul (cmul_l (by omega) (by omega))
    have q9 : ∀ i : Int, modD (.int i) (.int t) m1 = some (.int (i % t), m1) := fun i => r_mod (cm _)
    have key : ∃ w : Int, fnD 5 (b2 (tx.cl k)) [.ref n, .int t] m = .ok (.int (w % t)) m1 := by
      clear x0 x1 x2 cm cd
      clear_value m1
      unfold b2
      apply Exists.intro
      trivial
      rfl
    obtain ⟨w, key⟩ := key
    exact ⟨w % t, m1, key, Int.emod_nonneg _ (by omega), Int.emod_lt_of_pos _ h0, upd_set hm⟩
set_option maxHeartbeats 1000000 in
theorem numbers_ok {k i : Nat} {m : Mem} {ns : List Int} : ∃ a b : Int, tx.cl (k + 1) 1 [.scr (ns.map .int), .int i] m = .ok (.ref m.length) (m ++ [some (.lst [.int a, .int b, .int 0])]) := by
  rw [cl1]
  have e0 : lenD (.scr (ns.map .int)) m = some (.int ns.length, m) := by simp [lenD, seqD]
  obtain ⟨p1, e1, g1⟩ : ∃ p : Int, powD (.int 10) (.int 59) m = some (.int p, m) ∧ p = 10 ^ 59 := ⟨_, r_pow (by decide +kernel), rfl⟩
  obtain ⟨p2, e2, g2⟩ : ∃ p : Int, powD (.int p1) (.int 11) m = some (.int p, m) ∧ 0 < p := ⟨_, r_pow (by rw [g1]; decide +kernel), by rw [g1]; decide +kernel⟩
  obtain ⟨p3, e3⟩ : ∃ p : Int, powD (.int 10) (.int 17) m = some (.int p, m) := ⟨_, r_pow (by decide +kernel)⟩
  have e4 : ∀ i : Int, modD (.int i) (.int p2) m = some (.int (i % p2), m) := fun i => r_mod (cm_pos g2)
  have e5 : ∀ i : Int, modD (.int i) (.int 1152921504606847009) m = some (.int (i % 1152921504606847009), m) := fun i => r_mod (cm_pos (by decide))
  have e6 : ∀ i : Int, mulD (.int i) (.int 1000171) m = some (.int (i * 1000171), m) := fun i => r_mul (cmul_r (by decide) (by decide))
  have e7 : ∀ i : Int, mulD (.int 8273) (.int i) m = some (.int (8273 * i), m) := fun i => r_mul (cmul_l (by decide) (by decide))
  have e8 : ∀ i : Int, mulD (.int 47) (.int i) m = some (.int (47 * i), m) := fun i => r_mul (cmul_l (by decide) (by decide))
  have e9 : ∀ i : Int, mulD (.int 59) (.int i) m = some (.int (59 * i), m) := fun i => r_mul (cmul_l (by decide) (by decide))
  have en : ∀ a b c : D, kNew [a, b, c] m = .ok (.ref m.length) (m ++ [some (.lst [a, b, c])]) := fun a b c => r_knew (by simp)
  clear g1 g2
  by_cases h : (i : Int) < ns.length
  · have h' : i < ns.length := by omega
    have ex : ixD (.scr (ns.map .int)) (.int i) m = some (.int ns[i], m) := r_ixC (by
      unfold atI
      have : ixN (ns.map D.int).length (i : Int) = some i := by unfold ixN; simp [h']
      rw [this]; simp [h'])
    unfold b1
    apply Exists.intro
    apply Exists.intro
    trivial
    rfl
  · have hd : decide ((i : Int) < ns.length) = false := decide_eq_false h
    unfold b1
    apply Exists.intro
    apply Exists.intro
    trivial
    rfl
theorem pick_ok {k n : Nat} {m : Mem} {xs : List D} (hm : Die n m) (h0 : 0 < xs.length) (h1 : xs.length < 1000) :
    ∃ d m', tx.cl (k + 2) 3 [.ref n, .lst xs] m = .ok d m' ∧ d ∈ xs ∧ Upd n m m' := by
  obtain ⟨a, b, c, hm⟩ := hm
  obtain ⟨v, m', e, l1, l2, u⟩ := cast_ok (k := k) hm (t := xs.length) (by omega) (by omega)
  obtain ⟨d, hd, ed⟩ := at_ok l1 l2
  refine ⟨d, m', ?_, hd, u⟩
  have e1 : lenD (.lst xs) m = some (.int xs.length, m) := rfl
  have e2 : ixD (.lst xs) (.int v) m' = some (d, m') := r_ixL ed
  have e3 : ∀ x y : D, kCall 2 (tx.cl (k + 1) 2) [x, y] m = tx.cl (k + 1) 2 [x, y] m := fun x y => r_kcall rfl
  rw [cl3]
  unfold b3
  trivial
theorem picks_ok {k n : Nat} {m : Mem} {x : Str} (hm : Die n m) (h0 : 0 < x.cps.toList.length) (h1 : x.cps.toList.length < 1000) :
    ∃ c m', tx.cl (k + 2) 3 [.ref n, .str x] m = .ok (.str ⟨#[c]⟩) m' ∧ c ∈ x.cps.toList ∧ Upd n m m' := by
  obtain ⟨a, b, c, hm⟩ := hm
  obtain ⟨v, m', e, l1, l2, u⟩ := cast_ok (k := k) hm (t := x.cps.toList.length) (by omega) (by omega)
  obtain ⟨d, hd, ed⟩ := at_ok l1 l2
  refine ⟨d, m', ?_, hd, u⟩
  have hz : x.length ≤ sizeLine := Nat.le_trans (show x.length ≤ 1000 from Nat.le_of_lt (by simpa [Str.length] using h1)) (by decide)
  have e1 : lenD (.str x) m = some (.int x.cps.toList.length, m) := if_pos hz
  have e2 : ixD (.str x) (.int v) m' = some (.str ⟨#[d]⟩, m') := by simp only [ixD, if_pos hz, ed, Option.map_some]
  have e3 : ∀ x y : D, kCall 2 (tx.cl (k + 1) 2) [x, y] m = tx.cl (k + 1) 2 [x, y] m := fun x y => r_kcall rfl
  rw [cl3]
  unfold b3
  trivial
def LET : Str := "abcdefghijklmnopqrstuvwxyz"
theorem sign_ok (c : Nat) : decide (c ∈ LET.cps.toList) = (!decide ([c] < [97]) && !decide ([122] < [c])) := by
  have e : LET.cps.toList = [97,98,99,100,101,102,103,104,105,106,107,108,109,110,111,112,113,114,115,116,117,118,119,120,121,122] := by decide +kernel
  rw [e]
  rw [Bool.eq_iff_iff, Bool.and_eq_true, decide_eq_true_iff]
  simp only [Bool.not_eq_true', decide_eq_false_iff_not, one_lt, List.mem_cons, List.not_mem_nil, or_false]
  omega
theorem nT : (!true) = false := rfl
theorem nF : (!false) = true := rfl
theorem word_sign {a : Nat} {m : Mem} {x : Str} : bNot (bVal (dCh leD leD (dC (.str "a")) (dVar 1) (dC (.str "z")))) [some (.str x), some (.str ⟨#[a]⟩)] m = .ok (!decide (a ∈ LET.cps.toList)) m := by
  rw [sign_ok]
  have q1 : leD (.str "a") (.str ⟨#[a]⟩) m = some (.bl (!decide ([a] < [97])), m) := rfl
  have q2 : leD (.str ⟨#[a]⟩) (.str "z") m = some (.bl (!decide ([122] < [a])), m) := rfl
  cases h : decide ([a] < [97]) with
  | true =>
    rw [h] at q1
    have d3 : ∀ {dc : Dn} {p : Sl}, kCh2 leD leD (.str "a") dc p (.str ⟨#[a]⟩) m = _ := r_kch2F q1
    clear h
    trivial
    rfl
  | false =>
    rw [h] at q1
    have d3 : ∀ {dc : Dn} {p : Sl}, kCh2 leD leD (.str "a") dc p (.str ⟨#[a]⟩) m = _ := r_kch2T q1
    clear h
    trivial
    rfl
set_option maxHeartbeats 1000000 in
theorem names_str {k N : Nat} {m : Mem} {x : Str} (hx : Asc N x) (hN : N ≤ 1000) : ∃ b, tx.cl (k + 1) 0 [.str x] m = .ok (.bl b) m ∧ tx.cl (k + 1) 4 [.str x] m = .ok (.bl b) m := by
  have hz : x.length ≤ sizeLine := Nat.le_trans (Nat.le_trans hx.len hN) (by decide)
  have hz' : x.cps.toList.length ≤ sizeLine := hz
  have e1 : lenD (.str x) m = some (.int x.length, m) := if_pos hz
  have e2 : isiD (.str x) (.ty .str) m = some (.bl true, m) := rfl
  rw [cl0, cl4]
  unfold b0 b4
  by_cases h1 : (1 : Int) ≤ x.length
  · have d1 : leD (.int 1) (.int x.length) m = some (.bl true, m) := by rw [r_le, decide_eq_true h1]
    have d3 : ∀ {dc : Dn} {p : Sl}, kCh2 leD leD (.int 1) dc p (.int x.length) m = _ := r_kch2T d1
    by_cases h2 : (x.length : Int) ≤ 8
    · have d2 : decide ((x.length : Int) ≤ 8) = true := decide_eq_true h2
      have ei : iVal (dVar 0) [some (.str x), none] m = .ok (x.cps.toList.map fun c => .str ⟨#[c]⟩) m := rfl
      refine ⟨x.cps.toList.all fun c => decide (c ∈ LET.cps.toList), ?_, ?_⟩
      · have ec := comp_mapy (tf := tgN 1) (te := dOp (inD false) (dVar 1) (dC (.str "abcdefghijklmnopqrstuvwxyz"))) (vs := [1]) (p := [some (.str x), none]) (m := m) (fun c => .str ⟨#[c]⟩) (fun c => .bl (decide (c ∈ LET.cps.toList))) (xs := x.cps.toList) (fun a _ => ⟨_, rfl, rfl⟩)
        have el := lc_ok' ei ec (by rw [List.length_map]; exact hz')
        have ea := all_map (m := m) (fun c => decide (c ∈ LET.cps.toList)) x.cps.toList
        clear ei ec hz hz' hx hN h1 h2
        trivial
      · have ec := comp_mapf (tf := tgN 1) (tt := bNot (bVal (dCh leD leD (dC (.str "a")) (dVar 1) (dC (.str "z"))))) (te := dVar 1) (vs := [1]) (p := [some (.str x), none]) (m := m) (fun c => .str ⟨#[c]⟩) (fun c => !decide (c ∈ LET.cps.toList)) (fun c => .str ⟨#[c]⟩) (xs := x.cps.toList) (fun a _ => ⟨_, rfl, word_sign, fun _ => rfl⟩)
        have el := lc_ok' ei ec (by
          rw [List.length_map]
          exact Nat.le_trans (List.length_filter_le _ _) hz')
        have ea := eq_strs (m := m) (cs := x.cps.toList.filter fun c => !decide (c ∈ LET.cps.toList)) fun c hc => Nat.lt_trans (hx.sg c (List.mem_filter.mp hc).1) (by decide)
        have eb : (x.cps.toList.filter fun c => !decide (c ∈ LET.cps.toList)).isEmpty = x.cps.toList.all fun c => decide (c ∈ LET.cps.toList) := by
          rw [Bool.eq_iff_iff, List.isEmpty_iff, List.filter_eq_nil_iff, List.all_eq_true]
          simp
        rw [eb] at ea
        have en : kLst [] m = .ok (.lst []) m := r_klst (by simp)
        clear ei ec eb hz hz' hx hN h1 h2
        trivial
    · have d2 : decide ((x.length : Int) ≤ 8) = false := decide_eq_false h2
      refine ⟨false, ?_, ?_⟩
      · clear hz hz' hx hN h1 h2
        trivial
      · clear hz hz' hx hN h1 h2
        trivial
  · have d1 : leD (.int 1) (.int x.length) m = some (.bl false, m) := by rw [r_le, decide_eq_false h1]
    have d3 : ∀ {dc : Dn} {p : Sl}, kCh2 leD leD (.int 1) dc p (.int x.length) m = _ := r_kch2F d1
    refine ⟨false, ?_, ?_⟩
    · clear hz hz' hx hN h1
      trivial
    · clear hz hz' hx hN h1
      trivial
theorem names_no {k : Nat} {m : Mem} {d : D} {t : TN} (hd : tyD m d = some t) (ht : isiT t .str = false) : ∃ b, tx.cl (k + 1) 0 [d] m = .ok (.bl b) m ∧ tx.cl (k + 1) 4 [d] m = .ok (.bl b) m := by
  have e : isiD d (.ty .str) m = some (.bl false, m) := by simp only [isiD, hd, Option.map_some, ht]
  rw [cl0, cl4]
  unfold b0 b4
  refine ⟨false, ?_, ?_⟩
  · clear hd ht
    trivial
  · clear hd ht
    trivial
/-- what the names are asked about -/
inductive Fit (m : Mem) : D → Prop
  | str {x : Str} : Asc 100 x → Fit m (.str x)
  | no {d : D} {t : TN} : tyD m d = some t → isiT t .str = false → Fit m d
theorem names_ok {k : Nat} {m : Mem} {d : D} (h : Fit m d) : ∃ b, tx.cl (k + 1) 0 [d] m = .ok (.bl b) m ∧ tx.cl (k + 1) 4 [d] m = .ok (.bl b) m := by
  cases h with
  | str h => exact names_str h (by decide)
  | no h h' => exact names_no h h'
end Lw

namespace Lw
open PySem L2 PyProof.Rows Rf
local macro_rules | `(tactic| trivial) => `(tactic| simp only [r_fn, r_seq, r_seqN, r_seqR, r_sif, r_ksifT, r_ksifF, r_asg, r_kasg, r_ret, r_krt, r_expr, r_kex, r_sub, r_ksub, r_ksub2, r_next, r_finR, r_finN, r_par, r_kpar, r_op, r_kop, r_kop2, r_un, r_kun, r_bind, r_bindL, r_bindB, r_bindS, r_Lbind, r_LbindL, r_LbindS, r_Bbind, r_BbindB, r_BbindS, r_of, r_ofB, r_ofL, r_var0, r_varS, r_c, r_if, r_kifT, r_kifF, r_cons, r_kcons, r_kcons2, r_nil, r_tup, r_lst, r_new, r_ca, r_kca, r_call, r_ch, r_kch, r_kch3, r_sl, r_ksl, r_ksl2, r_ksl3, r_partN, r_partS, r_kpart, r_prtN, r_prtI, r_mt, r_and, r_or, r_not, r_kand, r_kor, r_knot, r_val, r_kval, r_tru, r_ktru, r_truB, r_bnot, r_kbnot, r_band, r_bor, r_kbandT, r_kbandF, r_kborT, r_kborF, r_for, r_kfor, r_fn1, r_fn2, r_add, r_subI, r_neg, r_lt, r_le, r_gt, r_ge, r_intI, r_intB, r_abs, r_max, r_min, Bf.den, r_klst, r_ktup, r_knew, r_kcall, r_kmt2, Mf.den,
  List.set_cons_zero, List.set_cons_succ, List.map_cons, List.map_nil, List.cons_append, List.nil_append, List.replicate, List.length_cons, List.length_nil, if_true, Bool.false_eq_true, if_false, Nat.reduceAdd, Nat.reduceSub, Nat.zero_add, decide_true, decide_false, Nat.reduceLeDiff, Bool.not_true, Bool.not_false, *])
theorem r_addL {x y : List D} {m : Mem} (h : x.length + y.length ≤ 1000) : addD (.lst x) (.lst y) m = some (.lst (x ++ y), m) := if_pos (Nat.le_trans h (by decide))
theorem r_addS {x y : Str} {m : Mem} (h : x.length + y.length ≤ 1000) : addD (.str x) (.str y) m = some (.str (x ++ y), m) := if_pos (Nat.le_trans h (by decide))
theorem r_slS {x : Str} {m : Mem} {lo hi : Option Int} (h : x.length ≤ 1000) : slD (.str x) lo hi m = some (.str (cutS x lo hi), m) := if_pos (Nat.le_trans h (by decide))
theorem r_lenS {x : Str} {m : Mem} (h : x.length ≤ 1000) : lenD (.str x) m = some (.int x.length, m) := if_pos (Nat.le_trans h (by decide))
theorem r_upS {x : Str} {m : Mem} (h : x.length ≤ 1000) : upperD (.str x) [] m = some (.str (Txt.upper x), m) := if_pos (Nat.le_trans h (by decide))
theorem r_reprB {b : Bool} {m : Mem} : reprD (.bl b) m = some (.str (PyData.shown (.bool b)), m) := by cases b <;> rfl
theorem r_neS {x : Str} {m : Mem} : neD (.str x) (.str x) m = some (.bl false, m) := by simp [neD, eqB]
def odds (p : Int) : List D := [.non, .int 0, .int 1, .int 7, .int 99, .int (-1), .bl true, .bl false, .str "", .str "a", .str "do", .str "seq", .tup [], .tup [.int 0], .tup [.int 1, .int 0], .tup [.str "seq"], .lst [.int 0], .dct [] [], .str "p", .int p, .tup [.non], .tup [.str "run", .str "b"], .tup [.str "exit", .str "l"], .tup [.str "call", .str "main"], .tup [.str "raise", .str "s"], .lst [.str "seq"], .tup [.str "or"]]
theorem odds_fit {p : Int} : ∀ d ∈ odds p, ∀ m, Fit m d := by
  unfold odds
  simp only [List.forall_mem_cons, List.forall_mem_nil, and_true, forall_const]
  have no : ∀ (d : D) (t : TN), (∀ m, tyD m d = some t) → isiT t .str = false → ∀ m, Fit m d := fun d t h1 h2 m => .no (h1 m) h2
  refine ⟨no _ .NoneType (fun _ => rfl) rfl, no _ .int (fun _ => rfl) rfl, no _ .int (fun _ => rfl) rfl, no _ .int (fun _ => rfl) rfl, no _ .int (fun _ => rfl) rfl, no _ .int (fun _ => rfl) rfl, no _ .bool (fun _ => rfl) rfl, no _ .bool (fun _ => rfl) rfl, fun m => .str ⟨by decide, by decide⟩, fun m => .str ⟨by decide, by decide⟩, fun m => .str ⟨by decide, by decide⟩, fun m => .str ⟨by decide, by decide⟩, no _ .tuple (fun _ => rfl) rfl, no _ .tuple (fun _ => rfl) rfl, no _ .tuple (fun _ => rfl) rfl, no _ .tuple (fun _ => rfl) rfl, no _ .list (fun _ => rfl) rfl, no _ .dict (fun _ => rfl) rfl, fun m => .str ⟨by decide, by decide⟩, no _ .int (fun _ => rfl) rfl, no _ .tuple (fun _ => rfl) rfl, no _ .tuple (fun _ => rfl) rfl, no _ .tuple (fun _ => rfl) rfl, no _ .tuple (fun _ => rfl) rfl, no _ .tuple (fun _ => rfl) rfl, no _ .list (fun _ => rfl) rfl, no _ .tuple (fun _ => rfl) rfl, by simp⟩
set_option maxHeartbeats 1000000 in
theorem odd_ok {k n : Nat} {m : Mem} (hm : Die n m) : ∃ d m', tx.cl (k + 3) 5 [.ref n] m = .ok d m' ∧ (∀ m, Fit m d) ∧ Upd n m m' := by
  obtain ⟨p, ep⟩ : ∃ p : Int, powD (.int 10) (.int 39) m = some (.int p, m) := ⟨_, r_pow (by decide +kernel)⟩
  obtain ⟨d, m', e, hd, u⟩ := pick_ok (k := k) hm (xs := odds p) (by simp [odds]) (by simp [odds])
  refine ⟨d, m', ?_, odds_fit d hd, u⟩
  rw [cl5]
  unfold b5
  have ea : addD (.lst [.non, .int 0, .int 1, .int 7, .int 99, .int (-1), .bl true, .bl false, .str "", .str "a", .str "do", .str "seq", .tup [], .tup [.int 0], .tup [.int 1, .int 0], .tup [.str "seq"], .lst [.int 0], .dct [] [], .str "p"]) (.lst [.int p, .tup [.non], .tup [.str "run", .str "b"], .tup [.str "exit", .str "l"], .tup [.str "call", .str "main"], .tup [.str "raise", .str "s"], .lst [.str "seq"], .tup [.str "or"]]) m = some (.lst (odds p), m) := r_addL (by simp)
  clear hd u hm
  trivial
theorem strs_of : ∀ {ys : List D}, (∀ y ∈ ys, ∃ c, c ∈ LET.cps.toList ∧ y = .str ⟨#[c]⟩) → ∃ cs : List Nat, ys = cs.map (fun c => .str ⟨#[c]⟩) ∧ ∀ c ∈ cs, c ∈ LET.cps.toList
  | [], _ => ⟨[], rfl, by simp⟩
  | y :: ys, h => by
    obtain ⟨c, hc, rfl⟩ := h y List.mem_cons_self
    obtain ⟨cs, rfl, hs⟩ := strs_of fun z hz => h z (List.mem_cons_of_mem _ hz)
    exact ⟨c :: cs, rfl, by intro d hd; exact (List.mem_cons.mp hd).elim (fun e => e ▸ hc) (hs d)⟩
theorem strsOf_map : ∀ cs : List Nat, strsOf (cs.map fun c => .str ⟨#[c]⟩) = some (cs.map fun c => ⟨#[c]⟩)
  | [] => rfl
  | c :: cs => by simp only [List.map_cons, strsOf, strsOf_map cs, Option.map_some]
theorem let_asc : ∀ c ∈ LET.cps.toList, c < 128 := by decide +kernel
theorem sum_ones (cs : List Nat) : (((cs.map fun c => (⟨#[c]⟩ : Str)).map (·.length)).sum) = cs.length := by
  induction cs with
  | nil => rfl
  | cons c cs ih => simp only [List.map_cons, List.sum_cons, ih, List.length_cons]; show 1 + _ = _; omega
set_option maxHeartbeats 1000000 in
theorem word_ok {k n : Nat} {m : Mem} {p : Sl} (hm : Die n m) (h0 : p[0]? = some (some (.ref n))) (h1 : p[1]? = some (some (.str LET))) (h3 : 3 < p.length) : ∃ x m', dMt "join" (dC (.str "")) (dCons (dLc (iR1 (dCall 2 (tx.cl (k + 2) 2) (dCons (dVar 0) (dCons (dC (.int 10)) dNil)))) (tgN 3) bYes (dCall 2 (tx.cl (k + 2) 3) (dCons (dVar 0) (dCons (dVar 1) dNil))) [3]) dNil) p m = .ok (.str x) m' ∧ Asc 9 x ∧ Upd n m m' := by
  obtain ⟨a, b, c, hm'⟩ := hm
  obtain ⟨v, m1, e1, l1, l2, u1⟩ := cast_ok (k := k + 1) hm' (t := 10) (by decide) (by decide)
  have ei : iR1 (dCall 2 (tx.cl (k + 2) 2) (dCons (dVar 0) (dCons (dC (.int 10)) dNil))) p m = .ok ((List.range v.toNat).map fun i => .int (0 + (i : Nat))) m1 := by
    have q : rng1 [.int v] = some ((List.range v.toNat).map fun i => .int (0 + (i : Nat))) := if_pos (by omega)
    have v0 := r_var (m := m) h0
    have z : ∀ (f : Dn) (p : Sl) (m : Mem), iR1 f p m = (dCons f dNil p m).bindL fun ds m => ResL.ofO (rng1 ds) m := fun _ _ _ => rfl
    rw [z]
    clear u1 l1 l2 hm' h0 h1 z
    trivial
  obtain ⟨ys, m2, ec, u2, hl, hy⟩ := comp_inv (tf := tgN 3) (te := dCall 2 (tx.cl (k + 2) 3) (dCons (dVar 0) (dCons (dVar 1) dNil))) (vs := [3]) (p := p) (fun m' => Upd n m m') (fun y => ∃ c, c ∈ LET.cps.toList ∧ y = .str ⟨#[c]⟩) (ds := (List.range v.toNat).map fun i => .int (0 + (i : Nat))) (m := m1) u1 (fun d _ m' u => by
    obtain ⟨c, m'', ep, hc, u'⟩ := picks_ok (k := k) (x := LET) (m := m') u.die (by decide) (by decide)
    refine ⟨_, .str ⟨#[c]⟩, m'', rfl, ?_, u.trans u', c, hc, rfl⟩
    have w0 : (((wipeD p [3]).set 3 (some d)))[0]? = some (some (.ref n)) := by simp [wipeD, h0]
    have w1 : (((wipeD p [3]).set 3 (some d)))[1]? = some (some (.str LET)) := by simp [wipeD, h1]
    have v0 := r_var (m := m') w0
    have v1 := r_var (m := m') w1
    clear u' hc u w0 w1 h0 h1
    trivial)
  have hl' : ys.length ≤ 9 := by rw [hl, List.length_map, List.length_range]; omega
  have el := lc_ok' ei ec (Nat.le_trans hl' (by decide))
  obtain ⟨cs, rfl, hs⟩ := strs_of hy
  have hn : cs.length ≤ 9 := by simpa using hl'
  refine ⟨Txt.join ⟨#[]⟩ (cs.map fun c => ⟨#[c]⟩), m2, ?_, (join_asc fun c hc => let_asc c (hs c hc)).mono hn, u2⟩
  have ej : joinD (.str "") [.lst (cs.map fun c => .str ⟨#[c]⟩)] m2 = some (.str (Txt.join ⟨#[]⟩ (cs.map fun c => ⟨#[c]⟩)), m2) := by
    simp only [joinD, seqD, Option.bind_some, strsOf_map, sum_ones]
    have z : cs.length + (cs.map fun c => (⟨#[c]⟩ : Str)).length * ("" : Str).length ≤ 16777216 := by
      have : ("" : Str).length = 0 := rfl
      rw [this]; omega
    rw [if_pos z]; rfl
  have et : ∀ (r : DnL) (p : Sl), kMt "join" r p (.str "") m = (r p m).bind (kMt2 .join (.str "")) := fun r p => r_kmt rfl
  clear hy ec ei u1 u2 hm' hl hl' hs hn h0 h1 h3
  trivial
/-- one value asked of both -/
theorem ask_ok {k : Nat} {m : Mem} {d : D} {p : Sl} (h : Fit m d) (hp : p[7]? = some (some d)) : (sSeq (sIf (bVal (dOp neD (dCa Bf.repr.den (dCons (dCall 1 (tx.cl (k + 1) 0) (dCons (dVar 7) dNil)) dNil)) (dCa Bf.repr.den (dCons (dCall 1 (tx.cl (k + 1) 4) (dCons (dVar 7) dNil)) dNil)))) (sSeq (sRet (dC (.bl false))) sNext) sNext) sNext) p m = .nx p m := by
  obtain ⟨b, e1, e2⟩ := names_ok (k := k) h
  have v := r_var (m := m) hp
  have e3 := r_reprB (b := b) (m := m)
  have e4 := r_neS (x := PyData.shown (.bool b)) (m := m)
  clear h hp
  trivial
def signs : List D := [.str "A", .str " ", .str "0", .str "_", .str "-", .str "{", .str "`", .str "\n", .str "z", .str "aa"]
theorem signs_asc : ∀ d ∈ signs, ∃ x, d = .str x ∧ Asc 2 x := by
  unfold signs
  simp only [List.forall_mem_cons]
  refine ⟨?_, ?_, ?_, ?_, ?_, ?_, ?_, ?_, ?_, ?_, by simp⟩ <;> exact ⟨_, rfl, by decide, by decide⟩
set_option maxHeartbeats 2000000 in
theorem right_ok {k n : Nat} {m : Mem} (hm : Die n m) : ∃ m', tx.cl (k + 5) 6 [.ref n] m = .ok (.bl true) m' ∧ Upd n m m' := by
  obtain ⟨x, m1, e1, a1, u1⟩ := word_ok (k := k + 2) (p := [some (.ref n), some (.str LET), none, none, none, none, none, none]) hm rfl rfl (by simp)
  obtain ⟨q1, q2, q3, h1⟩ := u1.die
  obtain ⟨v, m2, e2, l1, l2, u2⟩ := cast_ok (k := k + 3) h1 (t := (x.length : Int) + 1) (by omega) (by have := a1.len; omega)
  obtain ⟨d, m3, e3, hd, u3⟩ := pick_ok (k := k + 2) u2.die (xs := signs) (by decide) (by decide)
  obtain ⟨y, rfl, a2⟩ := signs_asc d hd
  obtain ⟨o, m4, e4, f4, u4⟩ := odd_ok (k := k + 1) u3.die
  have s1 : ∀ m, slD (.str x) none (some v) m = some (.str (cutS x none (some v)), m) := fun m => r_slS (by have := a1.len; omega)
  have s2 : ∀ m, slD (.str x) (some v) none m = some (.str (cutS x (some v) none), m) := fun m => r_slS (by have := a1.len; omega)
  have s3 : ∀ m, lenD (.str x) m = some (.int x.length, m) := fun m => r_lenS (by have := a1.len; omega)
  have s4 : ∀ m, upperD (.str x) [] m = some (.str (Txt.upper x), m) := fun m => r_upS (by have := a1.len; omega)
  have s5 : ∀ m, addD (.str x) (.str x) m = some (.str (x ++ x), m) := fun m => r_addS (by have := a1.len; omega)
  have g1 := a1.cut none (some v)
  have g2 := a1.cut (some v) none
  have s6 : ∀ m, addD (.str (cutS x none (some v))) (.str y) m = some (.str (cutS x none (some v) ++ y), m) := fun m => r_addS (by have := g1.len; have := a2.len; omega)
  have s7 : ∀ m, addD (.str (cutS x none (some v) ++ y)) (.str (cutS x (some v) none)) m = some (.str (cutS x none (some v) ++ y ++ cutS x (some v) none), m) := fun m => r_addS (by have := (g1.add a2).len; have := g2.len; omega)
  have et : ∀ (r : DnL) (p : Sl), kMt "upper" r p (.str x) m3 = (r p m3).bind (kMt2 .upper (.str x)) := fun r p => r_kmt rfl
  let vs : List D := [.str x, .str (cutS x none (some v) ++ y ++ cutS x (some v) none), .str (cutS x none (some v)), .str (Txt.upper x), .str (x ++ x), .lst [.str x], .tup [.str x], o]
  have fits : ∀ d ∈ vs, Fit m4 d := by
    simp only [vs, List.forall_mem_cons]
    exact ⟨.str (a1.mono (by decide)), .str (((g1.add a2).add g2).mono (by decide)), .str (g1.mono (by decide)), .str (a1.upper.mono (by decide)), .str ((a1.add a1).mono (by decide)), .no (t := .list) rfl rfl, .no (t := .tuple) rfl rfl, f4 m4, by simp⟩
  obtain ⟨p', m', ef, c, rfl, rfl⟩ := for_inv (tf := tgN 7) (bd := sSeq (sIf (bVal (dOp neD (dCa Bf.repr.den (dCons (dCall 1 (tx.cl (k + 4) 0) (dCons (dVar 7) dNil)) dNil)) (dCa Bf.repr.den (dCons (dCall 1 (tx.cl (k + 4) 4) (dCons (dVar 7) dNil)) dNil)))) (sSeq (sRet (dC (.bl false))) sNext) sNext) sNext)
    (fun p m => ∃ c, p = [some (.ref n), some (.str LET), some (.str x), none, some (.int v), some (.str y), some (.lst vs), c] ∧ m = m4) (ds := vs) (p := [some (.ref n), some (.str LET), some (.str x), none, some (.int v), some (.str y), some (.lst vs), none]) (m := m4) ⟨none, rfl, rfl⟩ (by
      rintro d hd p m ⟨c, rfl, rfl⟩
      exact ⟨_, _, _, rfl, ask_ok (k := k + 3) (fits d hd) rfl, some d, rfl, rfl⟩)
  refine ⟨m', ?_, ((u1.trans u2).trans u3).trans u4⟩
  have ei : iVal (dVar 6) [some (.ref n), some (.str LET), some (.str x), none, some (.int v), some (.str y), some (.lst vs), none] m' = .ok vs m' := rfl
  have el : (Str.ofString "abcdefghijklmnopqrstuvwxyz") = LET := rfl
  have eS : ([.str "A", .str " ", .str "0", .str "_", .str "-", .str "{", .str "`", .str "\n", .str "z", .str "aa"] : List D) = signs := rfl
  have eV : ([.str x, .str (cutS x none (some v) ++ y ++ cutS x (some v) none), .str (cutS x none (some v)), .str (Txt.upper x), .str (x ++ x), .lst [.str x], .tup [.str x], o] : List D) = vs := rfl
  have kS : ∀ m, kLst signs m = .ok (.lst signs) m := fun m => r_klst (by decide)
  have kV : ∀ m, kLst vs m = .ok (.lst vs) m := fun m => r_klst (by simp [vs])
  rw [cl6]
  unfold b6
  clear fits a1 a2 g1 g2 u1 u2 u3 u4 f4 hd h1 l1 l2 hm
  clear_value vs
  simp only [Bf.den] at ef
  simp only [Nat.add_assoc, Nat.reduceAdd] at e1 e2 e3 e4
  generalize dMt "join" (dC (.str "")) _ = W at e1 ⊢
  trivial
theorem told_ok {k : Nat} {m : Mem} : ∀ a ∈ ([("a", true), ("zzzzzzzz", true), ("aaaaaaaaa", false), ("", false), ("block", true), ("Run", false), ("a1", false), ("blocking", true)] : List (Str × Bool)), tx.cl (k + 1) 0 [.str a.1] m = .ok (.bl a.2) m := by
  rw [cl0]
  simp only [List.forall_mem_cons]
  refine ⟨?_, ?_, ?_, ?_, ?_, ?_, ?_, ?_, by simp⟩ <;> kernel_rfl
theorem die_new {m : Mem} {a b : Int} : Die m.length (m ++ [some (.lst [.int a, .int b, .int 0])]) := ⟨a, b, 0, by simp⟩
set_option maxHeartbeats 2000000 in
theorem law_true (ns : List Int) (hn : ns.length ≤ 63) : ∃ m, tx.cl 8 7 [.scr (ns.map .int)] [] = .ok (.bl true) m := by
  rw [cl7]
  have e0 : ∀ m, lenD (.scr (ns.map .int)) m = some (.int ns.length, m) := fun m => by simp [lenD, seqD]
  have hr : ∀ (f : Dn) (p : Sl) (m : Mem), iR1 f p m = (dCons f dNil p m).bindL fun ds m => ResL.ofO (rng1 ds) m := fun _ _ _ => rfl
  obtain ⟨t, ht⟩ : ∃ t : Int, t = if (if (ns.length : Int) < 8 then (ns.length : Int) else 8) > 1 then (if (ns.length : Int) < 8 then (ns.length : Int) else 8) else 1 := ⟨_, rfl⟩
  have hq : rng1 [.int t] = some ((List.range t.toNat).map fun i => .int (0 + (i : Nat))) := if_pos (by rw [ht]; split <;> split <;> omega)
  have hi : ∀ p m, p[0]? = some (some (.scr (ns.map .int))) → iR1 (dCa Bf.max.den (dCons (dC (.int 1)) (dCons (dCa Bf.min.den (dCons (dC (.int 8)) (dCons (dCa Bf.len.den (dCons (dVar 0) dNil)) dNil))) dNil))) p m = .ok ((List.range t.toNat).map fun i => .int (0 + (i : Nat))) m := by
    intro p m h
    have v := r_var (m := m) h
    rw [hr]
    clear hn hr h
    trivial
    simp only [← ht, hq, r_ofL]
  have h6 : rng1 [.int 6] = some [.int 0, .int 1, .int 2, .int 3, .int 4, .int 5] := by kernel_rfl
  have inner : ∀ (n : Nat) (a c d e : Option D) (m : Mem), Die n m → ∃ c' m', (sFor (iR1 (dC (.int 6))) (tgN 3) (sSeq (sIf (bNot (bTru (dCall 1 (tx.cl 7 6) (dCons (dVar 2) dNil)))) (sSeq (sRet (dC (.bl false))) sNext) sNext) sNext)) [some (.scr (ns.map .int)), a, some (.ref n), c, d, e] m = .nx [some (.scr (ns.map .int)), a, some (.ref n), c', d, e] m' := by
    intro n a c d e m hm
    obtain ⟨p', m', ef, c', rfl, _⟩ := for_inv (tf := tgN 3) (bd := sSeq (sIf (bNot (bTru (dCall 1 (tx.cl 7 6) (dCons (dVar 2) dNil)))) (sSeq (sRet (dC (.bl false))) sNext) sNext) sNext)
      (fun p m => ∃ c, p = [some (.scr (ns.map .int)), a, some (.ref n), c, d, e] ∧ Die n m) (ds := [.int 0, .int 1, .int 2, .int 3, .int 4, .int 5]) (p := [some (.scr (ns.map .int)), a, some (.ref n), c, d, e]) (m := m) ⟨c, rfl, hm⟩ (by
        rintro x _ p m ⟨c, rfl, hm⟩
        obtain ⟨m', e1, u⟩ := right_ok (k := 2) hm
        refine ⟨_, [some (.scr (ns.map .int)), a, some (.ref n), some x, d, e], m', rfl, ?_, some x, rfl, u.die⟩
        simp only [Nat.reduceAdd] at e1
        have z : [some (D.scr (ns.map .int)), a, some (.ref n), c, d, e].set 3 (some x) = [some (.scr (ns.map .int)), a, some (.ref n), some x, d, e] := rfl
        rw [z]
        clear u hm hi hr z hn ht hq h6
        trivial)
    refine ⟨c', m', ?_⟩
    have ei : iR1 (dC (.int 6)) [some (.scr (ns.map .int)), a, some (.ref n), c, d, e] m = .ok [.int 0, .int 1, .int 2, .int 3, .int 4, .int 5] m := by
      rw [hr]
      clear hn hr hi hq ef hm
      trivial
    exact (sfor ei).trans ef
  obtain ⟨p', m', ef, a, b, c, d, e, rfl⟩ := for_inv (tf := tgN 1) (bd := sSeq (sAsg (dCall 2 (tx.cl 7 1) (dCons (dVar 0) (dCons (dVar 1) dNil))) (tgN 2)) (sSeq (sFor (iR1 (dC (.int 6))) (tgN 3) (sSeq (sIf (bNot (bTru (dCall 1 (tx.cl 7 6) (dCons (dVar 2) dNil)))) (sSeq (sRet (dC (.bl false))) sNext) sNext) sNext)) sNext)) (fun p m => ∃ a b c d e, p = [some (.scr (ns.map .int)), a, b, c, d, e]) (ds := (List.range t.toNat).map fun i => .int (0 + (i : Nat))) (p := [some (.scr (ns.map .int)), none, none, none, none, none]) (m := []) ⟨_, _, _, _, _, rfl⟩ (by
    intro x hx p m ⟨a, b, c, d, e, hp⟩
    subst hp
    obtain ⟨i, _, rfl⟩ := List.mem_map.mp hx
    obtain ⟨q1, q2, e1⟩ := numbers_ok (k := 6) (i := i) (m := m) (ns := ns)
    have z : ((0 : Int) + (i : Nat)) = (i : Int) := Int.zero_add _
    rw [z]
    obtain ⟨c', m', e2⟩ := inner m.length (some (.int i)) c d e _ (die_new (m := m) (a := q1) (b := q2))
    refine ⟨_, [some (.scr (ns.map .int)), some (.int i), some (.ref m.length), c', d, e], m', rfl, ?_, ⟨_, _, _, _, _, rfl⟩⟩
    have w : [some (D.scr (ns.map .int)), a, b, c, d, e].set 1 (some (.int i)) = [some (.scr (ns.map .int)), some (.int i), b, c, d, e] := rfl
    rw [w]
    generalize sFor _ _ _ = F at e2 ⊢
    simp only [Nat.reduceAdd] at e1
    clear inner hi hr hn ht hq h6 hx w z
    trivial)
  have ei := hi [some (.scr (ns.map .int)), none, none, none, none, none] [] rfl
  have ef' := (sfor (tf := tgN 1) (bd := _) ei).trans ef
  have et : iVal (dTup (dCons (dC (.str "a")) (dCons (dC (.str "zzzzzzzz")) (dCons (dC (.str "aaaaaaaaa")) (dCons (dC (.str "")) (dCons (dC (.str "block")) (dCons (dC (.str "Run")) (dCons (dC (.str "a1")) (dCons (dC (.str "blocking")) dNil))))))))) [some (.scr (ns.map .int)), a, b, c, d, e] m' = .ok (([("a", true), ("zzzzzzzz", true), ("aaaaaaaaa", false), ("", false), ("block", true), ("Run", false), ("a1", false), ("blocking", true)] : List (Str × Bool)).map fun a => .str a.1) m' := rfl
  have ec := comp_mapy (tf := tgN 5) (te := dCall 1 (tx.cl 7 0) (dCons (dVar 5) dNil)) (vs := [5]) (p := [some (.scr (ns.map .int)), a, b, c, d, e]) (m := m') (fun a => .str a.1) (fun a => .bl a.2) (xs := ([("a", true), ("zzzzzzzz", true), ("aaaaaaaaa", false), ("", false), ("block", true), ("Run", false), ("a1", false), ("blocking", true)] : List (Str × Bool))) (fun x hx => ⟨[some (.scr (ns.map .int)), a, b, c, d, some (.str x.1)], rfl, by
    have q := told_ok (k := 6) (m := m') x hx
    simp only [Nat.reduceAdd] at q
    clear hi hr hn ht hq h6 hx inner ei ef ef' et e0
    trivial⟩)
  have el := lc_ok' et ec (by decide)
  refine ⟨m', ?_⟩
  unfold b7
  have eq : eqD (.lst [.bl true, .bl true, .bl false, .bl false, .bl true, .bl false, .bl false, .bl true]) (.lst [.bl true, .bl true, .bl false, .bl false, .bl true, .bl false, .bl false, .bl true]) m' = some (.bl true, m') := by kernel_rfl
  generalize sFor _ _ _ = F at ef' ⊢
  generalize dLc _ _ _ _ _ = L at el ⊢
  clear inner hi hr hn ht hq h6 ei ef et ec e0
  trivial
end Lw

open PySem PySem.W PySem.Calls PyProof.Rows
set_option maxHeartbeats 0 in
theorem PySem.Challenge.cw_handedworld_k01_names_holds : PySem.Challenge.rw_handedworld_k01_names.Holds := by
  w_on; o_law
  refine HandSHeadRun.head_any (r := OpenLaw.row PySem.Challenge.rw_handedworld_k01_names) (q := view (OpenLaw.row PySem.Challenge.rw_handedworld_k01_names).prog [11]) (H := Lw.hk) (ob := Rf.obS 4 (Rf.faOf Lw.tx.ds Lw.ex) (Lw.tx.ds.map Rf.Df.fnd)) (M := 2000) (loose := Lw.loose) (d := HandSHeadRun.topDef (OpenLaw.row PySem.Challenge.rw_handedworld_k01_names).prog 11) (kwd := []) (Rf.obS_eq _ _ _)
    (by kernel_rfl) (fun s => by kernel_rfl) Lw.run (by kernel_rfl) (by kernel_rfl) (by kernel_rfl) (by rfl) (by first | assumption | decide +kernel) (by decide +kernel) ⟨rfl, rfl, rfl, rfl, rfl, by decide +kernel⟩ ?hw ?hc
  case hw => w_witness2
  case hc =>
    exact Rf.walk_tx (t := Lw.tx) (ex := Lw.ex) (i := 7) (k := 8) (n := 63) (x := "_law_script") (dl := Lw.d7) rfl (by decide) (by kernel_rfl) ⟨rfl, by decide, by decide⟩ rfl (by decide +kernel) Lw.binds Lw.scopes rfl rfl (by kernel_rfl) (fun _ _ _ _ _ _ _ => rfl) Lw.law_true
