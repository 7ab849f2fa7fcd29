import PyProof.Rows.All
import Wide.All
import OpenK.AllK
import Wide.FinOn
import HandS.ForMost
import HandS.IsInst
import HandS.Style
import HandS.TupAny
import HandS.SortInts
import HandS.SortRule
import HandS.Deep
import HandS.NoneIn
import HandS.SetKeys
import HandS.Walk
import HandS.Zip
import HandS.Strs
import HandS.More
import KE.DataMinMax
import KE.DatumOrd
import HandS.SortKw
import KE.GoesMore
import HandS.TupSets
import KE.SortData
import KE.KStateDown
import HandS.Words
import HandS.WordsExc
import HandS.Defaults
import HandS.Head0
import HandS.Head1
import HandS.Head2
import HandS.HeadEnd
import HandS.HeadHook1
import HandS.HeadHook2
import PySem.Challenge.RW_thronewalk_k39_whole_the_first_is_the_fi
set_option Elab.async false
set_option linter.all false
set_option maxRecDepth 100000
set_option maxHeartbeats 0
/-! TW1: data without heaps; environments; what may change. -/
namespace TW
open PySem PySem.Spec PyProof.Rows L2

abbrev Fg := PySem.W.Frag

/-- data: never changed once made -/
inductive D where
  | non
  | bl (b : Bool)
  | int (i : Int)
  | str (x : Str)
  | tup (ds : List D)

mutual
/-- in the heap H the value v is the datum d -/
inductive Is (K : Fg) (H : Hp) : V → D → Prop
  | non : Is K H .non .non
  | bl (b : Bool) : Is K H (.bl b) (.bl b)
  | int (i : Int) : Is K H (.int i) (.int i)
  | str (x : Str) : Is K H (.str x) (.str x)
  | tup {a : Addr} {xs : List V} {ds : List D} : H a = some (.tup xs) → IsL K H xs ds → Is K H (.ref a) (.tup ds)
inductive IsL (K : Fg) (H : Hp) : List V → List D → Prop
  | nil : IsL K H [] []
  | cons {v : V} {vs : List V} {d : D} {ds : List D} : Is K H v d → IsL K H vs ds → IsL K H (v :: vs) (d :: ds)
end

/-- tuples stay -/
def Tx (H H' : Hp) : Prop := ∀ a xs, H a = some (.tup xs) → H' a = some (.tup xs)
theorem Tx.refl (H : Hp) : Tx H H := fun _ _ h => h
theorem Tx.trans {H H1 H2 : Hp} (a : Tx H H1) (b : Tx H1 H2) : Tx H H2 := fun p xs h => b p xs (a p xs h)
mutual
theorem Is.mono {K : Fg} {H H' : Hp} (t : Tx H H') : ∀ {v : V} {d : D}, Is K H v d → Is K H' v d
  | _, _, .non => .non
  | _, _, .bl b => .bl b
  | _, _, .int i => .int i
  | _, _, .str x => .str x
  | _, _, .tup h hs => .tup (t _ _ h) (IsL.mono t hs)
theorem IsL.mono {K : Fg} {H H' : Hp} (t : Tx H H') : ∀ {vs : List V} {ds : List D}, IsL K H vs ds → IsL K H' vs ds
  | _, _, .nil => .nil
  | _, _, .cons h hs => .cons (Is.mono t h) (IsL.mono t hs)
end
section
variable {K : Fg} {H : Hp}
theorem IsL.length : ∀ {vs : List V} {ds : List D}, IsL K H vs ds → vs.length = ds.length
  | _, _, .nil => rfl
  | _, _, .cons _ hs => congrArg (· + 1) hs.length
theorem IsL.get : ∀ {vs : List V} {ds : List D} {i : Nat} {d : D}, IsL K H vs ds → ds[i]? = some d → ∃ v, vs[i]? = some v ∧ Is K H v d
  | _, _, i, d, .nil, h => by simp at h
  | _, _, 0, d, .cons h _, e => by
    simp at e
    subst e
    exact ⟨_, rfl, h⟩
  | _, _, i + 1, d, .cons _ hs, e => by
    obtain ⟨v, e1, e2⟩ := hs.get (i := i) (d := d) (by simpa using e)
    exact ⟨v, by simpa using e1, e2⟩
theorem IsL.getV : ∀ {vs : List V} {ds : List D} {i : Nat} {v : V}, IsL K H vs ds → vs[i]? = some v → ∃ d, ds[i]? = some d ∧ Is K H v d
  | _, _, i, d, .nil, h => by simp at h
  | _, _, 0, d, .cons h _, e => by
    simp at e
    subst e
    exact ⟨_, rfl, h⟩
  | _, _, i + 1, d, .cons _ hs, e => by
    obtain ⟨v, e1, e2⟩ := hs.getV (i := i) (v := d) (by simpa using e)
    exact ⟨v, by simpa using e1, e2⟩
theorem IsL.append : ∀ {vs ws : List V} {ds es : List D}, IsL K H vs ds → IsL K H ws es → IsL K H (vs ++ ws) (ds ++ es)
  | _, _, _, _, .nil, h => h
  | _, _, _, _, .cons h hs, k => .cons h (hs.append k)
theorem IsL.take : ∀ {vs : List V} {ds : List D} (n : Nat), IsL K H vs ds → IsL K H (vs.take n) (ds.take n)
  | _, _, 0, _ => .nil
  | _, _, _ + 1, .nil => .nil
  | _, _, n + 1, .cons h hs => .cons h (hs.take n)
theorem IsL.drop : ∀ {vs : List V} {ds : List D} (n : Nat), IsL K H vs ds → IsL K H (vs.drop n) (ds.drop n)
  | _, _, 0, h => h
  | _, _, _ + 1, .nil => .nil
  | _, _, n + 1, .cons _ hs => hs.drop n
theorem IsL.rev : ∀ {vs : List V} {ds : List D}, IsL K H vs ds → IsL K H vs.reverse ds.reverse
  | _, _, .nil => .nil
  | _, _, .cons h hs => by
    rw [List.reverse_cons, List.reverse_cons]
    exact hs.rev.append (.cons h .nil)
theorem IsL.set : ∀ {vs : List V} {ds : List D} (i : Nat) {v : V} {d : D}, Is K H v d → IsL K H vs ds → IsL K H (vs.set i v) (ds.set i d)
  | _, _, _, _, _, _, .nil => .nil
  | _, _, 0, _, _, h, .cons _ t => .cons h t
  | _, _, i + 1, _, _, h, .cons q t => .cons q (t.set i h)
theorem IsL.dropLast : ∀ {vs : List V} {ds : List D}, IsL K H vs ds → IsL K H vs.dropLast ds.dropLast
  | _, _, .nil => .nil
  | _, _, .cons _ .nil => .nil
  | _, _, .cons h (.cons h2 t) => .cons h (IsL.dropLast (.cons h2 t))
theorem IsL.rep {v : V} {d : D} (h : Is K H v d) : ∀ n, IsL K H (List.replicate n v) (List.replicate n d)
  | 0 => .nil
  | n + 1 => .cons h (IsL.rep h n)
/-- lists of numbers, of truths -/
theorem IsL.ints : ∀ {vs : List V} {ns : List Int}, IsL K H vs (ns.map D.int) → vs = ns.map V.int
  | _, [], .nil => rfl
  | _, n :: ns, .cons h hs => by
    cases h
    rw [List.map_cons, hs.ints]
theorem IsL.bls : ∀ {vs : List V} {ns : List Bool}, IsL K H vs (ns.map D.bl) → vs = ns.map V.bl
  | _, [], .nil => rfl
  | _, n :: ns, .cons h hs => by
    cases h
    rw [List.map_cons, hs.bls]
theorem IsL.of_ints : ∀ (ns : List Int), IsL K H (ns.map V.int) (ns.map D.int)
  | [] => .nil
  | n :: ns => .cons (.int n) (IsL.of_ints ns)
end

/-! ### the state of the law's own draws: its list, known in kind only -/
def ScrOk (K : Fg) (H : Hp) (a : Addr) (xs : List V) : Prop := (∃ o, H a = some (.frz o (.lst xs))) ∨
    ∃ (o : Obj) (its : Array Value) (n : Nat), K.lookup a = some o ∧ o.cls = .type "list" ∧ o.dict = none ∧ o.data = .seq its n ∧ its.size ≤ sizeLine ∧ Vals xs its.toList
theorem ScrOk.seq {K : Fg} {H : Hp} {a : Addr} {xs : List V} (h : ScrOk K H a xs) : SqL K H a xs := by
  rcases h with h | h
  · exact .inl (.inr h)
  · exact .inr h
/-- at s stands the law's state: the script, a place, a rest, a seed -/
def StOk (K : Fg) (H : Hp) (s : Addr) : Prop := ∃ (sc : Addr) (ns : List Int) (i g r : Int), H s = some (.lst [.ref sc, .int i, .int g, .int r]) ∧ ScrOk K H sc (ns.map V.int) ∧ ns.length ≤ 63 ∧ 0 ≤ i ∧ 0 ≤ g ∧ 0 ≤ r ∧ r < 2147483647

/-- what a step may change: new things, and the state -/
structure Ext (K : Fg) (st : Option Addr) (H H' : Hp) : Prop where
  keep : ∀ a o, some a ≠ st → H a = some o → H' a = some o
  tx : Tx H H'
  stk : ∀ s, st = some s → StOk K H s → StOk K H' s
theorem Ext.refl {K : Fg} {st : Option Addr} (H : Hp) : Ext K st H H := ⟨fun _ _ _ h => h, Tx.refl H, fun _ _ h => h⟩
theorem Ext.trans {K : Fg} {st : Option Addr} {H H1 H2 : Hp} (a : Ext K st H H1) (b : Ext K st H1 H2) : Ext K st H H2 :=
  ⟨fun p o n h => b.keep p o n (a.keep p o n h), a.tx.trans b.tx, fun s e h => b.stk s e (a.stk s e h)⟩
theorem same_tx {H H' : Hp} (h : Same H H') : Tx H H' := fun a xs r => h _ _ r
theorem same_ext {K : Fg} {st : Option Addr} {H H' : Hp} (h : Same H H') : Ext K st H H' := by
  refine ⟨fun a o _ e => h a o e, same_tx h, fun s _ k => ?_⟩
  obtain ⟨sc, ns, i, g, r, e, hs, q⟩ := k
  refine ⟨sc, ns, i, g, r, h _ _ e, ?_, q⟩
  rcases hs with ⟨o, z⟩ | z
  · exact .inl ⟨o, h _ _ z⟩
  · exact .inr z
theorem same_new {H : Hp} {p : Addr} {o : HO} (h : H p = none) : Same H (upd H p o) := fun a u e => by
  rw [upd_ne (ne_of_none e h)]
  exact e
theorem Ext.new {K : Fg} {st : Option Addr} {H : Hp} {p : Addr} {o : HO} (h : H p = none) : Ext K st H (upd H p o) := same_ext (same_new h)
theorem Ext.same {K : Fg} {H H' : Hp} (h : Ext K none H H') : Same H H' := fun a o e => h.keep a o (by simp) e
theorem Ext.widen {K : Fg} {st : Option Addr} {H H' : Hp} (h : Ext K none H H') : Ext K st H H' := same_ext h.same

/-! ### what an expression gives -/
inductive Rs where
  | d (x : D)
  /-- a list to be read; fr: a new one -/
  | lst (fr : Bool) (ds : List D)
  /-- a dict with numbers as keys -/
  | dct (fr : Bool) (kvs : List (Int × D))
  /-- a dict that is walked: read alone -/
  | fz (kvs : List (Int × D))
  /-- a tuple whose object is known to have no dict -/
  | tx (fr : Bool) (ds : List D)
  | st

def KvIs (K : Fg) (H : Hp) : List (Key × V) → List (Int × D) → Prop := Paired fun p q => p.1 = Sum.inl q.1 ∧ Is K H p.2 q.2
theorem KvIs.mono {K : Fg} {H H' : Hp} (t : Tx H H') : ∀ {ws : List (Key × V)} {kvs : List (Int × D)}, KvIs K H ws kvs → KvIs K H' ws kvs
  | _, _, .nil => .nil
  | _, _, .cons h hs => .cons ⟨h.1, h.2.mono t⟩ (KvIs.mono t hs)

/-- a tuple whose object is known to have no dict -/
def TxO (H : Hp) (a : Addr) (xs : List V) : Prop := ∃ ob : Obj, H a = some (.frz ob (.tup xs)) ∧ ob.cls = .type "tuple" ∧ ob.dict = none
theorem TxO.mono {K : Fg} {st : Option Addr} {H H' : Hp} {a : Addr} {xs : List V} (h : TxO H a xs) (n : some a ≠ st) (k : ∀ a o, some a ≠ st → H a = some o → H' a = some o) : TxO H' a xs := by
  obtain ⟨ob, e, c, d⟩ := h
  exact ⟨ob, k a _ n e, c, d⟩
def RsOk (K : Fg) (st : Option Addr) (H1 H2 : Hp) (v : V) : Rs → Prop
  | .d x => Is K H2 v x
  | .lst fr ds => ∃ a vs, v = .ref a ∧ H2 a = some (.lst vs) ∧ IsL K H2 vs ds ∧ some a ≠ st ∧ (fr = true → H1 a = none)
  | .dct fr kvs => ∃ a ws, v = .ref a ∧ H2 a = some (.dK ws) ∧ KvIs K H2 ws kvs ∧ some a ≠ st ∧ (fr = true → H1 a = none)
  | .fz kvs => ∃ a ob ws, v = .ref a ∧ H2 a = some (.frz ob (.dK ws)) ∧ KvIs K H2 ws kvs ∧ some a ≠ st
  | .tx fr ds => ∃ a xs, v = .ref a ∧ TxO H2 a xs ∧ IsL K H2 xs ds ∧ some a ≠ st ∧ (fr = true → H1 a = none)
  | .st => ∃ a, st = some a ∧ v = .ref a
theorem RsOk.mono {K : Fg} {st : Option Addr} {H1 H2 H3 : Hp} {v : V} {r : Rs} (h : RsOk K st H1 H2 v r) (e : Ext K st H2 H3) : RsOk K st H1 H3 v r := by
  cases r with
  | d x => exact Is.mono e.tx h
  | lst fr ds =>
    obtain ⟨a, vs, e1, e2, e3, e4, e5⟩ := h
    exact ⟨a, vs, e1, e.keep a _ e4 e2, e3.mono e.tx, e4, e5⟩
  | dct fr kvs =>
    obtain ⟨a, vs, e1, e2, e3, e4, e5⟩ := h
    exact ⟨a, vs, e1, e.keep a _ e4 e2, e3.mono e.tx, e4, e5⟩
  | fz kvs =>
    obtain ⟨a, ob, vs, e1, e2, e3, e4⟩ := h
    exact ⟨a, ob, vs, e1, e.keep a _ e4 e2, e3.mono e.tx, e4⟩
  | tx fr ds =>
    obtain ⟨a, vs, e1, e2, e3, e4, e5⟩ := h
    exact ⟨a, vs, e1, e2.mono (K := K) e4 e.keep, e3.mono e.tx, e4, e5⟩
  | st => exact h
theorem Ext.back {K : Fg} {st : Option Addr} {H0 H1 : Hp} {a : Addr} (e : Ext K st H0 H1) (n : some a ≠ st) (h : H1 a = none) : H0 a = none := by
  cases q : H0 a with
  | none => rfl
  | some o =>
    rw [e.keep a o n q] at h
    cases h
theorem RsOk.back {K : Fg} {st : Option Addr} {H0 H1 H2 : Hp} {v : V} {r : Rs} (h : RsOk K st H1 H2 v r) (e : Ext K st H0 H1) : RsOk K st H0 H2 v r := by
  cases r with
  | d x => exact h
  | lst fr ds =>
    obtain ⟨a, vs, e1, e2, e3, e4, e5⟩ := h
    exact ⟨a, vs, e1, e2, e3, e4, fun z => e.back e4 (e5 z)⟩
  | dct fr kvs =>
    obtain ⟨a, vs, e1, e2, e3, e4, e5⟩ := h
    exact ⟨a, vs, e1, e2, e3, e4, fun z => e.back e4 (e5 z)⟩
  | fz kvs => exact h
  | tx fr ds =>
    obtain ⟨a, vs, e1, e2, e3, e4, e5⟩ := h
    exact ⟨a, vs, e1, e2, e3, e4, fun z => e.back e4 (e5 z)⟩
  | st => exact h

/-! ### slots -/
inductive Sl where
  | d (x : D)
  /-- a list of the def's own; a list that is read alone -/
  | own (ds : List D)
  | ro (ds : List D)
  /-- a dict of the def's own -/
  | dic (kvs : List (Int × D))
  | fz (kvs : List (Int × D))
  | tx (ds : List D)
  | st
def Sl.mut : Sl → Bool
  | .own _ => true
  | .dic _ => true
  | _ => false
def Sl.isRef : Sl → Bool
  | .own _ => true
  | .dic _ => true
  | .ro _ => true
  | .fz _ => true
  | .tx _ => true
  | _ => false
def Sl.rs : Sl → Rs
  | .d x => .d x
  | .own ds => .lst false ds
  | .ro ds => .lst false ds
  | .dic kvs => .dct false kvs
  | .fz kvs => .fz kvs
  | .tx ds => .tx false ds
  | .st => .st
/-- how a value is kept in a slot -/
def Rs.sl : Rs → Option Sl
  | .d x => some (.d x)
  | .lst true ds => some (.own ds)
  | .dct true kvs => some (.dic kvs)
  | .tx true ds => some (.tx ds)
  | .st => some .st
  | _ => none
/-- how an argument is kept in a slot -/
def Rs.arg : Rs → Option Sl
  | .d x => some (.d x)
  | .lst _ ds => some (.ro ds)
  | .st => some .st
  | _ => none

/-- H0: what must stay (at the entry: all); st: where the law's state stands -/
structure Cf where
  H0 : Hp
  st : Option Addr
def SlOk (K : Fg) (c : Cf) (H : Hp) (v : V) : Sl → Prop
  | .d x => Is K H v x
  | .own ds => ∃ a vs, v = .ref a ∧ H a = some (.lst vs) ∧ IsL K H vs ds ∧ some a ≠ c.st ∧ c.H0 a = none
  | .ro ds => ∃ a vs, v = .ref a ∧ H a = some (.lst vs) ∧ IsL K H vs ds ∧ some a ≠ c.st
  | .dic kvs => ∃ a ws, v = .ref a ∧ H a = some (.dK ws) ∧ KvIs K H ws kvs ∧ some a ≠ c.st ∧ c.H0 a = none
  | .fz kvs => ∃ a ob ws, v = .ref a ∧ H a = some (.frz ob (.dK ws)) ∧ KvIs K H ws kvs ∧ some a ≠ c.st
  | .tx ds => ∃ a xs, v = .ref a ∧ TxO H a xs ∧ IsL K H xs ds ∧ some a ≠ c.st
  | .st => ∃ a, c.st = some a ∧ v = .ref a
theorem SlOk.mono {K : Fg} {c : Cf} {H H' : Hp} {v : V} {S : Sl} (h : SlOk K c H v S) (e : Ext K c.st H H') : SlOk K c H' v S := by
  cases S with
  | d x => exact Is.mono e.tx h
  | own ds =>
    obtain ⟨a, vs, e1, e2, e3, e4, e5⟩ := h
    exact ⟨a, vs, e1, e.keep a _ e4 e2, e3.mono e.tx, e4, e5⟩
  | ro ds =>
    obtain ⟨a, vs, e1, e2, e3, e4⟩ := h
    exact ⟨a, vs, e1, e.keep a _ e4 e2, e3.mono e.tx, e4⟩
  | dic kvs =>
    obtain ⟨a, vs, e1, e2, e3, e4, e5⟩ := h
    exact ⟨a, vs, e1, e.keep a _ e4 e2, e3.mono e.tx, e4, e5⟩
  | fz kvs =>
    obtain ⟨a, ob, vs, e1, e2, e3, e4⟩ := h
    exact ⟨a, ob, vs, e1, e.keep a _ e4 e2, e3.mono e.tx, e4⟩
  | tx ds =>
    obtain ⟨a, vs, e1, e2, e3, e4⟩ := h
    exact ⟨a, vs, e1, e2.mono (K := K) e4 e.keep, e3.mono e.tx, e4⟩
  | st => exact h
theorem SlOk.rs {K : Fg} {c : Cf} {H1 H : Hp} {v : V} {S : Sl} (h : SlOk K c H v S) : RsOk K c.st H1 H v S.rs := by
  cases S with
  | d x => exact h
  | own ds =>
    obtain ⟨a, vs, e1, e2, e3, e4, e5⟩ := h
    exact ⟨a, vs, e1, e2, e3, e4, fun z => nomatch z⟩
  | ro ds =>
    obtain ⟨a, vs, e1, e2, e3, e4⟩ := h
    exact ⟨a, vs, e1, e2, e3, e4, fun z => nomatch z⟩
  | dic kvs =>
    obtain ⟨a, vs, e1, e2, e3, e4, e5⟩ := h
    exact ⟨a, vs, e1, e2, e3, e4, fun z => nomatch z⟩
  | fz kvs => exact h
  | tx ds =>
    obtain ⟨a, vs, e1, e2, e3, e4⟩ := h
    exact ⟨a, vs, e1, e2, e3, e4, fun z => nomatch z⟩
  | st => exact h
/-- a slot that refers to a list or a dict: where -/
theorem SlOk.at {K : Fg} {c : Cf} {H : Hp} {v : V} {S : Sl} (h : SlOk K c H v S) (r : S.isRef = true) : ∃ a o, v = .ref a ∧ H a = some o ∧ some a ≠ c.st := by
  cases S with
  | d x => cases r
  | own ds =>
    obtain ⟨a, vs, e1, e2, e3, e4, e5⟩ := h
    exact ⟨a, _, e1, e2, e4⟩
  | ro ds =>
    obtain ⟨a, vs, e1, e2, e3, e4⟩ := h
    exact ⟨a, _, e1, e2, e4⟩
  | dic kvs =>
    obtain ⟨a, vs, e1, e2, e3, e4, e5⟩ := h
    exact ⟨a, _, e1, e2, e4⟩
  | fz kvs =>
    obtain ⟨a, ob, vs, e1, e2, e3, e4⟩ := h
    exact ⟨a, _, e1, e2, e4⟩
  | tx ds =>
    obtain ⟨a, vs, e1, ⟨ob, e2, _⟩, e3, e4⟩ := h
    exact ⟨a, _, e1, e2, e4⟩
  | st => cases r

abbrev G := List (Option Sl)
structure En (K : Fg) (c : Cf) (g : G) (σ : L2.St) (H : Hp) : Prop where
  ext : Ext K c.st c.H0 H
  stk : ∀ s, c.st = some s → StOk K H s
  len : σ.length = g.length
  sl : ∀ (i : Nat) (S : Sl), g[i]? = some (some S) → ∃ v, σ[i]? = some (some v) ∧ SlOk K c H v S
  sep : ∀ (i j : Nat) (S T : Sl) (a : Addr), i ≠ j → g[i]? = some (some S) → g[j]? = some (some T) → S.mut = true → T.isRef = true → σ[i]? = some (some (V.ref a)) → σ[j]? = some (some (V.ref a)) → False

section
variable {K : Fg} {c : Cf} {g : G} {σ : L2.St} {H H' : Hp}
theorem En.go (E : En K c g σ H) (e : Ext K c.st H H') : En K c g σ H' :=
  ⟨E.ext.trans e, fun s z => e.stk s z (E.stk s z), E.len, fun i S h => let ⟨v, h1, h2⟩ := E.sl i S h; ⟨v, h1, h2.mono e⟩, E.sep⟩
/-- fewer slots known -/
theorem En.less {g' : G} (E : En K c g σ H) (hl : g'.length = g.length) (h : ∀ (i : Nat) (S : Sl), g'[i]? = some (some S) → g[i]? = some (some S)) : En K c g' σ H :=
  ⟨E.ext, E.stk, E.len.trans hl.symm, fun i S e => E.sl i S (h i S e), fun i j S T a n h1 h2 => E.sep i j S T a n (h i S h1) (h j T h2)⟩
/-- a slot is forgotten, whatever it holds -/
theorem En.forget {i : Nat} {x : Option V} (E : En K c g σ H) : En K c (g.set i none) (σ.set i x) H := by
  have key : ∀ (j : Nat) (S : Sl), (g.set i none)[j]? = some (some S) → j ≠ i ∧ g[j]? = some (some S) := fun j S h => by
    by_cases e : i = j
    · subst e
      by_cases hi : i < g.length
      · rw [List.getElem?_set_self hi] at h
        cases h
      · rw [List.getElem?_eq_none (by simpa using hi)] at h
        cases h
    · rw [List.getElem?_set_ne e] at h
      exact ⟨fun z => e z.symm, h⟩
  refine ⟨E.ext, E.stk, by simpa using E.len, fun j S h => ?_, fun j k S T a n h1 h2 m1 m2 e1 e2 => ?_⟩
  · obtain ⟨n, h⟩ := key j S h
    obtain ⟨v, e, r⟩ := E.sl j S h
    exact ⟨v, by rw [List.getElem?_set_ne (Ne.symm n)]; exact e, r⟩
  · obtain ⟨n1, h1⟩ := key j S h1
    obtain ⟨n2, h2⟩ := key k T h2
    rw [List.getElem?_set_ne (Ne.symm n1)] at e1
    rw [List.getElem?_set_ne (Ne.symm n2)] at e2
    exact E.sep j k S T a n h1 h2 m1 m2 e1 e2
/-- a value is put into a slot: H before it was reckoned, H' behind -/
theorem En.put {i : Nat} {v : V} {r : Rs} {S : Sl} (E : En K c g σ H) (e : Ext K c.st H H') (hv : RsOk K c.st H H' v r) (hS : r.sl = some S) : En K c (g.set i (some S)) (σ.set i (some v)) H' := by
  have E' := E.go e
  have slv : SlOk K c H' v S := by
    cases r with
    | d x =>
      cases hS
      exact hv
    | lst fr ds =>
      cases fr with
      | false => cases hS
      | true =>
        cases hS
        obtain ⟨a, vs, e1, e2, e3, e4, e5⟩ := hv
        exact ⟨a, vs, e1, e2, e3, e4, E.ext.back e4 (e5 rfl)⟩
    | dct fr kvs =>
      cases fr with
      | false => cases hS
      | true =>
        cases hS
        obtain ⟨a, vs, e1, e2, e3, e4, e5⟩ := hv
        exact ⟨a, vs, e1, e2, e3, e4, E.ext.back e4 (e5 rfl)⟩
    | fz kvs => cases hS
    | tx fr ds =>
      cases fr with
      | false => cases hS
      | true =>
        cases hS
        obtain ⟨a, vs, e1, e2, e3, e4, e5⟩ := hv
        exact ⟨a, vs, e1, e2, e3, e4⟩
    | st =>
      cases hS
      exact hv
  -- a new thing stands apart from what the slots hold
  have apart : ∀ a, v = .ref a → S.isRef = true → H a = none := fun a ea hr => by
    cases r with
    | d x =>
      cases hS
      cases hr
    | lst fr ds =>
      cases fr with
      | false => cases hS
      | true =>
        obtain ⟨b, vs, e1, e2, e3, e4, e5⟩ := hv
        rw [ea] at e1
        cases e1
        exact e5 rfl
    | dct fr kvs =>
      cases fr with
      | false => cases hS
      | true =>
        obtain ⟨b, vs, e1, e2, e3, e4, e5⟩ := hv
        rw [ea] at e1
        cases e1
        exact e5 rfl
    | fz kvs => cases hS
    | tx fr ds =>
      cases fr with
      | false => cases hS
      | true =>
        obtain ⟨b, vs, e1, e2, e3, e4, e5⟩ := hv
        rw [ea] at e1
        cases e1
        exact e5 rfl
    | st =>
      cases hS
      cases hr
  have key : ∀ (j : Nat) (T : Sl), (g.set i (some S))[j]? = some (some T) → (j = i ∧ T = S ∧ i < g.length) ∨ (j ≠ i ∧ g[j]? = some (some T)) := fun j T h => by
    by_cases q : i = j
    · subst q
      by_cases hi : i < g.length
      · rw [List.getElem?_set_self hi] at h
        cases h
        exact .inl ⟨rfl, rfl, hi⟩
      · rw [List.getElem?_eq_none (by simpa using hi)] at h
        cases h
    · rw [List.getElem?_set_ne q] at h
      exact .inr ⟨fun z => q z.symm, h⟩
  have old : ∀ (j : Nat) (T : Sl) (a : Addr), g[j]? = some (some T) → T.isRef = true → σ[j]? = some (some (V.ref a)) → H a ≠ none := fun j T a h hr q z => by
    obtain ⟨w, e1, e2⟩ := E.sl j T h
    obtain ⟨b, o, e3, e4, _⟩ := e2.at hr
    rw [q] at e1
    cases e1
    cases e3
    rw [z] at e4
    cases e4
  refine ⟨E'.ext, E'.stk, by simpa using E.len, fun j T h => ?_, fun j k T U a n h1 h2 m1 m2 e1 e2 => ?_⟩
  · rcases key j T h with ⟨rfl, rfl, hi⟩ | ⟨n, h⟩
    · exact ⟨v, by rw [List.getElem?_set_self (by rw [E.len]; exact hi)], slv⟩
    · obtain ⟨w, e1, e2⟩ := E'.sl j T h
      exact ⟨w, by rw [List.getElem?_set_ne (Ne.symm n)]; exact e1, e2⟩
  · have mr : T.isRef = true := by
      cases T <;> first | rfl | cases m1
    rcases key j T h1 with ⟨rfl, rfl, hi⟩ | ⟨n1, g1⟩
    · rcases key k U h2 with ⟨rfl, _, _⟩ | ⟨n2, h2⟩
      · exact n rfl
      · rw [List.getElem?_set_self (by rw [E.len]; exact hi)] at e1
        rw [List.getElem?_set_ne (Ne.symm n2)] at e2
        cases e1
        exact old k U a h2 m2 e2 (apart a rfl mr)
    · rw [List.getElem?_set_ne (Ne.symm n1)] at e1
      rcases key k U h2 with ⟨rfl, rfl, hi⟩ | ⟨n2, h2⟩
      · rw [List.getElem?_set_self (by rw [E.len]; exact hi)] at e2
        cases e2
        exact old j T a g1 mr e1 (apart a rfl m2)
      · rw [List.getElem?_set_ne (Ne.symm n2)] at e2
        exact E.sep j k T U a n g1 h2 m1 m2 e1 e2
/-- a list or a dict of the def's own is changed -/
theorem En.mutate {i : Nat} {S S' : Sl} {a : Addr} {o o' : HO} (E : En K c g σ H) (hi : g[i]? = some (some S)) (hm : S.mut = true) (hm' : S'.mut = true) (hσ : σ[i]? = some (some (V.ref a))) (ho : H a = some o)
    (n1 : ∀ xs, o ≠ .tup xs) (n2 : ∀ ob u, o ≠ .frz ob u) (hS : SlOk K c (upd H a o') (.ref a) S') : Tx H (upd H a o') ∧ En K c (g.set i (some S')) σ (upd H a o') := by
  have tx : Tx H (upd H a o') := fun b xs r => by
    have nb : b ≠ a := fun z => by
      subst z
      rw [ho] at r
      exact n1 xs (Option.some.inj r)
    rw [upd_ne nb]
    exact r
  have hil : i < g.length := (List.getElem?_eq_some_iff.mp hi).1
  obtain ⟨w, ew, sw⟩ := E.sl i S hi
  rw [hσ] at ew
  cases ew
  have h0 : c.H0 a = none ∧ some a ≠ c.st := by
    cases S with
    | own ds =>
      obtain ⟨b, vs, e1, e2, e3, e4, e5⟩ := sw
      cases e1
      exact ⟨e5, e4⟩
    | dic kvs =>
      obtain ⟨b, vs, e1, e2, e3, e4, e5⟩ := sw
      cases e1
      exact ⟨e5, e4⟩
    | d x => cases hm
    | ro ds => cases hm
    | fz ds => cases hm
    | tx ds => cases hm
    | st => cases hm
  have stk' : ∀ s, c.st = some s → StOk K H s → StOk K (upd H a o') s := fun s e h => by
    obtain ⟨sc, ns, j, gg, r, e1, e2, q⟩ := h
    have ns' : s ≠ a := fun z => h0.2 (by rw [← z, e])
    refine ⟨sc, ns, j, gg, r, by rw [upd_ne ns']; exact e1, ?_, q⟩
    rcases e2 with ⟨ob, e2⟩ | e2
    · refine .inl ⟨ob, ?_⟩
      rw [upd_ne (fun z => ?_)]
      · exact e2
      · rw [z, ho] at e2
        exact n2 _ _ (Option.some.inj e2)
    · exact .inr e2
  have key : ∀ (j : Nat) (T : Sl), (g.set i (some S'))[j]? = some (some T) → (j = i ∧ T = S') ∨ (j ≠ i ∧ g[j]? = some (some T)) := fun j T h => by
    by_cases q : i = j
    · subst q
      rw [List.getElem?_set_self hil] at h
      cases h
      exact .inl ⟨rfl, rfl⟩
    · rw [List.getElem?_set_ne q] at h
      exact .inr ⟨fun z => q z.symm, h⟩
  have refS : ∀ T : Sl, T.mut = true → T.isRef = true := fun T h => by
    cases T <;> first | rfl | cases h
  refine ⟨tx, ⟨?_, fun s e => stk' s e (E.stk s e), by simpa using E.len, fun j T h => ?_, fun j k T U b n h1 h2 m1 m2 e1 e2 => ?_⟩⟩
  · refine ⟨fun b u n h => ?_, E.ext.tx.trans tx, fun s e h => stk' s e (E.ext.stk s e h)⟩
    rw [upd_ne (fun z => ?_)]
    · exact E.ext.keep b u n h
    · rw [z, h0.1] at h
      cases h
  · rcases key j T h with ⟨rfl, rfl⟩ | ⟨n, h⟩
    · exact ⟨_, hσ, hS⟩
    · obtain ⟨v, e1, e2⟩ := E.sl j T h
      refine ⟨v, e1, ?_⟩
      have nb : ∀ b, v = .ref b → T.isRef = true → b ≠ a := fun b eb hr z => by
        subst z
        subst eb
        exact E.sep i j S T b (Ne.symm n) hi h hm hr hσ e1
      cases T with
      | d x => exact Is.mono tx e2
      | own ds =>
        obtain ⟨b, vs, q1, q2, q3, q4, q5⟩ := e2
        exact ⟨b, vs, q1, by rw [upd_ne (nb b q1 rfl)]; exact q2, q3.mono tx, q4, q5⟩
      | ro ds =>
        obtain ⟨b, vs, q1, q2, q3, q4⟩ := e2
        exact ⟨b, vs, q1, by rw [upd_ne (nb b q1 rfl)]; exact q2, q3.mono tx, q4⟩
      | dic kvs =>
        obtain ⟨b, vs, q1, q2, q3, q4, q5⟩ := e2
        exact ⟨b, vs, q1, by rw [upd_ne (nb b q1 rfl)]; exact q2, q3.mono tx, q4, q5⟩
      | fz kvs =>
        obtain ⟨b, ob, vs, q1, q2, q3, q4⟩ := e2
        exact ⟨b, ob, vs, q1, by rw [upd_ne (nb b q1 rfl)]; exact q2, q3.mono tx, q4⟩
      | tx ds =>
        obtain ⟨b, vs, q1, ⟨o2, q2, q5⟩, q3, q4⟩ := e2
        exact ⟨b, vs, q1, ⟨o2, by rw [upd_ne (nb b q1 rfl)]; exact q2, q5⟩, q3.mono tx, q4⟩
      | st => exact e2
  · rcases key j T h1 with ⟨rfl, rfl⟩ | ⟨n1', g1⟩
    · rcases key k U h2 with ⟨rfl, _⟩ | ⟨n2', h2⟩
      · exact n rfl
      · exact E.sep j k S U b n hi h2 hm m2 e1 e2
    · rcases key k U h2 with ⟨rfl, rfl⟩ | ⟨n2', h2⟩
      · exact E.sep j k T S b n g1 hi m1 (refS S hm) e1 e2
      · exact E.sep j k T U b n g1 h2 m1 m2 e1 e2
/-- a list of the def's own, from now on only read -/
theorem En.still {i : Nat} {ds : List D} (E : En K c g σ H) (hi : g[i]? = some (some (.own ds))) : En K c (g.set i (some (.ro ds))) σ H := by
  have hil : i < g.length := (List.getElem?_eq_some_iff.mp hi).1
  have key : ∀ (j : Nat) (T : Sl), (g.set i (some (.ro ds)))[j]? = some (some T) → (j = i ∧ T = .ro ds) ∨ (j ≠ i ∧ g[j]? = some (some T)) := fun j T h => by
    by_cases q : i = j
    · subst q
      rw [List.getElem?_set_self hil] at h
      cases h
      exact .inl ⟨rfl, rfl⟩
    · rw [List.getElem?_set_ne q] at h
      exact .inr ⟨fun z => q z.symm, h⟩
  refine ⟨E.ext, E.stk, by simpa using E.len, fun j T h => ?_, fun j k T U b n h1 h2 m1 m2 e1 e2 => ?_⟩
  · rcases key j T h with ⟨rfl, rfl⟩ | ⟨n, h⟩
    · obtain ⟨v, e1, a, vs, q1, q2, q3, q4, q5⟩ := E.sl _ _ hi
      exact ⟨v, e1, a, vs, q1, q2, q3, q4⟩
    · exact E.sl j T h
  · rcases key j T h1 with ⟨rfl, rfl⟩ | ⟨n1, g1⟩
    · cases m1
    · rcases key k U h2 with ⟨rfl, rfl⟩ | ⟨n2, h2⟩
      · exact E.sep j k T _ b n g1 hi m1 rfl e1 e2
      · exact E.sep j k T U b n g1 h2 m1 m2 e1 e2
/-- more must stay: what is selected -/
noncomputable def Cf.hold (c : Cf) (H : Hp) (sel : Addr → Prop) : Cf := ⟨fun b => open Classical in if sel b then H b else c.H0 b, c.st⟩
theorem hold_sel {sel : Addr → Prop} {b : Addr} (h : sel b) : (c.hold H sel).H0 b = H b := if_pos h
theorem hold_not {sel : Addr → Prop} {b : Addr} (h : ¬ sel b) : (c.hold H sel).H0 b = c.H0 b := if_neg h
theorem En.hold (E : En K c g σ H) {sel : Addr → Prop} (h1 : ∀ b, sel b → some b ≠ c.st) (hn : ∀ (i : Nat) (S : Sl) (b : Addr), sel b → g[i]? = some (some S) → S.mut = true → σ[i]? ≠ some (some (V.ref b))) : En K (c.hold H sel) g σ H := by
  refine ⟨⟨fun b u n h => ?_, fun b xs r => ?_, fun s e h => E.stk s e⟩, E.stk, E.len, fun i S h => ?_, E.sep⟩
  · by_cases hb : sel b
    · rw [hold_sel hb] at h
      exact h
    · rw [hold_not hb] at h
      exact E.ext.keep b u n h
  · by_cases hb : sel b
    · rw [hold_sel hb] at r
      exact r
    · rw [hold_not hb] at r
      exact E.ext.tx b xs r
  · obtain ⟨v, e1, e2⟩ := E.sl i S h
    refine ⟨v, e1, ?_⟩
    cases S with
    | d x => exact e2
    | own ds =>
      obtain ⟨b, vs, q1, q2, q3, q4, q5⟩ := e2
      have nb : ¬ sel b := fun z => hn i _ b z h rfl (by rw [e1, q1])
      exact ⟨b, vs, q1, q2, q3, q4, (hold_not nb).trans q5⟩
    | ro ds => exact e2
    | dic kvs =>
      obtain ⟨b, vs, q1, q2, q3, q4, q5⟩ := e2
      have nb : ¬ sel b := fun z => hn i _ b z h rfl (by rw [e1, q1])
      exact ⟨b, vs, q1, q2, q3, q4, (hold_not nb).trans q5⟩
    | fz kvs => exact e2
    | tx ds => exact e2
    | st => exact e2
theorem En.hold_le (E : En K c g σ H) {sel : Addr → Prop} (h1 : ∀ b, sel b → some b ≠ c.st) : Same c.H0 (c.hold H sel).H0 := fun b u h => by
  by_cases hb : sel b
  · rw [hold_sel hb]
    exact E.ext.keep b u (h1 b hb) h
  · rw [hold_not hb]
    exact h
/-- .. and back -/
theorem En.unhold {c' : Cf} (E : En K c' g σ H) (hs : c'.st = c.st) (le : Same c.H0 c'.H0) : En K c g σ H := by
  have ex : Ext K c.st c.H0 H := (same_ext le).trans (hs ▸ E.ext)
  refine ⟨ex, fun s e => E.stk s (by rw [hs]; exact e), E.len, fun i S h => ?_, E.sep⟩
  obtain ⟨v, e1, e2⟩ := E.sl i S h
  refine ⟨v, e1, ?_⟩
  have back : ∀ b, c'.H0 b = none → c.H0 b = none := fun b z => by
    cases q : c.H0 b with
    | none => rfl
    | some u =>
      rw [le b u q] at z
      cases z
  cases S with
  | d x => exact e2
  | own ds =>
    obtain ⟨b, vs, q1, q2, q3, q4, q5⟩ := e2
    exact ⟨b, vs, q1, q2, q3, by rw [← hs]; exact q4, back b q5⟩
  | ro ds =>
    obtain ⟨b, vs, q1, q2, q3, q4⟩ := e2
    exact ⟨b, vs, q1, q2, q3, by rw [← hs]; exact q4⟩
  | dic kvs =>
    obtain ⟨b, vs, q1, q2, q3, q4, q5⟩ := e2
    exact ⟨b, vs, q1, q2, q3, by rw [← hs]; exact q4, back b q5⟩
  | fz kvs =>
    obtain ⟨b, ob, vs, q1, q2, q3, q4⟩ := e2
    exact ⟨b, ob, vs, q1, q2, q3, by rw [← hs]; exact q4⟩
  | tx ds =>
    obtain ⟨b, vs, q1, q2, q3, q4⟩ := e2
    exact ⟨b, vs, q1, q2, q3, by rw [← hs]; exact q4⟩
  | st =>
    obtain ⟨b, q1, q2⟩ := e2
    exact ⟨b, by rw [← hs]; exact q1, q2⟩
/-- a dict of the def's own is locked -/
theorem En.lock {i : Nat} {kvs : List (Int × D)} {a : Addr} {ob : Obj} {ws : List (Key × V)} (E : En K c g σ H) (hi : g[i]? = some (some (.dic kvs))) (hσ : σ[i]? = some (some (V.ref a))) (ha : H a = some (.dK ws)) :
    En K c (g.set i (some (.fz kvs))) σ (upd H a (.frz ob (.dK ws))) := by
  obtain ⟨w, ew, b, ws', e1, e2, e3, e4, e5⟩ := E.sl i _ hi
  rw [hσ] at ew
  cases ew
  cases e1
  rw [ha] at e2
  cases e2
  have tx : Tx H (upd H a (.frz ob (.dK ws))) := fun b xs r => by
    rw [upd_ne (fun z => by rw [z, ha] at r; cases r)]
    exact r
  have hil : i < g.length := (List.getElem?_eq_some_iff.mp hi).1
  have stk' : ∀ s, c.st = some s → StOk K H s → StOk K (upd H a (.frz ob (.dK ws))) s := fun s e h => by
    obtain ⟨sc, ns, j, gg, r, q1, q2, q⟩ := h
    have ns' : s ≠ a := fun z => e4 (by rw [← z, e])
    refine ⟨sc, ns, j, gg, r, by rw [upd_ne ns']; exact q1, ?_, q⟩
    rcases q2 with ⟨o2, q2⟩ | q2
    · refine .inl ⟨o2, ?_⟩
      rw [upd_ne (fun z => by rw [z, ha] at q2; cases q2)]
      exact q2
    · exact .inr q2
  have key : ∀ (j : Nat) (T : Sl), (g.set i (some (.fz kvs)))[j]? = some (some T) → (j = i ∧ T = .fz kvs) ∨ (j ≠ i ∧ g[j]? = some (some T)) := fun j T h => by
    by_cases q : i = j
    · subst q
      rw [List.getElem?_set_self hil] at h
      cases h
      exact .inl ⟨rfl, rfl⟩
    · rw [List.getElem?_set_ne q] at h
      exact .inr ⟨fun z => q z.symm, h⟩
  refine ⟨⟨fun b u n h => ?_, E.ext.tx.trans tx, fun s e h => stk' s e (E.ext.stk s e h)⟩, fun s e => stk' s e (E.stk s e), by simpa using E.len, fun j T h => ?_, fun j k T U b n h1 h2 m1 m2 q1 q2 => ?_⟩
  · rw [upd_ne (fun z => by rw [z, e5] at h; cases h)]
    exact E.ext.keep b u n h
  · rcases key j T h with ⟨rfl, rfl⟩ | ⟨n, h⟩
    · exact ⟨_, hσ, a, ob, ws, rfl, upd_same, e3.mono tx, e4⟩
    · obtain ⟨v, q1, q2⟩ := E.sl j T h
      refine ⟨v, q1, ?_⟩
      have nb : ∀ b, v = .ref b → T.isRef = true → b ≠ a := fun b eb hr z => by
        subst z
        subst eb
        exact E.sep i j _ T b (Ne.symm n) hi h rfl hr hσ q1
      cases T with
      | d x => exact Is.mono tx q2
      | own ds =>
        obtain ⟨b, vs, p1, p2, p3, p4, p5⟩ := q2
        exact ⟨b, vs, p1, by rw [upd_ne (nb b p1 rfl)]; exact p2, p3.mono tx, p4, p5⟩
      | ro ds =>
        obtain ⟨b, vs, p1, p2, p3, p4⟩ := q2
        exact ⟨b, vs, p1, by rw [upd_ne (nb b p1 rfl)]; exact p2, p3.mono tx, p4⟩
      | dic kvs =>
        obtain ⟨b, vs, p1, p2, p3, p4, p5⟩ := q2
        exact ⟨b, vs, p1, by rw [upd_ne (nb b p1 rfl)]; exact p2, p3.mono tx, p4, p5⟩
      | fz kvs =>
        obtain ⟨b, o2, vs, p1, p2, p3, p4⟩ := q2
        exact ⟨b, o2, vs, p1, by rw [upd_ne (nb b p1 rfl)]; exact p2, p3.mono tx, p4⟩
      | tx ds =>
        obtain ⟨b, vs, p1, ⟨o2, p2, p5⟩, p3, p4⟩ := q2
        exact ⟨b, vs, p1, ⟨o2, by rw [upd_ne (nb b p1 rfl)]; exact p2, p5⟩, p3.mono tx, p4⟩
      | st => exact q2
  · rcases key j T h1 with ⟨rfl, rfl⟩ | ⟨n1, g1⟩
    · cases m1
    · rcases key k U h2 with ⟨rfl, rfl⟩ | ⟨n2, h2⟩
      · exact E.sep j k T _ b n g1 hi m1 rfl q1 q2
      · exact E.sep j k T U b n g1 h2 m1 m2 q1 q2
end
end TW

/-! TW2: what expressions give, without heaps. -/
namespace TW
open PySem PySem.Spec PyProof.Rows L2

theorem RsOk.dd {K : Fg} {st : Option Addr} {H1 H : Hp} {v : V} {x : D} (h : Is K H v x) : RsOk K st H1 H v (.d x) := h
theorem RsOk.ll {K : Fg} {st : Option Addr} {H1 H : Hp} {a : Addr} {vs : List V} {ds : List D} {fr : Bool} (h : H a = some (.lst vs)) (h2 : IsL K H vs ds) (na : some a ≠ st) (f : fr = true → H1 a = none) : RsOk K st H1 H (.ref a) (.lst fr ds) := ⟨a, vs, rfl, h, h2, na, f⟩
theorem RsOk.kk {K : Fg} {st : Option Addr} {H1 H : Hp} {a : Addr} {ws : List (Key × V)} {kvs : List (Int × D)} {fr : Bool} (h : H a = some (.dK ws)) (h2 : KvIs K H ws kvs) (na : some a ≠ st) (f : fr = true → H1 a = none) : RsOk K st H1 H (.ref a) (.dct fr kvs) := ⟨a, ws, rfl, h, h2, na, f⟩
/-! ### the weakest readings -/
section
variable {X : Cx}
def tWE (X : Cx) (e : Expr) : TE := fun σ H Q => ∀ (pins : List (Addr × Obj)) (s : Shared), Inv X pins σ H s → wpAny (model X.prog X.w) X.A (eval e X.env) (EP X pins σ Q) X.xe s
theorem pe_w {e : Expr} : PE X e (tWE X e) := ⟨fun pins s _ _ _ I h => h pins s I⟩
theorem we_of {e : Expr} {t : TE} (h : PE X e t) {σ : L2.St} {H : Hp} {Q : VK} (q : t σ H Q) : tWE X e σ H Q := fun pins s I => h.run pins s σ H Q I q
def tWT (X : Cx) (e : Expr) : TT := fun σ H Q => ∀ (pins : List (Addr × Obj)) (s : Shared), Inv X pins σ H s → wpAny (model X.prog X.w) X.A (isTrue e X.env (eval e X.env)) (TP X pins σ Q) X.xe s
theorem pt_w {e : Expr} : PT X e (tWT X e) := ⟨fun pins s _ _ _ I h => h pins s I⟩
theorem wt_of {e : Expr} {t : TT} (h : PT X e t) {σ : L2.St} {H : Hp} {Q : Bool → Hp → Prop} (q : t σ H Q) : tWT X e σ H Q := fun pins s I => h.run pins s σ H Q I q
def tWW (X : Cx) (e : Expr) : TT := fun σ H Q => ∀ (whole : Sem Value) (pins : List (Addr × Obj)) (s : Shared), Inv X pins σ H s → wpAny (model X.prog X.w) X.A (isTrue e X.env whole) (TP X pins σ Q) X.xe s
theorem pw_w {e : Expr} : PW X e (tWW X e) := ⟨fun wh pins s _ _ _ I h => h wh pins s I⟩
theorem ww_of {e : Expr} {t : TT} (h : PW X e t) {σ : L2.St} {H : Hp} {Q : Bool → Hp → Prop} (q : t σ H Q) : tWW X e σ H Q := fun wh pins s I => h.run wh pins s σ H Q I q
def tWA (X : Cx) (es : List Expr) : TA := fun σ H Q => ∀ (pos : Pos) (pins : List (Addr × Obj)) (s : Shared), Inv X pins σ H s → wpAny (model X.prog X.w) X.A (spliced (backTo pos (starEach es X.env))) (AP X pins σ Q) X.xe s
theorem pa_w {es : List Expr} : PA X es (tWA X es) := ⟨fun pos pins s _ _ _ I h => h pos pins s I⟩
theorem wa_of {es : List Expr} {t : TA} (h : PA X es t) {σ : L2.St} {H : Hp} {Q : List V → Hp → Prop} (q : t σ H Q) : tWA X es σ H Q := fun pos pins s I => h.run pos pins s σ H Q I q
end

abbrev RsL (K : Fg) (st : Option Addr) (H1 H2 : Hp) : List V → List Rs → Prop := Paired fun v r => RsOk K st H1 H2 v r
theorem RsL.mono {K : Fg} {st : Option Addr} {H1 H2 H3 : Hp} (e : Ext K st H2 H3) : ∀ {vs : List V} {rs : List Rs}, RsL K st H1 H2 vs rs → RsL K st H1 H3 vs rs
  | _, _, .nil => .nil
  | _, _, .cons h t => .cons (RsOk.mono h e) (RsL.mono e t)
theorem RsL.back {K : Fg} {st : Option Addr} {H0 H1 H2 : Hp} (e : Ext K st H0 H1) : ∀ {vs : List V} {rs : List Rs}, RsL K st H1 H2 vs rs → RsL K st H0 H2 vs rs
  | _, _, .nil => .nil
  | _, _, .cons h t => .cons (RsOk.back h e) (RsL.back e t)
theorem RsL.ds {K : Fg} {st : Option Addr} {H1 H2 : Hp} : ∀ {vs : List V} {ds : List D}, RsL K st H1 H2 vs (ds.map Rs.d) → IsL K H2 vs ds
  | _, [], .nil => .nil
  | _, _ :: _, .cons h t => .cons h (RsL.ds t)

def WE (X : Cx) (c : Cf) (g : G) (e : Expr) (p : Rs → Prop) : Prop :=
  ∀ (σ : L2.St) (H : Hp), En X.K c g σ H → ∀ Q : VK, (∀ v H' r, Ext X.K c.st H H' → RsOk X.K c.st H H' v r → p r → Q v H') → tWE X e σ H Q
def WT (X : Cx) (c : Cf) (g : G) (e : Expr) (p : Bool → Prop) : Prop :=
  ∀ (σ : L2.St) (H : Hp), En X.K c g σ H → ∀ Q : Bool → Hp → Prop, (∀ b H', Ext X.K c.st H H' → p b → Q b H') → tWT X e σ H Q
def WW (X : Cx) (c : Cf) (g : G) (e : Expr) (p : Bool → Prop) : Prop :=
  ∀ (σ : L2.St) (H : Hp), En X.K c g σ H → ∀ Q : Bool → Hp → Prop, (∀ b H', Ext X.K c.st H H' → p b → Q b H') → tWW X e σ H Q
def WA (X : Cx) (c : Cf) (g : G) (es : List Expr) (p : List Rs → Prop) : Prop :=
  ∀ (σ : L2.St) (H : Hp), En X.K c g σ H → ∀ Q : List V → Hp → Prop, (∀ vs H' rs, Ext X.K c.st H H' → RsL X.K c.st H H' vs rs → p rs → Q vs H') → tWA X es σ H Q

/-- where code of a def (or of a comprehension in it) stands: its names, its scope, the room below it -/
structure Bx (X : Cx) (N : List Str) (sc : Scope) (k : Nat) : Prop where
  N : X.N = N
  nd : X.N.Nodup
  sc : X.env.scope = sc
  calm : X.calm = true
  room : Room k X.A
  pass : PassesOwn (model X.prog X.w) X.A X.env X.xe
def visB (sc : Scope) (x : Str) : Bool := match sc.names.lookup x with
  | some .local => true
  | some .cell => true
  | some .free => true
  | _ => false
def glB (sc : Scope) (x : Str) : Bool := match sc.names.lookup x with
  | some .globalImplicit => true
  | _ => false
theorem vis_of {sc : Scope} {x : Str} (h : visB sc x = true) : Vis sc x := by
  unfold visB at h
  unfold Vis
  split at h
  · exact .inl (by assumption)
  · exact .inr (.inl (by assumption))
  · exact .inr (.inr (by assumption))
  · cases h
theorem gl_of {sc : Scope} {x : Str} (h : glB sc x = true) : sc.names.lookup x = some .globalImplicit := by
  unfold glB at h
  split at h
  · assumption
  · cases h
section
variable {X : Cx} {c : Cf} {g : G} {e a b : Expr} {es rest : List Expr} {p q : Rs → Prop} {pos : Pos} {N : List Str} {sc : Scope} {k : Nat}
theorem Bx.gl (B : Bx X N sc k) {x : Str} (h : glB sc x = true) : Gl X x := by
  show X.env.scope.names.lookup x = _
  rw [B.sc]
  exact gl_of h
theorem WE.mono (h : WE X c g e p) (i : ∀ r, p r → q r) : WE X c g e q := fun σ H E Q k => h σ H E Q fun v H' r e1 r1 p1 => k v H' r e1 r1 (i r p1)
theorem WT.mono {p q : Bool → Prop} (h : WT X c g e p) (i : ∀ r, p r → q r) : WT X c g e q := fun σ H E Q k => h σ H E Q fun v H' e1 p1 => k v H' e1 (i v p1)
/-- an expression's reading at the heap where it stands, of a value that does not change the heap -/
theorem we_now {v : V} {r : Rs} (hv : ∀ (σ : L2.St) (H : Hp), En X.K c g σ H → ∀ Q : VK, Q v H → tWE X e σ H Q) (hr : ∀ H, RsOk X.K c.st H H v r) (h : p r) : WE X c g e p :=
  fun σ H E Q k => hv σ H E Q (k v H r (Ext.refl H) (hr H) h)

/-! ### names, constants -/
theorem n_var (i : Nat) {x : Str} {S : Sl} (B : Bx X N sc k) (hN : N[i]? = some x) (hv : visB sc x = true) (hG : g[i]? = some (some S)) (h : p S.rs)
    (hd : (x == ("__debug__" : Str)) = false := by decide) (hcd : (x == ("__classdict__" : Str)) = false := by decide) : WE X c g (.Name x pos) p := fun σ H E Q kk => by
  obtain ⟨v, e1, e2⟩ := E.sl i S hG
  have vis : Vis X.env.scope x := by
    rw [B.sc]
    exact vis_of hv
  refine we_of (pe_var (i := i) (by rw [B.N]; exact hN) vis hd hcd) ⟨v, e1, ?_⟩
  exact kk v H _ (Ext.refl H) e2.rs h
theorem n_int {i : Int} {j : Nat} (h : p (.d (.int i))) : WE X c g (.Constant (.int i) j pos) p := we_now (v := .int i) (fun _ _ _ _ q => we_of pe_int q) (fun _ => .dd (Is.int i)) h
theorem n_str {x : Str} {j : Nat} (h : p (.d (.str x))) : WE X c g (.Constant (.str x) j pos) p := we_now (v := .str x) (fun _ _ _ _ q => we_of pe_str q) (fun _ => .dd (Is.str x)) h
theorem n_bl {i : Bool} {j : Nat} (h : p (.d (.bl i))) : WE X c g (.Constant (.bool i) j pos) p := we_now (v := .bl i) (fun _ _ _ _ q => we_of pe_bl q) (fun _ => .dd (Is.bl i)) h
theorem n_non {j : Nat} (h : p (.d .non)) : WE X c g (.Constant .none j pos) p := we_now (v := .non) (fun _ _ _ _ q => we_of pe_non q) (fun _ => .dd Is.non) h
theorem n_globI {x : Str} {i : Int} {t : Tok} (B : Bx X N sc k) (hg : glB sc x = true) (hm : X.mg x = some (.int i t)) (h : p (.d (.int i))) (hd : (x == ("__debug__" : Str)) = false := by decide) : WE X c g (.Name x pos) p :=
  we_now (v := .int i) (fun _ _ _ _ q => we_of (pe_glob (v := .int i) (B.gl hg) hm ⟨t, rfl⟩ hd) q) (fun _ => .dd (Is.int i)) h
/-! ### operators -/
theorem we_op2 {op : Operator} {r : R2} {P : Rs → Rs → Prop} (ho : OpR X (binaryOp op) r) (h : WE X c g a fun x => WE X c g b fun y => P x y)
    (sem : ∀ (H1 H : Hp) (v u : V) (x y : Rs) (Q : VK), (∀ s, c.st = some s → StOk X.K H s) → RsOk X.K c.st H1 H v x → RsOk X.K c.st H1 H u y → P x y → (∀ w H' z, Ext X.K c.st H H' → RsOk X.K c.st H H' w z → p z → Q w H') → r v u H Q) :
    WE X c g (.BinOp a op b pos) p := fun σ H E Q k => by
  refine we_of (pe_op ho pe_w pe_w) ?_
  show tWE X a σ H fun x H1 => tWE X b σ H1 fun y H2 => r x y H2 Q
  refine h σ H E _ fun v H1 x e1 r1 hb => ?_
  refine hb σ H1 (E.go e1) _ fun u H2 y e2 r2 hP => ?_
  exact sem H H2 v u x y Q ((E.go e1).go e2).stk (r1.mono e2) (r2.back e1) hP fun w H3 z e3 r3 pz => k w H3 z ((e1.trans e2).trans e3) (r3.back (e1.trans e2)) pz
theorem is_int {K : Fg} {H : Hp} {v : V} {i : Int} (h : Is K H v (.int i)) : v = .int i := by
  cases h
  rfl
theorem is_str {K : Fg} {H : Hp} {v : V} {i : Str} (h : Is K H v (.str i)) : v = .str i := by
  cases h
  rfl
theorem is_bl {K : Fg} {H : Hp} {v : V} {i : Bool} (h : Is K H v (.bl i)) : v = .bl i := by
  cases h
  rfl
theorem is_tup {K : Fg} {H : Hp} {v : V} {ds : List D} (h : Is K H v (.tup ds)) : ∃ a xs, v = .ref a ∧ H a = some (.tup xs) ∧ IsL K H xs ds := by
  cases h with
  | tup h1 h2 => exact ⟨_, _, rfl, h1, h2⟩
theorem n_opI {op : Operator} {C : Int → Int → Prop} {f : Int → Int → Int} (ho : OpR X (binaryOp op) (rI C fun i j => .int (f i j)))
    (h : WE X c g a fun x => ∃ i, x = .d (.int i) ∧ WE X c g b fun y => ∃ j, y = .d (.int j) ∧ C i j ∧ p (.d (.int (f i j)))) : WE X c g (.BinOp a op b pos) p := by
  refine we_op2 (P := fun x y => ∃ i j, x = .d (.int i) ∧ y = .d (.int j) ∧ C i j ∧ p (.d (.int (f i j)))) ho (h.mono fun x ⟨i, ex, hb⟩ => hb.mono fun y ⟨j, ey, hc, q⟩ => ⟨i, j, ex, ey, hc, q⟩) ?_
  intro H1 H v u x y Q _ rx ry ⟨i, j, ex, ey, hc, q⟩ k
  subst ex ey
  cases is_int rx
  cases is_int ry
  exact ⟨i, j, rfl, rfl, hc, k _ H _ (Ext.refl H) (.dd (Is.int _)) q⟩
theorem n_opI0 {op : Operator} {f : Int → Int → Int} (ho : OpR X (binaryOp op) (rI0 fun i j => .int (f i j)))
    (h : WE X c g a fun x => ∃ i, x = .d (.int i) ∧ WE X c g b fun y => ∃ j, y = .d (.int j) ∧ p (.d (.int (f i j)))) : WE X c g (.BinOp a op b pos) p := by
  refine we_op2 (P := fun x y => ∃ i j, x = .d (.int i) ∧ y = .d (.int j) ∧ p (.d (.int (f i j)))) ho (h.mono fun x ⟨i, ex, hb⟩ => hb.mono fun y ⟨j, ey, q⟩ => ⟨i, j, ex, ey, q⟩) ?_
  intro H1 H v u x y Q _ rx ry ⟨i, j, ex, ey, q⟩ k
  subst ex ey
  cases is_int rx
  cases is_int ry
  exact ⟨i, j, rfl, rfl, k _ H _ (Ext.refl H) (.dd (Is.int _)) q⟩
theorem n_add (h : WE X c g a fun x => ∃ i, x = .d (.int i) ∧ WE X c g b fun y => ∃ j, y = .d (.int j) ∧ p (.d (.int (i + j)))) : WE X c g (.BinOp a .Add b pos) p := n_opI0 op_add h
theorem n_sub (h : WE X c g a fun x => ∃ i, x = .d (.int i) ∧ WE X c g b fun y => ∃ j, y = .d (.int j) ∧ p (.d (.int (i - j)))) : WE X c g (.BinOp a .Sub b pos) p := n_opI0 op_sub h
theorem n_mul (h : WE X c g a fun x => ∃ i, x = .d (.int i) ∧ WE X c g b fun y => ∃ j, y = .d (.int j) ∧ CMul i j ∧ p (.d (.int (i * j)))) : WE X c g (.BinOp a .Mult b pos) p := n_opI op_mul h
theorem n_neg (h : WE X c g a fun x => ∃ i, x = .d (.int i) ∧ p (.d (.int (-i)))) : WE X c g (.UnaryOp .USub a pos) p := fun σ H E Q k => by
  refine we_of (pe_un un_neg pe_w) ?_
  refine h σ H E _ fun v H1 x e1 r1 ⟨i, ex, q⟩ => ?_
  subst ex
  cases is_int r1
  exact ⟨i, rfl, k _ H1 _ e1 (.dd (Is.int _)) q⟩
/-- a list of the def's, times a number -/
theorem n_rep (h : WE X c g a fun x => ∃ fr d, x = .lst fr [d] ∧ WE X c g b fun y => ∃ n : Nat, y = .d (.int n) ∧ n ≤ 1000000 ∧ p (.lst true (List.replicate n d))) : WE X c g (.BinOp a .Mult b pos) p := by
  refine we_op2 (P := fun x y => ∃ fr d, ∃ n : Nat, x = .lst fr [d] ∧ y = .d (.int n) ∧ n ≤ 1000000 ∧ p (.lst true (List.replicate n d))) op_rep
    (h.mono fun x ⟨fr, d, ex, hb⟩ => hb.mono fun y ⟨n, ey, hn, q⟩ => ⟨fr, d, n, ex, ey, hn, q⟩) ?_
  intro H1 H v u x y Q hst rx ry ⟨fr, d, n, ex, ey, hn, q⟩ k
  subst ex ey
  cases is_int ry
  obtain ⟨l, vs, rfl, hl, hs, na, _⟩ := rx
  cases hs with
  | cons h1 h2 =>
    cases h2
    rename_i v0
    have e : (List.replicate (n : Int).toNat [v0]).flatten = List.replicate n v0 := by
      rw [Int.toNat_natCast]
      clear hn q k hl ry
      induction n with
      | zero => rfl
      | succ m ih => rw [List.replicate_succ, List.flatten_cons, ih, List.replicate_succ, List.singleton_append]
    refine ⟨l, (n : Int), [v0], rfl, rfl, hl, by omega, by omega, ?_, ?_⟩
    · rw [Int.toNat_natCast, List.length_singleton, Nat.one_mul, sizeLine_eq]
      omega
    · intro pp hp
      rw [e]
      refine k _ _ _ (Ext.new hp) (.ll upd_same ?_ ?_ fun _ => hp) q
      · exact IsL.rep (h1.mono (same_tx (same_new hp))) n
      · intro z
        obtain ⟨sc', ns, i, gg, r, e1, _⟩ := hst pp z.symm
        rw [hp] at e1
        cases e1
/-- two lists, one behind the other -/
theorem n_cat (h : WE X c g a fun x => ∃ fr ds, x = .lst fr ds ∧ WE X c g b fun y => ∃ fr' es, y = .lst fr' es ∧ ds.length + es.length ≤ 1000000 ∧ p (.lst true (ds ++ es))) : WE X c g (.BinOp a .Add b pos) p := by
  refine we_op2 (P := fun x y => ∃ fr ds fr' es, x = .lst fr ds ∧ y = .lst fr' es ∧ ds.length + es.length ≤ 1000000 ∧ p (.lst true (ds ++ es))) op_cat
    (h.mono fun x ⟨fr, ds, ex, hb⟩ => hb.mono fun y ⟨fr', es, ey, hn, q⟩ => ⟨fr, ds, fr', es, ex, ey, hn, q⟩) ?_
  intro H1 H v u x y Q hst rx ry ⟨fr, ds, fr', es, ex, ey, hn, q⟩ k
  subst ex ey
  obtain ⟨l, vs, rfl, hl, hs, na, _⟩ := rx
  obtain ⟨l2, vs2, rfl, hl2, hs2, na2, _⟩ := ry
  refine ⟨l, l2, vs, vs2, rfl, rfl, hl, hl2, ?_, fun pp hp => ?_⟩
  · rw [hs.length, hs2.length, sizeLine_eq]
    omega
  · refine k _ _ _ (Ext.new hp) (.ll upd_same ?_ ?_ fun _ => hp) q
    · exact (hs.append hs2).mono (same_tx (same_new hp))
    · intro z
      obtain ⟨sc', ns, i, gg, r, e1, _⟩ := hst pp z.symm
      rw [hp] at e1
      cases e1
/-- two tuples -/
theorem n_catT (h : WE X c g a fun x => ∃ ds, x = .d (.tup ds) ∧ WE X c g b fun y => ∃ es, y = .d (.tup es) ∧ ds.length + es.length ≤ 1000000 ∧ p (.d (.tup (ds ++ es)))) : WE X c g (.BinOp a .Add b pos) p := by
  refine we_op2 (P := fun x y => ∃ ds es, x = .d (.tup ds) ∧ y = .d (.tup es) ∧ ds.length + es.length ≤ 1000000 ∧ p (.d (.tup (ds ++ es)))) op_catA
    (h.mono fun x ⟨ds, ex, hb⟩ => hb.mono fun y ⟨es, ey, hn, q⟩ => ⟨ds, es, ex, ey, hn, q⟩) ?_
  intro H1 H v u x y Q hst rx ry ⟨ds, es, ex, ey, hn, q⟩ k
  subst ex ey
  obtain ⟨t, xs, rfl, ht, hs⟩ := is_tup rx
  obtain ⟨t2, ys, rfl, ht2, hs2⟩ := is_tup ry
  refine ⟨t, t2, xs, ys, rfl, rfl, SqT.of ht, SqT.of ht2, ?_, fun e => ?_, fun e1 e2 => ?_, fun e1 e2 pp hp => ?_⟩
  · rw [hs.length, hs2.length, sizeLine_eq]
    omega
  · subst e
    cases hs
    exact k _ H _ (Ext.refl H) (.dd (Is.tup ht2 hs2)) q
  · subst e2
    cases hs2
    rw [List.append_nil] at q
    exact k _ H _ (Ext.refl H) (.dd (Is.tup ht hs)) q
  · exact k _ _ _ (Ext.new hp) (.dd (Is.tup upd_same ((hs.append hs2).mono (same_tx (same_new hp))))) q

/-! ### comparisons -/
/-- what a comparison answers -/
def CmpS (X : Cx) (st : Option Addr) (op : CmpOp) (C : Rs → Rs → Bool → Prop) : Prop := ∃ r : R2, OpR X (compareOp op) r ∧
  ∀ (H1 H : Hp) (v u : V) (x y : Rs) (z : Bool) (Q : VK), RsOk X.K st H1 H v x → RsOk X.K st H1 H u y → C x y z → Q (.bl z) H → r v u H Q
theorem we_cmp {op : CmpOp} {C : Rs → Rs → Bool → Prop} (hs : CmpS X c.st op C) (hm : behindInMarks op b = false) (h : WE X c g a fun x => WE X c g b fun y => ∃ z, C x y z ∧ p (.d (.bl z))) : WE X c g (.Compare a [op] [b] pos) p := fun σ H E Q k => by
  obtain ⟨r, ho, sem⟩ := hs
  refine we_of (pe_cmpR ho pe_w pe_w hm) ?_
  refine h σ H E _ fun v H1 x e1 r1 hb => ?_
  refine hb σ H1 (E.go e1) _ fun u H2 y e2 r2 ⟨z, hC, hp⟩ => ?_
  exact sem H H2 v u x y z Q (r1.mono e2) (r2.back e1) hC (k _ H2 _ (e1.trans e2) (.dd (Is.bl z)) hp)
theorem wt_cmp {op : CmpOp} {C : Rs → Rs → Bool → Prop} {p : Bool → Prop} (hs : CmpS X c.st op C) (hm : behindInMarks op b = false) (h : WE X c g a fun x => WE X c g b fun y => ∃ z, C x y z ∧ p z) : WT X c g (.Compare a [op] [b] pos) p := fun σ H E Q k => by
  obtain ⟨r, ho, sem⟩ := hs
  refine wt_of (pt_cmpR ho pe_w pe_w hm) ?_
  refine h σ H E _ fun v H1 x e1 r1 hb => ?_
  refine hb σ H1 (E.go e1) _ fun u H2 y e2 r2 ⟨z, hC, hp⟩ => ?_
  exact sem H H2 v u x y z _ (r1.mono e2) (r2.back e1) hC ⟨z, rfl, k z H2 (e1.trans e2) hp⟩
def CI (f : Int → Int → Bool) (x y : Rs) (z : Bool) : Prop := ∃ i j, x = .d (.int i) ∧ y = .d (.int j) ∧ z = f i j
theorem c_int {op : CmpOp} {f : Int → Int → Bool} {st : Option Addr} (ho : OpR X (compareOp op) (rI0 fun i j => .bl (f i j))) : CmpS X st op (CI f) :=
  ⟨_, ho, fun H1 H v u x y z Q rx ry ⟨i, j, ex, ey, ez⟩ q => by
    subst ex ey ez
    cases is_int rx
    cases is_int ry
    exact ⟨i, j, rfl, rfl, q⟩⟩
theorem c_lt {st : Option Addr} : CmpS X st .Lt (CI fun i j => decide (i < j)) := c_int op_lt
theorem c_le {st : Option Addr} : CmpS X st .LtE (CI fun i j => decide (i ≤ j)) := c_int op_le
theorem c_gt {st : Option Addr} : CmpS X st .Gt (CI fun i j => decide (j < i)) := c_int op_gt
theorem c_ge {st : Option Addr} : CmpS X st .GtE (CI fun i j => decide (j ≤ i)) := c_int op_ge
theorem c_eqI {st : Option Addr} : CmpS X st .Eq (CI fun i j => decide (i = j)) :=
  ⟨_, op_eq, fun H1 H v u x y z Q rx ry ⟨i, j, ex, ey, ez⟩ q => by
    subst ex ey ez
    cases is_int rx
    cases is_int ry
    refine ⟨rfl, ?_⟩
    have e : decide (V.int i = V.int j) = decide (i = j) := by simp
    rw [e]
    exact q⟩
theorem c_neI {st : Option Addr} : CmpS X st .NotEq (CI fun i j => !decide (i = j)) :=
  ⟨_, op_ne, fun H1 H v u x y z Q rx ry ⟨i, j, ex, ey, ez⟩ q => by
    subst ex ey ez
    cases is_int rx
    cases is_int ry
    refine ⟨rfl, ?_⟩
    have e : decide (V.int i = V.int j) = decide (i = j) := by simp
    rw [e]
    exact q⟩
def CS (f : Str → Str → Bool) (x y : Rs) (z : Bool) : Prop := ∃ i j, x = .d (.str i) ∧ y = .d (.str j) ∧ z = f i j
theorem c_eqS {st : Option Addr} : CmpS X st .Eq (CS fun i j => decide (i = j)) :=
  ⟨_, op_eq, fun H1 H v u x y z Q rx ry ⟨i, j, ex, ey, ez⟩ q => by
    subst ex ey ez
    cases is_str rx
    cases is_str ry
    refine ⟨rfl, ?_⟩
    have e : decide (V.str i = V.str j) = decide (i = j) := by simp
    rw [e]
    exact q⟩
theorem c_neS {st : Option Addr} : CmpS X st .NotEq (CS fun i j => !decide (i = j)) :=
  ⟨_, op_ne, fun H1 H v u x y z Q rx ry ⟨i, j, ex, ey, ez⟩ q => by
    subst ex ey ez
    cases is_str rx
    cases is_str ry
    refine ⟨rfl, ?_⟩
    have e : decide (V.str i = V.str j) = decide (i = j) := by simp
    rw [e]
    exact q⟩
/-- is True, is not True -/
def CB (f : Bool → Bool → Bool) (x y : Rs) (z : Bool) : Prop := ∃ i j, x = .d (.bl i) ∧ y = .d (.bl j) ∧ z = f i j
theorem c_isB {st : Option Addr} : CmpS X st .Is (CB fun i j => decide (i = j)) :=
  ⟨_, op_isBl, fun H1 H v u x y z Q rx ry ⟨i, j, ex, ey, ez⟩ q => by
    subst ex ey ez
    cases is_bl rx
    cases is_bl ry
    exact ⟨i, j, rfl, rfl, q⟩⟩
theorem c_notB {st : Option Addr} : CmpS X st .IsNot (CB fun i j => !decide (i = j)) :=
  ⟨_, op_notBl, fun H1 H v u x y z Q rx ry ⟨i, j, ex, ey, ez⟩ q => by
    subst ex ey ez
    cases is_bl rx
    cases is_bl ry
    exact ⟨i, j, rfl, rfl, q⟩⟩
/-- is None, is not None -/
def Rs.isNone : Rs → Bool
  | .d .non => true
  | _ => false
theorem RsOk.none_iff {K : Fg} {st : Option Addr} {H1 H : Hp} {v : V} {r : Rs} (h : RsOk K st H1 H v r) : decide (v = V.non) = r.isNone := by
  cases r with
  | d x =>
    cases h with
    | non => rfl
    | bl b => rfl
    | int i => rfl
    | str x => rfl
    | tup h1 h2 => rfl
  | lst fr ds =>
    obtain ⟨a, vs, rfl, _⟩ := h
    rfl
  | dct fr ds =>
    obtain ⟨a, vs, rfl, _⟩ := h
    rfl
  | fz kvs =>
    obtain ⟨a, ob, vs, rfl, _⟩ := h
    rfl
  | tx fr ds =>
    obtain ⟨a, vs, rfl, _⟩ := h
    rfl
  | st =>
    obtain ⟨a, _, rfl⟩ := h
    rfl
theorem c_isN {st : Option Addr} : CmpS X st .Is fun x y z => y = .d .non ∧ z = x.isNone :=
  ⟨_, op_isN, fun H1 H v u x y z Q rx ry ⟨ey, ez⟩ q => by
    subst ey ez
    cases ry
    refine ⟨rfl, ?_⟩
    rw [rx.none_iff]
    exact q⟩
theorem c_notN {st : Option Addr} : CmpS X st .IsNot fun x y z => y = .d .non ∧ z = !x.isNone :=
  ⟨_, op_notN, fun H1 H v u x y z Q rx ry ⟨ey, ez⟩ q => by
    subst ey ez
    cases ry
    refine ⟨rfl, ?_⟩
    rw [rx.none_iff]
    exact q⟩
/-- a number in a list or a tuple of numbers -/
theorem inV_ints (i : Int) : ∀ ns : List Int, inV (.int i) (ns.map V.int) = decide (i ∈ ns)
  | [] => rfl
  | n :: ns => by
    have ih := inV_ints i ns
    unfold inV at ih ⊢
    rw [List.map_cons, List.any_cons, ih]
    show ((n == i) || decide (i ∈ ns)) = decide (i ∈ n :: ns)
    by_cases h : n = i
    · subst h
      simp
    · have h' : ¬ i = n := fun z => h z.symm
      simp [h, h']
theorem ints_flat (ns : List Int) : (ns.map V.int).all flatV = true := by
  rw [List.all_map]
  exact List.all_eq_true.mpr fun _ _ => rfl
def InInts (x y : Rs) (z : Bool) : Prop := ∃ (i : Int) (ns : List Int), x = .d (.int i) ∧ (y = .d (.tup (ns.map D.int)) ∨ ∃ fr, y = .lst fr (ns.map D.int)) ∧ z = decide (i ∈ ns)
theorem in_sem {K : Fg} {st : Option Addr} {neg : Bool} {H1 H : Hp} {v u : V} {x y : Rs} {z : Bool} {Q : VK} (rx : RsOk K st H1 H v x) (ry : RsOk K st H1 H u y) (h : InInts x y z) (q : Q (.bl (if neg then !z else z)) H) : rIn K neg v u H Q := by
  obtain ⟨i, ns, ex, ey, ez⟩ := h
  subst ex ez
  cases is_int rx
  rcases ey with ey | ⟨fr, ey⟩
  · subst ey
    obtain ⟨a, xs, rfl, h1, h2⟩ := is_tup ry
    have e := h2.ints
    subst e
    exact ⟨a, _, rfl, .inr (SqT.of h1), rfl, ints_flat ns, by rw [inV_ints]; exact q⟩
  · subst ey
    obtain ⟨a, xs, rfl, h1, h2, _⟩ := ry
    have e := h2.ints
    subst e
    exact ⟨a, _, rfl, .inl (.inl (.inl h1)), rfl, ints_flat ns, by rw [inV_ints]; exact q⟩
theorem c_inI {st : Option Addr} : CmpS X st .In InInts := ⟨_, op_in_seq, fun H1 H v u x y z Q rx ry h q => in_sem (neg := false) rx ry h q⟩
theorem c_ninI {st : Option Addr} : CmpS X st .NotIn fun x y z => ∃ b, InInts x y b ∧ z = !b := ⟨_, op_notIn_seq, fun H1 H v u x y z Q rx ry ⟨b, h, e⟩ q => by
  subst e
  exact in_sem (neg := true) rx ry h q⟩
/-- a <= b <= c -/
theorem n_chain {op op' : CmpOp} {f f' : Int → Int → Bool} {d : Expr} (ho : OpR X (compareOp op) (rI0 fun i j => .bl (f i j))) (ho' : OpR X (compareOp op') (rI0 fun i j => .bl (f' i j))) (hh : ∀ (x : TE) (H : Hp), True)
    (hm : PE X (.Compare a [op, op'] [b, d] pos) (tChain (rI0 fun i j => .bl (f i j)) (rI0 fun i j => .bl (f' i j)) (tWE X a) (tWE X b) (tWE X d)))
    (h : WE X c g a fun x => ∃ i, x = .d (.int i) ∧ WE X c g b fun y => ∃ j, y = .d (.int j) ∧ if f i j = true then WE X c g d fun z => ∃ l, z = .d (.int l) ∧ p (.d (.bl (f' j l))) else p (.d (.bl false))) :
    WE X c g (.Compare a [op, op'] [b, d] pos) p := fun σ H E Q k => by
  refine we_of hm ?_
  refine h σ H E _ fun v H1 x e1 r1 ⟨i, ex, hb⟩ => ?_
  subst ex
  cases is_int r1
  refine hb σ H1 (E.go e1) _ fun u H2 y e2 r2 ⟨j, ey, hc⟩ => ?_
  subst ey
  cases is_int r2
  refine ⟨i, j, rfl, rfl, f i j, rfl, ?_⟩
  cases hf : f i j with
  | false =>
    rw [hf] at hc
    simp only [Bool.false_eq_true, if_false] at hc ⊢
    exact k _ H2 _ (e1.trans e2) (.dd (Is.bl false)) hc
  | true =>
    rw [hf] at hc
    simp only [if_true] at hc ⊢
    refine hc σ H2 ((E.go e1).go e2) _ fun w H3 z e3 r3 ⟨l, ez, q⟩ => ?_
    subst ez
    cases is_int r3
    exact ⟨j, l, rfl, rfl, k _ H3 _ ((e1.trans e2).trans e3) (.dd (Is.bl _)) q⟩

/-! ### and, or, not; tests -/
theorem n_not (h : WE X c g a fun x => ∃ i, x = .d (.bl i) ∧ p (.d (.bl (!i)))) : WE X c g (.UnaryOp .Not a pos) p := fun σ H E Q k => by
  refine we_of (pe_not pe_w) ?_
  refine h σ H E _ fun v H1 x e1 r1 ⟨i, ex, q⟩ => ?_
  subst ex
  cases is_bl r1
  exact ⟨i, rfl, k _ H1 _ e1 (.dd (Is.bl _)) q⟩
theorem n_one {op : BoolOp} (h : WE X c g a p) : WE X c g (.BoolOp op [a] pos) p := fun σ H E Q k => we_of (pe_one pe_w) (h σ H E Q k)
theorem n_and (h : WE X c g a fun x => ∃ i, x = .d (.bl i) ∧ if i = true then WE X c g (.BoolOp .And (b :: rest) pos) p else p (.d (.bl false))) : WE X c g (.BoolOp .And (a :: b :: rest) pos) p := fun σ H E Q k => by
  refine we_of (pe_and pe_w pe_w) ?_
  refine h σ H E _ fun v H1 x e1 r1 ⟨i, ex, q⟩ => ?_
  subst ex
  cases is_bl r1
  refine ⟨i, rfl, ?_⟩
  cases i with
  | false =>
    simp only [Bool.false_eq_true, if_false] at q ⊢
    exact k _ H1 _ e1 (.dd (Is.bl _)) q
  | true =>
    simp only [if_true] at q ⊢
    exact q σ H1 (E.go e1) _ fun w H3 z e3 r3 pz => k w H3 z (e1.trans e3) (r3.back e1) pz
theorem n_or (h : WE X c g a fun x => ∃ i, x = .d (.bl i) ∧ if i = true then p (.d (.bl true)) else WE X c g (.BoolOp .Or (b :: rest) pos) p) : WE X c g (.BoolOp .Or (a :: b :: rest) pos) p := fun σ H E Q k => by
  refine we_of (pe_or pe_w pe_w) ?_
  refine h σ H E _ fun v H1 x e1 r1 ⟨i, ex, q⟩ => ?_
  subst ex
  cases is_bl r1
  refine ⟨i, rfl, ?_⟩
  cases i with
  | true =>
    simp only [if_true] at q ⊢
    exact k _ H1 _ e1 (.dd (Is.bl _)) q
  | false =>
    simp only [Bool.false_eq_true, if_false] at q ⊢
    exact q σ H1 (E.go e1) _ fun w H3 z e3 r3 pz => k w H3 z (e1.trans e3) (r3.back e1) pz
variable {P P' : Bool → Prop}
theorem t_val (h : WE X c g e fun x => ∃ i, x = .d (.bl i) ∧ P i) (he : ∀ whole, isTrue e X.env whole = (do let v ← whole; standAt e.pos; holding [v] (truthy v)) := by intro _; rfl) : WT X c g e P := fun σ H E Q k => by
  refine wt_of (pt_val pe_w he) ?_
  refine h σ H E _ fun v H1 x e1 r1 ⟨i, ex, q⟩ => ?_
  subst ex
  cases is_bl r1
  exact ⟨i, rfl, k i H1 e1 q⟩
theorem t_not (h : WT X c g a fun i => P (!i)) : WT X c g (.UnaryOp .Not a pos) P := fun σ H E Q k => by
  refine wt_of (pt_not pt_w) ?_
  exact h σ H E _ fun i H1 e1 q => k (!i) H1 e1 q
theorem t_bop {op : BoolOp} (h : WW X c g (.BoolOp op es pos) P) : WT X c g (.BoolOp op es pos) P := fun σ H E Q k => by
  refine wt_of (PW.pt pw_w) ?_
  exact h σ H E Q k
theorem w_and1 (h : WT X c g a P) : WW X c g (.BoolOp .And [a] pos) P := fun σ H E Q k => ww_of (pw_and1 pt_w) (h σ H E Q k)
theorem w_or1 (h : WT X c g a P) : WW X c g (.BoolOp .Or [a] pos) P := fun σ H E Q k => ww_of (pw_or1 pt_w) (h σ H E Q k)
theorem w_and (h : WT X c g a fun i => if i = true then WW X c g (.BoolOp .And (b :: rest) pos) P else P false) : WW X c g (.BoolOp .And (a :: b :: rest) pos) P := fun σ H E Q k => by
  refine ww_of (pw_and pt_w pw_w) ?_
  refine h σ H E _ fun i H1 e1 q => ?_
  cases i with
  | false =>
    simp only [Bool.false_eq_true, if_false] at q ⊢
    exact k _ H1 e1 q
  | true =>
    simp only [if_true] at q ⊢
    exact q σ H1 (E.go e1) _ fun w H3 e3 pz => k w H3 (e1.trans e3) pz
theorem w_or (h : WT X c g a fun i => if i = true then P true else WW X c g (.BoolOp .Or (b :: rest) pos) P) : WW X c g (.BoolOp .Or (a :: b :: rest) pos) P := fun σ H E Q k => by
  refine ww_of (pw_or pt_w pw_w) ?_
  refine h σ H E _ fun i H1 e1 q => ?_
  cases i with
  | true =>
    simp only [if_true] at q ⊢
    exact k _ H1 e1 q
  | false =>
    simp only [Bool.false_eq_true, if_false] at q ⊢
    exact q σ H1 (E.go e1) _ fun w H3 e3 pz => k w H3 (e1.trans e3) pz

/-! ### argument lists, displays -/
theorem a_nil {p : List Rs → Prop} (h : p []) : WA X c g [] p := fun σ H E Q k => wa_of pa_nil (k [] H [] (Ext.refl H) .nil h)
theorem a_cons {p : List Rs → Prop} (h : WE X c g e fun r => WA X c g es fun rs => p (r :: rs)) (hs : starEach (e :: es) X.env = (false, eval e X.env) :: starEach es X.env := by rfl) : WA X c g (e :: es) p := fun σ H E Q k => by
  refine wa_of (pa_cons pe_w pa_w hs) ?_
  refine h σ H E _ fun v H1 r e1 r1 hr => ?_
  refine hr σ H1 (E.go e1) _ fun vs H2 rs e2 r2 q => ?_
  exact k _ H2 _ (e1.trans e2) (.cons (r1.mono e2) (r2.back e1)) q
theorem st_new {st : Option Addr} {K : Fg} {H : Hp} {pp : Addr} (hst : ∀ s, st = some s → StOk K H s) (hp : H pp = none) : some pp ≠ st := fun z => by
  obtain ⟨_, ns, i, gg, r, e1, _⟩ := hst pp z.symm
  rw [hp] at e1
  cases e1
theorem n_tup {j : Nat} (h : WA X c g es fun rs => ∃ ds : List D, rs = ds.map Rs.d ∧ ds.length ≤ 1000000 ∧ p (.d (.tup ds))) : WE X c g (.Tuple es j pos) p := fun σ H E Q k => by
  refine we_of (pe_tup pa_w) ?_
  refine h σ H E _ fun vs H1 rs e1 r1 ⟨ds, ers, hl, q⟩ => ?_
  subst ers
  have hs := r1.ds
  refine ⟨?_, fun pp hp => ?_⟩
  · rw [hs.length, sizeLine_eq]
    omega
  · exact k _ _ _ (e1.trans (Ext.new hp)) (.dd (Is.tup upd_same (hs.mono (same_tx (same_new hp))))) q
theorem n_lst (h : WA X c g es fun rs => ∃ ds : List D, rs = ds.map Rs.d ∧ ds.length ≤ 1000000 ∧ p (.lst true ds)) : WE X c g (.List es pos) p := fun σ H E Q k => by
  refine we_of (pe_lst pa_w) ?_
  refine h σ H E _ fun vs H1 rs e1 r1 ⟨ds, ers, hl, q⟩ => ?_
  subst ers
  have hs := r1.ds
  refine ⟨?_, fun pp hp => ?_⟩
  · rw [hs.length, sizeLine_eq]
    omega
  · exact k _ _ _ (e1.trans (Ext.new hp)) (.ll upd_same (hs.mono (same_tx (same_new hp))) (st_new (E.go e1).stk hp) fun _ => e1.back (st_new (E.go e1).stk hp) hp) q
theorem n_dict0 (h : p (.dct true [])) (hd : ∀ σ : L2.St, ∀ H : Hp, ∀ Q : VK, (∀ pp, H pp = none → Q (.ref pp) (upd H pp (.dK []))) → tWE X e σ H Q) : WE X c g e p := fun σ H E Q k =>
  hd σ H Q fun pp hp => k _ _ _ (Ext.new hp) (.kk upd_same .nil (st_new E.stk hp) fun _ => hp) h

/-! ### subscripts -/
theorem IsL.atI {K : Fg} {H : Hp} {vs : List V} {ds : List D} {i : Int} {d : D} (h : IsL K H vs ds) (e : atI ds i = some d) : ∃ v, L2.atI vs i = some v ∧ Is K H v d := by
  unfold L2.atI at e ⊢
  rw [h.length]
  cases q : ixN ds.length i with
  | none =>
    rw [q] at e
    cases e
  | some j =>
    rw [q] at e
    exact h.get e
theorem n_ixT (h : WE X c g a fun x => ∃ ds, x = .d (.tup ds) ∧ WE X c g b fun y => ∃ i d, y = .d (.int i) ∧ atI ds i = some d ∧ p (.d d)) (hs : PlainIx b := by intro _ _; rfl) : WE X c g (.Subscript a b pos) p := fun σ H E Q k => by
  refine we_of (pe_ix ix_tup pe_w pe_w hs) ?_
  refine h σ H E _ fun v H1 x e1 r1 ⟨ds, ex, hb⟩ => ?_
  subst ex
  refine hb σ H1 (E.go e1) _ fun u H2 y e2 r2 ⟨i, d, ey, hat, q⟩ => ?_
  subst ey
  cases is_int r2
  obtain ⟨t, xs, rfl, h1, h2⟩ := is_tup (r1.mono e2)
  obtain ⟨w, hw, hd⟩ := h2.atI hat
  exact ⟨t, xs, i, w, rfl, rfl, SqT.of h1, hw, k _ H2 _ (e1.trans e2) (.dd hd) q⟩
theorem n_ixL (h : WE X c g a fun x => ∃ fr ds, x = .lst fr ds ∧ WE X c g b fun y => ∃ i d, y = .d (.int i) ∧ atI ds i = some d ∧ p (.d d)) (hs : PlainIx b := by intro _ _; rfl) : WE X c g (.Subscript a b pos) p := fun σ H E Q k => by
  refine we_of (pe_ix ix_list pe_w pe_w hs) ?_
  refine h σ H E _ fun v H1 x e1 r1 ⟨fr, ds, ex, hb⟩ => ?_
  subst ex
  refine hb σ H1 (E.go e1) _ fun u H2 y e2 r2 ⟨i, d, ey, hat, q⟩ => ?_
  subst ey
  cases is_int r2
  obtain ⟨l, vs, rfl, h1, h2, _⟩ := r1.mono e2
  obtain ⟨w, hw, hd⟩ := h2.atI hat
  exact ⟨l, vs, i, w, rfl, rfl, .inl (.inl h1), hw, k _ H2 _ (e1.trans e2) (.dd hd) q⟩
/-- a part of a slice -/
def tWO (X : Cx) (o : Option Expr) : TO := fun σ H Q => match o with
  | none => Q none H
  | some e => tWE X e σ H fun x H1 => ∃ i, x = .int i ∧ Q (some i) H1
theorem po_w : ∀ {o : Option Expr}, PO X o (tWO X o)
  | none => po_none
  | some _ => po_some pe_w
def WO (X : Cx) (c : Cf) (g : G) : Option Expr → (Option Int → Prop) → Prop
  | none, p => p none
  | some e, p => WE X c g e fun x => ∃ i, x = .d (.int i) ∧ p (some i)
theorem WO.run {o : Option Expr} {p : Option Int → Prop} (h : WO X c g o p) {σ : L2.St} {H : Hp} (E : En X.K c g σ H) {Q : Option Int → Hp → Prop} (k : ∀ i H', Ext X.K c.st H H' → p i → Q i H') : tWO X o σ H Q := by
  cases o with
  | none => exact k none H (Ext.refl H) h
  | some e =>
    refine WE.mono (q := fun x => ∃ i, x = .d (.int i) ∧ p (some i)) h (fun _ z => z) σ H E _ fun v H1 x e1 r1 ⟨i, ex, q⟩ => ?_
    subst ex
    cases is_int r1
    exact ⟨i, rfl, k (some i) H1 e1 q⟩
def cut (ds : List D) (lo hi : Option Int) : List D := (ds.drop (HT.sIx ds.length 0 lo)).take (HT.sIx ds.length ds.length hi - HT.sIx ds.length 0 lo)
theorem IsL.cut {K : Fg} {H : Hp} {vs : List V} {ds : List D} (h : IsL K H vs ds) (lo hi : Option Int) : IsL K H (cutV vs lo hi) (cut ds lo hi) := by
  unfold cutV TW.cut
  rw [h.length]
  exact (h.drop _).take _
theorem cut_whole {ds : List D} {lo hi : Option Int} (h : HT.sIx ds.length 0 lo = 0 ∧ HT.sIx ds.length ds.length hi = ds.length) : cut ds lo hi = ds := by
  unfold cut
  rw [h.1, h.2]
  simp
theorem n_slT {lo hi : Option Expr} {p2 : Pos} (h : WE X c g a fun x => ∃ ds, x = .d (.tup ds) ∧ WO X c g lo fun i => WO X c g hi fun j => p (.d (.tup (cut ds i j)))) : WE X c g (.Subscript a (.Slice lo hi none p2) pos) p := fun σ H E Q k => by
  refine we_of (pe_slice sl_tupA pe_w po_w po_w) ?_
  refine h σ H E _ fun v H1 x e1 r1 ⟨ds, ex, hb⟩ => ?_
  subst ex
  refine hb.run (E.go e1) fun i H2 e2 hc => ?_
  refine hc.run ((E.go e1).go e2) fun j H3 e3 q => ?_
  obtain ⟨t, xs, rfl, h1, h2⟩ := is_tup ((r1.mono e2).mono e3)
  have ee := (e1.trans e2).trans e3
  refine ⟨t, xs, rfl, SqT.of h1, fun hw => ?_, fun _ pp hp => ?_⟩
  · rw [h2.length] at hw
    rw [cut_whole hw] at q
    exact k _ H3 _ ee (.dd (Is.tup h1 h2)) q
  · exact k _ _ _ (ee.trans (Ext.new hp)) (.dd (Is.tup upd_same ((h2.cut i j).mono (same_tx (same_new hp))))) q
theorem n_slL {lo hi : Option Expr} {p2 : Pos} (h : WE X c g a fun x => ∃ fr ds, x = .lst fr ds ∧ WO X c g lo fun i => WO X c g hi fun j => p (.lst true (cut ds i j))) : WE X c g (.Subscript a (.Slice lo hi none p2) pos) p := fun σ H E Q k => by
  refine we_of (pe_slice sl_list pe_w po_w po_w) ?_
  refine h σ H E _ fun v H1 x e1 r1 ⟨fr, ds, ex, hb⟩ => ?_
  subst ex
  refine hb.run (E.go e1) fun i H2 e2 hc => ?_
  refine hc.run ((E.go e1).go e2) fun j H3 e3 q => ?_
  obtain ⟨l, vs, rfl, h1, h2, na, _⟩ := (r1.mono e2).mono e3
  have ee := (e1.trans e2).trans e3
  refine ⟨l, vs, rfl, .inl (.inl h1), fun pp hp => ?_⟩
  have np := st_new (((E.go e1).go e2).go e3).stk hp
  exact k _ _ _ (ee.trans (Ext.new hp)) (.ll upd_same ((h2.cut i j).mono (same_tx (same_new hp))) np fun _ => ee.back np hp) q
/-- xs[::-1] of a list -/
theorem n_revL {kk : Nat} {p1 p2 p3 : Pos} (h : WE X c g a fun x => ∃ fr ds, x = .lst fr ds ∧ p (.lst true ds.reverse)) : WE X c g (.Subscript a (.Slice none none (some (.UnaryOp .USub (.Constant (.int 1) kk p1) p2)) p3) pos) p := fun σ H E Q k => by
  refine we_of (pe_revL pe_w) ?_
  refine h σ H E _ fun v H1 x e1 r1 ⟨fr, ds, ex, q⟩ => ?_
  subst ex
  obtain ⟨l, vs, rfl, h1, h2, na, _⟩ := r1
  refine ⟨l, vs, rfl, .inl (.inl h1), fun pp hp => ?_⟩
  have np := st_new (E.go e1).stk hp
  exact k _ _ _ (e1.trans (Ext.new hp)) (.ll upd_same (h2.rev.mono (same_tx (same_new hp))) np fun _ => e1.back np hp) q
end
end TW

/-! TW3: equality of data, built-ins, calls. -/
namespace TW
open PySem PySem.Spec PyProof.Rows L2

/-! ### data as the library's -/
mutual
def D.py : D → PyData
  | .non => .none
  | .bl b => .bool b
  | .int i => .int i
  | .str x => .str x
  | .tup ds => .tuple (pyL ds)
def pyL : List D → List PyData
  | [] => []
  | d :: ds => d.py :: pyL ds
end
mutual
theorem Is.dp {K : Fg} {H : Hp} : ∀ {v : V} {d : D}, Is K H v d → Dp K H v d.py
  | _, _, .non => .non
  | _, _, .bl b => .bl b
  | _, _, .int i => .int i
  | _, _, .str x => .str x
  | _, _, .tup h hs => .tup (SqT.of h) (IsL.dp hs)
theorem IsL.dp {K : Fg} {H : Hp} : ∀ {vs : List V} {ds : List D}, IsL K H vs ds → DpAll K H vs (pyL ds)
  | _, _, .nil => .nil
  | _, _, .cons h hs => .cons h.dp hs.dp
end
/-- texts are plain, not deeper than n -/
def D.fit (n : Nat) (d : D) : Prop := d.py.canLay0 = true ∧ d.py.depth ≤ n
theorem fit_int {n : Nat} (i : Int) : D.fit n (.int i) := by
  unfold D.fit
  simp [D.py, PyData.canLay0, PyData.depth]
theorem fit_bl {n : Nat} (i : Bool) : D.fit n (.bl i) := by
  unfold D.fit
  simp [D.py, PyData.canLay0, PyData.depth]
theorem fitL {n : Nat} : ∀ {ds : List D}, (∀ d ∈ ds, D.fit n d) → PyData.canLayAll0 (pyL ds) = true ∧ PyData.depthAll (pyL ds) ≤ n
  | [], _ => by simp [pyL, PyData.canLayAll0, PyData.depthAll]
  | d :: ds, h => by
    obtain ⟨a, b⟩ := h d List.mem_cons_self
    obtain ⟨e, f⟩ := fitL fun x hx => h x (List.mem_cons_of_mem _ hx)
    refine ⟨by simp [pyL, PyData.canLayAll0, a, e], ?_⟩
    simp only [pyL, PyData.depthAll]
    omega
theorem fit_tup {n : Nat} {ds : List D} (h : ∀ d ∈ ds, D.fit n d) : D.fit (n + 1) (.tup ds) := by
  obtain ⟨a, b⟩ := fitL h
  unfold D.fit
  simp only [D.py, PyData.canLay0, PyData.depth]
  exact ⟨a, by omega⟩
theorem fit_mono {n m : Nat} {d : D} (h : D.fit n d) (l : n ≤ m) : D.fit m d := ⟨h.1, Nat.le_trans h.2 l⟩
theorem fit_unmem {n : Nat} : ∀ {ds : List D}, PyData.canLayAll0 (pyL ds) = true → PyData.depthAll (pyL ds) ≤ n → ∀ d ∈ ds, D.fit n d
  | [], _, _, d, h => by cases h
  | x :: xs, a, b, d, h => by
    simp only [pyL, PyData.canLayAll0, Bool.and_eq_true, PyData.depthAll] at a b
    rcases List.mem_cons.mp h with e | h
    · subst e
      exact ⟨a.1, by omega⟩
    · exact fit_unmem a.2 (by omega) d h
theorem fit_untup {n : Nat} {ds : List D} (h : D.fit (n + 1) (.tup ds)) : ∀ d ∈ ds, D.fit n d := by
  unfold D.fit at h
  simp only [D.py, PyData.canLay0, PyData.depth] at h
  exact fit_unmem h.1 (by omega)
theorem fit_untup0 {ds : List D} (h : D.fit 0 (.tup ds)) : False := by
  unfold D.fit at h
  simp only [D.py, PyData.canLay0, PyData.depth] at h
  omega
theorem fit_shaped {d : D} (h : D.fit 64 d) : SeqAt.shaped d.py = true := by
  unfold SeqAt.shaped
  rw [h.1, decide_eq_true h.2]
  rfl
theorem fit_shapedL {ds : List D} (h : ∀ d ∈ ds, D.fit 63 d) : SeqAt.shaped (.list (pyL ds)) = true := by
  obtain ⟨a, b⟩ := fitL h
  have h1 : PyData.canLay0 (.list (pyL ds)) = true := by simp only [PyData.canLay0, a]
  have h2 : PyData.depth (.list (pyL ds)) ≤ 64 := by
    simp only [PyData.depth]
    omega
  unfold SeqAt.shaped
  rw [h1, decide_eq_true h2]
  rfl
theorem pyL_length : ∀ ds : List D, (pyL ds).length = ds.length
  | [] => rfl
  | d :: ds => congrArg (· + 1) (pyL_length ds)
theorem pyL_map {α : Type} (f : α → D) : ∀ xs : List α, pyL (xs.map f) = xs.map fun x => (f x).py
  | [] => rfl
  | x :: xs => by
    rw [List.map_cons, List.map_cons, ← pyL_map f xs]
    rfl
theorem eqvAll_nil : ∀ ds : List PyData, PyData.eqvAll ds [] = ds.isEmpty
  | [] => by simp [PyData.eqvAll]
  | _ :: _ => by simp [PyData.eqvAll]
section
variable {X : Cx} {c : Cf} {g : G} {e a b : Expr} {es rest : List Expr} {p q : Rs → Prop} {pos pos2 : Pos} {N : List Str} {sc : Scope} {k : Nat} {st : Option Addr}
/-- xs == [], xs != [] -/
def CN (f : Bool → Bool) (x y : Rs) (z : Bool) : Prop := ∃ fr ds fr', x = .lst fr ds ∧ y = .lst fr' [] ∧ (∀ d ∈ ds, D.fit 63 d) ∧ z = f ds.isEmpty
theorem cn_data {K : Fg} {H1 H : Hp} {v u : V} {x y : Rs} {z : Bool} {f : Bool → Bool} (rx : RsOk K st H1 H v x) (ry : RsOk K st H1 H u y) (h : CN f x y z) :
    ∃ d e, Dp K H v d ∧ Dp K H u e ∧ SeqAt.shaped d = true ∧ SeqAt.shaped e = true ∧ z = f (PyData.eqv d e) := by
  obtain ⟨fr, ds, fr', ex, ey, hf, ez⟩ := h
  subst ex ey ez
  obtain ⟨l, vs, rfl, h1, h2, _⟩ := rx
  obtain ⟨l2, vs2, rfl, h3, h4, _⟩ := ry
  cases h4
  refine ⟨.list (pyL ds), .list [], .lst (SqL.of h1) h2.dp, .lst (SqL.of h3) .nil, fit_shapedL hf, by decide, ?_⟩
  have e : PyData.eqv (.list (pyL ds)) (.list []) = ds.isEmpty := by
    simp only [PyData.eqv]
    rw [eqvAll_nil]
    cases ds <;> rfl
  rw [e]
theorem c_eqN (hu : X.A.units + 64 < cLine) : CmpS X st .Eq (CN id) := ⟨_, op_eqD hu, fun H1 H v u x y z Q rx ry h q => by
  obtain ⟨d, e, h1, h2, h3, h4, ez⟩ := cn_data rx ry h
  subst ez
  exact ⟨d, e, h1, h2, h3, h4, q⟩⟩
theorem c_neN (hu : X.A.units + 64 < cLine) : CmpS X st .NotEq (CN (!·)) := ⟨_, op_neD hu, fun H1 H v u x y z Q rx ry h q => by
  obtain ⟨d, e, h1, h2, h3, h4, ez⟩ := cn_data rx ry h
  subst ez
  exact ⟨d, e, h1, h2, h3, h4, q⟩⟩
/-- t == () -/
def CT0 (x y : Rs) (z : Bool) : Prop := ∃ ds, x = .d (.tup ds) ∧ y = .d (.tup []) ∧ D.fit 64 (.tup ds) ∧ z = ds.isEmpty
theorem c_eqT0 (hu : X.A.units + 64 < cLine) : CmpS X st .Eq CT0 := ⟨_, op_eqD hu, fun H1 H v u x y z Q rx ry ⟨ds, ex, ey, hf, ez⟩ q => by
  subst ex ey ez
  refine ⟨_, _, Is.dp rx, Is.dp ry, fit_shaped hf, by decide, ?_⟩
  have e : PyData.eqv (D.py (.tup ds)) (D.py (.tup [])) = ds.isEmpty := by
    simp only [D.py, pyL, PyData.eqv]
    rw [eqvAll_nil]
    cases ds <;> rfl
  rw [e]
  exact q⟩
def prD (z : Int × Int) : D := .tup [.int z.1, .int z.2]
theorem fit_pr (z : Int × Int) : D.fit 1 (prD z) := fit_tup fun d h => by
  simp only [List.mem_cons, List.not_mem_nil, or_false] at h
  rcases h with h | h <;> (subst h; exact fit_int _)
theorem eqv_pr (z w : Int × Int) : PyData.eqv (prD z).py (prD w).py = decide (z = w) := by
  obtain ⟨a, b⟩ := z
  obtain ⟨a', b'⟩ := w
  simp only [prD, D.py, pyL, PyData.eqv, PyData.eqvAll, Bool.and_true, Prod.mk.injEq]
  by_cases h1 : a = a' <;> by_cases h2 : b = b' <;> simp [h1, h2]
/-- (i, j) == (k, l) -/
def CP (x y : Rs) (z : Bool) : Prop := ∃ u w, x = .d (prD u) ∧ y = .d (prD w) ∧ z = decide (u = w)
theorem c_eqP (hu : X.A.units + 64 < cLine) : CmpS X st .Eq CP := ⟨_, op_eqD hu, fun H1 H v u x y z Q rx ry ⟨i, j, ex, ey, ez⟩ q => by
  subst ex ey ez
  refine ⟨_, _, Is.dp rx, Is.dp ry, fit_shaped (fit_mono (fit_pr i) (by omega)), fit_shaped (fit_mono (fit_pr j) (by omega)), ?_⟩
  rw [eqv_pr]
  exact q⟩
/-- (i, j) not in a tuple of pairs -/
def CNinP (x y : Rs) (z : Bool) : Prop := ∃ (u : Int × Int) (ps : List (Int × Int)), x = .d (prD u) ∧ y = .d (.tup (ps.map prD)) ∧ z = !decide (u ∈ ps)
def rNinT (K : Fg) : R2 := fun x y H Q => ∃ d ds, Dp K H x d ∧ Dp K H y (.tuple ds) ∧ SeqAt.shaped d = true ∧ SeqAt.shaped (.tuple ds) = true ∧ Q (.bl (!ds.any fun z => PyData.eqv z d)) H
theorem op_ninT (hu : X.A.units + 65 < cLine) : OpR X (compareOp .NotIn) (rNinT X.K) := by
  intro pins s σ H x y v u Q I rx ry h
  obtain ⟨d, ds, hd, he, sd, se, q⟩ := h
  obtain ⟨as, r1⟩ := Dp.reads I d x v hd rx
  obtain ⟨bs, r2⟩ := Dp.reads I (.tuple ds) y u he ry
  have hl : PyData.canLayAll0 ds = true := by
    have := SeqAt.canLay_of_shaped se
    simpa [PyData.canLay0] using this
  exact SeqAt.notIn_tuple_reads r2 r1 hl (SeqAt.canLay_of_shaped sd) (room_in_shaped sd hu) ⟨.bl _, H, I, rfl, q⟩
theorem c_ninP (hu : X.A.units + 65 < cLine) : CmpS X st .NotIn CNinP := ⟨_, op_ninT hu, fun H1 H v u x y z Q rx ry ⟨i, ps, ex, ey, ez⟩ q => by
  subst ex ey ez
  have hf : D.fit 2 (.tup (ps.map prD)) := fit_tup fun d h => by
    obtain ⟨w, _, rfl⟩ := List.mem_map.mp h
    exact fit_pr w
  refine ⟨_, pyL (ps.map prD), Is.dp rx, Is.dp ry, fit_shaped (fit_mono (fit_pr i) (by omega)), fit_shaped (fit_mono hf (by omega)), ?_⟩
  rw [pyL_map, List.any_map]
  have e : (ps.any ((fun z => PyData.eqv z (prD i).py) ∘ fun x => (prD x).py)) = decide (i ∈ ps) := by
    show (ps.any fun x => PyData.eqv (prD x).py (prD i).py) = _
    simp only [eqv_pr]
    rw [Bool.eq_iff_iff]
    simp
  rw [e]
  exact q⟩

/-! ### built-ins -/
/-- none of these names is the module's own -/
structure Nm (mg : Str → Option Value) : Prop where
  isinstance : mg "isinstance" = none
  int : mg "int" = none
  bool : mg "bool" = none
  tuple : mg "tuple" = none
  str : mg "str" = none
  len : mg "len" = none
  all : mg "all" = none
  range : mg "range" = none
  enumerate : mg "enumerate" = none
  max : mg "max" = none
  min : mg "min" = none
  sorted : mg "sorted" = none
  zip : mg "zip" = none
  set : mg "set" = none
theorem we_callB {id : String} {x : Str} {r : List V → Hp → VK → Prop} {P : List Rs → Prop} (hc : CallR X (.builtin id) r) (hg : Gl X x) (hm : X.mg x = none) (hv : bootBuiltins x = some (.builtin id)) (hn : x ≠ "__name__") (hdb : (x == ("__debug__" : Str)) = false)
    (he : starEach (e :: es) X.env = (false, eval e X.env) :: starEach es X.env) (hpl : (backTo pos (starEach es X.env)).any (·.1) = false) (h : WA X c g (e :: es) P)
    (sem : ∀ (H1 H : Hp) (vs : List V) (rs : List Rs) (Q : VK), (∀ s, c.st = some s → StOk X.K H s) → RsL X.K c.st H1 H vs rs → P rs → (∀ w H' z, Ext X.K c.st H H' → RsOk X.K c.st H H' w z → p z → Q w H') → r vs H Q) :
    WE X c g (.Call (.Name x pos2) (e :: es) [] pos) p := fun σ H E Q kk => by
  refine we_of (pe_callB hc hg hm hv pa_w hn hdb he hpl) ?_
  refine h σ H E _ fun vs H1 rs e1 r1 hP => ?_
  exact sem H H1 vs rs Q (E.go e1).stk r1 hP fun w H3 z e3 r3 pz => kk w H3 z (e1.trans e3) (r3.back e1) pz
theorem we_callT {T : String} {x : Str} {r : List V → Hp → VK → Prop} {P : List Rs → Prop} (hc : CallR X (.type T) r) (hg : Gl X x) (hm : X.mg x = none) (hv : bootBuiltins x = some (.type T)) (hn : x ≠ "__name__") (hdb : (x == ("__debug__" : Str)) = false)
    (he : starEach (e :: es) X.env = (false, eval e X.env) :: starEach es X.env) (hpl : (backTo pos (starEach es X.env)).any (·.1) = false) (h : WA X c g (e :: es) P)
    (sem : ∀ (H1 H : Hp) (vs : List V) (rs : List Rs) (Q : VK), (∀ s, c.st = some s → StOk X.K H s) → RsL X.K c.st H1 H vs rs → P rs → (∀ w H' z, Ext X.K c.st H H' → RsOk X.K c.st H H' w z → p z → Q w H') → r vs H Q) :
    WE X c g (.Call (.Name x pos2) (e :: es) [] pos) p := fun σ H E Q kk => by
  refine we_of (pe_callTy hc hg hm hv pa_w hn hdb he hpl) ?_
  refine h σ H E _ fun vs H1 rs e1 r1 hP => ?_
  exact sem H H1 vs rs Q (E.go e1).stk r1 hP fun w H3 z e3 r3 pz => kk w H3 z (e1.trans e3) (r3.back e1) pz
theorem rs1 {K : Fg} {H1 H : Hp} {vs : List V} {r : Rs} (h : RsL K st H1 H vs [r]) : ∃ v, vs = [v] ∧ RsOk K st H1 H v r := by
  cases h with
  | cons h1 h2 =>
    cases h2
    exact ⟨_, rfl, h1⟩
theorem rs2 {K : Fg} {H1 H : Hp} {vs : List V} {r r' : Rs} (h : RsL K st H1 H vs [r, r']) : ∃ v v', vs = [v, v'] ∧ RsOk K st H1 H v r ∧ RsOk K st H1 H v' r' := by
  cases h with
  | cons h1 h2 =>
    obtain ⟨v', rfl, h3⟩ := rs1 h2
    exact ⟨_, _, rfl, h1, h3⟩
/-- what has a length: a list, a tuple -/
def Rs.items : Rs → Option (List D)
  | .d (.tup ds) => some ds
  | .lst _ ds => some ds
  | _ => none
theorem rs_items {K : Fg} {H1 H : Hp} {v : V} {r : Rs} {ds : List D} (h : RsOk K st H1 H v r) (e : r.items = some ds) : ∃ a xs, v = .ref a ∧ (SqL K H a xs ∨ SqT K H a xs) ∧ IsL K H xs ds := by
  cases r with
  | d x =>
    cases x with
    | tup ds' =>
      cases e
      obtain ⟨a, xs, e1, e2, e3⟩ := is_tup h
      exact ⟨a, xs, e1, .inr (SqT.of e2), e3⟩
    | _ => cases e
  | lst fr ds' =>
    cases e
    obtain ⟨a, xs, e1, e2, e3, _⟩ := h
    exact ⟨a, xs, e1, .inl (SqL.of e2), e3⟩
  | dct _ _ => cases e
  | fz _ => cases e
  | tx _ _ => cases e
  | st => cases e
variable (B : Bx X N sc k) (M : Nm X.mg)
include B M
theorem n_len (h : WE X c g a fun r => ∃ ds, r.items = some ds ∧ p (.d (.int (ds.length : Nat)))) (hg : glB sc "len" = true) (he : starEach [a] X.env = (false, eval a X.env) :: starEach [] X.env := by rfl) : WE X c g (.Call (.Name "len" pos2) [a] [] pos) p := by
  refine we_callB (P := fun rs => ∃ r ds, rs = [r] ∧ r.items = some ds ∧ p (.d (.int (ds.length : Nat)))) call_len_seq (B.gl hg) M.len PySem.boot_len (by decide) (by decide) he rfl
    (a_cons (h.mono fun r ⟨ds, e1, e2⟩ => a_nil ⟨r, ds, rfl, e1, e2⟩) he) ?_
  intro H1 H vs rs Q hst hr ⟨r, ds, ers, e1, q⟩ kk
  subst ers
  obtain ⟨v, rfl, hv⟩ := rs1 hr
  obtain ⟨l, xs, rfl, h1, h2⟩ := rs_items hv e1
  refine ⟨l, xs, rfl, h1, ?_⟩
  rw [h2.length]
  exact kk _ H _ (Ext.refl H) (.dd (Is.int _)) q
/-- tuple(list) -/
theorem n_tuple (h : WE X c g a fun r => ∃ fr ds, r = .lst fr ds ∧ p (.d (.tup ds))) (hg : glB sc "tuple" = true) (he : starEach [a] X.env = (false, eval a X.env) :: starEach [] X.env := by rfl) : WE X c g (.Call (.Name "tuple" pos2) [a] [] pos) p := by
  refine we_callT (T := "tuple") (P := fun rs => ∃ fr ds, rs = [.lst fr ds] ∧ p (.d (.tup ds))) call_tuple_of (B.gl hg) M.tuple (by decide +kernel) (by decide) (by decide) he rfl
    (a_cons (h.mono fun r ⟨fr, ds, e1, e2⟩ => a_nil ⟨fr, ds, by rw [e1], e2⟩) he) ?_
  intro H1 H vs rs Q hst hr ⟨fr, ds, ers, q⟩ kk
  subst ers
  obtain ⟨v, rfl, hv⟩ := rs1 hr
  obtain ⟨l, xs, rfl, h1, h2, _⟩ := hv
  refine ⟨l, xs, rfl, .inl ⟨SqL.of h1, fun t ht => ?_⟩⟩
  exact kk _ _ _ (Ext.new ht) (.dd (Is.tup upd_same (h2.mono (same_tx (same_new ht))))) q
/-- all of a list of truths -/
theorem n_all (h : WE X c g a fun r => ∃ (fr : Bool) (bs : List Bool), r = .lst fr (bs.map D.bl) ∧ p (.d (.bl (bs.all id)))) (hg : glB sc "all" = true) (he : starEach [a] X.env = (false, eval a X.env) :: starEach [] X.env := by rfl) : WE X c g (.Call (.Name "all" pos2) [a] [] pos) p := by
  refine we_callB (P := fun rs => ∃ (fr : Bool) (bs : List Bool), rs = [.lst fr (bs.map D.bl)] ∧ p (.d (.bl (bs.all id)))) (cr_all B.calm) (B.gl hg) M.all (by decide +kernel) (by decide) (by decide) he rfl
    (a_cons (h.mono fun r ⟨fr, ds, e1, e2⟩ => a_nil ⟨fr, ds, by rw [e1], e2⟩) he) ?_
  intro H1 H vs rs Q hst hr ⟨fr, ds, ers, q⟩ kk
  subst ers
  obtain ⟨v, rfl, hv⟩ := rs1 hr
  obtain ⟨l, xs, rfl, h1, h2, _⟩ := hv
  have e := h2.bls
  subst e
  exact ⟨l, ds, rfl, SqL.of h1, kk _ _ _ (Ext.refl H) (.dd (Is.bl _)) q⟩
/-- max, min of a list of numbers -/
theorem n_maxL (h : WE X c g a fun r => ∃ (fr : Bool) (ns : List Int), r = .lst fr (ns.map D.int) ∧ 0 < ns.length ∧ ∀ m, m ∈ ns → (∀ y, y ∈ ns → y ≤ m) → p (.d (.int m))) (hg : glB sc "max" = true) (he : starEach [a] X.env = (false, eval a X.env) :: starEach [] X.env := by rfl) : WE X c g (.Call (.Name "max" pos2) [a] [] pos) p := by
  refine we_callB (P := fun rs => ∃ (fr : Bool) (ns : List Int), rs = [.lst fr (ns.map D.int)] ∧ 0 < ns.length ∧ ∀ m, m ∈ ns → (∀ y, y ∈ ns → y ≤ m) → p (.d (.int m))) (cr_max B.calm) (B.gl hg) M.max (by decide +kernel) (by decide) (by decide) he rfl
    (a_cons (h.mono fun r ⟨fr, ds, e1, e2⟩ => a_nil ⟨fr, ds, by rw [e1], e2⟩) he) ?_
  intro H1 H vs rs Q hst hr ⟨fr, ds, ers, hl, q⟩ kk
  subst ers
  obtain ⟨v, rfl, hv⟩ := rs1 hr
  obtain ⟨l, xs, rfl, h1, h2, _⟩ := hv
  have e := h2.ints
  subst e
  exact ⟨l, ds, rfl, SqL.of h1, hl, fun m h1 h2 => kk _ _ _ (Ext.refl H) (.dd (Is.int _)) (q m h1 h2)⟩
theorem n_minL (h : WE X c g a fun r => ∃ (fr : Bool) (ns : List Int), r = .lst fr (ns.map D.int) ∧ 0 < ns.length ∧ ∀ m, m ∈ ns → (∀ y, y ∈ ns → m ≤ y) → p (.d (.int m))) (hg : glB sc "min" = true) (he : starEach [a] X.env = (false, eval a X.env) :: starEach [] X.env := by rfl) : WE X c g (.Call (.Name "min" pos2) [a] [] pos) p := by
  refine we_callB (P := fun rs => ∃ (fr : Bool) (ns : List Int), rs = [.lst fr (ns.map D.int)] ∧ 0 < ns.length ∧ ∀ m, m ∈ ns → (∀ y, y ∈ ns → m ≤ y) → p (.d (.int m))) (cr_min B.calm) (B.gl hg) M.min (by decide +kernel) (by decide) (by decide) he rfl
    (a_cons (h.mono fun r ⟨fr, ds, e1, e2⟩ => a_nil ⟨fr, ds, by rw [e1], e2⟩) he) ?_
  intro H1 H vs rs Q hst hr ⟨fr, ds, ers, hl, q⟩ kk
  subst ers
  obtain ⟨v, rfl, hv⟩ := rs1 hr
  obtain ⟨l, xs, rfl, h1, h2, _⟩ := hv
  have e := h2.ints
  subst e
  exact ⟨l, ds, rfl, SqL.of h1, hl, fun m h1 h2 => kk _ _ _ (Ext.refl H) (.dd (Is.int _)) (q m h1 h2)⟩
theorem n_min2 (h : WE X c g a fun x => ∃ i, x = .d (.int i) ∧ WE X c g b fun y => ∃ j, y = .d (.int j) ∧ p (.d (.int (if j < i then j else i)))) (hg : glB sc "min" = true) (he : starEach [a, b] X.env = (false, eval a X.env) :: starEach [b] X.env := by rfl) (he2 : starEach [b] X.env = (false, eval b X.env) :: starEach [] X.env := by rfl)
    (hpl : (backTo pos (starEach [b] X.env)).any (·.1) = false := by rfl) : WE X c g (.Call (.Name "min" pos2) [a, b] [] pos) p := by
  refine we_callB (P := fun rs => ∃ i j, rs = [.d (.int i), .d (.int j)] ∧ p (.d (.int (if j < i then j else i)))) (call_min2 B.calm) (B.gl hg) M.min (by decide +kernel) (by decide) (by decide) he hpl
    (a_cons (h.mono fun r ⟨i, e1, e2⟩ => a_cons (e2.mono fun r' ⟨j, e3, e4⟩ => a_nil ⟨i, j, by rw [e1, e3], e4⟩) he2) he) ?_
  intro H1 H vs rs Q hst hr ⟨i, j, ers, q⟩ kk
  subst ers
  obtain ⟨v, u, rfl, hv, hu⟩ := rs2 hr
  cases is_int hv
  cases is_int hu
  exact ⟨i, j, rfl, kk _ _ _ (Ext.refl H) (.dd (Is.int _)) q⟩
theorem n_max2 (h : WE X c g a fun x => ∃ i, x = .d (.int i) ∧ WE X c g b fun y => ∃ j, y = .d (.int j) ∧ p (.d (.int (if j > i then j else i)))) (hg : glB sc "max" = true) (he : starEach [a, b] X.env = (false, eval a X.env) :: starEach [b] X.env := by rfl) (he2 : starEach [b] X.env = (false, eval b X.env) :: starEach [] X.env := by rfl)
    (hpl : (backTo pos (starEach [b] X.env)).any (·.1) = false := by rfl) : WE X c g (.Call (.Name "max" pos2) [a, b] [] pos) p := by
  refine we_callB (P := fun rs => ∃ i j, rs = [.d (.int i), .d (.int j)] ∧ p (.d (.int (if j > i then j else i)))) (call_max2 B.calm) (B.gl hg) M.max (by decide +kernel) (by decide) (by decide) he hpl
    (a_cons (h.mono fun r ⟨i, e1, e2⟩ => a_cons (e2.mono fun r' ⟨j, e3, e4⟩ => a_nil ⟨i, j, by rw [e1, e3], e4⟩) he2) he) ?_
  intro H1 H vs rs Q hst hr ⟨i, j, ers, q⟩ kk
  subst ers
  obtain ⟨v, u, rfl, hv, hu⟩ := rs2 hr
  cases is_int hv
  cases is_int hu
  exact ⟨i, j, rfl, kk _ _ _ (Ext.refl H) (.dd (Is.int _)) q⟩
/-- int(truth) -/
theorem n_intB (h : WE X c g a fun r => ∃ i, r = .d (.bl i) ∧ p (.d (.int (if i then 1 else 0)))) (hg : glB sc "int" = true) (he : starEach [a] X.env = (false, eval a X.env) :: starEach [] X.env := by rfl) : WE X c g (.Call (.Name "int" pos2) [a] [] pos) p := by
  refine we_callT (T := "int") (P := fun rs => ∃ i, rs = [.d (.bl i)] ∧ p (.d (.int (if i then 1 else 0)))) call_int1 (B.gl hg) M.int (by decide +kernel) (by decide) (by decide) he rfl
    (a_cons (h.mono fun r ⟨i, e1, e2⟩ => a_nil ⟨i, by rw [e1], e2⟩) he) ?_
  intro H1 H vs rs Q hst hr ⟨i, ers, q⟩ kk
  subst ers
  obtain ⟨v, rfl, hv⟩ := rs1 hr
  cases is_bl hv
  exact .inr ⟨i, rfl, kk _ _ _ (Ext.refl H) (.dd (Is.int _)) q⟩
/-- sorted of a list of numbers -/
theorem n_sortI (h : WE X c g a fun r => ∃ (fr : Bool) (ns : List Int), r = .lst fr (ns.map D.int) ∧ ∀ ns' : List Int, ns'.Perm ns → ns'.Pairwise (· ≤ ·) → p (.lst true (ns'.map D.int))) (hg : glB sc "sorted" = true) (he : starEach [a] X.env = (false, eval a X.env) :: starEach [] X.env := by rfl) : WE X c g (.Call (.Name "sorted" pos2) [a] [] pos) p := by
  refine we_callB (P := fun rs => ∃ (fr : Bool) (ns : List Int), rs = [.lst fr (ns.map D.int)] ∧ ∀ ns' : List Int, ns'.Perm ns → ns'.Pairwise (· ≤ ·) → p (.lst true (ns'.map D.int))) cr_sortedI (B.gl hg) M.sorted (by decide +kernel) (by decide) (by decide) he rfl
    (a_cons (h.mono fun r ⟨fr, ds, e1, e2⟩ => a_nil ⟨fr, ds, by rw [e1], e2⟩) he) ?_
  intro H1 H vs rs Q hst hr ⟨fr, ds, ers, q⟩ kk
  subst ers
  obtain ⟨v, rfl, hv⟩ := rs1 hr
  obtain ⟨l, xs, rfl, h1, h2, _⟩ := hv
  have e := h2.ints
  subst e
  exact ⟨l, ds, rfl, SqL.of h1, fun ns' pp pm pw hp => kk _ _ _ (Ext.new hp) (.ll upd_same (IsL.of_ints _) (st_new hst hp) fun _ => hp) (q ns' pm pw)⟩
omit M
/-- isinstance of a built-in type -/
def D.ty : D → String
  | .non => "NoneType"
  | .bl _ => "bool"
  | .int _ => "int"
  | .str _ => "str"
  | .tup _ => "tuple"
omit B
theorem Is.ty {K : Fg} {H : Hp} {v : V} {d : D} (h : Is K H v d) : TyX K H v (.type d.ty) := by
  cases h with
  | non => exact .base .non
  | bl b => exact .base (.bl b)
  | int i => exact .base (.int i)
  | str x => exact .base (.str x)
  | tup h1 h2 => exact .base (.tup h1)
include B
theorem n_isi {T : Str} {Tn : String} {f : D → Bool} {p3 : Pos} (hk : ∀ d : D, kitB d.ty Tn = some (f d)) (hT : X.mg T = none) (hv : bootBuiltins T = some (.type Tn)) (hTg : glB sc T = true) (hm : X.mg "isinstance" = none) (h : WE X c g a fun r => ∃ d, r = .d d ∧ p (.d (.bl (f d)))) (hg : glB sc "isinstance" = true)
    (hn : T ≠ "__name__" := by decide) (hd : (T == ("__debug__" : Str)) = false := by decide) (he : starEach [a, .Name T p3] X.env = (false, eval a X.env) :: starEach [.Name T p3] X.env := by rfl) : WE X c g (.Call (.Name "isinstance" pos2) [a, .Name T p3] [] pos) p := fun σ H E Q kk => by
  refine we_of (pe_callB (pos := pos) call_isi (B.gl hg) hm (by decide +kernel) (pa_cons pe_w (pa_cons (pe_bltn (v := .ty Tn) (B.gl hTg) hT hv rfl hn hd) pa_nil) he) (by decide) (by decide) he rfl) ?_
  refine h σ H E _ fun v H1 r e1 r1 ⟨d, er, q⟩ => ?_
  subst er
  exact ⟨v, .ty Tn, _, _, f d, rfl, .ty Tn, Is.ty r1, kit_ty (hk d), kk _ H1 _ e1 (.dd (Is.bl _)) q⟩
end
def isIntD : D → Bool
  | .int _ => true
  | .bl _ => true
  | _ => false
def isBlD : D → Bool
  | .bl _ => true
  | _ => false
def isTupD : D → Bool
  | .tup _ => true
  | _ => false
def isStrD : D → Bool
  | .str _ => true
  | _ => false
theorem kit_int : ∀ d : D, kitB d.ty "int" = some (isIntD d)
  | .non => (by decide +kernel : kitB "NoneType" "int" = some false)
  | .bl _ => (by decide +kernel : kitB "bool" "int" = some true)
  | .int _ => (by decide +kernel : kitB "int" "int" = some true)
  | .str _ => (by decide +kernel : kitB "str" "int" = some false)
  | .tup _ => (by decide +kernel : kitB "tuple" "int" = some false)
theorem kit_bool : ∀ d : D, kitB d.ty "bool" = some (isBlD d)
  | .non => (by decide +kernel : kitB "NoneType" "bool" = some false)
  | .bl _ => (by decide +kernel : kitB "bool" "bool" = some true)
  | .int _ => (by decide +kernel : kitB "int" "bool" = some false)
  | .str _ => (by decide +kernel : kitB "str" "bool" = some false)
  | .tup _ => (by decide +kernel : kitB "tuple" "bool" = some false)
theorem kit_tuple : ∀ d : D, kitB d.ty "tuple" = some (isTupD d)
  | .non => (by decide +kernel : kitB "NoneType" "tuple" = some false)
  | .bl _ => (by decide +kernel : kitB "bool" "tuple" = some false)
  | .int _ => (by decide +kernel : kitB "int" "tuple" = some false)
  | .str _ => (by decide +kernel : kitB "str" "tuple" = some false)
  | .tup _ => (by decide +kernel : kitB "tuple" "tuple" = some true)
theorem kit_str : ∀ d : D, kitB d.ty "str" = some (isStrD d)
  | .non => (by decide +kernel : kitB "NoneType" "str" = some false)
  | .bl _ => (by decide +kernel : kitB "bool" "str" = some false)
  | .int _ => (by decide +kernel : kitB "int" "str" = some false)
  | .str _ => (by decide +kernel : kitB "str" "str" = some true)
  | .tup _ => (by decide +kernel : kitB "tuple" "str" = some false)

/-! ### calls of defs -/
abbrev Ph := List Rs → (Rs → Prop) → Prop
/-- a def's promise in data: from the arguments f says what the caller may know of the result -/
def spP (K : Fg) (f : Ph) : Sp := fun vs H Q _ => ∃ (st : Option Addr) (rs : List Rs), (∀ s, st = some s → StOk K H s) ∧ RsL K st H H vs rs ∧ f rs fun r => ∀ v H', Ext K st H H' → RsOk K st H H' v r → Q v H'
/-- a def of the module that keeps its promise -/
def Callee (P : Program) (w : World) (K : Fg) (mg : Str → Option Value) (base : Heap) (x : Str) (k : Nat) (f : Ph) : Prop :=
  (∀ (rs : List Rs) (p q : Rs → Prop), f rs p → (∀ r, p r → q r) → f rs q) ∧ ∃ (fa : Addr) (fd : FuncData) (ps : List Str), FnOk P w K mg base CX0 k fa fd ps (spP K f) ∧ mg x = some (.ref fa) ∧ PySem.W.keepIn K (.ref fa) = true ∧ Binds K fd ps []
def Rs.old : Rs → Rs
  | .d x => .d x
  | .lst _ ds => .lst false ds
  | .dct _ kvs => .dct false kvs
  | .fz kvs => .fz kvs
  | .tx _ ds => .tx false ds
  | .st => .st
theorem RsOk.old {K : Fg} {st : Option Addr} {H1 H2 H3 : Hp} {v : V} {r : Rs} (h : RsOk K st H1 H2 v r) : RsOk K st H3 H2 v r.old := by
  cases r with
  | d x => exact h
  | lst fr ds =>
    obtain ⟨a, vs, e1, e2, e3, e4, e5⟩ := h
    exact ⟨a, vs, e1, e2, e3, e4, fun z => nomatch z⟩
  | dct fr kvs =>
    obtain ⟨a, vs, e1, e2, e3, e4, e5⟩ := h
    exact ⟨a, vs, e1, e2, e3, e4, fun z => nomatch z⟩
  | fz kvs => exact h
  | tx fr ds =>
    obtain ⟨a, vs, e1, e2, e3, e4, e5⟩ := h
    exact ⟨a, vs, e1, e2, e3, e4, fun z => nomatch z⟩
  | st => exact h
theorem RsL.old {K : Fg} {st : Option Addr} {H1 H2 H3 : Hp} : ∀ {vs : List V} {rs : List Rs}, RsL K st H1 H2 vs rs → RsL K st H3 H2 vs (rs.map Rs.old)
  | _, _, .nil => .nil
  | _, _, .cons h t => .cons (RsOk.old h) (RsL.old t)
section
variable {X : Cx} {c : Cf} {g : G} {e : Expr} {es : List Expr} {p : Rs → Prop} {pos pos2 : Pos} {N : List Str} {sc : Scope} {k j : Nat} {f : Ph} {x : Str}
theorem n_call (B : Bx X N sc k) (F : Callee X.prog X.w X.K X.mg X.base x j f) (hj : j ≤ k) (hg : glB sc x = true) (h : WA X c g (e :: es) fun rs => f (rs.map Rs.old) p)
    (hdb : (x == ("__debug__" : Str)) = false := by decide) (he : starEach (e :: es) X.env = (false, eval e X.env) :: starEach es X.env := by rfl) (hpl : (backTo pos (starEach es X.env)).any (·.1) = false := by rfl) :
    WE X c g (.Call (.Name x pos2) (e :: es) [] pos) p := fun σ H E Q kk => by
  obtain ⟨mono, fa, fd, ps, FO, hm, hk, hb⟩ := F
  refine we_of (pe_call FO (B.room.mono hj) (B.gl hg) hm hk hb .nil pass0 pa_w hdb he hpl) ?_
  refine h σ H E _ fun vs H1 rs e1 r1 hf => ?_
  refine ⟨c.st, rs.map Rs.old, (E.go e1).stk, ?_, ?_⟩
  · rw [List.append_nil]
    exact r1.old
  · exact mono _ _ _ hf fun r pr v H' e2 r2 => kk v H' r (e1.trans e2) (r2.back e1) pr
end
end TW

/-! TW4: dicts, targets, statements. -/
namespace TW
open PySem PySem.Spec PyProof.Rows L2

/-! ### dicts with numbers as keys -/
def lookK (kvs : List (Int × D)) (i : Int) : Option D := (kvs.find? fun q => decide (q.1 = i)).map (·.2)
def storeK (kvs : List (Int × D)) (i : Int) (d : D) : List (Int × D) :=
  if (lookK kvs i).isSome = true then kvs.map (fun q => if q.1 = i then (q.1, d) else q) else kvs ++ [(i, d)]
theorem lookK_nil (i : Int) : lookK [] i = none := rfl
theorem lookK_cons (q : Int × D) (r : List (Int × D)) (i : Int) : lookK (q :: r) i = if q.1 = i then some q.2 else lookK r i := by
  unfold lookK
  rw [List.find?_cons]
  by_cases h : q.1 = i <;> simp [h]
theorem KvIs.look {K : Fg} {H : Hp} (i : Int) : ∀ {ws : List (Key × V)} {kvs : List (Int × D)}, KvIs K H ws kvs →
    (valV ws (Sum.inl i) = none ∧ lookK kvs i = none) ∨ ∃ v d, valV ws (Sum.inl i) = some v ∧ lookK kvs i = some d ∧ Is K H v d
  | _, _, .nil => .inl ⟨rfl, rfl⟩
  | (kw :: ws), (q :: kvs), .cons h hs => by
    rw [lookK_cons]
    by_cases e : q.1 = i
    · rw [if_pos e, valV_pos (by rw [h.1, e])]
      exact .inr ⟨_, _, rfl, rfl, h.2⟩
    · rw [if_neg e, valV_neg (by rw [h.1]; intro z; exact e (Sum.inl.inj z))]
      exact KvIs.look i hs
theorem KvIs.length {K : Fg} {H : Hp} {ws : List (Key × V)} {kvs : List (Int × D)} (h : KvIs K H ws kvs) : ws.length = kvs.length := Paired.length h
theorem KvIs.snoc {K : Fg} {H : Hp} {i : Int} {v : V} {d : D} (hd : Is K H v d) : ∀ {ws : List (Key × V)} {kvs : List (Int × D)}, KvIs K H ws kvs → KvIs K H (ws ++ [(Sum.inl i, v)]) (kvs ++ [(i, d)])
  | _, _, .nil => .cons ⟨rfl, hd⟩ .nil
  | _, _, .cons h hs => .cons h (KvIs.snoc hd hs)
theorem KvIs.repl {K : Fg} {H : Hp} {i : Int} {v : V} {d : D} (hd : Is K H v d) : ∀ {ws : List (Key × V)} {kvs : List (Int × D)}, KvIs K H ws kvs →
    KvIs K H (ws.map fun kv => if kv.1 = Sum.inl i then (kv.1, v) else kv) (kvs.map fun q => if q.1 = i then (q.1, d) else q)
  | _, _, .nil => .nil
  | kw :: ws, q :: kvs, .cons h hs => by
    rw [List.map_cons, List.map_cons]
    refine .cons ?_ (KvIs.repl hd hs)
    by_cases e : q.1 = i
    · rw [if_pos e, if_pos (by rw [h.1, e])]
      exact ⟨h.1, hd⟩
    · rw [if_neg e, if_neg (by rw [h.1]; intro z; exact e (Sum.inl.inj z))]
      exact h
theorem KvIs.put {K : Fg} {H : Hp} {i : Int} {v : V} {d : D} {ws : List (Key × V)} {kvs : List (Int × D)} (h : KvIs K H ws kvs) (hd : Is K H v d) : KvIs K H (putK ws (Sum.inl i) v) (storeK kvs i d) := by
  unfold putK storeK
  rw [valV_any]
  rcases h.look i with ⟨e1, e2⟩ | ⟨v', d', e1, e2, _⟩
  · rw [e1, e2]
    simp only [Option.isSome_none, Bool.false_eq_true, if_false]
    exact h.snoc hd
  · rw [e1, e2]
    simp only [Option.isSome_some, if_true]
    exact h.repl hd
theorem storeK_length (kvs : List (Int × D)) (i : Int) (d : D) : (storeK kvs i d).length ≤ kvs.length + 1 := by
  unfold storeK
  split
  · rw [List.length_map]
    omega
  · rw [List.length_append, List.length_singleton]
    omega
def Rs.kvs : Rs → Option (List (Int × D))
  | .dct _ kvs => some kvs
  | .fz kvs => some kvs
  | _ => none
section
variable {X : Cx} {c : Cf} {g : G} {e a b : Expr} {es rest : List Expr} {p q : Rs → Prop} {pos pos2 : Pos} {N : List Str} {sc : Scope} {k : Nat} {st : Option Addr}
theorem rs_kvs {K : Fg} {H1 H : Hp} {v : V} {r : Rs} {kvs : List (Int × D)} (h : RsOk K st H1 H v r) (e : r.kvs = some kvs) : ∃ a ws, v = .ref a ∧ Rd H a (.dK ws) ∧ KvIs K H ws kvs := by
  cases r with
  | d x => cases e
  | lst fr ds => cases e
  | dct fr kv =>
    cases e
    obtain ⟨a, ws, e1, e2, e3, _⟩ := h
    exact ⟨a, ws, e1, .inl e2, e3⟩
  | fz kv =>
    cases e
    obtain ⟨a, ob, ws, e1, e2, e3, _⟩ := h
    exact ⟨a, ws, e1, .inr ⟨ob, e2⟩, e3⟩
  | tx _ _ => cases e
  | st => cases e
/-- a number in a dict -/
def InK (x y : Rs) (z : Bool) : Prop := ∃ i kvs, x = .d (.int i) ∧ y.kvs = some kvs ∧ z = (lookK kvs i).isSome
def rDK (neg : Bool) : R2 := fun x y H Q => ∃ a o, y = .ref a ∧ DGet H a x o ∧ Q (.bl (if neg then !o.isSome else o.isSome)) H
theorem op_inK (hu : X.A.units + 1 < cLine) : OpR X (compareOp .In) (rDK false) := by
  intro pins s σ H x y v u Q I rx ry h
  obtain ⟨a, o, rfl, hg, q⟩ := h
  obtain rfl : u = Value.ref a := ry
  exact d_in hu I hg rx fun s' I' => ⟨.bl _, H, I', rfl, q⟩
theorem op_ninK (hu : X.A.units + 1 < cLine) : OpR X (compareOp .NotIn) (rDK true) := by
  intro pins s σ H x y v u Q I rx ry h
  obtain ⟨a, o, rfl, hg, q⟩ := h
  obtain rfl : u = Value.ref a := ry
  exact d_notIn hu I hg rx fun s' I' => ⟨.bl _, H, I', rfl, q⟩
theorem inK_sem {K : Fg} {neg : Bool} {H1 H : Hp} {v u : V} {x y : Rs} {z : Bool} {Q : VK} (rx : RsOk K st H1 H v x) (ry : RsOk K st H1 H u y) (h : InK x y z) (q : Q (.bl (if neg then !z else z)) H) : rDK neg v u H Q := by
  obtain ⟨i, kvs, ex, ey, ez⟩ := h
  subst ex ez
  cases is_int rx
  obtain ⟨a, ws, rfl, h1, h2⟩ := rs_kvs ry ey
  refine ⟨a, valV ws (Sum.inl i), rfl, .inl ⟨ws, Sum.inl i, h1, rfl, rfl⟩, ?_⟩
  have e : (valV ws (Sum.inl i)).isSome = (lookK kvs i).isSome := by
    rcases h2.look i with ⟨e1, e2⟩ | ⟨v', d', e1, e2, _⟩
    · rw [e1, e2] <;> rfl
    · rw [e1, e2] <;> rfl
  rw [e]
  exact q
theorem c_inK (hu : X.A.units + 1 < cLine) : CmpS X st .In InK := ⟨_, op_inK hu, fun H1 H v u x y z Q rx ry h q => inK_sem (neg := false) rx ry h q⟩
theorem c_ninK (hu : X.A.units + 1 < cLine) : CmpS X st .NotIn fun x y z => ∃ b, InK x y b ∧ z = !b := ⟨_, op_ninK hu, fun H1 H v u x y z Q rx ry ⟨b, h, ez⟩ q => by
  subst ez
  exact inK_sem (neg := true) rx ry h q⟩
/-- d[k] -/
theorem n_ixK (hu : X.A.units + 1 < cLine) (h : WE X c g a fun x => ∃ kvs, x.kvs = some kvs ∧ WE X c g b fun y => ∃ i d, y = .d (.int i) ∧ lookK kvs i = some d ∧ p (.d d)) (hs : NoSl b := by intro _ _; rfl) : WE X c g (.Subscript a b pos) p := fun σ H E Q kk => by
  refine we_of (pe_dget hu pe_w pe_w hs) ?_
  refine h σ H E _ fun v H1 x e1 r1 ⟨kvs, ex, hb⟩ => ?_
  refine hb σ H1 (E.go e1) _ fun u H2 y e2 r2 ⟨i, d, ey, hl, q⟩ => ?_
  subst ey
  cases is_int r2
  obtain ⟨l, ws, rfl, h1, h2⟩ := rs_kvs (r1.mono e2) ex
  rcases h2.look i with ⟨_, q2⟩ | ⟨v', d', q1, q2, q3⟩
  · rw [hl] at q2
    cases q2
  · rw [hl] at q2
    cases q2
    exact ⟨l, v', rfl, .inl ⟨ws, Sum.inl i, h1, rfl, q1.symm⟩, kk _ H2 _ (e1.trans e2) (.dd q3) q⟩
theorem n_dnew (h : p (.dct true [])) : WE X c g (.Dict [] [] pos) p := n_dict0 h fun σ H Q hq => we_of pe_dnewK hq

/-! ### statements -/
structure Ks where
  nx : G → Prop
  rt : Rs → Prop
  bk : G → Prop := fun _ => False
  ct : G → Prop := fun _ => False
structure EndsOk (X : Cx) (c : Cf) (N : Ks) (D : Ends) : Prop where
  nx : ∀ g σ H, En X.K c g σ H → N.nx g → D.nx σ H
  rt : ∀ v H r, Ext X.K c.st c.H0 H → RsOk X.K c.st c.H0 H v r → N.rt r → D.rt v H
  bk : ∀ g σ H, En X.K c g σ H → N.bk g → D.bk σ H
  ct : ∀ g σ H, En X.K c g σ H → N.ct g → D.ct σ H
def tWS (X : Cx) (s : Stmt) : TS := fun D σ H => ∀ (pins : List (Addr × Obj)) (sh : Shared), Inv X pins σ H sh → wpAny (model X.prog X.w) X.A (exec s X.env) (SP X pins D) X.xe sh
theorem ps_w {s : Stmt} : PS X s (tWS X s) := ⟨fun pins sh _ _ _ I h => h pins sh I⟩
theorem ws_of {s : Stmt} {t : TS} (h : PS X s t) {D : Ends} {σ : L2.St} {H : Hp} (q : t D σ H) : tWS X s D σ H := fun pins sh I => h.run pins sh σ H D I q
def tWSs (X : Cx) (s : List Stmt) : TS := fun D σ H => ∀ (pins : List (Addr × Obj)) (sh : Shared), Inv X pins σ H sh → wpAny (model X.prog X.w) X.A (execs s X.env) (SP X pins D) X.xe sh
theorem pss_w {s : List Stmt} : PSs X s (tWSs X s) := ⟨fun pins sh _ _ _ I h => h pins sh I⟩
theorem wss_of {s : List Stmt} {t : TS} (h : PSs X s t) {D : Ends} {σ : L2.St} {H : Hp} (q : t D σ H) : tWSs X s D σ H := fun pins sh I => h.run pins sh σ H D I q
def WS (X : Cx) (c : Cf) (g : G) (s : Stmt) (N : Ks) : Prop := ∀ (σ : L2.St) (H : Hp), En X.K c g σ H → ∀ D : Ends, EndsOk X c N D → tWS X s D σ H
def WSs (X : Cx) (c : Cf) (g : G) (s : List Stmt) (N : Ks) : Prop := ∀ (σ : L2.St) (H : Hp), En X.K c g σ H → ∀ D : Ends, EndsOk X c N D → tWSs X s D σ H
theorem EndsOk.mono {N N' : Ks} {D : Ends} (E : EndsOk X c N' D) (h1 : ∀ g, N.nx g → N'.nx g) (h2 : ∀ r, N.rt r → N'.rt r) (h3 : ∀ g, N.bk g → N'.bk g) (h4 : ∀ g, N.ct g → N'.ct g) : EndsOk X c N D :=
  ⟨fun g σ H e n => E.nx g σ H e (h1 g n), fun v H r e k n => E.rt v H r e k (h2 r n), fun g σ H e n => E.bk g σ H e (h3 g n), fun g σ H e n => E.ct g σ H e (h4 g n)⟩
theorem WSs.mono {s : List Stmt} {N N' : Ks} (h : WSs X c g s N) (h1 : ∀ g, N.nx g → N'.nx g) (h2 : ∀ r, N.rt r → N'.rt r) (h3 : ∀ g, N.bk g → N'.bk g) (h4 : ∀ g, N.ct g → N'.ct g) : WSs X c g s N' :=
  fun σ H E D K => h σ H E D (K.mono h1 h2 h3 h4)
theorem WS.mono {s : Stmt} {N N' : Ks} (h : WS X c g s N) (h1 : ∀ g, N.nx g → N'.nx g) (h2 : ∀ r, N.rt r → N'.rt r) (h3 : ∀ g, N.bk g → N'.bk g) (h4 : ∀ g, N.ct g → N'.ct g) : WS X c g s N' :=
  fun σ H E D K => h σ H E D (K.mono h1 h2 h3 h4)
variable {s : Stmt} {ss ss2 : List Stmt} {N' : Ks}
theorem s_nil (h : N'.nx g) : WSs X c g [] N' := fun σ H E D K => wss_of pss_nil (K.nx g σ H E h)
theorem s_one (h : WS X c g s N') : WSs X c g [s] N' := fun σ H E D K => wss_of (pss_one ps_w) (h σ H E D K)
theorem s_cons (h : WS X c g s ⟨fun g' => WSs X c g' ss N', N'.rt, N'.bk, N'.ct⟩) : WSs X c g (s :: ss) N' := fun σ H E D K => by
  refine wss_of (pss_cons ps_w pss_w) ?_
  exact h σ H E { D with nx := tWSs X ss D } ⟨fun g' σ' H' E' n => n σ' H' E' D K, K.rt, K.bk, K.ct⟩
/-- fewer slots known from here on -/
theorem s_less {g' : G} (hl : g'.length = g.length) (hs : ∀ (i : Nat) (S : Sl), g'[i]? = some (some S) → g[i]? = some (some S)) (h : WSs X c g' ss N') : WSs X c g ss N' := fun σ H E D K => h σ H (E.less hl hs) D K
/-- a list of the def's own, from here on only read -/
theorem s_still (i : Nat) {ds : List D} (hi : g[i]? = some (some (.own ds))) (h : WSs X c (g.set i (some (.ro ds))) ss N') : WSs X c g ss N' := fun σ H E D K => h σ H (E.still hi) D K
/-- a dict of the def's own, from here on only read and walked -/
theorem s_lock (i : Nat) {kvs : List (Int × D)} (hi : g[i]? = some (some (.dic kvs))) (h : WSs X c (g.set i (some (.fz kvs))) ss N') : WSs X c g ss N' := fun σ H E D K pins sh I => by
  obtain ⟨v, e1, a, ws, e2, e3, _⟩ := E.sl i _ hi
  subst e2
  obtain ⟨od, I'⟩ := I.lock e3 True.intro
  exact h σ _ (E.lock hi e1 e3) D K pins sh I'

structure Bd (X : Cx) (N : List Str) (sc : Scope) (k : Nat) : Prop extends Bx X N sc k where
  fn : ∀ x, X.fn x = true
def locB (sc : Scope) (x : Str) : Bool := match sc.names.lookup x with
  | some .local => true
  | some .cell => true
  | _ => false
theorem loc_of {sc : Scope} {x : Str} (h : locB sc x = true) : L2.Loc sc x := by
  unfold locB at h
  unfold L2.Loc
  split at h
  · exact .inl (by assumption)
  · exact .inr (by assumption)
  · cases h
/-- name = e (e no comprehension) -/
theorem s_set (i : Nat) {x : Str} (B : Bd X N sc k) (hN : N[i]? = some x) (hl : locB sc x = true) (h : WE X c g e fun r => ∃ S, r.sl = some S ∧ N'.nx (g.set i (some S)))
    (hs : swapsWith e (some (.Name x pos2)) pos.line X.env = pure false := by rfl) : WS X c g (.Assign [.Name x pos2] e pos) N' := fun σ H E D K => by
  refine ws_of (ps_set B.nd (by rw [B.N]; exact hN) (by rw [B.sc]; exact loc_of hl) pe_w hs (.inl (B.fn x))) ?_
  refine h σ H E _ fun v H1 r e1 r1 ⟨S, eS, n⟩ => ?_
  exact K.nx _ _ _ (E.put e1 r1 eS) n
theorem s_ret (h : WE X c g e N'.rt) : WS X c g (.Return (some e) pos) N' := fun σ H E D K => by
  refine ws_of (ps_ret pe_w) ?_
  exact h σ H E _ fun v H1 r e1 r1 n => K.rt v H1 r (E.ext.trans e1) (r1.back E.ext) n
/-- return of a list, a dict of the def's own -/
def Sl.gone : Sl → Rs
  | .own ds => .lst true ds
  | .dic kvs => .dct true kvs
  | S => S.rs
theorem SlOk.gone {K : Fg} {H : Hp} {v : V} {S : Sl} (h : SlOk K c H v S) : RsOk K c.st c.H0 H v S.gone := by
  cases S with
  | d x => exact h
  | own ds =>
    obtain ⟨a, vs, e1, e2, e3, e4, e5⟩ := h
    exact ⟨a, vs, e1, e2, e3, e4, fun _ => e5⟩
  | ro ds =>
    obtain ⟨a, vs, e1, e2, e3, e4⟩ := h
    exact ⟨a, vs, e1, e2, e3, e4, fun z => nomatch z⟩
  | dic kvs =>
    obtain ⟨a, vs, e1, e2, e3, e4, e5⟩ := h
    exact ⟨a, vs, e1, e2, e3, e4, fun _ => e5⟩
  | fz kvs => exact h
  | tx ds =>
    obtain ⟨a, vs, e1, e2, e3, e4⟩ := h
    exact ⟨a, vs, e1, e2, e3, e4, fun z => nomatch z⟩
  | st => exact h
theorem s_retV (i : Nat) {x : Str} {S : Sl} (B : Bd X N sc k) (hN : N[i]? = some x) (hv : visB sc x = true) (hG : g[i]? = some (some S)) (h : N'.rt S.gone)
    (hd : (x == ("__debug__" : Str)) = false := by decide) (hcd : (x == ("__classdict__" : Str)) = false := by decide) : WS X c g (.Return (some (.Name x pos2)) pos) N' := fun σ H E D K => by
  obtain ⟨v, e1, e2⟩ := E.sl i S hG
  have vis : Vis X.env.scope x := by
    rw [B.sc]
    exact vis_of hv
  refine ws_of (ps_ret (pe_var (i := i) (by rw [B.N]; exact hN) vis hd hcd)) ⟨v, e1, ?_⟩
  exact K.rt v H _ E.ext e2.gone h
theorem s_retN (h : N'.rt (.d .non)) : WS X c g (.Return none pos) N' := fun σ H E D K => ws_of ps_retN (K.rt .non H (.d .non) E.ext Is.non h)
theorem s_if {a : Expr} (h : WT X c g a fun i => if i = true then WSs X c g ss N' else WSs X c g ss2 N') : WS X c g (.If a ss ss2 pos) N' := fun σ H E D K => by
  refine ws_of (ps_if pt_w pss_w pss_w) ?_
  refine h σ H E _ fun i H1 e1 n => ?_
  cases i with
  | true =>
    simp only [if_true] at n ⊢
    exact n σ H1 (E.go e1) D K
  | false =>
    simp only [Bool.false_eq_true, if_false] at n ⊢
    exact n σ H1 (E.go e1) D K
theorem s_brk (h : N'.bk g) : WS X c g (.Break pos) N' := fun σ H E D K => ws_of ps_break (K.bk g σ H E h)
/-- xs.append(e) -/
theorem s_app (i : Nat) {x : Str} {ds : List D} {apos npos cpos : Pos} (B : Bd X N sc k) (hN : N[i]? = some x) (hv : visB sc x = true) (hG : g[i]? = some (some (.own ds))) (hz : ds.length < 1000000)
    (h : WE X c g e fun r => ∃ d, r = .d d ∧ N'.nx (g.set i (some (.own (ds ++ [d])))))
    (hd : (x == ("__debug__" : Str)) = false := by decide) (hcd : (x == ("__classdict__" : Str)) = false := by decide)
    (hbase : attributeBase (.Name x npos) "append" X.env (eval (.Name x npos) X.env) = eval (.Name x npos) X.env := by rfl)
    (hfew : ((backTo cpos (starEach [e] X.env)).all (fun x => !x.1) && (backToKw cpos (keywordEach [] X.env)).all (fun x => x.1.isSome) && decide (([e] : List Expr).length + ([] : List Keyword).length + (if ([] : List Keyword).isEmpty then 0 else 1) < 30)) = true := by rfl)
    (hline : (apos.endLine == cpos.line) = true := by rfl) (hs : starEach [e] X.env = (false, eval e X.env) :: starEach [] X.env := by rfl) :
    WS X c g (.Expr (.Call (.Attribute (.Name x npos) "append" apos) [e] [] cpos) pos) N' := fun σ H E D K => by
  obtain ⟨v, e1, a, vs, ev, ha, his, na, n0⟩ := E.sl i _ hG
  subst ev
  have vis : Vis X.env.scope x := by
    rw [B.sc]
    exact vis_of hv
  refine ws_of (ps_expr (pe_bm PySem.F.plainAttrs_list PySem.F.slot_list_append PySem.F.type_list_append mt_append (pe_var (i := i) (by rw [B.N]; exact hN) vis hd hcd) (pa_cons pe_w pa_nil hs) hbase hfew hline hs rfl)) ?_
  refine ⟨_, e1, .inl ⟨rfl, _, SqL.of ha⟩, ?_⟩
  refine h σ H E _ fun u H1 r e2 r1 ⟨d, er, n⟩ => ?_
  subst er
  have ha1 := e2.keep a _ na ha
  have E1 := E.go e2
  have tx := (E1.mutate (i := i) (S' := .own []) (o' := .lst []) hG rfl rfl e1 ha1 (by intro xs z; cases z) (by intro ob u z; cases z) ⟨a, [], rfl, upd_same, .nil, na, n0⟩).1
  refine ⟨a, vs, u, rfl, rfl, ha1, ?_, ?_⟩
  · rw [his.length, sizeLine_eq]
    omega
  · have E2 := (E1.mutate (i := i) (S' := .own (ds ++ [d])) (o' := .lst (vs ++ [u])) hG rfl rfl e1 ha1 (by intro xs z; cases z) (by intro ob u z; cases z) ⟨a, _, rfl, upd_same, ?_, na, n0⟩).2
    · exact K.nx _ _ _ E2 n
    · have tx2 : Tx H1 (upd H1 a (.lst (vs ++ [u]))) := fun b xs hb => by
        rw [upd_ne (fun z => by rw [z, ha1] at hb; cases hb)]
        exact hb
      exact ((his.mono e2.tx).append (.cons r1 .nil)).mono tx2
end
end TW

/-! TW5: what is walked, loops, comprehensions, defs. -/
namespace TW
open PySem PySem.Spec PyProof.Rows L2

def tWI (X : Cx) (tg iter : Expr) : TI := fun σ H R => ∀ (pins : List (Addr × Obj)) (s : Shared), Inv X pins σ H s →
  wpAny (model X.prog X.w) X.A (eval iter X.env) (fun v s1 => wpAny (model X.prog X.w) X.A (pyIter v) (PIE X pins σ tg R) X.xe s1) X.xe s
theorem pi_w {X : Cx} {tg iter : Expr} : PI X tg iter (tWI X tg iter) := ⟨fun pins s _ _ _ I h => h pins s I⟩
theorem wi_of {X : Cx} {tg iter : Expr} {wi : TI} (h : PI X tg iter wi) {σ : L2.St} {H : Hp} {R : It → Hp → Prop} (q : wi σ H R) : tWI X tg iter σ H R := fun pins s I => h.run pins s σ H R I q
/-- J gives just the data ds, one after another, as long as the pinned things and the tuples stay -/
structure Src (K : Fg) (st : Option Addr) (lp : Bool) (g : G) (σ : L2.St) (J : It) (ds : List D) (H' : Hp) : Prop where
  ex : ∃ (Gd : Hp → Prop) (Y : Nat → Hp → V → Hp → Prop) (pin : Addr → Prop), Walk J ds.length Gd Y ∧
    (∀ b, pin b → some b ≠ st ∧ (∃ o, H' b = some o) ∧ (lp = true → ∀ (i : Nat) (S : Sl), g[i]? = some (some S) → S.mut = true → σ[i]? ≠ some (some (V.ref b)))) ∧
    ∀ H'', (∀ b, (pin b ∨ ∃ xs, H' b = some (.tup xs)) → H'' b = H' b) → Gd H'' ∧ ∀ i x H3, i < ds.length → Y i H'' x H3 → ∃ d, ds[i]? = some d ∧ Same H'' H3 ∧ Is K H3 x d
def WI (X : Cx) (c : Cf) (g : G) (lp : Bool) (tg iter : Expr) (p : List D → Prop) : Prop :=
  ∀ (σ : L2.St) (H : Hp), En X.K c g σ H → ∀ R : It → Hp → Prop, (∀ J H' ds, Ext X.K c.st H H' → Src X.K c.st lp g σ J ds H' → p ds → R J H') → tWI X tg iter σ H R
theorem stay_tx {H' H'' : Hp} {pin : Addr → Prop} (h : ∀ b, (pin b ∨ ∃ xs, H' b = some (.tup xs)) → H'' b = H' b) : Tx H' H'' := fun a xs e => by
  rw [h a (.inr ⟨xs, e⟩)]
  exact e
section
variable {X : Cx} {c : Cf} {g : G} {lp : Bool} {tg e a b : Expr} {p : List D → Prop} {pos pos2 : Pos} {N : List Str} {sc : Scope} {k : Nat}
/-- a tuple -/
theorem src_tup (h : WE X c g e fun r => ∃ ds, r = .d (.tup ds) ∧ p ds) : WI X c g lp tg e p := fun σ H E R kk => by
  refine wi_of (pi_tup pe_w) ?_
  refine h σ H E _ fun v H1 r e1 r1 ⟨ds, er, q⟩ => ?_
  subst er
  obtain ⟨t, xs, rfl, h1, h2⟩ := is_tup r1
  refine ⟨t, rfl, ⟨xs, SqT.of h1⟩, kk _ H1 ds e1 ⟨fun H => SqT X.K H t xs, YAt xs, fun _ => False, ?_, fun b hb => hb.elim, fun H'' st => ⟨SqT.of ?_, fun i x H3 hi y => ?_⟩⟩ q⟩
  · rw [← h2.length]
    exact walk_tup
  · rw [st t (.inr ⟨xs, h1⟩)]
    exact h1
  · obtain ⟨e3, y⟩ := y
    subst e3
    obtain ⟨d, hd, hi⟩ := h2.getV y
    exact ⟨d, hd, Same.refl _, hi.mono (stay_tx st)⟩
/-- a new list -/
theorem src_new (h : WE X c g e fun r => ∃ ds, r = .lst true ds ∧ p ds) : WI X c g lp tg e p := fun σ H E R kk => by
  refine wi_of (pi_list pe_w) ?_
  refine h σ H E _ fun v H1 r e1 r1 ⟨ds, er, q⟩ => ?_
  subst er
  obtain ⟨l, vs, rfl, h1, h2, na, hn⟩ := r1
  refine ⟨l, rfl, ⟨vs, SqL.of h1⟩, kk _ H1 ds e1 ⟨fun H => SqL X.K H l vs, YAt vs, fun b => b = l, ?_, fun b hb => ?_, fun H'' st => ⟨SqL.of ?_, fun i x H3 hi y => ?_⟩⟩ q⟩
  · rw [← h2.length]
    exact walk_list
  · subst hb
    refine ⟨na, ⟨_, h1⟩, fun _ i S hS hm z => ?_⟩
    obtain ⟨v, q1, q2⟩ := E.sl i S hS
    obtain ⟨b', o, q3, q4, _⟩ := q2.at (by cases S <;> first | rfl | cases hm)
    rw [z] at q1
    cases q1
    cases q3
    rw [hn rfl] at q4
    cases q4
  · rw [st l (.inl rfl)]
    exact h1
  · obtain ⟨e3, y⟩ := y
    subst e3
    obtain ⟨d, hd, hi⟩ := h2.getV y
    exact ⟨d, hd, Same.refl _, hi.mono (stay_tx st)⟩
/-- any list, for a comprehension -/
theorem src_lst (h : WE X c g e fun r => ∃ fr ds, r = .lst fr ds ∧ p ds) : WI X c g false tg e p := fun σ H E R kk => by
  refine wi_of (pi_list pe_w) ?_
  refine h σ H E _ fun v H1 r e1 r1 ⟨fr, ds, er, q⟩ => ?_
  subst er
  obtain ⟨l, vs, rfl, h1, h2, na, hn⟩ := r1
  refine ⟨l, rfl, ⟨vs, SqL.of h1⟩, kk _ H1 ds e1 ⟨fun H => SqL X.K H l vs, YAt vs, fun b => b = l, ?_, fun b hb => ?_, fun H'' st => ⟨SqL.of ?_, fun i x H3 hi y => ?_⟩⟩ q⟩
  · rw [← h2.length]
    exact walk_list
  · subst hb
    exact ⟨na, ⟨_, h1⟩, fun z => by cases z⟩
  · rw [st l (.inl rfl)]
    exact h1
  · obtain ⟨e3, y⟩ := y
    subst e3
    obtain ⟨d, hd, hi⟩ := h2.getV y
    exact ⟨d, hd, Same.refl _, hi.mono (stay_tx st)⟩
/-- a list in a slot that is only read -/
theorem src_ro (i : Nat) {x : Str} {ds : List D} (B : Bx X N sc k) (hN : N[i]? = some x) (hv : visB sc x = true) (hG : g[i]? = some (some (.ro ds))) (h : p ds)
    (hd : (x == ("__debug__" : Str)) = false := by decide) (hcd : (x == ("__classdict__" : Str)) = false := by decide) : WI X c g lp tg (.Name x pos) p := fun σ H E R kk => by
  have vis : Vis X.env.scope x := by
    rw [B.sc]
    exact vis_of hv
  obtain ⟨v, q1, l, vs, rfl, h1, h2, na⟩ := E.sl i _ hG
  refine wi_of (pi_list (pe_var (i := i) (by rw [B.N]; exact hN) vis hd hcd)) ?_
  refine ⟨_, q1, l, rfl, ⟨vs, SqL.of h1⟩, kk _ H ds (Ext.refl H) ⟨fun H => SqL X.K H l vs, YAt vs, fun b => b = l, ?_, fun b hb => ?_, fun H'' st => ⟨SqL.of ?_, fun i x H3 hi y => ?_⟩⟩ h⟩
  · rw [← h2.length]
    exact walk_list
  · subst hb
    refine ⟨na, ⟨_, h1⟩, fun _ j S hS hm z => ?_⟩
    have nij : j ≠ i := fun z => by
      subst z
      rw [hG] at hS
      cases hS
      cases hm
    exact E.sep j i S _ b nij hS hG hm rfl z q1
  · rw [st l (.inl rfl)]
    exact h1
  · obtain ⟨e3, y⟩ := y
    subst e3
    obtain ⟨d, hd, hi⟩ := h2.getV y
    exact ⟨d, hd, Same.refl _, hi.mono (stay_tx st)⟩
def rngD (lo : Int) (n : Nat) : List D := (List.range n).map fun (j : Nat) => D.int (lo + (j : Int))
theorem rngD_len (lo : Int) (n : Nat) : (rngD lo n).length = n := by simp [rngD]
theorem rngD_get {lo : Int} {n i : Nat} (h : i < n) : (rngD lo n)[i]? = some (.int (lo + i)) := by simp [rngD, h]
theorem src_rng {st : Option Addr} {K : Fg} {σ : L2.St} {H : Hp} (lo : Int) (n : Nat) : Src K st lp g σ (Itr lo n) (rngD lo n) H := by
  refine ⟨fun _ => True, YFn fun i => .int (lo + i), fun _ => False, ?_, fun b hb => hb.elim, fun H'' st => ⟨True.intro, fun i x H3 hi y => ?_⟩⟩
  · rw [rngD_len]
    exact walk_range
  · obtain ⟨e3, y⟩ := y
    subst e3 y
    rw [rngD_len] at hi
    exact ⟨_, rngD_get hi, Same.refl _, Is.int _⟩
theorem src_range1 (B : Bx X N sc k) (M : Nm X.mg) (h : WE X c g e fun r => ∃ n : Nat, r = .d (.int n) ∧ n ≤ 1000000 ∧ p (rngD 0 n)) (hg : glB sc "range" = true) (hs : starEach [e] X.env = [(false, eval e X.env)] := by rfl) : WI X c g lp tg (.Call (.Name "range" pos2) [e] [] pos) p := fun σ H E R kk => by
  refine wi_of (pi_range1 (B.gl hg) M.range (pa_cons pe_w pa_nil hs) hs) ?_
  refine h σ H E _ fun v H1 r e1 r1 ⟨n, er, hn, q⟩ => ?_
  subst er
  cases is_int r1
  refine ⟨(n : Int), rfl, by omega, by omega, ?_⟩
  rw [Int.toNat_natCast]
  exact kk _ H1 _ e1 (src_rng 0 n) q
theorem src_range2 (B : Bx X N sc k) (M : Nm X.mg) (h : WE X c g a fun r => ∃ i : Int, r = .d (.int i) ∧ WE X c g b fun r' => ∃ j : Int, r' = .d (.int j) ∧ -1000000 ≤ i ∧ i ≤ 1000000 ∧ -1000000 ≤ j ∧ j ≤ 1000000 ∧ p (rngD i (j - i).toNat)) (hg : glB sc "range" = true)
    (hs : starEach [a, b] X.env = [(false, eval a X.env), (false, eval b X.env)] := by rfl) (hs2 : starEach [b] X.env = [(false, eval b X.env)] := by rfl) (hs3 : starEach [a, b] X.env = (false, eval a X.env) :: starEach [b] X.env := by rfl) : WI X c g lp tg (.Call (.Name "range" pos2) [a, b] [] pos) p := fun σ H E R kk => by
  refine wi_of (pi_range2 (B.gl hg) M.range (pa_cons pe_w (pa_cons pe_w pa_nil hs2) hs3) hs hs2) ?_
  refine h σ H E _ fun v H1 r e1 r1 ⟨i, er, hb⟩ => ?_
  subst er
  cases is_int r1
  refine hb σ H1 (E.go e1) _ fun v' H2 r' e2 r2 ⟨j, er', l1, l2, l3, l4, q⟩ => ?_
  subst er'
  cases is_int r2
  exact ⟨i, j, rfl, ⟨by omega, by omega, by omega, by omega⟩, kk _ H2 _ (e1.trans e2) (src_rng i _) q⟩
/-- zip of two tuples -/
theorem walk_zipT {K : Fg} {a b : Addr} {xs ys : List V} {n : Nat} (hn : n = min xs.length ys.length) : Walk (RZ.ItzT K a b) n (fun H => SqT K H a xs ∧ SqT K H b ys) (YPair (fun i => xs[i]?) (fun i => ys[i]?)) := by
  subst hn
  refine ⟨fun i _ hi q => ?_, fun _ q => ⟨xs, ys, q.1, q.2, by omega⟩, fun i H v H' _ q y => ?_⟩
  · have h1 : i < xs.length := by omega
    have h2 : i < ys.length := by omega
    exact ⟨xs, ys, xs[i], ys[i], q.1, q.2, by simp [h1], by simp [h2]⟩
  · obtain ⟨T, x, z, h1, h2, h3, h4, h5⟩ := y
    exact ⟨T, x, z, h1, h2, h3, h4 xs q.1, h5 ys q.2⟩
def zipD (ds es : List D) : List D := (ds.zip es).map fun q => .tup [q.1, q.2]
theorem src_zip {elts : List Expr} {kk : Nat} {tpos : Pos} (B : Bx X N sc k) (M : Nm X.mg) (h : WE X c g a fun r => ∃ ds, r = .d (.tup ds) ∧ WE X c g b fun r' => ∃ es, r' = .d (.tup es) ∧ p (zipD ds es)) (hg : glB sc "zip" = true)
    (hs : starEach [a, b] X.env = (false, eval a X.env) :: starEach [b] X.env := by rfl) (hs2 : starEach [b] X.env = (false, eval b X.env) :: starEach [] X.env := by rfl) (hpl : (backTo pos (starEach [b] X.env)).any (·.1) = false := by rfl) :
    WI X c g lp (.Tuple elts kk tpos) (.Call (.Name "zip" pos2) [a, b] [] pos) p := fun σ H E R kk => by
  refine wi_of (RZ.pi_zipA (B.gl hg) M.zip (pa_cons pe_w (pa_cons pe_w pa_nil hs2) hs) hs hpl) ?_
  refine h σ H E _ fun v H1 r e1 r1 ⟨ds, er, hb⟩ => ?_
  subst er
  refine hb σ H1 (E.go e1) _ fun v' H2 r' e2 r2 ⟨es, er', q⟩ => ?_
  subst er'
  obtain ⟨t, xs, rfl, h1, h2⟩ := is_tup (r1.mono e2)
  obtain ⟨t2, ys, rfl, h3, h4⟩ := is_tup r2
  refine ⟨t, t2, xs, ys, rfl, .inr ⟨SqT.of h1, SqT.of h3, kk _ H2 _ (e1.trans e2) ⟨fun H => SqT X.K H t xs ∧ SqT X.K H t2 ys, YPair (fun i => xs[i]?) (fun i => ys[i]?), fun _ => False, ?_, fun b hb => hb.elim, fun H'' st => ⟨⟨SqT.of ?_, SqT.of ?_⟩, fun i x H3 hi y => ?_⟩⟩ q⟩⟩
  · refine walk_zipT ?_
    rw [h2.length, h4.length]
    simp [zipD]
  · rw [st t (.inr ⟨xs, h1⟩)]
    exact h1
  · rw [st t2 (.inr ⟨ys, h3⟩)]
    exact h3
  · obtain ⟨T, x', y', rfl, hT, rfl, g1, g2⟩ := y
    obtain ⟨d, hd, hi1⟩ := h2.getV g1
    obtain ⟨d', hd', hi2⟩ := h4.getV g2
    refine ⟨.tup [d, d'], ?_, same_new hT, Is.tup upd_same ?_⟩
    · have hz : (ds.zip es)[i]? = some (d, d') := by
        rw [List.getElem?_zip_eq_some]
        exact ⟨hd, hd'⟩
      unfold zipD
      rw [List.getElem?_map, hz]
      rfl
    · have tx := (stay_tx st).trans (same_tx (same_new (o := HO.tup [x', y']) hT))
      exact .cons (hi1.mono tx) (.cons (hi2.mono tx) .nil)
/-- the keys of a dict that is locked; of a dict that was just made -/
theorem KvIs.keys {K : Fg} {H : Hp} : ∀ {ws : List (Key × V)} {kvs : List (Int × D)}, KvIs K H ws kvs → ∀ {i : Nat} {kk : Key} {v : V}, ws[i]? = some (kk, v) → ∃ q, kvs[i]? = some q ∧ kk = Sum.inl q.1
  | _, _, .nil, i, _, _, h => by simp at h
  | _, _, .cons h _, 0, _, _, e => by
    simp at e
    subst e
    exact ⟨_, rfl, h.1⟩
  | _, _, .cons _ hs, i + 1, _, _, e => by
    obtain ⟨q, e1, e2⟩ := KvIs.keys hs (i := i) (by simpa using e)
    exact ⟨q, by simpa using e1, e2⟩
def keyD (kvs : List (Int × D)) : List D := kvs.map fun q => .int q.1
theorem src_keys {K : Fg} {st : Option Addr} {σ : L2.St} {H : Hp} {d : Addr} {o : Obj} {ws : List (Key × V)} {kvs : List (Int × D)} (hd : H d = some (.frz o (.dK ws))) (hk : KvIs K H ws kvs) (na : some d ≠ st) (ap : lp = true → ∀ (i : Nat) (S : Sl), g[i]? = some (some S) → S.mut = true → σ[i]? ≠ some (some (V.ref d))) :
    Src K st lp g σ (Itk d o ws) (keyD kvs) H := by
  refine ⟨fun H => H d = some (.frz o (.dK ws)), fun i H x H' => H' = H ∧ ∃ k v, ws[i]? = some (k, v) ∧ x = kV k, fun b => b = d, ?_, fun b hb => ?_, fun H'' st => ⟨?_, fun i x H3 hi y => ?_⟩⟩
  · have e : (keyD kvs).length = ws.length := by
      unfold keyD
      rw [List.length_map, hk.length]
    rw [e]
    exact walk_keys
  · subst hb
    exact ⟨na, ⟨_, hd⟩, ap⟩
  · show H'' d = _
    rw [st d (.inl rfl)]
    exact hd
  · obtain ⟨e3, kk, v, hw, ex⟩ := y
    subst e3 ex
    obtain ⟨q, hq, ek⟩ := KvIs.keys hk hw
    subst ek
    refine ⟨.int q.1, ?_, Same.refl _, Is.int _⟩
    unfold keyD
    rw [List.getElem?_map, hq]
    rfl
theorem src_fz (h : WE X c g e fun r => ∃ kvs, r = .fz kvs ∧ p (keyD kvs)) : WI X c g false tg e p := fun σ H E R kk => by
  refine wi_of (pi_keys pe_w) ?_
  refine h σ H E _ fun v H1 r e1 r1 ⟨kvs, er, q⟩ => ?_
  subst er
  obtain ⟨d, ob, ws, rfl, h1, h2, na⟩ := r1
  exact ⟨d, ob, rfl, .inl ⟨ws, h1, kk _ H1 _ e1 (src_keys h1 h2 na fun z => by cases z) q⟩⟩
/-- an expression whose value, a dict, is locked at once -/
theorem pe_thenlock {e : Expr} : PE X e fun σ H Q => tWE X e σ H fun x H1 => ∃ d ws, x = .ref d ∧ H1 d = some (.dK ws) ∧ ∀ o, Q x (upd H1 d (.frz o (.dK ws))) := by
  refine ⟨fun pins s σ H Q I h => ?_⟩
  refine thn (h pins s I) fun u s1 ⟨x, H1, I1, rx, d, ws, ex, hd, q⟩ => ?_
  obtain ⟨od, I2⟩ := I1.lock hd True.intro
  exact ⟨x, _, I2, rx, q od⟩
theorem src_keysNew (h : WE X c g e fun r => ∃ kvs, r = .dct true kvs ∧ p (keyD kvs)) : WI X c g lp tg e p := fun σ H E R kk => by
  refine wi_of (pi_keys pe_thenlock) ?_
  refine h σ H E _ fun v H1 r e1 r1 ⟨kvs, er, q⟩ => ?_
  subst er
  obtain ⟨d, ws, rfl, h1, h2, na, hn⟩ := r1
  refine ⟨d, ws, rfl, h1, fun o => ⟨d, o, rfl, .inl ⟨ws, upd_same, ?_⟩⟩⟩
  have hn := hn rfl
  have tx1 : Tx H1 (upd H1 d (.frz o (.dK ws))) := fun b xs hb => by
    rw [upd_ne (fun z => by rw [z, h1] at hb; cases hb)]
    exact hb
  have ex : Ext X.K c.st H (upd H1 d (.frz o (.dK ws))) := by
    refine ⟨fun b u n hb => ?_, e1.tx.trans tx1, fun s z hs => ?_⟩
    · rw [upd_ne (fun z => by rw [z, hn] at hb; cases hb)]
      exact e1.keep b u n hb
    · obtain ⟨sc', ns, i, gg, r, q1, q2, q3⟩ := e1.stk s z hs
      have nsd : s ≠ d := fun y => na (by rw [← y, z])
      refine ⟨sc', ns, i, gg, r, by rw [upd_ne nsd]; exact q1, ?_, q3⟩
      rcases q2 with ⟨o2, q2⟩ | q2
      · refine .inl ⟨o2, ?_⟩
        rw [upd_ne (fun z => by rw [z, h1] at q2; cases q2)]
        exact q2
      · exact .inr q2
  refine kk _ _ _ ex (src_keys upd_same (h2.mono tx1) na fun _ i S hS hm z => ?_) q
  obtain ⟨v, q1, q2⟩ := E.sl i S hS
  obtain ⟨b', o', q3, q4, _⟩ := q2.at (by cases S <;> first | rfl | cases hm)
  rw [z] at q1
  cases q1
  cases q3
  rw [hn] at q4
  cases q4

/-! ### targets -/
/-- storing into a target changes the slots so -/
def TgS (K : Fg) (t : TG) (is : List Nat) (f : D → G → Option G) : Prop := ∀ (c : Cf) (g : G) (σ : L2.St) (H : Hp) (v : V) (d : D) (g' : G), En K c g σ H → Is K H v d → f d g = some g' → ∀ Q : L2.St → Hp → Prop, (∀ σ', En K c g' σ' H → σ'.length = σ.length → (∀ j, j ∉ is → σ'[j]? = σ[j]?) → Q σ' H) → t v σ H Q
def fN (i : Nat) (d : D) (g : G) : Option G := some (g.set i (some (.d d)))
def fP (i j : Nat) : D → G → Option G
  | .tup [d1, d2], g => some ((g.set i (some (.d d1))).set j (some (.d d2)))
  | _, _ => none
theorem tgs_name {K : Fg} (i : Nat) : TgS K (gName i) [i] (fN i) := fun c g σ H v d g' E hd hf Q q => by
  cases hf
  refine q _ (E.put (Ext.refl H) (RsOk.dd (H1 := H) hd) rfl) (by simp) fun j hj => ?_
  rw [List.getElem?_set_ne (fun e => hj (by simp [e]))]
theorem tgs_pair {K : Fg} (i j : Nat) : TgS K (gTup K 2 (gCons (gName i) (gCons (gName j) gNil))) [i, j] (fP i j) := fun c g σ H v d g' E hd hf Q q => by
  cases hd with
  | non => cases hf
  | bl _ => cases hf
  | int _ => cases hf
  | str _ => cases hf
  | tup h1 h2 =>
    cases h2 with
    | nil => cases hf
    | cons h3 h4 =>
      cases h4 with
      | nil => cases hf
      | cons h5 h6 =>
        cases h6 with
        | cons _ _ => cases hf
        | nil =>
          cases hf
          refine ⟨_, _, rfl, SqT.of h1, rfl, _, _, rfl, _, _, rfl, rfl, ?_⟩
          refine q _ ((E.put (Ext.refl H) (RsOk.dd (H1 := H) h3) rfl).put (Ext.refl H) (RsOk.dd (H1 := H) h5) rfl) (by simp) fun l hl => ?_
          rw [List.getElem?_set_ne (fun e => hl (by simp [e])), List.getElem?_set_ne (fun e => hl (by simp [e]))]
theorem pg_nm (i : Nat) {x : Str} (B : Bd X N sc k) (hN : N[i]? = some x) (hl : locB sc x = true) : PG X (.Name x pos) (gName i) :=
  pg_name B.nd (by rw [B.N]; exact hN) (by rw [B.sc]; exact loc_of hl) (.inl (B.fn x))
theorem pg_pr (i j : Nat) {x y : Str} {kk : Nat} {p1 p2 : Pos} (B : Bd X N sc k) (hN : N[i]? = some x) (hl : locB sc x = true) (hN2 : N[j]? = some y) (hl2 : locB sc y = true) : PG X (.Tuple [.Name x p1, .Name y p2] kk pos) (gTup X.K 2 (gCons (gName i) (gCons (gName j) gNil))) :=
  pg_tup B.calm (pgs_cons (pg_nm i B hN hl) (pgs_cons (pg_nm j B hN2 hl2) pgs_nil)) rfl rfl

/-! ### loops -/
variable {N' : Ks} {body ss : List Stmt} {iter : Expr} {t : TG} {is : List Nat} {f : D → G → Option G}
theorem s_for (B : Bx X N sc k) (hg : PG X tg t) (ht : TgS X.K t is f) (h : WI X c g true tg iter fun ds => ∃ I : Nat → G → Prop, I 0 g ∧
      (∀ n d g1, ds[n]? = some d → I n g1 → ∃ g2, f d g1 = some g2 ∧ ∀ c' : Cf, c'.st = c.st → WSs X c' g2 body ⟨I (n + 1), N'.rt, N'.nx, I (n + 1)⟩) ∧ ∀ g1, I ds.length g1 → N'.nx g1) (hf : ∀ x, foldedSetIterable iter X.env x = pure x := by intro _; rfl) :
    WS X c g (.For tg iter body [] pos) N' := fun σ H E D K => by
  refine ws_of (ps_for B.pass B.calm pi_w hg pss_w hf) ?_
  refine h σ H E _ fun J H1 ds e1 src ⟨I, i0, turn, fin⟩ => ?_
  obtain ⟨Gd, Y, pin, W, hpin, stable⟩ := src.ex
  have E1 := E.go e1
  have sel1 : ∀ b, (pin b ∨ ∃ xs, H1 b = some (.tup xs)) → some b ≠ c.st := fun b hb z => by
    rcases hb with hb | ⟨xs, hb⟩
    · exact (hpin b hb).1 z
    · obtain ⟨_, _, _, _, _, q, _⟩ := E1.stk b z.symm
      rw [hb] at q
      cases q
  have E2 : En X.K (c.hold H1 fun b => pin b ∨ ∃ xs, H1 b = some (.tup xs)) g σ H1 := E1.hold sel1 fun i S b hb hS hm z => by
    rcases hb with hb | ⟨xs, hb⟩
    · exact (hpin b hb).2.2 rfl i S hS hm z
    · obtain ⟨v, q1, q2⟩ := E1.sl i S hS
      rw [z] at q1
      cases q1
      cases S with
      | own ds =>
        obtain ⟨b', vs, q3, q4, _⟩ := q2
        cases q3
        rw [hb] at q4
        cases q4
      | dic kvs =>
        obtain ⟨b', vs, q3, q4, _⟩ := q2
        cases q3
        rw [hb] at q4
        cases q4
      | d _ => cases hm
      | ro _ => cases hm
      | fz _ => cases hm
      | tx _ => cases hm
      | st => cases hm
  have le := E1.hold_le sel1
  generalize hc : (c.hold H1 fun b => pin b ∨ ∃ xs, H1 b = some (.tup xs)) = c' at E2 le
  have hst : c'.st = c.st := by rw [← hc] <;> rfl
  have same' : ∀ {g2 : G} {σ2 : L2.St} {H2 : Hp}, En X.K c' g2 σ2 H2 → ∀ b, (pin b ∨ ∃ xs, H1 b = some (.tup xs)) → H2 b = H1 b := fun {g2 σ2 H2} Ex b hb => by
    have h0 : c'.H0 b = H1 b := by
      rw [← hc]
      exact hold_sel hb
    have hs : ∃ o, H1 b = some o := by
      rcases hb with hb | ⟨xs, hb⟩
      · exact (hpin b hb).2.1
      · exact ⟨_, hb⟩
    obtain ⟨o, ho⟩ := hs
    rw [ho]
    exact Ex.ext.keep b o (by rw [hst]; exact sel1 b hb) (h0.trans ho)
  refine for_it W (fun n σ2 H2 => ∃ g2, En X.K c' g2 σ2 H2 ∧ I n g2) ⟨g, E2, i0⟩ (fun i σ2 H2 _ ⟨g2, Ex, _⟩ => (stable H2 (same' Ex)).1) (fun i x σ2 H2 H3 hi ⟨g2, Ex, iv⟩ hy => ?_) fun σ2 H2 ⟨g2, Ex, iv⟩ => ?_
  · obtain ⟨d, hd, sm, his⟩ := (stable H2 (same' Ex)).2 i x H3 hi hy
    obtain ⟨g3, ef, hb⟩ := turn i d g2 hd iv
    refine ht c' g2 σ2 H3 x d g3 (Ex.go (same_ext sm)) his ef _ fun σ3 E3 _ _ => ?_
    refine hb c' hst σ3 H3 E3 _ ⟨fun g4 σ4 H4 E4 n => ⟨g4, E4, n⟩, fun v H4 r e4 r4 n => ?_, fun g4 σ4 H4 E4 n => ?_, fun g4 σ4 H4 E4 n => ⟨g4, E4, n⟩⟩
    · rw [hst] at e4 r4
      exact K.rt v H4 r ((same_ext le).trans e4) (r4.back (same_ext le)) n
    · exact K.nx g4 σ4 H4 (E4.unhold hst le) n
  · exact K.nx g2 σ2 H2 (Ex.unhold hst le) (fin g2 iv)
/-- while, by a word and a number that falls -/
theorem s_while {a : Expr} (B : Bx X N sc k) (I : G → Nat → Prop) (m0 : Nat) (h0 : I g m0) (h : ∀ g1 m, I g1 m → WT X c g1 a fun i => if i = true then WSs X c g1 body ⟨fun g2 => ∃ m', m' < m ∧ I g2 m', N'.rt, N'.nx, fun g2 => ∃ m', m' < m ∧ I g2 m'⟩ else N'.nx g1) :
    WS X c g (.While a body [] pos) N' := fun σ H E D K => by
  refine ws_of (ps_while B.pass pt_w pss_w) ?_
  refine ⟨fun m σ2 H2 => ∃ g2, En X.K c g2 σ2 H2 ∧ I g2 m, ⟨m0, g, E, h0⟩, fun m σ2 H2 ⟨g2, E2, iv⟩ => ?_⟩
  refine h g2 m iv σ2 H2 E2 _ fun i H3 e3 n => ?_
  cases i with
  | false =>
    simp only [Bool.false_eq_true, if_false] at n ⊢
    exact K.nx g2 σ2 H3 (E2.go e3) n
  | true =>
    simp only [if_true] at n ⊢
    refine ⟨fun σ4 H4 => ∃ m', m' < m ∧ ∃ g4, En X.K c g4 σ4 H4 ∧ I g4 m', fun σ4 H4 z => z, ?_⟩
    exact n σ2 H3 (E2.go e3) _ ⟨fun g4 σ4 H4 E4 ⟨m', l, iv'⟩ => ⟨m', l, g4, E4, iv'⟩, K.rt, K.nx, fun g4 σ4 H4 E4 ⟨m', l, iv'⟩ => ⟨m', l, g4, E4, iv'⟩⟩
end
end TW

/-! TW6: comprehensions, stores, defs. -/
namespace TW
open PySem PySem.Spec PyProof.Rows L2

/-! ### comprehensions -/
/-- X' is where the block of a comprehension of X runs -/
def Blk (X : Cx) (scope : Scope) (X' : Cx) : Prop := ∃ (s : Shared) (H : Hp) (C : Addr) (cl : List (Str × Addr)) (fp : List Addr), X' = X.blk s H scope (compEnvC scope cl C X.env) fp
section
variable {X X' : Cx} {c : Cf} {g : G} {scope sc : Scope} {N : List Str} {k : Nat}
theorem Blk.callee (b : Blk X scope X') {x : Str} {j : Nat} {f : Ph} (F : Callee X.prog X.w X.K X.mg X.base x j f) : Callee X'.prog X'.w X'.K X'.mg X'.base x j f := by
  obtain ⟨_, _, _, _, _, rfl⟩ := b
  exact F
theorem Blk.nm (b : Blk X scope X') (M : Nm X.mg) : Nm X'.mg := by
  obtain ⟨_, _, _, _, _, rfl⟩ := b
  exact M
theorem Blk.mg (b : Blk X scope X') : X'.mg = X.mg := by
  obtain ⟨_, _, _, _, _, rfl⟩ := b
  rfl
theorem Blk.bx (b : Blk X scope X') (B : Bx X N sc k) : Bx X' N (relS scope sc) k := by
  obtain ⟨s, H, C, cl, fp, rfl⟩ := b
  refine ⟨B.N, B.nd, ?_, B.calm, B.room, PassesOwn.never⟩
  show relS scope X.env.scope = _
  rw [B.sc]
theorem wipe_get : ∀ {vs : List Nat} {σ : L2.St} {i : Nat}, i ∉ vs → (wipe σ vs)[i]? = σ[i]?
  | [], _, _, _ => rfl
  | v :: vs, σ, i, h => by
    unfold wipe
    rw [List.getElem?_set_ne (fun e => h (by rw [e]; exact List.mem_cons_self))]
    exact wipe_get fun z => h (List.mem_cons_of_mem _ z)
theorem wipe_in : ∀ {vs : List Nat} {σ : L2.St} {i : Nat}, i ∈ vs → i < σ.length → (wipe σ vs)[i]? = some none
  | v :: vs, σ, i, h, hl => by
    unfold wipe
    by_cases e : v = i
    · subst e
      rw [List.getElem?_set_self (by rw [wipe_length]; exact hl)]
    · rw [List.getElem?_set_ne e]
      rcases List.mem_cons.mp h with z | z
      · exact absurd z.symm e
      · exact wipe_in z hl
theorem wipe_eq {vs : List Nat} {σ σ' : L2.St} (hl : σ.length = σ'.length) (h : ∀ i, i ∉ vs → σ[i]? = σ'[i]?) : wipe σ vs = wipe σ' vs := by
  refine List.ext_getElem? fun i => ?_
  by_cases hi : i ∈ vs
  · by_cases hb : i < σ.length
    · rw [wipe_in hi hb, wipe_in hi (by omega)]
    · rw [List.getElem?_eq_none (by rw [wipe_length]; omega), List.getElem?_eq_none (by rw [wipe_length]; omega)]
  · rw [wipe_get hi, wipe_get hi, h i hi]
def wipeG (g : G) : List Nat → G
  | [] => g
  | v :: vs => (wipeG g vs).set v none
theorem En.wipe {K : Fg} {σ : L2.St} {H : Hp} (E : En K c g σ H) : ∀ vs : List Nat, En K c (wipeG g vs) (L2.wipe σ vs) H
  | [] => E
  | v :: vs => (E.wipe vs).forget
/-- the tests of a comprehension -/
def WF (X : Cx) (c : Cf) (g : G) : List Expr → (Bool → Prop) → Prop
  | [], p => p true
  | [e], p => WT X c g e p
  | _, _ => False
def tWF (X : Cx) (ifs : List Expr) : TT := fun σ H Q => match ifs with
  | [] => Q true H
  | [e] => tWT X e σ H Q
  | _ => False
theorem pts_w : ∀ {ifs : List Expr}, PTs X ifs (tWF X ifs)
  | [] => pts_nil
  | [_] => pts_one pt_w
  | _ :: _ :: _ => ⟨fun _ _ _ _ _ _ h => h.elim⟩
theorem WF.run {ifs : List Expr} {p : Bool → Prop} (h : WF X c g ifs p) {σ : L2.St} {H : Hp} (E : En X.K c g σ H) {Q : Bool → Hp → Prop} (k : ∀ b H', Ext X.K c.st H H' → p b → Q b H') : tWF X ifs σ H Q := by
  match ifs, h with
  | [], h => exact k true H (Ext.refl H) h
  | [e], h => exact WT.mono (p := p) h (fun _ z => z) σ H E Q k
variable {p : Rs → Prop} {elt tg iter : Expr} {ifs : List Expr} {pos : Pos} {own : List (Str × Nat)} {t : TG} {is : List Nat} {f : D → G → Option G}
theorem tLc_read (ht : TgS X.K t is f) (hw : ∀ i ∈ is, i ∈ own.map (·.2)) {σ : L2.St} {H : Hp} (E : En X.K c g σ H) {Q : VK} (kk : ∀ v H' r, Ext X.K c.st H H' → RsOk X.K c.st H H' v r → p r → Q v H')
    {tt : TT} {te : TE} (htt : ∀ σ H Q, (∀ X', Blk X scope X' → tWF X' ifs σ H Q) → tt σ H Q) (hte : ∀ σ H Q, (∀ X', Blk X scope X' → tWE X' elt σ H Q) → te σ H Q)
    {J : It} {H1 : Hp} {ds : List D} (e1 : Ext X.K c.st H H1) (src : Src X.K c.st false g σ J ds H1)
    (Pv : Nat → List D → Prop) (h0 : Pv 0 []) (turn : ∀ n d acc, ds[n]? = some d → Pv n acc → acc.length ≤ n → ∃ g', f d (wipeG g (own.map (·.2))) = some g' ∧ ∀ X', Blk X scope X' → WF X' c g' ifs fun i => if i = true then ∀ X', Blk X scope X' → WE X' c g' elt fun r => ∃ y, r = .d y ∧ Pv (n + 1) (acc ++ [y]) else Pv (n + 1) acc)
    (hl : ds.length ≤ 1000000) (fin : ∀ acc, acc.length ≤ ds.length → Pv ds.length acc → p (.lst true acc)) :
    ∀ Dl, H1 Dl = none → ∃ W : Nat → Nat → Hp → Prop, (∃ m, W 0 m (upd H1 Dl (.lst []))) ∧ ∀ i m H, W i m H →
  (J.stop i H ∧ Q (.ref Dl) H) ∨ (J.go i H ∧ ∃ Nx : Hp → Prop, (∀ H', Nx H' → ∃ m', m' < m ∧ W (i + 1) m' H') ∧ ∀ x H', J.yld i H x H' → t x (L2.wipe σ (own.map (·.2))) H' fun σ2 H2 => L2.wipe σ2 (own.map (·.2)) = L2.wipe σ (own.map (·.2)) ∧ tt σ2 H2 fun b H3 =>
    if b = true then te σ2 H3 fun y H4 => ∃ acc, H4 Dl = some (.lst acc) ∧ acc.length < sizeLine ∧ Nx (upd H4 Dl (.lst (acc ++ [y]))) else Nx H3) := by
  intro Dl hD
  obtain ⟨Gd, Y, pin, W, hpin, stable⟩ := src.ex
  have E1 := E.go e1
  have nst : some Dl ≠ c.st := st_new E1.stk hD
  have hz : (1000000 : Nat) < sizeLine := by
    rw [sizeLine_eq]
    decide
  -- a heap that holds all of H1's, and the list so far
  have same' : ∀ {H2 : Hp}, Ext X.K c.st H1 H2 → ∀ b, (pin b ∨ ∃ xs, H1 b = some (.tup xs)) → H2 b = H1 b := fun {H2} Ex b hb => by
    rcases hb with hb | ⟨xs, hb⟩
    · obtain ⟨n, ⟨o, ho⟩, _⟩ := hpin b hb
      rw [ho]
      exact Ex.keep b o n ho
    · rw [hb]
      exact Ex.tx b xs hb
  have grow : ∀ {H2 : Hp} {o : HO}, Ext X.K c.st H1 H2 → (∃ vs, H2 Dl = some (.lst vs)) → Ext X.K c.st H1 (upd H2 Dl o) ∧ Tx H2 (upd H2 Dl o) := fun {H2 o} Ex ⟨vs, hv⟩ => by
    have tx : Tx H2 (upd H2 Dl o) := fun b xs hb => by
      rw [upd_ne (fun z => by rw [z, hv] at hb; cases hb)]
      exact hb
    refine ⟨⟨fun b u n hb => ?_, Ex.tx.trans tx, fun s e hs => ?_⟩, tx⟩
    · rw [upd_ne (fun z => by rw [z, hD] at hb; cases hb)]
      exact Ex.keep b u n hb
    · obtain ⟨sc', ns, i, gg, r, q1, q2, q3⟩ := Ex.stk s e hs
      refine ⟨sc', ns, i, gg, r, by rw [upd_ne (fun y => nst (by rw [← y, e]))]; exact q1, ?_, q3⟩
      rcases q2 with ⟨o2, q2⟩ | q2
      · refine .inl ⟨o2, ?_⟩
        rw [upd_ne (fun z => by rw [z, hv] at q2; cases q2)]
        exact q2
      · exact .inr q2
  refine lc_it W (fun n H2 => ∃ acc vs, Ext X.K c.st H1 H2 ∧ H2 Dl = some (.lst vs) ∧ IsL X.K H2 vs acc ∧ acc.length ≤ n ∧ Pv n acc) ⟨[], [], Ext.new hD, upd_same, .nil, Nat.le_refl _, h0⟩ (fun i H2 _ ⟨acc, vs, Ex, _⟩ => (stable H2 (same' Ex)).1) (fun i x H2 H3 hi ⟨acc, vs, Ex, hv, his, hal, pv⟩ hy => ?_) fun H2 ⟨acc, vs, Ex, hv, his, hal, pv⟩ => ?_
  · obtain ⟨d, hd, sm, hx⟩ := (stable H2 (same' Ex)).2 i x H3 hi hy
    obtain ⟨g', ef, ht'⟩ := turn i d acc hd pv hal
    have Ex3 : Ext X.K c.st H1 H3 := Ex.trans (same_ext sm)
    have Ew : En X.K c (wipeG g (own.map (·.2))) (L2.wipe σ (own.map (·.2))) H3 := (E1.go Ex3).wipe _
    refine ht c _ _ H3 x d g' Ew hx ef _ fun σ2 E2 hl2 rest => ⟨?_, ?_⟩
    · refine wipe_eq (by rw [hl2, wipe_length]) fun j hj => ?_
      rw [rest j (fun z => hj (hw j z)), wipe_get hj]
    · refine htt _ _ _ fun X' hb => ?_
      have h3 := ht' X' hb
      obtain ⟨s0, Hs0, C0, cl0, fp0, rfl⟩ := id hb
      refine h3.run E2 fun b H4 e4 hbq => ?_
      have Ex4 := Ex3.trans e4
      have hv3 : H3 Dl = some (.lst vs) := sm _ _ hv
      have hv4 : H4 Dl = some (.lst vs) := e4.keep _ _ nst hv3
      have his4 : IsL X.K H4 vs acc := (his.mono (same_tx sm)).mono e4.tx
      cases b with
      | false =>
        simp only [Bool.false_eq_true, if_false] at hbq ⊢
        exact ⟨acc, vs, Ex4, hv4, his4, by omega, hbq⟩
      | true =>
        simp only [if_true] at hbq ⊢
        refine hte _ _ _ fun X2 hb2 => ?_
        have h4 := hbq X2 hb2
        obtain ⟨s1, Hs1, C1, cl1, fp1, rfl⟩ := id hb2
        refine h4 σ2 H4 (E2.go e4) _ fun y H5 r e5 r5 ⟨d', er, pv'⟩ => ?_
        subst er
        have Ex5 := Ex4.trans e5
        have hv5 := e5.keep _ _ nst hv4
        obtain ⟨g5, tx5⟩ := grow (o := .lst (vs ++ [y])) Ex5 ⟨vs, hv5⟩
        refine ⟨vs, hv5, ?_, acc ++ [d'], vs ++ [y], g5, upd_same, (((his4.mono e5.tx).append (.cons r5 .nil)).mono tx5), ?_, pv'⟩
        · rw [his.length]
          omega
        · rw [List.length_append, List.length_singleton]
          omega
  · exact kk _ H2 _ (e1.trans Ex) (.ll hv his nst fun _ => e1.back nst hD) (fin acc hal pv)
theorem blk_ok (B : Bx X N sc k) (h : blkC N sc scope own = true) : BlkOk X.N X.env.scope scope own := by
  rw [B.N, B.sc]
  exact blkOk_by h
/-- [elt for tg in iter if ..] -/
theorem n_lc (B : Bx X N sc k) (hblk : blkC N sc scope own = true) (hg : ∀ X', Blk X scope X' → PG X' tg t) (ht : TgS X.K t is f) (hw : ∀ i ∈ is, i ∈ own.map (·.2))
    (h : WI X c g false tg iter fun ds => ∃ Pv : Nat → List D → Prop, Pv 0 [] ∧ (∀ n d acc, ds[n]? = some d → Pv n acc → acc.length ≤ n → ∃ g', f d (wipeG g (own.map (·.2))) = some g' ∧ ∀ X', Blk X scope X' → WF X' c g' ifs fun i => if i = true then ∀ X', Blk X scope X' → WE X' c g' elt fun r => ∃ y, r = .d y ∧ Pv (n + 1) (acc ++ [y]) else Pv (n + 1) acc) ∧
      ds.length ≤ 1000000 ∧ ∀ acc, acc.length ≤ ds.length → Pv ds.length acc → p (.lst true acc))
    (hs : ∀ x, foldedSetIterable iter X.env x = pure x := by intro _; rfl) : WE X c g (.ListComp elt [⟨tg, iter, ifs, 0⟩] scope pos) p := fun σ H E Q kk => by
  refine we_of (pe_lc (g := t) (tt := fun σ H Q => ∀ X', Blk X scope X' → tWF X' ifs σ H Q) (te := fun σ H Q => ∀ X', Blk X scope X' → tWE X' elt σ H Q) B.calm B.nd pi_w (blk_ok B hblk)
    (fun s H C cl fp => hg _ ⟨s, H, C, cl, fp, rfl⟩) (fun s H C cl fp => ⟨fun pins sh σ H' Q I q => pts_w.run pins sh σ H' Q I (q _ ⟨s, H, C, cl, fp, rfl⟩)⟩) (fun s H C cl fp => ⟨fun pins sh σ H' Q I q => q _ ⟨s, H, C, cl, fp, rfl⟩ pins sh I⟩) hs) ?_
  refine h σ H E _ fun J H1 ds e1 src ⟨Pv, h0, turn, hl, fin⟩ => ?_
  exact tLc_read ht hw E kk (fun _ _ _ z => z) (fun _ _ _ z => z) e1 src Pv h0 turn hl fin
/-- y = [..] on one line, y a plain local -/
theorem s_setLc {N' : Ks} {i : Nat} {y : Str} {py spos : Pos} (B : Bd X N sc k) (hN : N[i]? = some y) (hyl : sc.names.lookup y = some .local) (hln : (py.line == pos.line) = true) (hany : (scope.names.any fun (n, k) => n == y && (k == .local || k == .cell)) = false)
    (hblk : blkC N sc scope own = true) (hg : ∀ X', Blk X scope X' → PG X' tg t) (ht : TgS X.K t is f) (hw : ∀ i ∈ is, i ∈ own.map (·.2))
    (h : WI X c g false tg iter fun ds => ∃ Pv : Nat → List D → Prop, Pv 0 [] ∧ (∀ n d acc, ds[n]? = some d → Pv n acc → acc.length ≤ n → ∃ g', f d (wipeG g (own.map (·.2))) = some g' ∧ ∀ X', Blk X scope X' → WF X' c g' ifs fun i => if i = true then ∀ X', Blk X scope X' → WE X' c g' elt fun r => ∃ y, r = .d y ∧ Pv (n + 1) (acc ++ [y]) else Pv (n + 1) acc) ∧
      ds.length ≤ 1000000 ∧ ∀ acc, acc.length ≤ ds.length → Pv ds.length acc → N'.nx (g.set i (some (.own acc))))
    (hkd : sc.kind = .function) (hs : ∀ x, foldedSetIterable iter X.env x = pure x := by intro _; rfl) : WS X c g (.Assign [.Name y py] (.ListComp elt [⟨tg, iter, ifs, 0⟩] scope pos) spos) N' := fun σ H E Dn K => by
  have hsw : swapsWith (.ListComp elt [⟨tg, iter, ifs, 0⟩] scope pos) (some (.Name y py)) spos.line X.env = pure true := sw_true (by rw [B.sc]; exact hkd) (by rw [B.sc]; exact hyl) hln hany
  refine ws_of (ps_setLc (i := i) (g := t) (tt := fun σ H Q => ∀ X', Blk X scope X' → tWF X' ifs σ H Q) (te := fun σ H Q => ∀ X', Blk X scope X' → tWE X' elt σ H Q) B.calm B.nd (by rw [B.N]; exact hN) (by rw [B.sc]; exact hyl) hsw pi_w (blk_ok B.toBx hblk)
    (fun s H C cl fp => hg _ ⟨s, H, C, cl, fp, rfl⟩) (fun s H C cl fp => ⟨fun pins sh σ H' Q I q => pts_w.run pins sh σ H' Q I (q _ ⟨s, H, C, cl, fp, rfl⟩)⟩) (fun s H C cl fp => ⟨fun pins sh σ H' Q I q => q _ ⟨s, H, C, cl, fp, rfl⟩ pins sh I⟩) hs) ?_
  show tWI X tg iter σ H _
  refine h σ H E _ fun J H1 ds e1 src ⟨Pv, h0, turn, hl, fin⟩ => ?_
  refine tLc_read (Q := fun x H1 => gName i x σ H1 Dn.nx) (p := fun r => ∃ acc, r = .lst true acc ∧ N'.nx (g.set i (some (.own acc)))) ht hw E (fun v H' r e' r' ⟨acc, er, n⟩ => ?_) (fun _ _ _ z => z) (fun _ _ _ z => z) e1 src Pv h0 turn hl fun acc l q => ⟨acc, rfl, fin acc l q⟩
  subst er
  exact K.nx _ _ _ (E.put e' r' rfl) n
def lclB (sc : Scope) (x : Str) : Bool := match sc.names.lookup x with
  | some .local => true
  | _ => false
theorem lcl_of {sc : Scope} {x : Str} (h : lclB sc x = true) : sc.names.lookup x = some .local := by
  unfold lclB at h
  split at h
  · assumption
  · cases h
theorem pg_nmC (i : Nat) {x : Str} {p1 : Pos} (B : Bx X N sc k) (hN : N[i]? = some x) (hl : lclB sc x = true) : PG X (.Name x p1) (gName i) :=
  pg_name B.nd (by rw [B.N]; exact hN) (by rw [B.sc]; exact .inl (lcl_of hl)) (.inr (by rw [B.sc]; exact lcl_of hl))
theorem pg_prC (i j : Nat) {x y : Str} {kk : Nat} {p1 p2 p3 : Pos} (B : Bx X N sc k) (hN : N[i]? = some x) (hl : lclB sc x = true) (hN2 : N[j]? = some y) (hl2 : lclB sc y = true) : PG X (.Tuple [.Name x p1, .Name y p2] kk p3) (gTup X.K 2 (gCons (gName i) (gCons (gName j) gNil))) :=
  pg_tup B.calm (pgs_cons (pg_nmC i B hN hl) (pgs_cons (pg_nmC j B hN2 hl2) pgs_nil)) rfl rfl
end
end TW

/-! TW7: stores, unpacking, defs. -/
namespace TW
open PySem PySem.Spec PyProof.Rows L2
section
variable {X : Cx} {c : Cf} {g : G} {sc : Scope} {N : List Str} {k : Nat} {e a b : Expr} {N' : Ks} {pos pos2 npos apos cpos : Pos} {x y z : Str}
theorem pe_nm (i : Nat) (B : Bx X N sc k) (hN : N[i]? = some x) (hv : visB sc x = true) (hd : (x == ("__debug__" : Str)) = false := by decide) (hcd : (x == ("__classdict__" : Str)) = false := by decide) : PE X (.Name x pos) (tVar i) := by
  have vis : Vis X.env.scope x := by
    rw [B.sc]
    exact vis_of hv
  exact pe_var (i := i) (by rw [B.N]; exact hN) vis hd hcd
/-- the list at a slot becomes another -/
theorem En.lst {K : Fg} {σ : L2.St} {H : Hp} {i : Nat} {ds ds' : List D} {l : Addr} {vs vs' : List V} (E : En K c g σ H) (hG : g[i]? = some (some (.own ds))) (hσ : σ[i]? = some (some (V.ref l))) (hl : H l = some (.lst vs)) (hi : IsL K H vs' ds') :
    En K c (g.set i (some (.own ds'))) σ (upd H l (.lst vs')) := by
  obtain ⟨v, e1, l', ws, ev, h1, h2, na, n0⟩ := E.sl i _ hG
  rw [hσ] at e1
  cases e1
  cases ev
  have tx : Tx H (upd H l (.lst vs')) := fun b xs hb => by
    rw [upd_ne (fun q => by rw [q, hl] at hb; cases hb)]
    exact hb
  exact (E.mutate (S' := .own ds') hG rfl rfl hσ hl (by intro xs q; cases q) (by intro ob u q; cases q) ⟨l, _, rfl, upd_same, hi.mono tx, na, n0⟩).2
theorem En.dct {K : Fg} {σ : L2.St} {H : Hp} {i : Nat} {kvs kvs' : List (Int × D)} {l : Addr} {ws ws' : List (Key × V)} (E : En K c g σ H) (hG : g[i]? = some (some (.dic kvs))) (hσ : σ[i]? = some (some (V.ref l))) (hl : H l = some (.dK ws)) (hi : KvIs K H ws' kvs') :
    En K c (g.set i (some (.dic kvs'))) σ (upd H l (.dK ws')) := by
  obtain ⟨v, e1, l', ws2, ev, h1, h2, na, n0⟩ := E.sl i _ hG
  rw [hσ] at e1
  cases e1
  cases ev
  have tx : Tx H (upd H l (.dK ws')) := fun b xs hb => by
    rw [upd_ne (fun q => by rw [q, hl] at hb; cases hb)]
    exact hb
  exact (E.mutate (S' := .dic kvs') hG rfl rfl hσ hl (by intro xs q; cases q) (by intro ob u q; cases q) ⟨l, _, rfl, upd_same, hi.mono tx, na, n0⟩).2
/-- d[k] = e -/
theorem s_putK (i : Nat) {kvs : List (Int × D)} {ke : Expr} (B : Bx X N sc k) (hu : X.A.units + 1 < cLine) (hN : N[i]? = some x) (hv : visB sc x = true) (hG : g[i]? = some (some (.dic kvs))) (hz : kvs.length < 1000000)
    (h : WE X c g e fun r => ∃ d, r = .d d ∧ WE X c g ke fun r' => ∃ j, r' = .d (.int j) ∧ N'.nx (g.set i (some (.dic (storeK kvs j d)))))
    (hd : (x == ("__debug__" : Str)) = false := by decide) (hcd : (x == ("__classdict__" : Str)) = false := by decide)
    (hs : swapsWith e (some (.Subscript (.Name x npos) ke pos2)) pos.line X.env = pure false := by rfl) : WS X c g (.Assign [.Subscript (.Name x npos) ke pos2] e pos) N' := fun σ H E D K => by
  refine ws_of (ps_dput hu (pe_nm i B hN hv hd hcd) pe_w pe_w hs) ?_
  refine h σ H E _ fun u H1 r e1 r1 ⟨d, er, hk⟩ => ?_
  subst er
  obtain ⟨v, q1, l, ws, ev, ha, his, na, n0⟩ := E.sl i _ hG
  subst ev
  refine ⟨_, q1, ?_⟩
  refine hk σ H1 (E.go e1) _ fun w H2 r' e2 r2 ⟨j, er', n⟩ => ?_
  subst er'
  cases is_int r2
  have e3 := e1.trans e2
  have ha2 := e3.keep _ _ na ha
  refine ⟨l, _, rfl, DPut.k (k := Sum.inl j) ha2 ?_, ?_⟩
  · rw [his.length, sizeLine_eq]
    omega
  · exact K.nx _ _ _ ((E.go e3).dct hG q1 ha2 ((his.mono e3.tx).put (Is.mono e2.tx r1))) n
/-- d.setdefault(k, e) as a statement -/
theorem s_setdef (i : Nat) {kvs : List (Int × D)} {ke : Expr} (B : Bx X N sc k) (hN : N[i]? = some x) (hv : visB sc x = true) (hG : g[i]? = some (some (.dic kvs))) (hz : kvs.length < 1000000)
    (h : WE X c g ke fun r' => ∃ j, r' = .d (.int j) ∧ WE X c g e fun r => ∃ d, r = .d d ∧ N'.nx (g.set i (some (.dic (if (lookK kvs j).isSome = true then kvs else storeK kvs j d)))))
    (m : M2 X (.Name x npos) "setdefault" apos ke e cpos)
    (hd : (x == ("__debug__" : Str)) = false := by decide) (hcd : (x == ("__classdict__" : Str)) = false := by decide) : WS X c g (.Expr (.Call (.Attribute (.Name x npos) "setdefault" apos) [ke, e] [] cpos) pos) N' := fun σ H E D K => by
  refine ws_of (ps_expr (pe_dsetd (pe_nm i B hN hv hd hcd) pe_w pe_w m)) ?_
  obtain ⟨v, q1, l, ws, ev, ha, his, na, n0⟩ := E.sl i _ hG
  subst ev
  refine ⟨_, q1, l, rfl, .inl ⟨ws, .inl ha⟩, ?_⟩
  refine h σ H E _ fun u H1 r' e1 r1 ⟨j, er', hk⟩ => ?_
  subst er'
  cases is_int r1
  refine hk σ H1 (E.go e1) _ fun w H2 r e2 r2 ⟨d, er, n⟩ => ?_
  subst er
  have e3 := e1.trans e2
  have ha2 := e3.keep _ _ na ha
  have his2 := his.mono e3.tx
  refine ⟨ws, Sum.inl j, ha2, rfl, ?_, fun v hv => ?_, fun hn => ?_⟩
  · rw [his.length, sizeLine_eq]
    omega
  · rcases his2.look j with ⟨p1, p2⟩ | ⟨v', d', p1, p2, _⟩
    · rw [hv] at p1
      cases p1
    · rw [p2] at n
      simp only [Option.isSome_some, if_true] at n
      have hset : g.set i (some (.dic kvs)) = g := by
        refine List.ext_getElem? fun q => ?_
        by_cases hq : i = q
        · subst hq
          rw [List.getElem?_set_self (List.getElem?_eq_some_iff.mp hG).1, hG]
        · rw [List.getElem?_set_ne hq]
      rw [hset] at n
      exact K.nx _ _ _ (E.go e3) n
  · rcases his2.look j with ⟨p1, p2⟩ | ⟨v', d', p1, p2, _⟩
    · rw [p2] at n
      simp only [Option.isSome_none, Bool.false_eq_true, if_false] at n
      exact K.nx _ _ _ ((E.go e3).dct hG q1 ha2 (his2.put r2)) n
    · rw [hn] at p1
      cases p1
/-- xs[i] = e -/
theorem s_setL (i : Nat) {ds : List D} {ke : Expr} (B : Bx X N sc k) (hN : N[i]? = some x) (hv : visB sc x = true) (hG : g[i]? = some (some (.own ds)))
    (h : WE X c g e fun r => ∃ d, r = .d d ∧ WE X c g ke fun r' => ∃ j : Nat, r' = .d (.int j) ∧ j < ds.length ∧ N'.nx (g.set i (some (.own (ds.set j d)))))
    (hd : (x == ("__debug__" : Str)) = false := by decide) (hcd : (x == ("__classdict__" : Str)) = false := by decide)
    (ha : ∀ v, assign (.Subscript (.Name x npos) ke pos2) X.env v = (do
      let ov ← holding [v] (eval (.Name x npos) X.env)
      let iv ← holding [v, ov] (eval ke X.env)
      standAt pos2
      holding [v, ov, iv] (setItem ov iv v)
      release [v, ov, iv] []) := by intro _; rfl)
    (hs : swapsWithSole [.Subscript (.Name x npos) ke pos2] e pos.line X.env = pure false := by rfl) (hw : swappedStores [.Subscript (.Name x npos) ke pos2] e X.env = pure none := by rfl)
    (h1 : (assignEach [.Subscript (.Name x npos) ke pos2] X.env).map (·.2) = [assign (.Subscript (.Name x npos) ke pos2) X.env] := by rfl) : WS X c g (.Assign [.Subscript (.Name x npos) ke pos2] e pos) N' := fun σ H E D K => by
  refine ws_of (ps_asg pe_w (pg_sub (pe_nm i B hN hv hd hcd) pe_w set_list ha) hs hw h1) ?_
  refine h σ H E _ fun u H1 r e1 r1 ⟨d, er, hk⟩ => ?_
  subst er
  obtain ⟨v, q1, l, ws, ev, hl, his, na, n0⟩ := E.sl i _ hG
  subst ev
  refine ⟨_, q1, ?_⟩
  refine hk σ H1 (E.go e1) _ fun w H2 r' e2 r2 ⟨j, er', hj, n⟩ => ?_
  subst er'
  cases is_int r2
  have e3 := e1.trans e2
  have hl2 := e3.keep _ _ na hl
  refine ⟨l, ws, (j : Int), j, rfl, rfl, hl2, ?_, ?_⟩
  · rw [his.length]
    unfold ixN
    rw [if_pos (by omega), if_pos (by omega)]
    simp
  · exact K.nx _ _ _ ((E.go e3).lst hG q1 hl2 ((his.mono e3.tx).set j (Is.mono e2.tx r1))) n
/-- xs.extend(list) -/
theorem s_ext (i : Nat) {ds : List D} (B : Bx X N sc k) (hN : N[i]? = some x) (hv : visB sc x = true) (hG : g[i]? = some (some (.own ds)))
    (h : WE X c g e fun r => ∃ es, r = .lst true es ∧ ds.length + es.length ≤ 1000000 ∧ N'.nx (g.set i (some (.own (ds ++ es)))))
    (hd : (x == ("__debug__" : Str)) = false := by decide) (hcd : (x == ("__classdict__" : Str)) = false := by decide)
    (hbase : attributeBase (.Name x npos) "extend" X.env (eval (.Name x npos) X.env) = eval (.Name x npos) X.env := by rfl)
    (hfew : ((backTo cpos (starEach [e] X.env)).all (fun x => !x.1) && (backToKw cpos (keywordEach [] X.env)).all (fun x => x.1.isSome) && decide (([e] : List Expr).length + ([] : List Keyword).length + (if ([] : List Keyword).isEmpty then 0 else 1) < 30)) = true := by rfl)
    (hline : (apos.endLine == cpos.line) = true := by rfl) (hs : starEach [e] X.env = (false, eval e X.env) :: starEach [] X.env := by rfl) :
    WS X c g (.Expr (.Call (.Attribute (.Name x npos) "extend" apos) [e] [] cpos) pos) N' := fun σ H E D K => by
  obtain ⟨v, e1, l, vs, ev, ha, his, na, n0⟩ := E.sl i _ hG
  subst ev
  refine ws_of (ps_expr (pe_bm PySem.F.plainAttrs_list PySem.F.slot_list_extend PySem.F.type_list_extend mt_extend (pe_nm i B hN hv hd hcd) (pa_cons pe_w pa_nil hs) hbase hfew hline hs rfl)) ?_
  refine ⟨_, e1, .inl ⟨rfl, _, SqL.of ha⟩, ?_⟩
  refine h σ H E _ fun u H1 r e2 r1 ⟨es, er, hz, n⟩ => ?_
  subst er
  obtain ⟨l2, vs2, rfl, h1, h2, na2, hn⟩ := r1
  have ha1 := e2.keep _ _ na ha
  refine ⟨l, l2, vs, vs2, rfl, rfl, ha1, h1, ?_, ?_⟩
  · rw [his.length, h2.length, sizeLine_eq]
    omega
  · exact K.nx _ _ _ ((E.go e2).lst hG e1 ha1 ((his.mono e2.tx).append h2)) n
/-- a, b = xs.pop() -/
theorem s_popP (i j l : Nat) {ds : List D} {d1 d2 : D} {kk : Nat} {p1 p2 : Pos} (B : Bd X N sc k) (hN : N[i]? = some x) (hv : visB sc x = true) (hG : g[i]? = some (some (.own (ds ++ [.tup [d1, d2]])))) (hNy : N[j]? = some y) (hly : locB sc y = true) (hNz : N[l]? = some z) (hlz : locB sc z = true)
    (n : N'.nx (((g.set i (some (.own ds))).set j (some (.d d1))).set l (some (.d d2))))
    (hd : (x == ("__debug__" : Str)) = false := by decide) (hcd : (x == ("__classdict__" : Str)) = false := by decide)
    (hbase : attributeBase (.Name x npos) "pop" X.env (eval (.Name x npos) X.env) = eval (.Name x npos) X.env := by rfl) (hline : (apos.endLine == cpos.line) = true := by rfl)
    (hs : swapsWithSole [.Tuple [.Name y p1, .Name z p2] kk pos2] (.Call (.Attribute (.Name x npos) "pop" apos) [] [] cpos) pos.line X.env = pure false := by rfl) (hw : swappedStores [.Tuple [.Name y p1, .Name z p2] kk pos2] (.Call (.Attribute (.Name x npos) "pop" apos) [] [] cpos) X.env = pure none := by rfl)
    (h1 : (assignEach [.Tuple [.Name y p1, .Name z p2] kk pos2] X.env).map (·.2) = [assign (.Tuple [.Name y p1, .Name z p2] kk pos2) X.env] := by rfl) :
    WS X c g (.Assign [.Tuple [.Name y p1, .Name z p2] kk pos2] (.Call (.Attribute (.Name x npos) "pop" apos) [] [] cpos) pos) N' := fun σ H E D K => by
  obtain ⟨v, e1, a, vs, ev, ha, his, na, n0⟩ := E.sl i _ hG
  subst ev
  refine ws_of (ps_asg (pe_bm0 PySem.F.plainAttrs_list PySem.F.slot_list_pop PySem.F.type_list_pop mt_pop (pe_nm i B.toBx hN hv hd hcd) hbase hline) (pg_pr j l B hNy hly hNz hlz) hs hw h1) ?_
  have hlen := his.length
  have hlast : (ds ++ [TW.D.tup [d1, d2]])[vs.length - 1]? = some (.tup [d1, d2]) := by
    rw [hlen, List.length_append, List.length_singleton, Nat.add_sub_cancel, List.getElem?_append_right (Nat.le_refl _), Nat.sub_self]
    rfl
  obtain ⟨w, hw1, hw2⟩ := his.get hlast
  have hdrop : IsL X.K H vs.dropLast ds := by
    have q := his.dropLast
    rw [List.dropLast_concat] at q
    exact q
  refine ⟨_, e1, .inl ⟨rfl, _, SqL.of ha⟩, a, vs, w, rfl, rfl, ha, hw1, ?_⟩
  have E1 := E.lst hG e1 ha hdrop
  have tx : Tx H (upd H a (.lst vs.dropLast)) := fun b xs hb => by
    rw [upd_ne (fun q => by rw [q, ha] at hb; cases hb)]
    exact hb
  exact tgs_pair j l c _ σ _ w _ _ E1 (hw2.mono tx) rfl _ fun σ' E2 _ _ => K.nx _ _ _ E2 n
/-- a, b = e -/
theorem s_setP (j l : Nat) {kk : Nat} {p1 p2 : Pos} (B : Bd X N sc k) (hNy : N[j]? = some y) (hly : locB sc y = true) (hNz : N[l]? = some z) (hlz : locB sc z = true)
    (h : WE X c g e fun r => ∃ d1 d2, r = .d (.tup [d1, d2]) ∧ N'.nx ((g.set j (some (.d d1))).set l (some (.d d2))))
    (hs : swapsWithSole [.Tuple [.Name y p1, .Name z p2] kk pos2] e pos.line X.env = pure false := by rfl) (hw : swappedStores [.Tuple [.Name y p1, .Name z p2] kk pos2] e X.env = pure none := by rfl)
    (h1 : (assignEach [.Tuple [.Name y p1, .Name z p2] kk pos2] X.env).map (·.2) = [assign (.Tuple [.Name y p1, .Name z p2] kk pos2) X.env] := by rfl) :
    WS X c g (.Assign [.Tuple [.Name y p1, .Name z p2] kk pos2] e pos) N' := fun σ H E D K => by
  refine ws_of (ps_asg pe_w (pg_pr j l B hNy hly hNz hlz) hs hw h1) ?_
  refine h σ H E _ fun v H1 r e1 r1 ⟨d1, d2, er, n⟩ => ?_
  subst er
  exact tgs_pair j l c _ σ _ v _ _ (E.go e1) r1 rfl _ fun σ' E2 _ _ => K.nx _ _ _ E2 n
/-- a, b, c = e, e a list -/
theorem s_setL3 (i j l : Nat) {kk : Nat} {p1 p2 p3 : Pos} (B : Bd X N sc k) (hNx : N[i]? = some x) (hlx : locB sc x = true) (hNy : N[j]? = some y) (hly : locB sc y = true) (hNz : N[l]? = some z) (hlz : locB sc z = true)
    (h : WE X c g e fun r => ∃ fr d1 d2 d3, r = .lst fr [d1, d2, d3] ∧ N'.nx (((g.set i (some (.d d1))).set j (some (.d d2))).set l (some (.d d3))))
    (hs : swapsWithSole [.Tuple [.Name x p1, .Name y p2, .Name z p3] kk pos2] e pos.line X.env = pure false := by rfl) (hw : swappedStores [.Tuple [.Name x p1, .Name y p2, .Name z p3] kk pos2] e X.env = pure none := by rfl)
    (h1 : (assignEach [.Tuple [.Name x p1, .Name y p2, .Name z p3] kk pos2] X.env).map (·.2) = [assign (.Tuple [.Name x p1, .Name y p2, .Name z p3] kk pos2) X.env] := by rfl) :
    WS X c g (.Assign [.Tuple [.Name x p1, .Name y p2, .Name z p3] kk pos2] e pos) N' := fun σ H E D K => by
  refine ws_of (ps_asg pe_w (pg_unl (n := 3) B.calm (pgs_cons (pg_nm i B hNx hlx) (pgs_cons (pg_nm j B hNy hly) (pgs_cons (pg_nm l B hNz hlz) pgs_nil))) rfl rfl) hs hw h1) ?_
  refine h σ H E _ fun v H1 r e1 r1 ⟨fr, d1, d2, d3, er, n⟩ => ?_
  subst er
  obtain ⟨a, vs, rfl, h1, h2, _⟩ := r1
  cases h2 with
  | cons q1 h2 =>
    cases h2 with
    | cons q2 h2 =>
      cases h2 with
      | cons q3 h2 =>
        cases h2
        refine ⟨a, _, rfl, SqL.of h1, rfl, _, _, rfl, _, _, rfl, _, _, rfl, rfl, ?_⟩
        refine K.nx _ _ _ ?_ n
        exact (((E.go e1).put (Ext.refl H1) (RsOk.dd (H1 := H1) q1) rfl).put (Ext.refl H1) (RsOk.dd (H1 := H1) q2) rfl).put (Ext.refl H1) (RsOk.dd (H1 := H1) q3) rfl
end
/-! ### defs -/
def g0 (rs : List Rs) (N : List Str) : G := rs.map Rs.arg ++ List.replicate (N.length - rs.length) none
theorem args_get {K : Fg} {st : Option Addr} {H : Hp} : ∀ {vs : List V} {rs : List Rs}, RsL K st H H vs rs → ∀ {i : Nat} {S : Sl}, (rs.map Rs.arg)[i]? = some (some S) → ∃ v, vs[i]? = some v ∧ SlOk K ⟨H, st⟩ H v S ∧ S.mut = false
  | _, _, .nil, i, S, h => by simp at h
  | _, _, .cons (b := r) h t, 0, S, e => by
    have e' : r.arg = some S := by simpa using e
    refine ⟨_, rfl, ?_⟩
    cases r with
    | d x =>
      cases e'
      exact ⟨h, rfl⟩
    | lst fr ds =>
      cases e'
      obtain ⟨a, vs, e1, e2, e3, e4, e5⟩ := h
      exact ⟨⟨a, vs, e1, e2, e3, e4⟩, rfl⟩
    | dct fr kvs => cases e'
    | fz kvs => cases e'
    | tx fr ds => cases e'
    | st =>
      cases e'
      exact ⟨h, rfl⟩
  | _, _, .cons h t, i + 1, S, e => by
    obtain ⟨v, e1, e2⟩ := args_get t (i := i) (S := S) (by simpa using e)
    exact ⟨v, by simpa using e1, e2⟩
theorem en_start {K : Fg} {st : Option Addr} {H : Hp} {vs : List V} {rs : List Rs} {N : List Str} (hst : ∀ s, st = some s → StOk K H s) (r : RsL K st H H vs rs) (hl : rs.length ≤ N.length) : En K ⟨H, st⟩ (g0 rs N) (L2.start N vs) H := by
  have hlen : vs.length = rs.length := Paired.length r
  have key : ∀ (i : Nat) (S : Sl), (g0 rs N)[i]? = some (some S) → ∃ v, vs[i]? = some v ∧ SlOk K ⟨H, st⟩ H v S ∧ S.mut = false := fun i S h => by
    unfold g0 at h
    by_cases hi : i < rs.length
    · rw [List.getElem?_append_left (by simpa using hi)] at h
      exact args_get r h
    · rw [List.getElem?_append_right (by simpa using hi), List.getElem?_replicate] at h
      split at h <;> cases h
  refine ⟨Ext.refl H, hst, ?_, fun i S h => ?_, fun i j S T a n h1 h2 m1 m2 e1 e2 => ?_⟩
  · unfold L2.start g0
    simp [hlen]
  · obtain ⟨v, e1, e2, _⟩ := key i S h
    refine ⟨v, ?_, e2⟩
    unfold L2.start
    have hi : i < vs.length := (List.getElem?_eq_some_iff.mp e1).1
    rw [List.getElem?_append_left (by simpa using hi), List.getElem?_map, e1]
    rfl
  · obtain ⟨v, _, _, hm⟩ := key i S h1
    rw [m1] at hm
    cases hm
/-- a def of the text keeps its promise, by its body -/
theorem fn_mk {P : Program} {w : World} {K : Fg} {mg : Str → Option Value} {base : Heap} {x qual : Str} {st : Stmt} {fa : Addr} {fd : FuncData} {N ps : List Str} {k : Nat} (F : Fun K x qual st fa fd) (S : FnScope N ps (defScope st)) (f : Ph) (len : ∀ rs p, f rs p → rs.length = ps.length)
    (body : ∀ (X : Cx) (c : Cf) (rs : List Rs) (p : Rs → Prop), X.prog = P → X.w = w → X.K = K → X.mg = mg → X.base = base → Bd X N (defScope st) k → f rs p → WSs X c (g0 rs N) (defBody st) ⟨fun _ => p (.d .non), p, fun _ => False, fun _ => False⟩) :
    FnOk P w K mg base CX0 (k + 1) fa fd ps (spP K f) := by
  have hpl : ps.length ≤ N.length := by
    have := congrArg List.length S.pre
    rw [List.length_take] at this
    omega
  refine F.ok S (fun vs H Q E h => ?_) (fun cdv A outer s H vs Q E hr h => ?_)
  · obtain ⟨s0, rs, _, hr, hf⟩ := h
    exact (Paired.length hr).trans (len rs _ hf)
  · obtain ⟨s0, rs, hst, hrs, hf⟩ := h
    refine ⟨_, pss_w, ?_⟩
    have hl := len rs _ hf
    refine body ((cxOf CX0 P w K mg base N qual (defScope st) fa cdv A outer s H E).nox) ⟨H, s0⟩ rs _ rfl rfl rfl rfl rfl ⟨⟨rfl, S.nd, rfl, rfl, hr, PassesOwn.never⟩, fun _ => rfl⟩ hf _ H (en_start hst hrs (by omega)) _ ⟨fun g σ H' E' n => ?_, fun v H' r e r1 n => n v H' e r1, fun _ _ _ _ n => n.elim, fun _ _ _ _ n => n.elim⟩
    exact n .non H' E'.ext Is.non
end TW

/-! TWR: the rules in the form in which they are used. -/
namespace TW
open PySem PySem.Spec PyProof.Rows L2

def Rs.lds : Rs → Option (List D)
  | .lst _ ds => some ds
  | _ => none
theorem lds_lst {r : Rs} {ds : List D} (h : r.lds = some ds) : ∃ fr, r = .lst fr ds := by
  cases r with
  | lst fr ds' =>
    cases h
    exact ⟨fr, rfl⟩
  | _ => cases h
theorem items_cases {r : Rs} {ds : List D} (h : r.items = some ds) : r = .d (.tup ds) ∨ ∃ fr, r = .lst fr ds := by
  cases r with
  | d x =>
    cases x with
    | tup ds' =>
      cases h
      exact .inl rfl
    | _ => cases h
  | lst fr ds' =>
    cases h
    exact .inr ⟨fr, rfl⟩
  | _ => cases h
/-- the end of a def: the same answer -/
theorem fin_d {p : Rs → Prop} {a b : D} (hp : p (.d a)) (e : a = b) : p (.d b) := e ▸ hp
theorem fin_b {p : Rs → Prop} {a b : Bool} (hp : p (.d (.bl a))) (e : a = b) : p (.d (.bl b)) := e ▸ hp
section
variable {X : Cx} {c : Cf} {g : G} {e a b d : Expr} {es rest : List Expr} {p : Rs → Prop} {P : Bool → Prop} {pos pos2 p2 p3 : Pos} {N : List Str} {sc : Scope} {k j : Nat} {x : Str} {op : BoolOp}

/-! ### leaves -/
theorem xv (i : Nat) {S : Sl} (h : p S.rs) (B : Bx X N sc k := by assumption) (hN : N[i]? = some x := by rfl) (hG : g[i]? = some (some S) := by rfl) (hv : visB sc x = true := by decide +kernel) (hd : (x == ("__debug__" : Str)) = false := by decide) (hcd : (x == ("__classdict__" : Str)) = false := by decide) : WE X c g (.Name x pos) p := n_var i B hN hv hG h hd hcd
theorem xi {i : Int} {j : Nat} (h : p (.d (.int i))) : WE X c g (.Constant (.int i) j pos) p := n_int h
theorem xs {i : Str} {j : Nat} (h : p (.d (.str i))) : WE X c g (.Constant (.str i) j pos) p := n_str h
theorem xb {i : Bool} {j : Nat} (h : p (.d (.bl i))) : WE X c g (.Constant (.bool i) j pos) p := n_bl h
theorem xn {j : Nat} (h : p (.d .non)) : WE X c g (.Constant .none j pos) p := n_non h
/-! ### comparisons of numbers and texts -/
theorem xlt (h : WE X c g a fun x => ∃ i, x = .d (.int i) ∧ WE X c g b fun y => ∃ j, y = .d (.int j) ∧ p (.d (.bl (decide (i < j))))) : WE X c g (.Compare a [.Lt] [b] pos) p := we_cmp c_lt (nomark _) (h.mono fun _ ⟨i, e1, h2⟩ => h2.mono fun _ ⟨j, e2, q⟩ => ⟨_, ⟨i, j, e1, e2, rfl⟩, q⟩)
theorem xle (h : WE X c g a fun x => ∃ i, x = .d (.int i) ∧ WE X c g b fun y => ∃ j, y = .d (.int j) ∧ p (.d (.bl (decide (i ≤ j))))) : WE X c g (.Compare a [.LtE] [b] pos) p := we_cmp c_le (nomark _) (h.mono fun _ ⟨i, e1, h2⟩ => h2.mono fun _ ⟨j, e2, q⟩ => ⟨_, ⟨i, j, e1, e2, rfl⟩, q⟩)
theorem xgt (h : WE X c g a fun x => ∃ i, x = .d (.int i) ∧ WE X c g b fun y => ∃ j, y = .d (.int j) ∧ p (.d (.bl (decide (j < i))))) : WE X c g (.Compare a [.Gt] [b] pos) p := we_cmp c_gt (nomark _) (h.mono fun _ ⟨i, e1, h2⟩ => h2.mono fun _ ⟨j, e2, q⟩ => ⟨_, ⟨i, j, e1, e2, rfl⟩, q⟩)
theorem xge (h : WE X c g a fun x => ∃ i, x = .d (.int i) ∧ WE X c g b fun y => ∃ j, y = .d (.int j) ∧ p (.d (.bl (decide (j ≤ i))))) : WE X c g (.Compare a [.GtE] [b] pos) p := we_cmp c_ge (nomark _) (h.mono fun _ ⟨i, e1, h2⟩ => h2.mono fun _ ⟨j, e2, q⟩ => ⟨_, ⟨i, j, e1, e2, rfl⟩, q⟩)
theorem xeq (h : WE X c g a fun x => ∃ i, x = .d (.int i) ∧ WE X c g b fun y => ∃ j, y = .d (.int j) ∧ p (.d (.bl (decide (i = j))))) : WE X c g (.Compare a [.Eq] [b] pos) p := we_cmp c_eqI (nomark _) (h.mono fun _ ⟨i, e1, h2⟩ => h2.mono fun _ ⟨j, e2, q⟩ => ⟨_, ⟨i, j, e1, e2, rfl⟩, q⟩)
theorem xne (h : WE X c g a fun x => ∃ i, x = .d (.int i) ∧ WE X c g b fun y => ∃ j, y = .d (.int j) ∧ p (.d (.bl (!decide (i = j))))) : WE X c g (.Compare a [.NotEq] [b] pos) p := we_cmp c_neI (nomark _) (h.mono fun _ ⟨i, e1, h2⟩ => h2.mono fun _ ⟨j, e2, q⟩ => ⟨_, ⟨i, j, e1, e2, rfl⟩, q⟩)
theorem xeqS (h : WE X c g a fun x => ∃ i, x = .d (.str i) ∧ WE X c g b fun y => ∃ j, y = .d (.str j) ∧ p (.d (.bl (decide (i = j))))) : WE X c g (.Compare a [.Eq] [b] pos) p := we_cmp c_eqS (nomark _) (h.mono fun _ ⟨i, e1, h2⟩ => h2.mono fun _ ⟨j, e2, q⟩ => ⟨_, ⟨i, j, e1, e2, rfl⟩, q⟩)
theorem xneS (h : WE X c g a fun x => ∃ i, x = .d (.str i) ∧ WE X c g b fun y => ∃ j, y = .d (.str j) ∧ p (.d (.bl (!decide (i = j))))) : WE X c g (.Compare a [.NotEq] [b] pos) p := we_cmp c_neS (nomark _) (h.mono fun _ ⟨i, e1, h2⟩ => h2.mono fun _ ⟨j, e2, q⟩ => ⟨_, ⟨i, j, e1, e2, rfl⟩, q⟩)
theorem tlt (h : WE X c g a fun x => ∃ i, x = .d (.int i) ∧ WE X c g b fun y => ∃ j, y = .d (.int j) ∧ P (decide (i < j))) : WT X c g (.Compare a [.Lt] [b] pos) P := wt_cmp c_lt (nomark _) (h.mono fun _ ⟨i, e1, h2⟩ => h2.mono fun _ ⟨j, e2, q⟩ => ⟨_, ⟨i, j, e1, e2, rfl⟩, q⟩)
theorem tle (h : WE X c g a fun x => ∃ i, x = .d (.int i) ∧ WE X c g b fun y => ∃ j, y = .d (.int j) ∧ P (decide (i ≤ j))) : WT X c g (.Compare a [.LtE] [b] pos) P := wt_cmp c_le (nomark _) (h.mono fun _ ⟨i, e1, h2⟩ => h2.mono fun _ ⟨j, e2, q⟩ => ⟨_, ⟨i, j, e1, e2, rfl⟩, q⟩)
theorem tgt (h : WE X c g a fun x => ∃ i, x = .d (.int i) ∧ WE X c g b fun y => ∃ j, y = .d (.int j) ∧ P (decide (j < i))) : WT X c g (.Compare a [.Gt] [b] pos) P := wt_cmp c_gt (nomark _) (h.mono fun _ ⟨i, e1, h2⟩ => h2.mono fun _ ⟨j, e2, q⟩ => ⟨_, ⟨i, j, e1, e2, rfl⟩, q⟩)
theorem tge (h : WE X c g a fun x => ∃ i, x = .d (.int i) ∧ WE X c g b fun y => ∃ j, y = .d (.int j) ∧ P (decide (j ≤ i))) : WT X c g (.Compare a [.GtE] [b] pos) P := wt_cmp c_ge (nomark _) (h.mono fun _ ⟨i, e1, h2⟩ => h2.mono fun _ ⟨j, e2, q⟩ => ⟨_, ⟨i, j, e1, e2, rfl⟩, q⟩)
theorem teq (h : WE X c g a fun x => ∃ i, x = .d (.int i) ∧ WE X c g b fun y => ∃ j, y = .d (.int j) ∧ P (decide (i = j))) : WT X c g (.Compare a [.Eq] [b] pos) P := wt_cmp c_eqI (nomark _) (h.mono fun _ ⟨i, e1, h2⟩ => h2.mono fun _ ⟨j, e2, q⟩ => ⟨_, ⟨i, j, e1, e2, rfl⟩, q⟩)
theorem tne (h : WE X c g a fun x => ∃ i, x = .d (.int i) ∧ WE X c g b fun y => ∃ j, y = .d (.int j) ∧ P (!decide (i = j))) : WT X c g (.Compare a [.NotEq] [b] pos) P := wt_cmp c_neI (nomark _) (h.mono fun _ ⟨i, e1, h2⟩ => h2.mono fun _ ⟨j, e2, q⟩ => ⟨_, ⟨i, j, e1, e2, rfl⟩, q⟩)
theorem teqS (h : WE X c g a fun x => ∃ i, x = .d (.str i) ∧ WE X c g b fun y => ∃ j, y = .d (.str j) ∧ P (decide (i = j))) : WT X c g (.Compare a [.Eq] [b] pos) P := wt_cmp c_eqS (nomark _) (h.mono fun _ ⟨i, e1, h2⟩ => h2.mono fun _ ⟨j, e2, q⟩ => ⟨_, ⟨i, j, e1, e2, rfl⟩, q⟩)
theorem tneS (h : WE X c g a fun x => ∃ i, x = .d (.str i) ∧ WE X c g b fun y => ∃ j, y = .d (.str j) ∧ P (!decide (i = j))) : WT X c g (.Compare a [.NotEq] [b] pos) P := wt_cmp c_neS (nomark _) (h.mono fun _ ⟨i, e1, h2⟩ => h2.mono fun _ ⟨j, e2, q⟩ => ⟨_, ⟨i, j, e1, e2, rfl⟩, q⟩)
/-! ### is -/
theorem xisB (h : WE X c g a fun x => ∃ i, x = .d (.bl i) ∧ WE X c g b fun y => ∃ j, y = .d (.bl j) ∧ p (.d (.bl (decide (i = j))))) : WE X c g (.Compare a [.Is] [b] pos) p := we_cmp c_isB (nomark _) (h.mono fun _ ⟨i, e1, h2⟩ => h2.mono fun _ ⟨j, e2, q⟩ => ⟨_, ⟨i, j, e1, e2, rfl⟩, q⟩)
theorem tisB (h : WE X c g a fun x => ∃ i, x = .d (.bl i) ∧ WE X c g b fun y => ∃ j, y = .d (.bl j) ∧ P (decide (i = j))) : WT X c g (.Compare a [.Is] [b] pos) P := wt_cmp c_isB (nomark _) (h.mono fun _ ⟨i, e1, h2⟩ => h2.mono fun _ ⟨j, e2, q⟩ => ⟨_, ⟨i, j, e1, e2, rfl⟩, q⟩)
theorem tnotB (h : WE X c g a fun x => ∃ i, x = .d (.bl i) ∧ WE X c g b fun y => ∃ j, y = .d (.bl j) ∧ P (!decide (i = j))) : WT X c g (.Compare a [.IsNot] [b] pos) P := wt_cmp c_notB (nomark _) (h.mono fun _ ⟨i, e1, h2⟩ => h2.mono fun _ ⟨j, e2, q⟩ => ⟨_, ⟨i, j, e1, e2, rfl⟩, q⟩)
theorem tisN {kk : Nat} (h : WE X c g a fun x => P x.isNone) : WT X c g (.Compare a [.Is] [.Constant .none kk p2] pos) P := wt_cmp c_isN (nomark _) (h.mono fun _ q => n_non ⟨_, ⟨rfl, rfl⟩, q⟩)
theorem xnotN {kk : Nat} (h : WE X c g a fun x => p (.d (.bl (!x.isNone)))) : WE X c g (.Compare a [.IsNot] [.Constant .none kk p2] pos) p := we_cmp c_notN (nomark _) (h.mono fun _ q => n_non ⟨_, ⟨rfl, rfl⟩, q⟩)
/-! ### in -/
theorem in_of {x y : Rs} {i : Int} {ns : List Int} (h : x = .d (.int i)) (h2 : y.items = some (ns.map D.int)) : InInts x y (decide (i ∈ ns)) := ⟨i, ns, h, items_cases h2, rfl⟩
theorem xin (h : WE X c g a fun x => ∃ i, x = .d (.int i) ∧ WE X c g b fun y => ∃ ns : List Int, y.items = some (ns.map D.int) ∧ p (.d (.bl (decide (i ∈ ns))))) (hm : behindInMarks .In b = false := by rfl) : WE X c g (.Compare a [.In] [b] pos) p := we_cmp c_inI hm (h.mono fun _ ⟨i, e1, h2⟩ => h2.mono fun _ ⟨j, e2, q⟩ => ⟨_, in_of e1 e2, q⟩)
theorem tin (h : WE X c g a fun x => ∃ i, x = .d (.int i) ∧ WE X c g b fun y => ∃ ns : List Int, y.items = some (ns.map D.int) ∧ P (decide (i ∈ ns))) (hm : behindInMarks .In b = false := by rfl) : WT X c g (.Compare a [.In] [b] pos) P := wt_cmp c_inI hm (h.mono fun _ ⟨i, e1, h2⟩ => h2.mono fun _ ⟨j, e2, q⟩ => ⟨_, in_of e1 e2, q⟩)
theorem xnin (h : WE X c g a fun x => ∃ i, x = .d (.int i) ∧ WE X c g b fun y => ∃ ns : List Int, y.items = some (ns.map D.int) ∧ p (.d (.bl (!decide (i ∈ ns))))) (hm : behindInMarks .NotIn b = false := by rfl) : WE X c g (.Compare a [.NotIn] [b] pos) p := we_cmp c_ninI hm (h.mono fun _ ⟨i, e1, h2⟩ => h2.mono fun _ ⟨j, e2, q⟩ => ⟨_, ⟨_, in_of e1 e2, rfl⟩, q⟩)
theorem tnin (h : WE X c g a fun x => ∃ i, x = .d (.int i) ∧ WE X c g b fun y => ∃ ns : List Int, y.items = some (ns.map D.int) ∧ P (!decide (i ∈ ns))) (hm : behindInMarks .NotIn b = false := by rfl) : WT X c g (.Compare a [.NotIn] [b] pos) P := wt_cmp c_ninI hm (h.mono fun _ ⟨i, e1, h2⟩ => h2.mono fun _ ⟨j, e2, q⟩ => ⟨_, ⟨_, in_of e1 e2, rfl⟩, q⟩)
theorem hu1 (B : Bx X N sc k) : X.A.units + 1 < cLine := hu_of B.room
theorem hu64 (B : Bx X N sc k) : X.A.units + 64 < cLine := B.room.units
theorem xinK (h : WE X c g a fun x => ∃ i, x = .d (.int i) ∧ WE X c g b fun y => ∃ kvs, y.kvs = some kvs ∧ p (.d (.bl (lookK kvs i).isSome))) (B : Bx X N sc k := by assumption) (hm : behindInMarks .In b = false := by rfl) : WE X c g (.Compare a [.In] [b] pos) p := we_cmp (c_inK (hu1 B)) hm (h.mono fun _ ⟨i, e1, h2⟩ => h2.mono fun _ ⟨j, e2, q⟩ => ⟨_, ⟨i, j, e1, e2, rfl⟩, q⟩)
theorem tinK (h : WE X c g a fun x => ∃ i, x = .d (.int i) ∧ WE X c g b fun y => ∃ kvs, y.kvs = some kvs ∧ P (lookK kvs i).isSome) (B : Bx X N sc k := by assumption) (hm : behindInMarks .In b = false := by rfl) : WT X c g (.Compare a [.In] [b] pos) P := wt_cmp (c_inK (hu1 B)) hm (h.mono fun _ ⟨i, e1, h2⟩ => h2.mono fun _ ⟨j, e2, q⟩ => ⟨_, ⟨i, j, e1, e2, rfl⟩, q⟩)
theorem xninK (h : WE X c g a fun x => ∃ i, x = .d (.int i) ∧ WE X c g b fun y => ∃ kvs, y.kvs = some kvs ∧ p (.d (.bl (!(lookK kvs i).isSome)))) (B : Bx X N sc k := by assumption) (hm : behindInMarks .NotIn b = false := by rfl) : WE X c g (.Compare a [.NotIn] [b] pos) p := we_cmp (c_ninK (hu1 B)) hm (h.mono fun _ ⟨i, e1, h2⟩ => h2.mono fun _ ⟨j, e2, q⟩ => ⟨_, ⟨_, ⟨i, j, e1, e2, rfl⟩, rfl⟩, q⟩)
theorem tninK (h : WE X c g a fun x => ∃ i, x = .d (.int i) ∧ WE X c g b fun y => ∃ kvs, y.kvs = some kvs ∧ P (!(lookK kvs i).isSome)) (B : Bx X N sc k := by assumption) (hm : behindInMarks .NotIn b = false := by rfl) : WT X c g (.Compare a [.NotIn] [b] pos) P := wt_cmp (c_ninK (hu1 B)) hm (h.mono fun _ ⟨i, e1, h2⟩ => h2.mono fun _ ⟨j, e2, q⟩ => ⟨_, ⟨_, ⟨i, j, e1, e2, rfl⟩, rfl⟩, q⟩)
/-! ### data compared -/
theorem xeqN (h : WE X c g a fun x => ∃ ds, x.lds = some ds ∧ WE X c g b fun y => ∃ es, y.lds = some es ∧ es = [] ∧ (∀ d ∈ ds, D.fit 63 d) ∧ p (.d (.bl ds.isEmpty))) (B : Bx X N sc k := by assumption) : WE X c g (.Compare a [.Eq] [b] pos) p := we_cmp (c_eqN (hu64 B)) (nomark _) (h.mono fun _ ⟨ds, e1, h2⟩ => h2.mono fun _ ⟨es, e2, e3, hf, q⟩ => by
  obtain ⟨fr, r1⟩ := lds_lst e1
  obtain ⟨fr2, r2⟩ := lds_lst e2
  subst e3
  exact ⟨_, ⟨fr, ds, fr2, r1, r2, hf, rfl⟩, q⟩)
theorem teqN (h : WE X c g a fun x => ∃ ds, x.lds = some ds ∧ WE X c g b fun y => ∃ es, y.lds = some es ∧ es = [] ∧ (∀ d ∈ ds, D.fit 63 d) ∧ P ds.isEmpty) (B : Bx X N sc k := by assumption) : WT X c g (.Compare a [.Eq] [b] pos) P := wt_cmp (c_eqN (hu64 B)) (nomark _) (h.mono fun _ ⟨ds, e1, h2⟩ => h2.mono fun _ ⟨es, e2, e3, hf, q⟩ => by
  obtain ⟨fr, r1⟩ := lds_lst e1
  obtain ⟨fr2, r2⟩ := lds_lst e2
  subst e3
  exact ⟨_, ⟨fr, ds, fr2, r1, r2, hf, rfl⟩, q⟩)
theorem tneN (h : WE X c g a fun x => ∃ ds, x.lds = some ds ∧ WE X c g b fun y => ∃ es, y.lds = some es ∧ es = [] ∧ (∀ d ∈ ds, D.fit 63 d) ∧ P (!ds.isEmpty)) (B : Bx X N sc k := by assumption) : WT X c g (.Compare a [.NotEq] [b] pos) P := wt_cmp (c_neN (hu64 B)) (nomark _) (h.mono fun _ ⟨ds, e1, h2⟩ => h2.mono fun _ ⟨es, e2, e3, hf, q⟩ => by
  obtain ⟨fr, r1⟩ := lds_lst e1
  obtain ⟨fr2, r2⟩ := lds_lst e2
  subst e3
  exact ⟨_, ⟨fr, ds, fr2, r1, r2, hf, rfl⟩, q⟩)
theorem xneN (h : WE X c g a fun x => ∃ ds, x.lds = some ds ∧ WE X c g b fun y => ∃ es, y.lds = some es ∧ es = [] ∧ (∀ d ∈ ds, D.fit 63 d) ∧ p (.d (.bl (!ds.isEmpty)))) (B : Bx X N sc k := by assumption) : WE X c g (.Compare a [.NotEq] [b] pos) p := we_cmp (c_neN (hu64 B)) (nomark _) (h.mono fun _ ⟨ds, e1, h2⟩ => h2.mono fun _ ⟨es, e2, e3, hf, q⟩ => by
  obtain ⟨fr, r1⟩ := lds_lst e1
  obtain ⟨fr2, r2⟩ := lds_lst e2
  subst e3
  exact ⟨_, ⟨fr, ds, fr2, r1, r2, hf, rfl⟩, q⟩)
/-- t == () -/
theorem xeqT0 (h : WE X c g a fun x => ∃ ds, x = .d (.tup ds) ∧ WE X c g b fun y => y = .d (.tup []) ∧ D.fit 64 (.tup ds) ∧ p (.d (.bl ds.isEmpty))) (B : Bx X N sc k := by assumption) : WE X c g (.Compare a [.Eq] [b] pos) p := we_cmp (c_eqT0 (hu64 B)) (nomark _) (h.mono fun _ ⟨ds, e1, h2⟩ => h2.mono fun _ ⟨e2, hf, q⟩ => ⟨_, ⟨ds, e1, e2, hf, rfl⟩, q⟩)
theorem teqT0 (h : WE X c g a fun x => ∃ ds, x = .d (.tup ds) ∧ WE X c g b fun y => y = .d (.tup []) ∧ D.fit 64 (.tup ds) ∧ P ds.isEmpty) (B : Bx X N sc k := by assumption) : WT X c g (.Compare a [.Eq] [b] pos) P := wt_cmp (c_eqT0 (hu64 B)) (nomark _) (h.mono fun _ ⟨ds, e1, h2⟩ => h2.mono fun _ ⟨e2, hf, q⟩ => ⟨_, ⟨ds, e1, e2, hf, rfl⟩, q⟩)
theorem xeqP (h : WE X c g a fun x => ∃ u, x = .d (prD u) ∧ WE X c g b fun y => ∃ v, y = .d (prD v) ∧ p (.d (.bl (decide (u = v))))) (B : Bx X N sc k := by assumption) : WE X c g (.Compare a [.Eq] [b] pos) p := we_cmp (c_eqP (hu64 B)) (nomark _) (h.mono fun _ ⟨u, e1, h2⟩ => h2.mono fun _ ⟨v, e2, q⟩ => ⟨_, ⟨u, v, e1, e2, rfl⟩, q⟩)
theorem tninP (hu : X.A.units + 65 < cLine) (h : WE X c g a fun x => ∃ u, x = .d (prD u) ∧ WE X c g b fun y => ∃ ps : List (Int × Int), y = .d (.tup (ps.map prD)) ∧ P (!decide (u ∈ ps))) (hm : behindInMarks .NotIn b = false := by rfl) : WT X c g (.Compare a [.NotIn] [b] pos) P := wt_cmp (c_ninP hu) hm (h.mono fun _ ⟨u, e1, h2⟩ => h2.mono fun _ ⟨v, e2, q⟩ => ⟨_, ⟨u, v, e1, e2, rfl⟩, q⟩)
/-! ### chains -/
/-- a <= b <= c -/
theorem xchle (h : WE X c g a fun x => ∃ i, x = .d (.int i) ∧ WE X c g b fun y => ∃ j, y = .d (.int j) ∧ if i ≤ j then WE X c g d fun z => ∃ l, z = .d (.int l) ∧ p (.d (.bl (decide (j ≤ l)))) else p (.d (.bl false))) : WE X c g (.Compare a [.LtE, .LtE] [b, d] pos) p := fun σ H E Q kk => by
  refine we_of (pe_chain op_le op_le pe_w pe_w pe_w (nomark _)) ?_
  refine h σ H E _ fun v H1 x e1 r1 ⟨i, ex, hb⟩ => ?_
  subst ex
  cases is_int r1
  refine hb σ H1 (E.go e1) _ fun u H2 y e2 r2 ⟨j, ey, hc⟩ => ?_
  subst ey
  cases is_int r2
  refine ⟨i, j, rfl, rfl, decide (i ≤ j), rfl, ?_⟩
  by_cases hf : i ≤ j
  · rw [if_pos hf] at hc
    rw [if_pos (decide_eq_true hf)]
    refine hc σ H2 ((E.go e1).go e2) _ fun w H3 z e3 r3 ⟨l, ez, q⟩ => ?_
    subst ez
    cases is_int r3
    exact ⟨j, l, rfl, rfl, kk _ H3 _ ((e1.trans e2).trans e3) (.dd (Is.bl _)) q⟩
  · rw [if_neg hf] at hc
    rw [if_neg (by simp [hf])]
    exact kk _ H2 _ (e1.trans e2) (.dd (Is.bl false)) hc
theorem tchlt (h : WE X c g a fun x => ∃ i, x = .d (.int i) ∧ WE X c g b fun y => ∃ j, y = .d (.int j) ∧ if i < j then WE X c g d fun z => ∃ l, z = .d (.int l) ∧ P (decide (j < l)) else P false) : WT X c g (.Compare a [.Lt, .Lt] [b, d] pos) P := fun σ H E Q kk => by
  refine wt_of (pt_chain op_lt op_lt pe_w pe_w pe_w (nomark _)) ?_
  refine h σ H E _ fun v H1 x e1 r1 ⟨i, ex, hb⟩ => ?_
  subst ex
  cases is_int r1
  refine hb σ H1 (E.go e1) _ fun u H2 y e2 r2 ⟨j, ey, hc⟩ => ?_
  subst ey
  cases is_int r2
  refine ⟨i, j, rfl, rfl, decide (i < j), rfl, ?_⟩
  by_cases hf : i < j
  · rw [if_pos hf] at hc
    rw [if_pos (decide_eq_true hf)]
    refine hc σ H2 ((E.go e1).go e2) _ fun w H3 z e3 r3 ⟨l, ez, q⟩ => ?_
    subst ez
    cases is_int r3
    exact ⟨j, l, rfl, rfl, _, rfl, kk _ H3 ((e1.trans e2).trans e3) q⟩
  · rw [if_neg hf] at hc
    rw [if_neg (by simp [hf])]
    exact ⟨false, rfl, kk _ H2 (e1.trans e2) hc⟩
/-! ### truth -/
theorem xand (h : WE X c g a fun x => ∃ i, x = .d (.bl i) ∧ if i = true then WE X c g (.BoolOp .And (b :: rest) pos) p else p (.d (.bl false))) : WE X c g (.BoolOp .And (a :: b :: rest) pos) p := n_and h
theorem xor_ (h : WE X c g a fun x => ∃ i, x = .d (.bl i) ∧ if i = true then p (.d (.bl true)) else WE X c g (.BoolOp .Or (b :: rest) pos) p) : WE X c g (.BoolOp .Or (a :: b :: rest) pos) p := n_or h
/-! ### subscripts -/
theorem xix (h : WE X c g a fun x => ∃ ds, x = .d (.tup ds) ∧ WE X c g b fun y => ∃ i, y = .d (.int i) ∧ ∃ d, atI ds i = some d ∧ p (.d d)) (hs : PlainIx b := by intro _ _; rfl) : WE X c g (.Subscript a b pos) p := n_ixT (h.mono fun _ ⟨ds, e1, h2⟩ => ⟨ds, e1, h2.mono fun _ ⟨i, e2, d, e3, q⟩ => ⟨i, d, e2, e3, q⟩⟩) hs
theorem xixL (h : WE X c g a fun x => ∃ ds, x.lds = some ds ∧ WE X c g b fun y => ∃ i, y = .d (.int i) ∧ ∃ d, atI ds i = some d ∧ p (.d d)) (hs : PlainIx b := by intro _ _; rfl) : WE X c g (.Subscript a b pos) p := n_ixL (h.mono fun _ ⟨ds, e1, h2⟩ => by
  obtain ⟨fr, e⟩ := lds_lst e1
  exact ⟨fr, ds, e, h2.mono fun _ ⟨i, e2, d, e3, q⟩ => ⟨i, d, e2, e3, q⟩⟩) hs
theorem xixK (h : WE X c g a fun x => ∃ kvs, x.kvs = some kvs ∧ WE X c g b fun y => ∃ i, y = .d (.int i) ∧ ∃ d, lookK kvs i = some d ∧ p (.d d)) (B : Bx X N sc k := by assumption) (hs : NoSl b := by intro _ _; rfl) : WE X c g (.Subscript a b pos) p := n_ixK (hu1 B) (h.mono fun _ ⟨ds, e1, h2⟩ => ⟨ds, e1, h2.mono fun _ ⟨i, e2, d, e3, q⟩ => ⟨i, d, e2, e3, q⟩⟩) hs
theorem po0 {p : Option Int → Prop} (h : p none) : WO X c g none p := h
theorem po1 {p : Option Int → Prop} (h : WE X c g e fun x => ∃ i, x = .d (.int i) ∧ p (some i)) : WO X c g (some e) p := h
theorem xsl {lo hi : Option Expr} (h : WE X c g a fun x => ∃ ds, x = .d (.tup ds) ∧ WO X c g lo fun i => WO X c g hi fun j => p (.d (.tup (cut ds i j)))) : WE X c g (.Subscript a (.Slice lo hi none p2) pos) p := n_slT h
theorem xslL {lo hi : Option Expr} (h : WE X c g a fun x => ∃ ds, x.lds = some ds ∧ WO X c g lo fun i => WO X c g hi fun j => p (.lst true (cut ds i j))) : WE X c g (.Subscript a (.Slice lo hi none p2) pos) p := n_slL (h.mono fun _ ⟨ds, e1, h2⟩ => by
  obtain ⟨fr, e⟩ := lds_lst e1
  exact ⟨fr, ds, e, h2⟩)
theorem xrev {kk : Nat} {q1 q2 q3 : Pos} (h : WE X c g a fun x => ∃ ds, x.lds = some ds ∧ p (.lst true ds.reverse)) : WE X c g (.Subscript a (.Slice none none (some (.UnaryOp .USub (.Constant (.int 1) kk q1) q2)) q3) pos) p := n_revL (h.mono fun _ ⟨ds, e1, h2⟩ => by
  obtain ⟨fr, e⟩ := lds_lst e1
  exact ⟨fr, ds, e, h2⟩)
theorem xcat (h : WE X c g a fun x => ∃ ds, x.lds = some ds ∧ WE X c g b fun y => ∃ es, y.lds = some es ∧ ds.length + es.length ≤ 1000000 ∧ p (.lst true (ds ++ es))) : WE X c g (.BinOp a .Add b pos) p := n_cat (h.mono fun _ ⟨ds, e1, h2⟩ => by
  obtain ⟨fr, e⟩ := lds_lst e1
  refine ⟨fr, ds, e, h2.mono fun _ ⟨es, e2, q⟩ => ?_⟩
  obtain ⟨fr', e'⟩ := lds_lst e2
  exact ⟨fr', es, e', q⟩)
/-! ### built-ins -/
theorem xlen (h : WE X c g a fun r => ∃ ds, r.items = some ds ∧ p (.d (.int (ds.length : Nat)))) (B : Bx X N sc k := by assumption) (M : Nm X.mg := by assumption) (hg : glB sc "len" = true := by decide +kernel) (he : starEach [a] X.env = (false, eval a X.env) :: starEach [] X.env := by rfl) : WE X c g (.Call (.Name "len" pos2) [a] [] pos) p := n_len B M h hg he
theorem xtuple (h : WE X c g a fun r => ∃ ds, r.lds = some ds ∧ p (.d (.tup ds))) (B : Bx X N sc k := by assumption) (M : Nm X.mg := by assumption) (hg : glB sc "tuple" = true := by decide +kernel) (he : starEach [a] X.env = (false, eval a X.env) :: starEach [] X.env := by rfl) : WE X c g (.Call (.Name "tuple" pos2) [a] [] pos) p := n_tuple B M (h.mono fun _ ⟨ds, e1, h2⟩ => by
  obtain ⟨fr, e⟩ := lds_lst e1
  exact ⟨fr, ds, e, h2⟩) hg he
theorem xall (h : WE X c g a fun r => ∃ bs : List Bool, r.lds = some (bs.map D.bl) ∧ p (.d (.bl (bs.all id)))) (B : Bx X N sc k := by assumption) (M : Nm X.mg := by assumption) (hg : glB sc "all" = true := by decide +kernel) (he : starEach [a] X.env = (false, eval a X.env) :: starEach [] X.env := by rfl) : WE X c g (.Call (.Name "all" pos2) [a] [] pos) p := n_all B M (h.mono fun _ ⟨ds, e1, h2⟩ => by
  obtain ⟨fr, e⟩ := lds_lst e1
  exact ⟨fr, ds, e, h2⟩) hg he
theorem xmaxL (h : WE X c g a fun r => ∃ ns : List Int, r.lds = some (ns.map D.int) ∧ 0 < ns.length ∧ ∀ m, m ∈ ns → (∀ y, y ∈ ns → y ≤ m) → p (.d (.int m))) (B : Bx X N sc k := by assumption) (M : Nm X.mg := by assumption) (hg : glB sc "max" = true := by decide +kernel) (he : starEach [a] X.env = (false, eval a X.env) :: starEach [] X.env := by rfl) : WE X c g (.Call (.Name "max" pos2) [a] [] pos) p := n_maxL B M (h.mono fun _ ⟨ds, e1, h2⟩ => by
  obtain ⟨fr, e⟩ := lds_lst e1
  exact ⟨fr, ds, e, h2⟩) hg he
theorem xminL (h : WE X c g a fun r => ∃ ns : List Int, r.lds = some (ns.map D.int) ∧ 0 < ns.length ∧ ∀ m, m ∈ ns → (∀ y, y ∈ ns → m ≤ y) → p (.d (.int m))) (B : Bx X N sc k := by assumption) (M : Nm X.mg := by assumption) (hg : glB sc "min" = true := by decide +kernel) (he : starEach [a] X.env = (false, eval a X.env) :: starEach [] X.env := by rfl) : WE X c g (.Call (.Name "min" pos2) [a] [] pos) p := n_minL B M (h.mono fun _ ⟨ds, e1, h2⟩ => by
  obtain ⟨fr, e⟩ := lds_lst e1
  exact ⟨fr, ds, e, h2⟩) hg he
theorem xsortI (h : WE X c g a fun r => ∃ ns : List Int, r.lds = some (ns.map D.int) ∧ ∀ ns' : List Int, ns'.Perm ns → ns'.Pairwise (· ≤ ·) → p (.lst true (ns'.map D.int))) (B : Bx X N sc k := by assumption) (M : Nm X.mg := by assumption) (hg : glB sc "sorted" = true := by decide +kernel) (he : starEach [a] X.env = (false, eval a X.env) :: starEach [] X.env := by rfl) : WE X c g (.Call (.Name "sorted" pos2) [a] [] pos) p := n_sortI B M (h.mono fun _ ⟨ds, e1, h2⟩ => by
  obtain ⟨fr, e⟩ := lds_lst e1
  exact ⟨fr, ds, e, h2⟩) hg he
theorem xmin2 (h : WE X c g a fun x => ∃ i, x = .d (.int i) ∧ WE X c g b fun y => ∃ j, y = .d (.int j) ∧ p (.d (.int (if j < i then j else i)))) (B : Bx X N sc k := by assumption) (M : Nm X.mg := by assumption) (hg : glB sc "min" = true := by decide +kernel) (he : starEach [a, b] X.env = (false, eval a X.env) :: starEach [b] X.env := by rfl) (he2 : starEach [b] X.env = (false, eval b X.env) :: starEach [] X.env := by rfl)
    (hpl : (backTo pos (starEach [b] X.env)).any (·.1) = false := by rfl) : WE X c g (.Call (.Name "min" pos2) [a, b] [] pos) p := n_min2 B M h hg he he2 hpl
theorem xmax2 (h : WE X c g a fun x => ∃ i, x = .d (.int i) ∧ WE X c g b fun y => ∃ j, y = .d (.int j) ∧ p (.d (.int (if j > i then j else i)))) (B : Bx X N sc k := by assumption) (M : Nm X.mg := by assumption) (hg : glB sc "max" = true := by decide +kernel) (he : starEach [a, b] X.env = (false, eval a X.env) :: starEach [b] X.env := by rfl) (he2 : starEach [b] X.env = (false, eval b X.env) :: starEach [] X.env := by rfl)
    (hpl : (backTo pos (starEach [b] X.env)).any (·.1) = false := by rfl) : WE X c g (.Call (.Name "max" pos2) [a, b] [] pos) p := n_max2 B M h hg he he2 hpl
theorem xint (h : WE X c g a fun r => ∃ i, r = .d (.bl i) ∧ p (.d (.int (if i then 1 else 0)))) (B : Bx X N sc k := by assumption) (M : Nm X.mg := by assumption) (hg : glB sc "int" = true := by decide +kernel) (he : starEach [a] X.env = (false, eval a X.env) :: starEach [] X.env := by rfl) : WE X c g (.Call (.Name "int" pos2) [a] [] pos) p := n_intB B M h hg he
theorem xisInt (h : WE X c g a fun r => ∃ d, r = .d d ∧ p (.d (.bl (isIntD d)))) (B : Bx X N sc k := by assumption) (M : Nm X.mg := by assumption) (hg2 : glB sc "int" = true := by decide +kernel) (hg : glB sc "isinstance" = true := by decide +kernel) (he : starEach [a, .Name "int" p3] X.env = (false, eval a X.env) :: starEach [.Name "int" p3] X.env := by rfl) : WE X c g (.Call (.Name "isinstance" pos2) [a, .Name "int" p3] [] pos) p := n_isi B kit_int M.int (by decide +kernel) hg2 M.isinstance h hg (by decide) (by decide) he
theorem xisBool (h : WE X c g a fun r => ∃ d, r = .d d ∧ p (.d (.bl (isBlD d)))) (B : Bx X N sc k := by assumption) (M : Nm X.mg := by assumption) (hg2 : glB sc "bool" = true := by decide +kernel) (hg : glB sc "isinstance" = true := by decide +kernel) (he : starEach [a, .Name "bool" p3] X.env = (false, eval a X.env) :: starEach [.Name "bool" p3] X.env := by rfl) : WE X c g (.Call (.Name "isinstance" pos2) [a, .Name "bool" p3] [] pos) p := n_isi B kit_bool M.bool (by decide +kernel) hg2 M.isinstance h hg (by decide) (by decide) he
theorem xisTup (h : WE X c g a fun r => ∃ d, r = .d d ∧ p (.d (.bl (isTupD d)))) (B : Bx X N sc k := by assumption) (M : Nm X.mg := by assumption) (hg2 : glB sc "tuple" = true := by decide +kernel) (hg : glB sc "isinstance" = true := by decide +kernel) (he : starEach [a, .Name "tuple" p3] X.env = (false, eval a X.env) :: starEach [.Name "tuple" p3] X.env := by rfl) : WE X c g (.Call (.Name "isinstance" pos2) [a, .Name "tuple" p3] [] pos) p := n_isi B kit_tuple M.tuple (by decide +kernel) hg2 M.isinstance h hg (by decide) (by decide) he
theorem xisStr (h : WE X c g a fun r => ∃ d, r = .d d ∧ p (.d (.bl (isStrD d)))) (B : Bx X N sc k := by assumption) (M : Nm X.mg := by assumption) (hg2 : glB sc "str" = true := by decide +kernel) (hg : glB sc "isinstance" = true := by decide +kernel) (he : starEach [a, .Name "str" p3] X.env = (false, eval a X.env) :: starEach [.Name "str" p3] X.env := by rfl) : WE X c g (.Call (.Name "isinstance" pos2) [a, .Name "str" p3] [] pos) p := n_isi B kit_str M.str (by decide +kernel) hg2 M.isinstance h hg (by decide) (by decide) he
theorem xcall {f : Ph} (F : Callee X.prog X.w X.K X.mg X.base x j f) (h : WA X c g (e :: es) fun rs => f (rs.map Rs.old) p) (B : Bx X N sc k := by assumption) (hj : j ≤ k := by decide) (hg : glB sc x = true := by decide +kernel)
    (hdb : (x == ("__debug__" : Str)) = false := by decide) (he : starEach (e :: es) X.env = (false, eval e X.env) :: starEach es X.env := by rfl) (hpl : (backTo pos (starEach es X.env)).any (·.1) = false := by rfl) :
    WE X c g (.Call (.Name x pos2) (e :: es) [] pos) p := n_call B F hj hg h hdb he hpl
/-! ### statements -/
variable {N' : Ks} {s : Stmt} {ss ss2 body : List Stmt} {iter tg : Expr}
theorem sset (i : Nat) (h : WE X c g e fun r => ∃ S, r.sl = some S ∧ N'.nx (g.set i (some S))) (B : Bd X N sc k := by assumption) (hN : N[i]? = some x := by rfl) (hl : locB sc x = true := by decide +kernel)
    (hs : swapsWith e (some (.Name x pos2)) pos.line X.env = pure false := by rfl) : WS X c g (.Assign [.Name x pos2] e pos) N' := s_set i B hN hl h hs
theorem sretV (i : Nat) {S : Sl} (h : N'.rt S.gone) (B : Bd X N sc k := by assumption) (hN : N[i]? = some x := by rfl) (hG : g[i]? = some (some S) := by rfl) (hv : visB sc x = true := by decide +kernel) (hd : (x == ("__debug__" : Str)) = false := by decide) (hcd : (x == ("__classdict__" : Str)) = false := by decide) : WS X c g (.Return (some (.Name x pos2)) pos) N' := s_retV i B hN hv hG h hd hcd
theorem sif {a : Expr} (h : WT X c g a fun i => if i = true then WSs X c g ss N' else WSs X c g ss2 N') : WS X c g (.If a ss ss2 pos) N' := s_if h
/-- a statement, then the rest from what is known between them -/
theorem smid (Mid : G → Prop) (h : WS X c g s ⟨Mid, N'.rt, N'.bk, N'.ct⟩) (h2 : ∀ g', Mid g' → WSs X c g' ss N') : WSs X c g (s :: ss) N' := s_cons (h.mono (fun g' m => h2 g' m) (fun _ z => z) (fun _ z => z) (fun _ z => z))
theorem sapp (i : Nat) {ds : List D} {apos npos cpos : Pos} (hz : ds.length < 1000000) (h : WE X c g e fun r => ∃ d, r = .d d ∧ N'.nx (g.set i (some (.own (ds ++ [d]))))) (B : Bd X N sc k := by assumption) (hN : N[i]? = some x := by rfl) (hG : g[i]? = some (some (.own ds)) := by rfl) (hv : visB sc x = true := by decide +kernel)
    (hd : (x == ("__debug__" : Str)) = false := by decide) (hcd : (x == ("__classdict__" : Str)) = false := by decide)
    (hbase : attributeBase (.Name x npos) "append" X.env (eval (.Name x npos) X.env) = eval (.Name x npos) X.env := by rfl)
    (hfew : ((backTo cpos (starEach [e] X.env)).all (fun x => !x.1) && (backToKw cpos (keywordEach [] X.env)).all (fun x => x.1.isSome) && decide (([e] : List Expr).length + ([] : List Keyword).length + (if ([] : List Keyword).isEmpty then 0 else 1) < 30)) = true := by rfl)
    (hline : (apos.endLine == cpos.line) = true := by rfl) (hs : starEach [e] X.env = (false, eval e X.env) :: starEach [] X.env := by rfl) :
    WS X c g (.Expr (.Call (.Attribute (.Name x npos) "append" apos) [e] [] cpos) pos) N' := s_app i B hN hv hG hz h hd hcd hbase hfew hline hs
end
end TW

/-! TWS: comprehensions and loops over lists that are known. -/
namespace TW
open PySem PySem.Spec PyProof.Rows L2
section
variable {X : Cx} {c : Cf} {g : G} {sc scope : Scope} {N : List Str} {k : Nat} {elt iter e a b : Expr} {ifs : List Expr} {p : Rs → Prop} {pos px py pt : Pos} {x y : Str} {kk : Nat} {α : Type}
theorem split_at {l : List α} {n : Nat} {a : α} (h : l[n]? = some a) : l = l.take n ++ a :: l.drop (n + 1) := by
  obtain ⟨hn, e⟩ := List.getElem?_eq_some_iff.mp h
  rw [← e]
  simp
theorem take_succ' {l : List α} {n : Nat} {a : α} (h : l[n]? = some a) : l.take (n + 1) = l.take n ++ [a] := by
  rw [List.take_add_one, h]
  rfl
/-- what the block of a comprehension knows -/
def Blks (X : Cx) (scope sc : Scope) (N : List Str) (k : Nat) (q : Cx → Prop) : Prop := ∀ X', Blk X scope X' → Bx X' N (relS scope sc) k → q X'
/-- [elt for x in l if ..] -/
theorem xlc1 (i : Nat) (enc : α → D) (ok : α → Bool) (out : α → D) (h : WI X c g false (.Name x px) iter fun ds => ∃ l : List α, ds = l.map enc ∧ l.length ≤ 1000000 ∧
      (∀ a, a ∈ l → ∃ S, enc a = S ∧ (Blks X scope sc N k fun X' => WF X' c ((g.set i none).set i (some (.d S))) ifs (fun b => b = ok a)) ∧ (ok a = true → Blks X scope sc N k fun X' => WE X' c ((g.set i none).set i (some (.d S))) elt fun r => r = .d (out a))) ∧ p (.lst true ((l.filter ok).map out)))
    (B : Bx X N sc k := by assumption) (hN : N[i]? = some x := by rfl) (hblk : blkC N sc scope [(x, i)] = true := by decide +kernel) (hl : lclB (relS scope sc) x = true := by decide +kernel)
    (hs : ∀ x, foldedSetIterable iter X.env x = pure x := by intro _; rfl) : WE X c g (.ListComp elt [⟨.Name x px, iter, ifs, 0⟩] scope pos) p := by
  refine n_lc (f := fN i) (is := [i]) B hblk (fun X' hb => pg_nmC i (hb.bx B) hN hl) (tgs_name i) (by simp) ?_ hs
  intro σ H E R kk
  refine h σ H E R fun J H' ds e1 src ⟨l, el, hlen, turn, fin⟩ => kk J H' ds e1 src ?_
  subst el
  refine ⟨fun n acc => acc = ((l.take n).filter ok).map out, rfl, fun n d acc hd pv hal => ?_, by simpa using hlen, fun acc _ pv => ?_⟩
  · rw [List.getElem?_map, Option.map_eq_some_iff] at hd
    obtain ⟨a, ha, rfl⟩ := hd
    refine ⟨_, rfl, fun X' hb => ?_⟩
    obtain ⟨S, eS, tn, hh⟩ := turn a (List.mem_of_getElem? ha)
    subst eS
    have q := tn X' hb (hb.bx B)
    subst pv
    have goal : ∀ b, b = ok a →
        (if b = true then ∀ X', Blk X scope X' → WE X' c ((g.set i none).set i (some (.d (enc a)))) elt fun r => ∃ y, r = .d y ∧ ((l.take n).filter ok).map out ++ [y] = ((l.take (n + 1)).filter ok).map out else ((l.take n).filter ok).map out = ((l.take (n + 1)).filter ok).map out) := by
      intro b eb
      cases b with
      | true =>
        simp only [if_true]
        intro X2 hb2
        refine (hh eb.symm X2 hb2 (hb2.bx B)).mono fun r er => ⟨_, er, ?_⟩
        rw [take_succ' ha, List.filter_append, List.map_append]
        simp [← eb]
      | false =>
        simp only [Bool.false_eq_true, if_false]
        rw [take_succ' ha, List.filter_append, List.map_append]
        simp [← eb]
    match ifs, q with
    | [], q => exact goal true q
    | [e], q => exact WT.mono (p := _) q goal
  · subst pv
    rw [show (l.map enc).length = l.length by simp, List.take_length]
    exact fin
/-- [elt for x, y in l if ..] -/
theorem xlc2 (i j : Nat) (enc1 enc2 : α → D) (ok : α → Bool) (out : α → D) (h : WI X c g false (.Tuple [.Name x px, .Name y py] kk pt) iter fun ds => ∃ l : List α, ds = (l.map fun a => .tup [enc1 a, enc2 a]) ∧ l.length ≤ 1000000 ∧
      (∀ a, a ∈ l → ∃ S T, enc1 a = S ∧ enc2 a = T ∧ (Blks X scope sc N k fun X' => WF X' c ((((g.set j none).set i none).set i (some (.d S))).set j (some (.d T))) ifs (fun b => b = ok a)) ∧ (ok a = true → Blks X scope sc N k fun X' => WE X' c ((((g.set j none).set i none).set i (some (.d S))).set j (some (.d T))) elt fun r => r = .d (out a))) ∧ p (.lst true ((l.filter ok).map out)))
    (B : Bx X N sc k := by assumption) (hN : N[i]? = some x := by rfl) (hN2 : N[j]? = some y := by rfl) (hblk : blkC N sc scope [(x, i), (y, j)] = true := by decide +kernel) (hl : lclB (relS scope sc) x = true := by decide +kernel) (hl2 : lclB (relS scope sc) y = true := by decide +kernel)
    (hs : ∀ x, foldedSetIterable iter X.env x = pure x := by intro _; rfl) : WE X c g (.ListComp elt [⟨.Tuple [.Name x px, .Name y py] kk pt, iter, ifs, 0⟩] scope pos) p := by
  refine n_lc (f := fP i j) (is := [i, j]) B hblk (fun X' hb => by
    have q := pg_prC (p1 := px) (p2 := py) (p3 := pt) (kk := kk) i j (hb.bx B) hN hl hN2 hl2
    obtain ⟨_, _, _, _, _, rfl⟩ := id hb
    exact q) (tgs_pair i j) (by simp) ?_ hs
  intro σ H E R kk
  refine h σ H E R fun J H' ds e1 src ⟨l, el, hlen, turn, fin⟩ => kk J H' ds e1 src ?_
  subst el
  refine ⟨fun n acc => acc = ((l.take n).filter ok).map out, rfl, fun n d acc hd pv hal => ?_, by simpa using hlen, fun acc _ pv => ?_⟩
  · rw [List.getElem?_map, Option.map_eq_some_iff] at hd
    obtain ⟨a, ha, rfl⟩ := hd
    refine ⟨_, rfl, fun X' hb => ?_⟩
    obtain ⟨S, T, eS, eT, tn, hh⟩ := turn a (List.mem_of_getElem? ha)
    subst eS eT
    have q := tn X' hb (hb.bx B)
    subst pv
    have goal : ∀ b, b = ok a →
        (if b = true then ∀ X', Blk X scope X' → WE X' c ((((g.set j none).set i none).set i (some (.d (enc1 a)))).set j (some (.d (enc2 a)))) elt fun r => ∃ y, r = .d y ∧ ((l.take n).filter ok).map out ++ [y] = ((l.take (n + 1)).filter ok).map out else ((l.take n).filter ok).map out = ((l.take (n + 1)).filter ok).map out) := by
      intro b eb
      cases b with
      | true =>
        simp only [if_true]
        intro X2 hb2
        refine (hh eb.symm X2 hb2 (hb2.bx B)).mono fun r er => ⟨_, er, ?_⟩
        rw [take_succ' ha, List.filter_append, List.map_append]
        simp [← eb]
      | false =>
        simp only [Bool.false_eq_true, if_false]
        rw [take_succ' ha, List.filter_append, List.map_append]
        simp [← eb]
    match ifs, q with
    | [], q => exact goal true q
    | [e], q => exact WT.mono (p := _) q goal
  · subst pv
    rw [show (l.map fun a => D.tup [enc1 a, enc2 a]).length = l.length by simp, List.take_length]
    exact fin
theorem filt_tt (l : List α) : (l.filter fun _ => true) = l := by simp
/-- the same, without a test -/
theorem xlc1m (i : Nat) (enc : α → D) (out : α → D) (h : WI X c g false (.Name x px) iter fun ds => ∃ l : List α, ds = l.map enc ∧ l.length ≤ 1000000 ∧
      (∀ a, a ∈ l → ∃ S, enc a = S ∧ Blks X scope sc N k fun X' => WE X' c ((g.set i none).set i (some (.d S))) elt fun r => r = .d (out a)) ∧ p (.lst true (l.map out)))
    (B : Bx X N sc k := by assumption) (hN : N[i]? = some x := by rfl) (hblk : blkC N sc scope [(x, i)] = true := by decide +kernel) (hl : lclB (relS scope sc) x = true := by decide +kernel)
    (hs : ∀ x, foldedSetIterable iter X.env x = pure x := by intro _; rfl) : WE X c g (.ListComp elt [⟨.Name x px, iter, [], 0⟩] scope pos) p := by
  refine xlc1 i enc (fun _ => true) out ?_ B hN hblk hl hs
  intro σ H E R kk
  refine h σ H E R fun J H' ds e1 src ⟨l, el, hlen, turn, fin⟩ => kk J H' ds e1 src ⟨l, el, hlen, fun a ha => ?_, ?_⟩
  · obtain ⟨S, eS, q⟩ := turn a ha
    exact ⟨S, eS, fun X' hb hB => rfl, fun _ => q⟩
  · rw [filt_tt]
    exact fin
theorem xlc2m (i j : Nat) (enc1 enc2 : α → D) (out : α → D) (h : WI X c g false (.Tuple [.Name x px, .Name y py] kk pt) iter fun ds => ∃ l : List α, ds = (l.map fun a => .tup [enc1 a, enc2 a]) ∧ l.length ≤ 1000000 ∧
      (∀ a, a ∈ l → ∃ S T, enc1 a = S ∧ enc2 a = T ∧ Blks X scope sc N k fun X' => WE X' c ((((g.set j none).set i none).set i (some (.d S))).set j (some (.d T))) elt fun r => r = .d (out a)) ∧ p (.lst true (l.map out)))
    (B : Bx X N sc k := by assumption) (hN : N[i]? = some x := by rfl) (hN2 : N[j]? = some y := by rfl) (hblk : blkC N sc scope [(x, i), (y, j)] = true := by decide +kernel) (hl : lclB (relS scope sc) x = true := by decide +kernel) (hl2 : lclB (relS scope sc) y = true := by decide +kernel)
    (hs : ∀ x, foldedSetIterable iter X.env x = pure x := by intro _; rfl) : WE X c g (.ListComp elt [⟨.Tuple [.Name x px, .Name y py] kk pt, iter, [], 0⟩] scope pos) p := by
  refine xlc2 i j enc1 enc2 (fun _ => true) out ?_ B hN hN2 hblk hl hl2 hs
  intro σ H E R kk
  refine h σ H E R fun J H' ds e1 src ⟨l, el, hlen, turn, fin⟩ => kk J H' ds e1 src ⟨l, el, hlen, fun a ha => ?_, ?_⟩
  · obtain ⟨S, T, eS, eT, q⟩ := turn a ha
    exact ⟨S, T, eS, eT, fun X' hb hB => rfl, fun _ => q⟩
  · rw [filt_tt]
    exact fin
/-! ### y = [..] on one line -/
theorem slc1 {N' : Ks} {spos : Pos} {y : Str} {py : Pos} (m i : Nat) (enc : α → D) (ok : α → Bool) (out : α → D) (h : WI X c g false (.Name x px) iter fun ds => ∃ l : List α, ds = l.map enc ∧ l.length ≤ 1000000 ∧
      (∀ a, a ∈ l → ∃ S, enc a = S ∧ (Blks X scope sc N k fun X' => WF X' c ((g.set i none).set i (some (.d S))) ifs (fun b => b = ok a)) ∧ (ok a = true → Blks X scope sc N k fun X' => WE X' c ((g.set i none).set i (some (.d S))) elt fun r => r = .d (out a))) ∧ N'.nx (g.set m (some (.own ((l.filter ok).map out)))))
    (B : Bd X N sc k := by assumption) (hNy : N[m]? = some y := by rfl) (hyl : sc.names.lookup y = some .local := by decide +kernel) (hln : (py.line == pos.line) = true := by decide +kernel) (hany : (scope.names.any fun (n, k) => n == y && (k == .local || k == .cell)) = false := by decide +kernel)
    (hN : N[i]? = some x := by rfl) (hblk : blkC N sc scope [(x, i)] = true := by decide +kernel) (hl : lclB (relS scope sc) x = true := by decide +kernel) (hkd : sc.kind = .function := by rfl)
    (hs : ∀ x, foldedSetIterable iter X.env x = pure x := by intro _; rfl) : WS X c g (.Assign [.Name y py] (.ListComp elt [⟨.Name x px, iter, ifs, 0⟩] scope pos) spos) N' := by
  refine s_setLc (f := fN i) (is := [i]) B hNy hyl hln hany hblk (fun X' hb => pg_nmC i (hb.bx B.toBx) hN hl) (tgs_name i) (by simp) ?_ hkd hs
  intro σ H E R kk
  refine h σ H E R fun J H' ds e1 src ⟨l, el, hlen, turn, fin⟩ => kk J H' ds e1 src ?_
  subst el
  refine ⟨fun n acc => acc = ((l.take n).filter ok).map out, rfl, fun n d acc hd pv hal => ?_, by simpa using hlen, fun acc _ pv => ?_⟩
  · rw [List.getElem?_map, Option.map_eq_some_iff] at hd
    obtain ⟨a, ha, rfl⟩ := hd
    refine ⟨_, rfl, fun X' hb => ?_⟩
    obtain ⟨S, eS, tn, hh⟩ := turn a (List.mem_of_getElem? ha)
    subst eS
    have q := tn X' hb (hb.bx B.toBx)
    subst pv
    have goal : ∀ b, b = ok a →
        (if b = true then ∀ X', Blk X scope X' → WE X' c ((g.set i none).set i (some (.d (enc a)))) elt fun r => ∃ y, r = .d y ∧ ((l.take n).filter ok).map out ++ [y] = ((l.take (n + 1)).filter ok).map out else ((l.take n).filter ok).map out = ((l.take (n + 1)).filter ok).map out) := by
      intro b eb
      cases b with
      | true =>
        simp only [if_true]
        intro X2 hb2
        refine (hh eb.symm X2 hb2 (hb2.bx B.toBx)).mono fun r er => ⟨_, er, ?_⟩
        rw [take_succ' ha, List.filter_append, List.map_append]
        simp [← eb]
      | false =>
        simp only [Bool.false_eq_true, if_false]
        rw [take_succ' ha, List.filter_append, List.map_append]
        simp [← eb]
    match ifs, q with
    | [], q => exact goal true q
    | [e], q => exact WT.mono (p := _) q goal
  · subst pv
    rw [show (l.map enc).length = l.length by simp, List.take_length]
    exact fin
/-! ### loops -/
variable {N' : Ks} {body : List Stmt}
/-- for x in l -/
theorem sfor1 (i : Nat) (enc : α → D) (h : WI X c g true (.Name x px) iter fun ds => ∃ (l : List α) (J : List α → G → Prop), ds = l.map enc ∧ J [] g ∧
      (∀ pre a post g1, l = pre ++ a :: post → J pre g1 → ∀ c' : Cf, c'.st = c.st → WSs X c' (g1.set i (some (.d (enc a)))) body ⟨J (pre ++ [a]), N'.rt, N'.nx, J (pre ++ [a])⟩) ∧ ∀ g1, J l g1 → N'.nx g1)
    (B : Bd X N sc k := by assumption) (hN : N[i]? = some x := by rfl) (hl : locB sc x = true := by decide +kernel) (hf : ∀ x, foldedSetIterable iter X.env x = pure x := by intro _; rfl) :
    WS X c g (.For (.Name x px) iter body [] pos) N' := by
  refine s_for (f := fN i) (is := [i]) B.toBx (pg_nm i B hN hl) (tgs_name i) ?_ hf
  intro σ H E R kk
  refine h σ H E R fun I H' ds e1 src ⟨l, J, el, j0, turn, fin⟩ => kk I H' ds e1 src ?_
  subst el
  refine ⟨fun n g1 => J (l.take n) g1, j0, fun n d g1 hd hj => ?_, fun g1 hj => ?_⟩
  · rw [List.getElem?_map, Option.map_eq_some_iff] at hd
    obtain ⟨a, ha, rfl⟩ := hd
    refine ⟨_, rfl, fun c' ec => ?_⟩
    have q := turn _ a _ g1 (split_at ha) hj c' ec
    rw [← take_succ' ha] at q
    exact q
  · refine fin g1 ?_
    rw [List.length_map, List.take_length] at hj
    exact hj
/-- for x, y in l -/
theorem sfor2 (i j : Nat) (enc1 enc2 : α → D) (h : WI X c g true (.Tuple [.Name x px, .Name y py] kk pt) iter fun ds => ∃ (l : List α) (J : List α → G → Prop), ds = (l.map fun a => .tup [enc1 a, enc2 a]) ∧ J [] g ∧
      (∀ pre a post g1, l = pre ++ a :: post → J pre g1 → ∀ c' : Cf, c'.st = c.st → WSs X c' ((g1.set i (some (.d (enc1 a)))).set j (some (.d (enc2 a)))) body ⟨J (pre ++ [a]), N'.rt, N'.nx, J (pre ++ [a])⟩) ∧ ∀ g1, J l g1 → N'.nx g1)
    (B : Bd X N sc k := by assumption) (hN : N[i]? = some x := by rfl) (hN2 : N[j]? = some y := by rfl) (hl : locB sc x = true := by decide +kernel) (hl2 : locB sc y = true := by decide +kernel) (hf : ∀ x, foldedSetIterable iter X.env x = pure x := by intro _; rfl) :
    WS X c g (.For (.Tuple [.Name x px, .Name y py] kk pt) iter body [] pos) N' := by
  refine s_for (f := fP i j) (is := [i, j]) B.toBx (pg_pr i j B hN hl hN2 hl2) (tgs_pair i j) ?_ hf
  intro σ H E R kk
  refine h σ H E R fun I H' ds e1 src ⟨l, J, el, j0, turn, fin⟩ => kk I H' ds e1 src ?_
  subst el
  refine ⟨fun n g1 => J (l.take n) g1, j0, fun n d g1 hd hj => ?_, fun g1 hj => ?_⟩
  · rw [List.getElem?_map, Option.map_eq_some_iff] at hd
    obtain ⟨a, ha, rfl⟩ := hd
    refine ⟨_, rfl, fun c' ec => ?_⟩
    have q := turn _ a _ g1 (split_at ha) hj c' ec
    rw [← take_succ' ha] at q
    exact q
  · refine fin g1 ?_
    rw [List.length_map, List.take_length] at hj
    exact hj
/-! ### sources -/
variable {tg : Expr} {lp : Bool} {P : List D → Prop} {pos2 : Pos}
theorem qtup (h : WE X c g e fun r => ∃ ds, r = .d (.tup ds) ∧ P ds) : WI X c g lp tg e P := src_tup h
theorem qlst (h : WE X c g e fun r => ∃ ds, r.lds = some ds ∧ P ds) : WI X c g false tg e P := src_lst (h.mono fun _ ⟨ds, e1, q⟩ => by
  obtain ⟨fr, e⟩ := lds_lst e1
  exact ⟨fr, ds, e, q⟩)
theorem qnew (h : WE X c g e fun r => ∃ ds, r = .lst true ds ∧ P ds) : WI X c g lp tg e P := src_new h
theorem qro (i : Nat) {ds : List D} (h : P ds) (B : Bx X N sc k := by assumption) (hN : N[i]? = some x := by rfl) (hG : g[i]? = some (some (.ro ds)) := by rfl) (hv : visB sc x = true := by decide +kernel)
    (hd : (x == ("__debug__" : Str)) = false := by decide) (hcd : (x == ("__classdict__" : Str)) = false := by decide) : WI X c g lp tg (.Name x pos) P := src_ro i B hN hv hG h hd hcd
theorem qrange (h : WE X c g e fun r => ∃ n : Nat, r = .d (.int n) ∧ n ≤ 1000000 ∧ P (rngD 0 n)) (B : Bx X N sc k := by assumption) (M : Nm X.mg := by assumption) (hg : glB sc "range" = true := by decide +kernel) (hs : starEach [e] X.env = [(false, eval e X.env)] := by rfl) : WI X c g lp tg (.Call (.Name "range" pos2) [e] [] pos) P := src_range1 B M h hg hs
theorem qrange2 (h : WE X c g a fun r => ∃ i : Int, r = .d (.int i) ∧ WE X c g b fun r' => ∃ j : Int, r' = .d (.int j) ∧ -1000000 ≤ i ∧ i ≤ 1000000 ∧ -1000000 ≤ j ∧ j ≤ 1000000 ∧ P (rngD i (j - i).toNat)) (B : Bx X N sc k := by assumption) (M : Nm X.mg := by assumption) (hg : glB sc "range" = true := by decide +kernel)
    (hs : starEach [a, b] X.env = [(false, eval a X.env), (false, eval b X.env)] := by rfl) (hs2 : starEach [b] X.env = [(false, eval b X.env)] := by rfl) (hs3 : starEach [a, b] X.env = (false, eval a X.env) :: starEach [b] X.env := by rfl) : WI X c g lp tg (.Call (.Name "range" pos2) [a, b] [] pos) P := src_range2 B M h hg hs hs2 hs3
end
theorem at_map {α : Type} {f : α → D} {l : List α} {n : Nat} {a : α} (h : l[n]? = some a) : atI (l.map f) (n : Int) = some (f a) := by
  obtain ⟨hn, e⟩ := List.getElem?_eq_some_iff.mp h
  unfold atI ixN
  rw [List.length_map, if_pos (by omega), if_pos (by omega)]
  simp only [Int.toNat_natCast, Option.bind_some, List.getElem?_map, h, Option.map_some]
theorem at_mapI {α : Type} {f : α → D} {l : List α} {i : Int} {a : α} (h0 : 0 ≤ i) (h : l[i.toNat]? = some a) : atI (l.map f) i = some (f a) := by
  have := at_map (f := f) h
  rw [Int.toNat_of_nonneg h0] at this
  exact this
theorem at_last {α : Type} {f : α → D} {l : List α} {a : α} (h : l.getLast? = some a) : atI (l.map f) (-1) = some (f a) := by
  rw [List.getLast?_eq_getElem?] at h
  obtain ⟨hn, e⟩ := List.getElem?_eq_some_iff.mp h
  unfold atI ixN
  rw [List.length_map, if_neg (by omega), if_pos (by omega)]
  have : ((-1 : Int) + (l.length : Int)).toNat = l.length - 1 := by omega
  simp only [this, Option.bind_some, List.getElem?_map, h, Option.map_some]
end TW

/-! TK1: t[::-1], xs.extend(t), t.index(i). -/
namespace TW
open PySem PySem.Spec PyProof.Rows L2
/-! ### the library's level: xs.extend(t) of any tuple -/
end TW
namespace PySem
open Sem (wp)
open AutoSeq1 (wpAny_loadPart')
open MeetsSeq MeetsSeq2 MeetsSeq3 SeqRoads2
theorem tw_extend_tuple (l : Addr) (items : Array Value) (n : Nat) (b : Addr) (items2 : Array Value) (n2 : Nat) (dd : Option Addr) (sl : Array (Option Value)) (hs0 : ¬(!items.isEmpty && Builtin.List.listTooLong (items.size + items2.size)) = true) (hs1 : items.size ≤ sizeLine) (hs2 : items.size + items2.size ≤ sizeLine + 1) :
    Meets (Builtin.«list.extend» ⟨[.ref l, .ref b], []⟩) (fun _ R s => s.heap.get? l = some { cls := .type "list", dict := none, data := .seq items n, slots := #[] } ∧ s.heap.get? b = some { cls := .type "tuple", dict := dd, data := .seq items2 n2, slots := sl } ∧ R (.ok (.ret Value.none)) { s with heap := s.heap.update l (Obj.mapSeq fun x => x ++ items2), toks := s.toks }) :=
  .of_wp fun prog w A R s h => by
    obtain ⟨hp, g, d, tk, os⟩ := s; obtain ⟨hl, hb, h⟩ := h; have f1 := AutoSeq1.idx_int; have f2 := AutoSeq1.sub_tuple_tuple; have f3 := AutoSeq1.sub_list_list; have f4 := AutoSeq1.sub_tuple_list; have f5 := AutoSeq1.sub_list_tuple;
    have hz' : (items ++ items2).size ≤ sizeLine + 1 := by rw [Array.size_append]; exact hs2
    wp_walk using (wpAny_updateSeq hl rfl (hz := hs1) (_hz' := hz')), wpAny_loadPart' hl, wpAny_loadPart' hb; exact ⟨_, rfl, h⟩
end PySem
namespace TW
open PySem PySem.Spec PyProof.Rows L2
/-! ### t[::-1] of a tuple -/
section
variable {prog : Program} {w : World} {A : Around} {E : Value → Shared → Prop} {s : Shared}
theorem places_rev (n : Nat) : Builtin.Slice.slicePlaces ((n : Int) - 1) (-1) (-1) = n := by
  unfold Builtin.Slice.slicePlaces
  have h1 : ¬ ((-1 : Int) > 0) := by omega
  rw [if_neg h1]
  by_cases h : (n : Int) - 1 > -1
  · rw [if_pos h]
    have e : -(-1 : Int) = 1 := rfl
    rw [e, Int.ediv_one]
    omega
  · rw [if_neg h]
    omega
theorem pick_rev (xs : Array Value) : ((List.range xs.size).filterMap fun (m : Nat) => xs[((xs.size : Int) - 1 + (m : Int) * (-1)).toNat]?).toArray = xs.toList.reverse.toArray := by
  congr 1
  refine List.ext_getElem? fun i => ?_
  have key : ∀ m, m < xs.size → (fun (m : Nat) => xs[((xs.size : Int) - 1 + (m : Int) * (-1)).toNat]?) m = some (xs.toList.getD (xs.size - 1 - m) .none) := fun m hm' => by
    have : ((xs.size : Int) - 1 + (m : Int) * (-1)).toNat = xs.size - 1 - m := by omega
    show xs[((xs.size : Int) - 1 + (m : Int) * (-1)).toNat]? = _
    rw [this, Array.getElem?_eq_getElem (by omega), List.getD_eq_getElem?_getD, List.getElem?_eq_getElem (by rw [Array.length_toList]; omega)]
    rfl
  have gen : ∀ (l : List Nat), (∀ m ∈ l, m < xs.size) → l.filterMap (fun (m : Nat) => xs[((xs.size : Int) - 1 + (m : Int) * (-1)).toNat]?) = l.map fun m => xs.toList.getD (xs.size - 1 - m) .none := by
    intro l
    induction l with
    | nil => intro _; rfl
    | cons m l ih =>
      intro h
      rw [List.filterMap_cons_some (f := fun (m : Nat) => xs[((xs.size : Int) - 1 + (m : Int) * (-1)).toNat]?) (key m (h m List.mem_cons_self)), List.map_cons, ih fun z hz => h z (List.mem_cons_of_mem _ hz)]
  rw [gen _ fun m hm => List.mem_range.mp hm]
  by_cases hi : i < xs.size
  · rw [List.getElem?_map, List.getElem?_range hi, List.getElem?_reverse (by rw [Array.length_toList]; exact hi), Array.length_toList, List.getElem?_eq_getElem (by rw [Array.length_toList]; omega)]
    show some (xs.toList.getD (xs.size - 1 - i) .none) = _
    rw [List.getD_eq_getElem?_getD, List.getElem?_eq_getElem (by rw [Array.length_toList]; omega)]
    rfl
  · rw [List.getElem?_eq_none (by rw [List.length_map, List.length_range]; omega), List.getElem?_eq_none (by rw [List.length_reverse, Array.length_toList]; omega)]
theorem sliceApplied_rev {sl : Addr} {vs : Value} {n : Nat} {Q : Int × Int × Nat → Shared → Prop} (hs : s.heap.IsSliceOf sl .none .none vs) (ps : IsPart vs (some (-1)))
    (h : Q ((n : Int) - 1, -1, n) s) : wpAny (model prog w) A (Builtin.Slice.sliceApplied (.ref sl) (pure (n : Int))) Q E s := by
  obtain ⟨os, hos, hcs, hds⟩ := id hs
  unfold Builtin.Slice.sliceApplied Builtin.Slice.sliceFields
  refine wpAny_bind (wpAny_bind (wpAny_field hos hds (x := .none) rfl (wpAny_bind (wpAny_field hos hds (x := .none) rfl (wpAny_bind (wpAny_field hos hds (x := vs) rfl (wpAny_pure ?_)))))))
  refine wpAny_bind (HT.slicePart_ ps ?_)
  show wpAny _ _ (if ((-1 : Int) == 0) = true then _ else _) _ _ s
  rw [if_neg (by decide)]
  refine wpAny_bind (HT.slicePart_ .none (wpAny_bind (HT.slicePart_ .none (wpAny_bind (wpAny_pure ?_)))))
  show wpAny _ _ (pure ((n : Int) - 1, (-1 : Int), Builtin.Slice.slicePlaces ((n : Int) - 1) (-1) (-1))) _ _ s
  rw [places_rev]
  exact wpAny_pure h
theorem getItem_tuple_rev {t sl : Addr} {items : Array Value} {vs : Value} {Q : Value → Shared → Prop} (ht : IsTup s.heap t items) (hs : s.heap.IsSliceOf sl .none .none vs) (ps : IsPart vs (some (-1)))
    (h : Q (.ref s.heap.objs.size) { s with heap := s.heap.push { cls := .type "tuple", data := .seq items.toList.reverse.toArray } })
    (hsz : items.size ≤ sizeLine) : wpAny (model prog w) A (getItem (.ref t) (.ref sl)) Q E s := by
  have htake : sizeOk (.seq items.toList.reverse.toArray) := by
    show items.toList.reverse.toArray.size ≤ sizeLine
    rw [List.size_toArray, List.length_reverse, Array.length_toList]
    exact hsz
  obtain ⟨os, hos, hcs, hds⟩ := id hs
  have hTs : s.TypeIs (.ref sl) "slice" := ⟨os, hos, hcs⟩
  unfold getItem
  try with_reducible refine wpAny_holding ?_
  first | refine wpAny_bind (wpAny_pure ?_) | skip
  refine wpAny_bind (wpAny_sequenceKey ht.typeIs (by decide) ?_)
  refine wpAny_bind (wpAny_callSpecial?_slot (name := Str.ofString "__getitem__") ht.typeIs PyProof.Rows.slot_tuple_getitem
    (wpAny_call_entry PyProof.Rows.slot_tuple_getitem ht.typeIs entry_tuple_getitem ?_ (args_tuple_getitem _ _)))
  show wpAny _ _ (Builtin.Tuple.tupleItemsOf (.ref t) >>= _) _ _ s
  refine wpAny_bind (tupleItemsOf_ ht ?_)
  refine wpAny_bind (wpAny_typeOf hTs ?_)
  rw [if_pos (by decide)]
  refine wpAny_bind (sliceApplied_rev hs ps ?_)
  have hno : ¬ ((((items.size : Int) - 1) == 0 && (-1 : Int) == 1 && items.size == items.size) = true) := by
    intro q
    rw [Bool.and_eq_true, Bool.and_eq_true] at q
    exact absurd q.1.2 (by decide)
  show wpAny _ _ (if (((items.size : Int) - 1) == 0 && (-1 : Int) == 1 && items.size == items.size) = true then _ else _) _ _ s
  rw [if_neg hno, pick_rev]
  first
    | exact wpAny_bind (m := Builtin.Tuple.tupleExact _) (wpAny_newObj_type (wpAny_pure ⟨_, rfl, wpAny_pure h⟩) htake)
    | exact wpAny_bind (m := Builtin.Tuple.tupleExact _) (wpAny_newObj_type (wpAny_bind (wpAny_pure (wpAny_pure ⟨_, rfl, wpAny_pure h⟩))) htake)
    | exact wpAny_bind (wpAny_bind (m := Builtin.Tuple.tupleExact _) (wpAny_newObj_type (wpAny_pure (wpAny_pure ⟨_, rfl, wpAny_pure h⟩)) htake))
    | exact wpAny_bind (wpAny_bind (m := Builtin.Tuple.tupleExact _) (wpAny_newObj_type (wpAny_pure ⟨_, rfl, wpAny_pure h⟩) htake))
end
section
variable {X : Cx} {c : Cf} {g : G} {sc : Scope} {N : List Str} {k : Nat} {e a b : Expr} {p : Rs → Prop} {pos pos2 npos apos cpos : Pos} {x : Str}
theorem pe_revT {e : Expr} {te : TE} {k : Nat} {p1 p2 p3 pos : Pos} (he : PE X e te) : PE X (.Subscript e (.Slice none none (some (.UnaryOp .USub (.Constant (.int 1) k p1) p2)) p3) pos)
    (fun σ H Q => te σ H fun x H1 => ∃ a xs, x = .ref a ∧ SqT X.K H1 a xs ∧ ∀ p, H1 p = none → Q (.ref p) (upd H1 p (.tup xs.reverse))) := by
  refine ⟨fun pins s σ H Q I h => ?_⟩
  refine Subscript_ (thn (he.run pins s σ H _ I h) fun v s1 ⟨x, H1, I1, r1, q1⟩ => ?_)
  obtain ⟨a, xs, ex, hx, q⟩ := q1
  subst ex
  cases r1
  have hst : PO X (some (.UnaryOp .USub (.Constant (.int 1) k p1) p2)) (tPart (tUn (rU fun i => .int (-i)) (tC (.int 1)))) := po_some (pe_un un_neg pe_int)
  refine wpAny_Slice (thn (po_none.run pins s1 σ H1 (fun o H2 => o = none ∧ H2 = H1) I1 ⟨rfl, rfl⟩) fun vl s2 ⟨l, H2, I2, pl, el, e2⟩ => ?_)
  subst el e2
  refine thn (po_none.run pins s2 σ H2 (fun o H3 => o = none ∧ H3 = H2) I2 ⟨rfl, rfl⟩) fun vu s3 ⟨u, H3, I3, pu, eu, e3⟩ => ?_
  subst eu e3
  refine thn (hst.run pins s3 σ H3 (fun o H4 => o = some (-1) ∧ H4 = H3) I3 ⟨1, rfl, -1, rfl, rfl, rfl⟩) fun vs s4 ⟨o, H4, I4, ps, eo, e4⟩ => ?_
  subst eo e4
  have I5 : Inv X pins σ H4 { s4 with heap := s4.heap.push { cls := .type "slice", data := .fields #[vl, vu, vs] } } := I4.kept (t' := s4.toks) fun b ob q => Heap.get?_push_of_some _ q
  obtain ⟨its, r, ht, hz⟩ := I5.tuple hx
  have hlen := r.length
  cases pl
  cases pu
  show wpAny (model X.prog X.w) X.A (subscriptTail e (.Slice none none (some (.UnaryOp .USub (.Constant (.int 1) k p1) p2)) p3) (.ref a) (.ref s4.heap.objs.size)) (EP X pins σ Q) X.xe { s4 with heap := s4.heap.push { cls := .type "slice", data := .fields #[.none, .none, vs] } }
  refine tail_any (ops := [.ref a, .ref s4.heap.objs.size]) ht.typeIs PyProof.Rows.slot_tuple_getitem.lookup ?_ (by with_unfolding_all rfl)
  refine getItem_tuple_rev ht (Heap.IsSliceOf.new _ .none .none vs) ps ?_ (by rw [List.size_toArray]; omega)
  refine ⟨.ref _, _, I5.laid (t' := s4.toks) (o := .tup xs.reverse) (fun b ob q => Heap.get?_push_of_some _ q) (Nat.le_refl _) ?_, rfl, q _ (I5.hok.fresh (Nat.le_refl _))⟩
  exact ⟨by rw [List.length_reverse]; exact hz, _, r.reverse, IsTup.new _ _⟩
theorem xrevT {kk : Nat} {p1 p2 p3 : Pos} (h : WE X c g a fun x => ∃ ds, x = .d (.tup ds) ∧ p (.d (.tup ds.reverse))) : WE X c g (.Subscript a (.Slice none none (some (.UnaryOp .USub (.Constant (.int 1) kk p1) p2)) p3) pos) p := fun σ H E Q k => by
  refine we_of (pe_revT pe_w) ?_
  refine h σ H E _ fun v H1 x e1 r1 ⟨ds, ex, q⟩ => ?_
  subst ex
  obtain ⟨l, vs, rfl, h1, h2⟩ := is_tup r1
  refine ⟨l, vs, rfl, SqT.of h1, fun pp hp => ?_⟩
  exact k _ _ _ (e1.trans (Ext.new hp)) (.dd (Is.tup upd_same (h2.rev.mono (same_tx (same_new hp))))) q
/-! ### xs.extend(t) -/
def rExtendT (K : Fg) : V → List V → Hp → VK → Prop := fun x vs H Q => ∃ l b xs zs, x = .ref l ∧ vs = [.ref b] ∧ H l = some (.lst xs) ∧ H b = some (.tup zs) ∧ xs.length + zs.length ≤ sizeLine ∧ Q .non (upd H l (.lst (xs ++ zs)))
theorem mt_extendT : MtM X "list.extend" (rExtendT X.K) := by
  intro pins s σ H x vs v us Q I rx rv h
  obtain ⟨l, b, xs, zs, rfl, rfl, hH, hB, hz, q⟩ := h
  cases rx
  obtain ⟨u, rfl, ru⟩ := rv.one
  cases ru
  obtain ⟨z, its, n, r, hl, e⟩ := I.lstM hH
  obtain ⟨z2, its2, r2, o2, ho2, hc2, n2, hd2⟩ := I.hok _ _ hB
  have hl2 := r2.length
  obtain ⟨cls, dd, dt, sl⟩ := o2
  simp only at hc2 hd2
  subst hc2 hd2
  have hsz : its.toArray.size + its2.toArray.size ≤ sizeLine := by rw [List.size_toArray, List.size_toArray]; omega
  have hlong : ¬ (!its.toArray.isEmpty && Builtin.List.listTooLong (its.toArray.size + its2.toArray.size)) = true := by
    rw [notLongL hsz, Bool.and_false]
    exact Bool.false_ne_true
  refine call_meets F.slot_list_extend ⟨_, e, rfl⟩ F.entry_list_extend (F.args_list_extend_2 _ _)
    (PySem.tw_extend_tuple l its.toArray n b its2.toArray n2 dd sl hlong (by rw [List.size_toArray]; omega) (by omega)) ⟨e, ho2, ?_⟩
  refine ⟨.non, _, I.lset (its' := its ++ its2) hH e (by simp) (r.append r2) ?_, rfl, q⟩
  rw [List.length_append]
  omega
variable {N' : Ks}
theorem sextT (i : Nat) {ds : List D} (h : WE X c g e fun r => ∃ es, r = .d (.tup es) ∧ ds.length + es.length ≤ 1000000 ∧ N'.nx (g.set i (some (.own (ds ++ es)))))
    (B : Bx X N sc k := by assumption) (hN : N[i]? = some x := by rfl) (hG : g[i]? = some (some (.own ds)) := by rfl) (hv : visB sc x = true := by decide +kernel)
    (hd : (x == ("__debug__" : Str)) = false := by decide) (hcd : (x == ("__classdict__" : Str)) = false := by decide)
    (hbase : attributeBase (.Name x npos) "extend" X.env (eval (.Name x npos) X.env) = eval (.Name x npos) X.env := by rfl)
    (hfew : ((backTo cpos (starEach [e] X.env)).all (fun x => !x.1) && (backToKw cpos (keywordEach [] X.env)).all (fun x => x.1.isSome) && decide (([e] : List Expr).length + ([] : List Keyword).length + (if ([] : List Keyword).isEmpty then 0 else 1) < 30)) = true := by rfl)
    (hline : (apos.endLine == cpos.line) = true := by rfl) (hs : starEach [e] X.env = (false, eval e X.env) :: starEach [] X.env := by rfl) :
    WS X c g (.Expr (.Call (.Attribute (.Name x npos) "extend" apos) [e] [] cpos) pos) N' := fun σ H E D K => by
  obtain ⟨v, e1, l, vs, ev, ha, his, na, n0⟩ := E.sl i _ hG
  subst ev
  refine ws_of (ps_expr (pe_bm PySem.F.plainAttrs_list PySem.F.slot_list_extend PySem.F.type_list_extend mt_extendT (pe_nm i B hN hv hd hcd) (pa_cons pe_w pa_nil hs) hbase hfew hline hs rfl)) ?_
  refine ⟨_, e1, .inl ⟨rfl, _, SqL.of ha⟩, ?_⟩
  refine h σ H E _ fun u H1 r e2 r1 ⟨es, er, hz, n⟩ => ?_
  subst er
  obtain ⟨l2, vs2, rfl, h1, h2⟩ := is_tup r1
  have ha1 := e2.keep _ _ na ha
  refine ⟨l, l2, vs, vs2, rfl, rfl, ha1, h1, ?_, ?_⟩
  · rw [his.length, h2.length, sizeLine_eq]
    omega
  · exact K.nx _ _ _ ((E.go e2).lst hG e1 ha1 ((his.mono e2.tx).append h2)) n
/-! ### t.index(i) -/
def fstIx (ns : List Int) (z : Int) : Nat := ns.findIdx (· == z)
theorem mt_tup_indexI : MtR X "tuple.index" (fun x xs H Q => ∃ p, ∃ ys : List Int, ∃ z j, x = .ref p ∧ xs = [.int z] ∧ SqT X.K H p (ys.map V.int) ∧ ys[j]? = some z ∧ (∀ m, m < j → ys[m]? ≠ some z) ∧ Q (.int (j : Nat)) H) := by
  intro pins s σ H x xs v us Q I rx rs h
  obtain ⟨p, ys, z, j, rfl, rfl, hq, hy, hno, q⟩ := h
  cases rx
  obtain ⟨u, rfl, t, rfl⟩ := vals1 rs
  obtain ⟨its, r, pl, hz⟩ := I.tuple hq
  obtain ⟨⟨cls, dd, dt, sl⟩, ho, hc, n, hd⟩ := pl
  simp only at hc hd
  subst hc
  subst hd
  have hl : its.toArray.size = ys.length := by rw [List.size_toArray, ← r.length, List.length_map]
  have hj : j < its.toArray.size := by rw [hl]; exact (List.getElem?_eq_some_iff.mp hy).1
  have at' : ∀ (m : Nat) (hm : m < its.toArray.size), ∃ y t', ys[m]? = some y ∧ its.toArray[m] = Value.int y t' := fun m hm => by
    have hm' : m < ys.length := by rw [← hl]; exact hm
    obtain ⟨w, hw, t', hw'⟩ := r.get (i := m) (x := .int ys[m]) (by simp [hm'])
    refine ⟨ys[m], t', List.getElem?_eq_getElem hm', ?_⟩
    have e := (List.getElem?_eq_some_iff.mp hw).2
    rw [← hw', ← e]
    simp
  refine call_meets PySem.F.slot_tuple_index ⟨_, ho, rfl⟩ PySem.F.entry_tuple_index (PySem.F.args_tuple_index_2 _ _) (TI.tuple_indexAt p its.toArray n dd sl (.int z t) (eqU (.int z)) j hj ?_ ?_)
    ⟨ho, fun w hw => mem_eqAt (x := .int z) ⟨t, rfl⟩ rfl r (ints_flat ys) w (by simpa using hw), ⟨.int (j : Nat), H, I.tok _, ⟨_, rfl⟩, q⟩⟩
  · obtain ⟨y, t', h1, h2⟩ := at' j hj
    rw [hy] at h1
    cases h1
    rw [h2]
    show (z == z) = true
    exact beq_self_eq_true z
  · intro m hm hmj
    obtain ⟨y, t', h1, h2⟩ := at' m hm
    rw [h2]
    show (y == z) = false
    exact beq_eq_false_iff_ne.mpr fun e => hno m hmj (e ▸ h1)
end
end TW

/-! TK2: tuples whose object is known to have no dict: made by tuple(..), asked by index; min with a default, min of pairs; sorted. -/
namespace TW
open PySem PySem.Spec PyProof.Rows L2 PySem.W
section
variable {X : Cx} {c : Cf} {g : G} {sc : Scope} {N : List Str} {k : Nat} {e a b : Expr} {es : List Expr} {p : Rs → Prop} {pos pos2 p1 p2 p3 npos apos cpos : Pos} {x : Str}
theorem call_tuple_tx : CallR X (.type "tuple") (fun xs H Q => ∃ p ys, xs = [.ref p] ∧ SqL X.K H p ys ∧ ∀ l ob, H l = none → ob.cls = .type "tuple" → ob.dict = none → Q (.ref l) (upd H l (.frz ob (.tup ys)))) := by
  intro pins s σ H xs us Q I r h
  obtain ⟨p, ys, rfl, hq, q⟩ := h
  obtain ⟨u, rfl, rx⟩ := vals1 r
  cases rx
  obtain ⟨its, r', pl, hz⟩ := I.list hq
  have hlen := r'.length
  refine call_tuple_list pl.isList (fun h' kp => ?_) (by simp only [List.size_toArray] <;> omega)
  have I1 : Inv X pins σ H { s with heap := h' } := I.kept (t' := s.toks) kp
  have I2 : Inv X pins σ (upd H h'.objs.size (.frz { cls := .type "tuple", data := .seq its.toArray } (.tup ys))) { s with heap := h'.push { cls := .type "tuple", data := .seq its.toArray } } :=
    I1.laid (t' := s.toks) (fun b o e => Heap.get?_push_of_some _ e) (Nat.le_refl _) (show ObjOk X.prog X.w _ _ _ (.frz _ (.tup ys)) from ⟨Heap.get?_push_size _ rfl, hz, its, r', IsTup.new _ _⟩)
  exact ⟨.ref h'.objs.size, _, I2, rfl, q _ _ (I1.hok.fresh (Nat.le_refl _)) rfl rfl⟩
theorem xtupleX (h : WE X c g a fun r => ∃ ds, r.lds = some ds ∧ p (.tx true ds)) (B : Bx X N sc k := by assumption) (M : Nm X.mg := by assumption) (hg : glB sc "tuple" = true := by decide +kernel) (he : starEach [a] X.env = (false, eval a X.env) :: starEach [] X.env := by rfl) : WE X c g (.Call (.Name "tuple" pos2) [a] [] pos) p := by
  refine we_callT (T := "tuple") (P := fun rs => ∃ fr ds, rs = [.lst fr ds] ∧ p (.tx true ds)) call_tuple_tx (B.gl hg) M.tuple (by decide +kernel) (by decide) (by decide) he rfl
    (a_cons (h.mono fun r ⟨ds, e1, e2⟩ => a_nil (by
      obtain ⟨fr, e⟩ := lds_lst e1
      exact ⟨fr, ds, by rw [e], e2⟩)) he) ?_
  intro H1 H vs rs Q hst hr ⟨fr, ds, ers, q⟩ kk
  subst ers
  obtain ⟨v, rfl, hv⟩ := rs1 hr
  obtain ⟨l, xs, rfl, h1, h2, _⟩ := hv
  refine ⟨l, xs, rfl, SqL.of h1, fun t ob ht hc hd => ?_⟩
  exact kk _ _ (.tx true ds) (Ext.new ht) ⟨t, xs, rfl, ⟨ob, upd_same, hc, hd⟩, h2.mono (same_tx (same_new ht)), st_new hst ht, fun _ => ht⟩ q
theorem we_thaw (h : WE X c g e fun r => ∃ ds, r = .tx true ds ∧ p (.d (.tup ds))) : WE X c g e p := fun σ H E Q kk pins s I => by
  refine thn (h σ H E (fun v H1 => ∃ a xs ob, v = .ref a ∧ H1 a = some (.frz ob (.tup xs)) ∧ H a = none ∧ Q (.ref a) (upd H1 a (.tup xs))) (fun v H1 r e1 r1 ⟨ds, er, q⟩ => ?_) pins s I) fun u s1 ⟨x, H1, I1, rx, a, xs, ob, ex, hf, hn, q⟩ => ?_
  · subst er
    obtain ⟨a, xs, ev, ⟨ob, hf, _⟩, his, na, hn⟩ := r1
    have tx1 : Tx H1 (upd H1 a (.tup xs)) := fun b ys hb => by
      rw [upd_ne (fun z => by rw [z, hf] at hb; cases hb)]
      exact hb
    refine ⟨a, xs, ob, ev, hf, hn rfl, kk _ _ _ ?_ (.dd (Is.tup upd_same (his.mono tx1))) q⟩
    refine ⟨fun b o n hb => ?_, e1.tx.trans tx1, fun st est hst => ?_⟩
    · rw [upd_ne (fun z => by rw [z, hn rfl] at hb; cases hb)]
      exact e1.keep b o n hb
    · obtain ⟨sc', ns, i, gg, r, q1, q2, q3⟩ := e1.stk st est hst
      refine ⟨sc', ns, i, gg, r, by rw [upd_ne (fun z => na (by rw [← z, est]))]; exact q1, ?_, q3⟩
      rcases q2 with ⟨o2, q2⟩ | q2
      · refine .inl ⟨o2, ?_⟩
        rw [upd_ne (fun z => by rw [z, hf] at q2; cases q2)]
        exact q2
      · exact .inr q2
  · subst ex
    refine ⟨.ref a, _, I1.unlock hf fun o' u' z => ?_, rx, q⟩
    have := I.base.frzs a o' u' z
    rw [hn] at this
    cases this
/-- o.m(..), o a tuple whose object is known to have no dict -/
theorem pe_bmX {name : Str} {id : String} {to : TE} {t : TA} {o : Expr} {r : V → List V → Hp → VK → Prop} (pa : PlainAttrs "tuple") (slot : Slot "tuple" name id) (hty : typeOf (.builtin id) = pure (.type "method_descriptor")) (hm : MtR X id r) (ho : PE X o to) (ha : PA X (e :: es) t)
    (hbase : attributeBase o name X.env (eval o X.env) = eval o X.env)
    (hfew : ((backTo cpos (starEach (e :: es) X.env)).all (fun x => !x.1) && (backToKw cpos (keywordEach [] X.env)).all (fun x => x.1.isSome)
      && decide ((e :: es).length + ([] : List Keyword).length + (if ([] : List Keyword).isEmpty then 0 else 1) < 30)) = true)
    (hline : (apos.endLine == cpos.line) = true) (hs : starEach (e :: es) X.env = (false, eval e X.env) :: starEach es X.env) (hplain : (backTo cpos (starEach es X.env)).any (·.1) = false := by rfl) :
    PE X (.Call (.Attribute o name apos) (e :: es) [] cpos) (fun σ H Q => to σ H fun x H1 => (∃ a xs, x = .ref a ∧ TxO H1 a xs) ∧ t σ H1 fun xs H2 => r x xs H2 Q) := by
  refine ⟨fun pins s σ H Q I h => ?_⟩
  refine wpAny_Call_method_late hbase hfew hline rfl (thn (ho.run pins s σ H _ I h) fun v s1 ⟨x, H1, I1, rx, ⟨a, xs, ex, ob, hf, hc, hd⟩, q1⟩ => ?_)
  subst ex
  cases rx
  have hob := (I1.hok _ _ hf).1
  refine ⟨"tuple", id, pa, slot, hty, ⟨ob, hob, hc⟩, fun b eb => ?_, ?_⟩
  · cases eb
    exact ⟨ob, hob, hd⟩
  · have hA := ha.run cpos pins s1 σ H1 _ I1 q1
    rw [hs] at hA ⊢
    refine Calls.callWith_builtin (by show (false || (backTo cpos (starEach es X.env)).any (·.1)) = false; rw [hplain] <;> rfl) (Calls.evalArgs_plain ?_)
    exact thn hA fun us s2 ⟨vs, H2, I2, r2, q2⟩ => hm pins s2 σ H2 (.ref a) vs _ us Q I2 rfl r2 q2
theorem sIx_le' (n j : Nat) (h : j ≤ n) : HT.sIx n n (some (j : Int)) = j := by
  rw [HT.sIx_nat, Nat.min_eq_left h]
theorem cut_to {ds : List D} {j : Nat} (h : j ≤ ds.length) : cut ds none (some (j : Int)) = ds.take j := by
  unfold cut
  rw [sIx_le' _ _ h]
  show (ds.drop 0).take (j - 0) = _
  rw [List.drop_zero, Nat.sub_zero]
/-- v[:v.index(e)] -/
theorem xcutIx (i : Nat) {ns : List Int} (h : WE X c g e fun y => ∃ z, y = .d (.int z) ∧ ∃ j : Nat, ns[j]? = some z ∧ (∀ m, m < j → ns[m]? ≠ some z) ∧ p (.d (.tup ((ns.take j).map D.int))))
    (B : Bx X N sc k := by assumption) (hN : N[i]? = some x := by rfl) (hG : g[i]? = some (some (.tx (ns.map D.int))) := by rfl) (hv : visB sc x = true := by decide +kernel)
    (hd : (x == ("__debug__" : Str)) = false := by decide) (hcd : (x == ("__classdict__" : Str)) = false := by decide)
    (hbase : attributeBase (.Name x p2) "index" X.env (eval (.Name x p2) X.env) = eval (.Name x p2) X.env := by rfl)
    (hfew : ((backTo cpos (starEach [e] X.env)).all (fun x => !x.1) && (backToKw cpos (keywordEach [] X.env)).all (fun x => x.1.isSome) && decide (([e] : List Expr).length + ([] : List Keyword).length + (if ([] : List Keyword).isEmpty then 0 else 1) < 30)) = true := by rfl)
    (hline : (apos.endLine == cpos.line) = true := by rfl) (hs : starEach [e] X.env = (false, eval e X.env) :: starEach [] X.env := by rfl) :
    WE X c g (.Subscript (.Name x p1) (.Slice none (some (.Call (.Attribute (.Name x p2) "index" apos) [e] [] cpos)) none p3) pos) p := fun σ H E Q kk => by
  obtain ⟨v, e1, l, vs, rfl, ht, his, na⟩ := E.sl i _ hG
  have e := his.ints
  subst e
  refine we_of (pe_slice sl_tupA (pe_nm i B hN hv hd hcd) po_none (po_some (pe_bmX PySem.F.plainAttrs_tuple PySem.F.slot_tuple_index PySem.F.type_tuple_index mt_tup_indexI (pe_nm i B hN hv hd hcd) (pa_cons pe_w pa_nil hs) hbase hfew hline hs))) ?_
  refine ⟨_, e1, _, e1, ⟨l, _, rfl, ht⟩, ?_⟩
  refine h σ H E _ fun u H2 r' e2 r2 ⟨z, er', j, hj, hno, q⟩ => ?_
  subst er'
  cases is_int r2
  obtain ⟨ob, hf, hc, hdd⟩ := ht
  have hf2 := e2.keep _ _ na hf
  have hjl : j < ns.length := (List.getElem?_eq_some_iff.mp hj).1
  refine ⟨l, ns, z, j, rfl, rfl, .inl (.inr ⟨ob, hf2⟩), hj, hno, (j : Int), rfl, l, _, rfl, .inl (.inr ⟨ob, hf2⟩), fun hw => ?_, fun _ pp hp => ?_⟩
  · have h2 := hw.2
    rw [List.length_map, sIx_le' _ _ (Nat.le_of_lt hjl)] at h2
    omega
  · have hq := (IsL.of_ints (K := X.K) (H := H2) ns).cut none (some (j : Int))
    rw [cut_to (by rw [List.length_map]; omega), ← List.map_take] at hq
    exact kk _ _ _ (e2.trans (Ext.new hp)) (.dd (Is.tup upd_same (hq.mono (same_tx (same_new hp))))) q
end
end TW

/-! TK3: min with a default, min of pairs; sorted of a dict, of pairs, of a tuple of numbers. -/
namespace TW
open PySem PySem.Spec PyProof.Rows L2 PySem.W
section
variable {X : Cx} {c : Cf} {g : G} {sc : Scope} {N : List Str} {k : Nat} {e a b : Expr} {es : List Expr} {p : Rs → Prop} {pos pos2 p1 p2 p3 npos apos cpos : Pos} {x : Str}
theorem pyL_ints (ns : List Int) : pyL (ns.map D.int) = ns.map Datum.toD := by
  rw [pyL_map]
  rfl
theorem minOf_ints (n : Int) (ns : List Int) : minOf n ns ∈ n :: ns ∧ ∀ y ∈ n :: ns, minOf n ns ≤ y := by
  unfold minOf
  induction ns generalizing n with
  | nil =>
    refine ⟨List.mem_cons_self, fun y hy => ?_⟩
    rw [List.mem_singleton.mp hy]
    exact Int.le_refl _
  | cons m ns ih =>
    rw [List.foldl_cons]
    by_cases h : DatumOrd.lt m n = true
    · rw [if_pos h]
      have hl : m < n := of_decide_eq_true h
      obtain ⟨h1, h2⟩ := ih m
      refine ⟨List.mem_cons_of_mem _ h1, fun y hy => ?_⟩
      rcases List.mem_cons.mp hy with e | hy
      · have := h2 m List.mem_cons_self
        omega
      · exact h2 y hy
    · rw [if_neg h]
      have hl : ¬ m < n := fun q => h (decide_eq_true q)
      obtain ⟨h1, h2⟩ := ih n
      refine ⟨?_, fun y hy => ?_⟩
      · rcases List.mem_cons.mp h1 with e | e
        · rw [e]
          exact List.mem_cons_self
        · exact List.mem_cons_of_mem _ (List.mem_cons_of_mem _ e)
      · rcases List.mem_cons.mp hy with e | hy
        · rw [e]
          exact h2 n List.mem_cons_self
        · rcases List.mem_cons.mp hy with e | hy
          · have := h2 n List.mem_cons_self
            omega
          · exact h2 y (List.mem_cons_of_mem _ hy)
theorem isl_holds {pins : List (Addr × Obj)} {σ : L2.St} {H : Hp} {s : Shared} {vs : List V} {ns : List Int} {us : List Value} (I : Inv X pins σ H s) (h : IsL X.K H vs (ns.map D.int)) (r : Vals vs us) : HoldAll s.heap us ns := by
  obtain ⟨as, q⟩ := Dp.readsAll I _ _ _ h.dp r
  rw [pyL_ints] at q
  exact ⟨as, q⟩
/-- min(l, default=d) of numbers -/
theorem cr_minD (hc : X.calm = true) (hu : X.A.units + 1 < cLine) : CallRK X (.builtin "min") [Str.ofString "default"] (fun xs zs H Q => ∃ (a : Addr) (vs : List V) (ns : List Int) (d : Int), xs = [.ref a] ∧ zs = [.int d] ∧ SqL X.K H a vs ∧ IsL X.K H vs (ns.map D.int) ∧
    (ns = [] → Q (.int d) H) ∧ ∀ m, m ∈ ns → (∀ y ∈ ns, m ≤ y) → Q (.int m) H) := by
  intro pins s σ H vs zs us ws Q I r rz h
  obtain ⟨a, xs, ns, d, rfl, rfl, hs, his, q0, q1⟩ := h
  obtain rfl := Vals.ref1 r
  obtain ⟨w1, rfl, t, e1⟩ := vals1 rz
  subst e1
  obtain ⟨its, rv, hl, hz⟩ := I.list hs
  refine min_list_datum_default (α := Int) (xs := ns) (I.ok.hd hc) hl.isList (by simpa using isl_holds I his rv) (by show X.A.units + 1 + 0 < cLine; omega) (fun e h' tk hk => ?_) fun y ys i v h' tk e hi hv hk => ?_
  · exact ⟨.int d, H, I.kept hk, ⟨_, rfl⟩, q0 e⟩
  · subst e
    obtain ⟨as, hv⟩ := hv
    obtain ⟨h1, h2⟩ := minOf_ints y ys
    generalize hm : minOf y ys = m at hv h1 h2
    cases hv
    exact ⟨.int m, H, I.kept hk, ⟨_, rfl⟩, q1 m h1 h2⟩
theorem xminD {kpos : Pos} {nm : Option Str} (h : WE X c g a fun r => ∃ ns : List Int, r.lds = some (ns.map D.int) ∧ WE X c g b fun y => ∃ d, y = .d (.int d) ∧ (ns = [] → p (.d (.int d))) ∧ ∀ m, m ∈ ns → (∀ y ∈ ns, m ≤ y) → p (.d (.int m)))
    (B : Bx X N sc k := by assumption) (M : Nm X.mg := by assumption) (hg : glB sc "min" = true := by decide +kernel) (he : starEach [a] X.env = (false, eval a X.env) :: starEach [] X.env := by rfl)
    (he2 : backTo pos (starEach (a :: []) X.env) = (false, eval a X.env) :: backTo pos (starEach [] X.env) := by rfl) (hpl : (backTo pos (starEach (a :: []) X.env)).any (·.1) = false := by rfl)
    (hall : (backToKw pos (keywordEach [⟨nm, b, kpos⟩] X.env)).all (·.1.isSome) = true := by rfl) (hnone : (backToKw pos (keywordEach [⟨nm, b, kpos⟩] X.env)).any (·.1.isNone) = false := by rfl) (hks : (backToKw pos (keywordEach [⟨nm, b, kpos⟩] X.env)).filterMap (·.1) = [Str.ofString "default"] := by rfl) :
    WE X c g (.Call (.Name "min" pos2) [a] [⟨nm, b, kpos⟩] pos) p := fun σ H E Q kk => by
  refine we_of (pe_callBK (cr_minD B.calm (hu1 B)) (B.gl hg) M.min (by decide +kernel) (pa_cons pe_w pa_nil he) (pk_cons pe_w pk_nil) (by decide) (by decide) he2 hpl hall hnone hks) ?_
  refine h σ H E _ fun v H1 r e1 r1 ⟨ns, er, hb⟩ => ?_
  obtain ⟨fr, er⟩ := lds_lst er
  subst er
  obtain ⟨l, vs, rfl, h1, h2, na, _⟩ := r1
  refine hb σ H1 (E.go e1) _ fun u H2 r' e2 r2 ⟨d, er', q0, q1⟩ => ?_
  subst er'
  cases is_int r2
  have e := e1.trans e2
  refine ⟨l, vs, ns, d, rfl, rfl, SqL.of (e2.keep _ _ na h1), h2.mono e2.tx, fun z => kk _ H2 _ e (.dd (Is.int _)) (q0 z), fun m m1 m2 => kk _ H2 _ e (.dd (Is.int _)) (q1 m m1 m2)⟩
/-- min(l) of pairs of numbers -/
theorem pyL_prs (us : List (Int × Int)) : pyL (us.map prD) = us.map Datum.toD := by
  rw [pyL_map]
  rfl
def ltPr (u v : Int × Int) : Prop := u.1 < v.1 ∨ (u.1 = v.1 ∧ u.2 < v.2)
theorem lt_pr (u v : Int × Int) : DatumOrd.lt u v = true ↔ ltPr u v := by
  show (if u.1 = v.1 then decide (u.2 < v.2) else decide (u.1 < v.1)) = true ↔ _
  unfold ltPr
  by_cases h : u.1 = v.1
  · rw [if_pos h, decide_eq_true_eq]
    omega
  · rw [if_neg h, decide_eq_true_eq]
    omega
theorem minOf_prs (n : Int × Int) (ns : List (Int × Int)) : minOf n ns ∈ n :: ns ∧ ∀ y ∈ n :: ns, ¬ ltPr y (minOf n ns) := by
  unfold minOf
  induction ns generalizing n with
  | nil =>
    refine ⟨List.mem_cons_self, fun y hy => ?_⟩
    rw [List.mem_singleton.mp hy]
    unfold ltPr
    rw [List.foldl_nil]
    omega
  | cons m ns ih =>
    rw [List.foldl_cons]
    by_cases h : DatumOrd.lt m n = true
    · rw [if_pos h]
      have hl := (lt_pr m n).mp h
      obtain ⟨h1, h2⟩ := ih m
      refine ⟨List.mem_cons_of_mem _ h1, fun y hy => ?_⟩
      rcases List.mem_cons.mp hy with e | hy
      · have := h2 m List.mem_cons_self
        rw [e]
        unfold ltPr at *
        omega
      · exact h2 y hy
    · rw [if_neg h]
      have hl : ¬ ltPr m n := fun q => h ((lt_pr m n).mpr q)
      obtain ⟨h1, h2⟩ := ih n
      refine ⟨?_, fun y hy => ?_⟩
      · rcases List.mem_cons.mp h1 with e | e
        · rw [e]
          exact List.mem_cons_self
        · exact List.mem_cons_of_mem _ (List.mem_cons_of_mem _ e)
      · rcases List.mem_cons.mp hy with e | hy
        · rw [e]
          exact h2 n List.mem_cons_self
        · rcases List.mem_cons.mp hy with e | hy
          · have := h2 n List.mem_cons_self
            rw [e]
            unfold ltPr at *
            omega
          · exact h2 y (List.mem_cons_of_mem _ hy)
theorem cr_minP (hc : X.calm = true) (hu : X.A.units + 64 < cLine) : CallR X (.builtin "min") (fun xs H Q => ∃ (a : Addr) (vs : List V) (us : List (Int × Int)), xs = [.ref a] ∧ SqL X.K H a vs ∧ IsL X.K H vs (us.map prD) ∧ us ≠ [] ∧
    ∀ v m, m ∈ us → (∀ y ∈ us, ¬ ltPr y m) → Is X.K H v (prD m) → Q v H) := by
  intro pins s σ H vs ws Q I r h
  obtain ⟨a, xs, us, rfl, hs, his, hne, q⟩ := h
  obtain rfl := Vals.ref1 r
  obtain ⟨its, rv, hl, hz⟩ := I.list hs
  obtain ⟨u0, us, rfl⟩ : ∃ u0 us', us = u0 :: us' := by
    cases us with
    | nil => exact absurd rfl hne
    | cons a b => exact ⟨a, b, rfl⟩
  obtain ⟨as, ra⟩ := Dp.readsAll I _ _ _ his.dp rv
  rw [pyL_prs] at ra
  refine min_list_datum (α := Int × Int) (x := u0) (xs := us) (I.ok.hd hc) hl.isList ⟨as, by simpa using ra⟩ (by show X.A.units + 1 + 1 < cLine; omega) fun i v h' tk hi hv hk => ?_
  obtain ⟨m1, m2⟩ := minOf_prs u0 us
  obtain ⟨bs, hv⟩ := hv
  have hi' : its[i]? = some v := by simpa using hi
  have hlen := his.length
  have hil : i < ((u0 :: us).map prD).length := by
    rw [← hlen, rv.length]
    exact (List.getElem?_eq_some_iff.mp hi').1
  obtain ⟨w, hw, hwis⟩ := his.get (List.getElem?_eq_getElem hil)
  obtain ⟨v', hv', rwv⟩ := rv.get hw
  rw [hi'] at hv'
  cases hv'
  obtain ⟨cs, rd⟩ := Dp.reads I _ _ _ hwis.dp rwv
  have eu : ((u0 :: us).map prD)[i] = prD ((u0 :: us)[i]'(by simpa using hil)) := List.getElem_map ..
  rw [eu] at rd hwis
  have e2 : Datum.toD ((u0 :: us)[i]'(by simpa using hil)) = Datum.toD (minOf u0 us) := alike_unique _ _ _ _ _ (DatumOrd.alike _ _) (reads_keeps hk rd) hv
  have e3 : (u0 :: us)[i]'(by simpa using hil) = minOf u0 us := by
    have := (Datum.eqv ((u0 :: us)[i]'(by simpa using hil)) (minOf u0 us))
    rw [e2, Datum.eqv, decide_eq_true rfl] at this
    exact of_decide_eq_true this.symm
  rw [e3] at hwis
  exact ⟨w, H, I.kept hk, rwv, q w _ m1 m2 hwis⟩
theorem xminP (h : WE X c g a fun r => ∃ us : List (Int × Int), r.lds = some (us.map prD) ∧ us ≠ [] ∧ ∀ m, m ∈ us → (∀ y ∈ us, ¬ ltPr y m) → p (.d (prD m)))
    (B : Bx X N sc k := by assumption) (M : Nm X.mg := by assumption) (hg : glB sc "min" = true := by decide +kernel) (he : starEach [a] X.env = (false, eval a X.env) :: starEach [] X.env := by rfl) : WE X c g (.Call (.Name "min" pos2) [a] [] pos) p := by
  refine we_callB (P := fun rs => ∃ (fr : Bool) (us : List (Int × Int)), rs = [.lst fr (us.map prD)] ∧ us ≠ [] ∧ ∀ m, m ∈ us → (∀ y ∈ us, ¬ ltPr y m) → p (.d (prD m))) (cr_minP B.calm (hu64 B)) (B.gl hg) M.min (by decide +kernel) (by decide) (by decide) he rfl
    (a_cons (h.mono fun r ⟨us, e1, e2⟩ => a_nil (by
      obtain ⟨fr, e⟩ := lds_lst e1
      exact ⟨fr, us, by rw [e], e2⟩)) he) ?_
  intro H1 H vs rs Q hst hr ⟨fr, us, ers, hne, q⟩ kk
  subst ers
  obtain ⟨v, rfl, hv⟩ := rs1 hr
  obtain ⟨l, xs, rfl, h1, h2, _⟩ := hv
  exact ⟨l, xs, us, rfl, SqL.of h1, h2, hne, fun w m m1 m2 hw => kk w H _ (Ext.refl H) (.dd hw) (q m m1 m2)⟩
/-! ### sorted -/
theorem xsortK (h : WE X c g a fun r => ∃ kvs, r.kvs = some kvs ∧ kvs.length < 64 ∧ ∀ ns : List Int, ns.Perm (kvs.map (·.1)) → ns.Pairwise (· ≤ ·) → p (.lst true (ns.map D.int)))
    (B : Bx X N sc k := by assumption) (M : Nm X.mg := by assumption) (hg : glB sc "sorted" = true := by decide +kernel) (he : starEach [a] X.env = (false, eval a X.env) :: starEach [] X.env := by rfl) : WE X c g (.Call (.Name "sorted" pos2) [a] [] pos) p := by
  refine we_callB (P := fun rs => ∃ r kvs, rs = [r] ∧ r.kvs = some kvs ∧ kvs.length < 64 ∧ ∀ ns : List Int, ns.Perm (kvs.map (·.1)) → ns.Pairwise (· ≤ ·) → p (.lst true (ns.map D.int))) (call_sortedDI B.calm) (B.gl hg) M.sorted (by decide +kernel) (by decide) (by decide) he rfl
    (a_cons (h.mono fun r ⟨us, e1, e2⟩ => a_nil ⟨r, us, rfl, e1, e2⟩) he) ?_
  intro H1 H vs rs Q hst hr ⟨r, kvs, ers, ek, hl, q⟩ kk
  subst ers
  obtain ⟨v, rfl, hv⟩ := rs1 hr
  obtain ⟨d, ws, rfl, h1, h2⟩ := rs_kvs hv ek
  have hk : ∀ {ws : List (Key × V)} {kvs : List (Int × D)}, KvIs X.K H ws kvs → ws.map (·.1) = (kvs.map (·.1)).map Sum.inl := fun h => by
    induction h with
    | nil => rfl
    | cons a _ ih =>
      rw [List.map_cons, List.map_cons, List.map_cons, ih, a.1]
  exact ⟨d, ws, kvs.map (·.1), rfl, h1, hk h2, by rw [List.length_map]; exact hl, fun ns pp pm pw hp => kk _ _ _ (Ext.new hp) (.ll upd_same (IsL.of_ints _) (st_new hst hp) fun _ => hp) (q ns pm pw)⟩
theorem xsortP (h : WE X c g a fun r => ∃ us : List (Int × Int), r.lds = some (us.map prD) ∧ ∀ us' : List (Int × Int), us'.Perm us → us'.Pairwise (fun u v => ¬ ltPr v u) → p (.lst true (us'.map prD)))
    (B : Bx X N sc k := by assumption) (M : Nm X.mg := by assumption) (hg : glB sc "sorted" = true := by decide +kernel) (he : starEach [a] X.env = (false, eval a X.env) :: starEach [] X.env := by rfl) : WE X c g (.Call (.Name "sorted" pos2) [a] [] pos) p := by
  refine we_callB (P := fun rs => ∃ (fr : Bool) (us : List (Int × Int)), rs = [.lst fr (us.map prD)] ∧ ∀ us' : List (Int × Int), us'.Perm us → us'.Pairwise (fun u v => ¬ ltPr v u) → p (.lst true (us'.map prD))) cr_sortedPO (B.gl hg) M.sorted (by decide +kernel) (by decide) (by decide) he rfl
    (a_cons (h.mono fun r ⟨us, e1, e2⟩ => a_nil (by
      obtain ⟨fr, e⟩ := lds_lst e1
      exact ⟨fr, us, by rw [e], e2⟩)) he) ?_
  intro H1 H vs rs Q hst hr ⟨fr, us, ers, q⟩ kk
  subst ers
  obtain ⟨v, rfl, hv⟩ := rs1 hr
  obtain ⟨l, xs, rfl, h1, h2, _⟩ := hv
  classical
  -- the pair at an address
  have dec : ∀ x ∈ xs, ∃ (t : Addr) (u : Int × Int), x = V.ref t ∧ H t = some (.tup [.int u.1, .int u.2]) := by
    intro x hx
    obtain ⟨i, hi⟩ := List.mem_iff_getElem?.mp hx
    obtain ⟨d, hd, his⟩ := h2.getV hi
    rw [List.getElem?_map, Option.map_eq_some_iff] at hd
    obtain ⟨u, _, rfl⟩ := hd
    obtain ⟨t, ys, rfl, ht, hys⟩ := is_tup his
    have e := IsL.ints (ns := [u.1, u.2]) hys
    subst e
    exact ⟨t, u, rfl, ht⟩
  let kf : V → Int × Int := fun x => match x with
    | .ref t => (match H t with
      | some (.tup [.int i, .int j]) => (i, j)
      | _ => (0, 0))
    | _ => (0, 0)
  have kfe : ∀ (t : Addr) (u : Int × Int), H t = some (.tup [.int u.1, .int u.2]) → kf (.ref t) = u := fun t u ht => by
    show (match H t with
      | some (.tup [.int i, .int j]) => (i, j)
      | _ => (0, 0)) = u
    rw [ht]
  have isk : ∀ x ∈ xs, Is X.K H x (prD (kf x)) := fun x hx => by
    obtain ⟨t, u, rfl, ht⟩ := dec x hx
    rw [kfe t u ht]
    exact Is.tup ht (IsL.of_ints [u.1, u.2])
  have kus : xs.map kf = us := by
    clear q h1 dec hr
    induction us generalizing xs with
    | nil =>
      cases h2
      rfl
    | cons u us ih =>
      cases h2 with
      | cons g1 g2 =>
        obtain ⟨t, ys, rfl, ht, hys⟩ := is_tup g1
        have e := IsL.ints (ns := [u.1, u.2]) hys
        subst e
        rw [List.map_cons, kfe t u ht, ih _ g2 fun x hx => isk x (List.mem_cons_of_mem _ hx)]
  refine ⟨l, xs, kf, rfl, SqL.of h1, fun x hx => ?_, fun ys pp srt stb hp => ?_⟩
  · obtain ⟨t, u, rfl, ht⟩ := dec x hx
    exact ⟨t, rfl, by rw [kfe t u ht]; exact ht⟩
  · have hys : IsL X.K H ys ((ys.map kf).map prD) := by
      have : ∀ (zs : List V), (∀ z ∈ zs, z ∈ xs) → IsL X.K H zs ((zs.map kf).map prD) := fun zs => by
        induction zs with
        | nil => intro _; exact .nil
        | cons z zs ih => intro hz; exact .cons (isk z (hz z List.mem_cons_self)) (ih fun w hw => hz w (List.mem_cons_of_mem _ hw))
      exact this ys fun z hz => stb.perm.mem_iff.mp hz
    refine kk _ _ _ (Ext.new hp) (.ll upd_same (hys.mono (same_tx (same_new hp))) (st_new hst hp) fun _ => hp) (q (ys.map kf) ?_ ?_)
    · rw [← kus]
      exact stb.perm.map kf
    · rw [List.pairwise_map]
      refine List.Pairwise.imp ?_ srt
      intro u v huv
      have := SrtO.lexB_no.mp huv
      unfold ltPr
      omega
end
end TW

/-! TK4: enumerate(tuple), sorted(tuple of numbers). -/
namespace PySem
open Sem (wp)
open AutoSeq1 (wpAny_loadPart')
theorem tw_enumerate_new (l : Addr) (items : Array Value) (n : Nat) (dct : Option Addr) (sl : Array (Option Value)) :
    Meets (Builtin.«enumerate.__new__» ⟨[.type "enumerate", .ref l], []⟩) (fun _ R s => s.heap.get? l = some { cls := .type "tuple", dict := dct, data := .seq items n, slots := sl } ∧
      R (.ok (.ret (.ref (s.heap.push { cls := .type "tuple_iterator", data := .fields #[.ref l, .int 0 0] }).objs.size)))
        { s with heap := (s.heap.push { cls := .type "tuple_iterator", data := .fields #[.ref l, .int 0 0] }).push { cls := .type "enumerate", data := .fields #[.none, .bool false, .ref s.heap.objs.size, rawInt 0, .none, .none] } }) :=
  .of_wp fun prog w A R s h => by
    obtain ⟨hp, g, d, tk, os⟩ := s
    obtain ⟨hl, h⟩ := h
    have hsub := sub_enumerate
    have hT : Heap.IsTuple (Shared.heap ⟨hp, g, d, tk, os⟩) l items := ⟨_, hl, rfl, n, rfl⟩
    wp_walk using wpAny_loadPart' hl
    refine wpAny_stack_any fun st => wpAny_pure ?_
    split
    · rename_i c _ _ _ _ _
      cases (c == Value.type "enumerate")
      · wp_walk using wpAny_loadPart' hl, wpAny_pyIter_tuple hT
        exact ⟨_, rfl, h⟩
      · wp_walk using wpAny_loadPart' hl, wpAny_pyIter_tuple hT
        exact ⟨_, rfl, h⟩
    · wp_walk using wpAny_loadPart' hl, wpAny_pyIter_tuple hT
      exact ⟨_, rfl, h⟩
section
variable {prog : Program} {w : World} {A : Around} {E : Value → Shared → Prop} {s : Shared}
theorem tw_call_enumerate {l : Addr} {items : Array Value} {Q : Value → Shared → Prop} (hL : s.heap.IsTuple l items)
    (h : ∀ h', IsEnum h' (s.heap.objs.size + 1) s.heap.objs.size 0 .none → h'.IsTupleIter s.heap.objs.size l 0 → h'.objs.size = s.heap.objs.size + 2 →
      (∀ b o, s.heap.get? b = some o → h'.get? b = some o) → Q (.ref (s.heap.objs.size + 1)) { s with heap := h' }) :
    wpAny (model prog w) A (call (.type "enumerate") [.ref l]) Q E s := by
  obtain ⟨⟨c, dct, dt, sl⟩, hl, hc, n, hd⟩ := hL
  replace hc : c = .type "tuple" := hc
  replace hd : dt = .seq items n := hd
  subst hc hd
  refine callType_new F.called_enumerate (by decide) (F.typeCall_enumerate_1 _) (F.newCall_enumerate_1 _) (fun obj => F.args_object_init_2 obj _) F.entry_enumerate_new
    (tw_enumerate_new l items n dct sl) ⟨hl, ?_⟩
  have hz : (s.heap.push { cls := .type "tuple_iterator", data := .fields #[.ref l, .int 0 0] }).objs.size = s.heap.objs.size + 1 := Heap.size_push ..
  show _ ∧ _
  rw [hz]
  have he : IsEnum ((s.heap.push { cls := .type "tuple_iterator", data := .fields #[.ref l, .int 0 0] }).push
      { cls := .type "enumerate", data := .fields #[.none, .bool false, .ref s.heap.objs.size, rawInt 0, .none, .none] }) (s.heap.objs.size + 1) s.heap.objs.size 0 .none := by
    have q := Heap.get?_push_size (s.heap.push { cls := .type "tuple_iterator", data := .fields #[.ref l, .int 0 0] })
      (o := { cls := .type "enumerate", data := .fields #[.none, .bool false, .ref s.heap.objs.size, rawInt 0, .none, .none] }) rfl
    rw [hz] at q
    exact q
  refine ⟨⟨_, he, rfl⟩, h _ he ⟨_, Heap.get?_push_of_some _ (Heap.get?_push_size _ rfl), rfl, rfl⟩ (by rw [Heap.size_push, hz]) fun b o x => Heap.get?_push_of_some _ (Heap.get?_push_of_some _ x)⟩
/-- the items of a tuple, in a new list -/
theorem tw_collect {l : Addr} {vs : List Value} {Q : List Value → Shared → Prop} (hl : s.heap.IsTuple l vs.toArray)
    (h : Q vs { s with heap := (s.heap.push (PyProof.Rows.seqObj "list" #[] 0)).update s.heap.objs.size (Obj.mapSeq (· ++ vs.toArray)) }) (hsz : vs.length ≤ sizeLine) :
    wpAny (model prog w) A (collect (.ref l)) Q E s := by
  obtain ⟨o, ho, hc, n, hd⟩ := id hl
  unfold collect
  refine wpAny_bind (wpAny_runValue (codeAny_builtin PyProof.Rows.entry_proto_collect' ?_))
  show wpAny _ _ (do again (.builtin "list.__iadd__" ⟨[← newList [], .ref l], []⟩)) _ _ s
  refine wpAny_bind (wpAny_newList (wpAny_pure ⟨Code.quiet_builtin _ (by decide +kernel), codeAny_builtin PyProof.Rows.entry_list_iadd' ?_⟩))
  show wpAny _ _ (Builtin.List.listExtendWith (.ref s.heap.objs.size) (.ref l) (.ref s.heap.objs.size)) _ _ { s with heap := s.heap.push (PyProof.Rows.seqObj "list" #[] 0) }
  unfold Builtin.List.listExtendWith
  have ho' : (s.heap.push (PyProof.Rows.seqObj "list" #[] 0)).get? l = some o := Heap.get?_push_of_some _ ho
  refine wpAny_bind (wpAny_typeOf (T := "tuple") ⟨o, ho', hc⟩ ?_)
  have ht : (Value.type "tuple" == Value.type "tuple") = true := by rfl
  rw [if_pos (by rw [ht]; simp)]
  refine wpAny_bind (PyProof.Rows.listItems_at ho' hd ?_)
  refine wpAny_bind (PyProof.Rows.listItems_at (xs := #[]) (n := 0) (Heap.get?_push_size _ rfl) rfl ?_)
  rw [if_neg (by simp)]
  refine wpAny_bind (PyProof.Rows.listUpdate_at (xs := #[]) (n := 0) (Heap.get?_push_size _ rfl) rfl ?_ (Nat.zero_le _) (by show (#[] ++ vs.toArray).size ≤ sizeLine + 1; simp only [Array.size_append, List.size_toArray, List.length_nil]; omega))
  refine wpAny_pure ?_
  show wpAny (model prog w) A (do
      let o ← load s.heap.objs.size
      match o.data with
      | .seq xs _ => pure xs.toList
      | _ => unsupported "internal:collect") Q E { s with heap := (s.heap.push (PyProof.Rows.seqObj "list" #[] 0)).update s.heap.objs.size (Obj.mapSeq (· ++ vs.toArray)) }
  refine wpAny_bind (wpAny_load (PyProof.Rows.get?_update_seq (Heap.get?_push_size _ rfl) _) ?_)
  show wpAny _ _ (pure ((#[] : Array Value) ++ vs.toArray).toList) Q E _
  rw [show ((#[] : Array Value) ++ vs.toArray).toList = vs by simp]
  exact wpAny_pure h
end
end PySem
namespace SrtO
open PySem PyProof.Rows Srt
section
variable {prog : Program} {w : World} {A : Around} {E : Value → Shared → Prop} {s : Shared}
theorem tw_sorted_tup {l : Addr} {vs : List Value} {ltv : Value → Value → Bool} {Q : Value → Shared → Prop} (O : Swo ltv) (hl : s.heap.IsTuple l vs.toArray) (hz : vs.length ≤ sizeLine)
    (hS : 2 ≤ vs.length → ∀ (h₁ : Heap) (a : Addr), h₁.get? a = some (seqObj "list" vs.toArray 0) → (∀ b o, s.heap.get? b = some o → b ≠ a ∧ h₁.get? b = some o) → SortableO prog w A.in1.in1 { s with heap := h₁ } a vs ltv)
    (h : ∀ out : List Value, Srtd ltv out → Stb ltv out vs → Q (.ref (s.heap.objs.size + 1)) { s with heap := sortedAll s.heap vs out.toArray }) :
    wpAny (model prog w) A (call (.builtin "sorted") [.ref l]) Q E s := by
  refine Calls.call_function_entry kind_sorted plain_sorted entry_sorted (args_sorted1 _) ?_
  unfold Builtin.«sorted»
  refine wpAny_bind (m := checkCount "sorted" 1 1 _) (wpAny_pure ?_)
  refine wpAny_bind (tw_collect hl ?_ hz)
  refine wpAny_bind (wpAny_newList ?_ hz)
  have hsz : ((s.heap.push (seqObj "list" #[] 0)).update s.heap.objs.size (Obj.mapSeq (· ++ vs.toArray))).objs.size = s.heap.objs.size + 1 := by
    rw [Heap.size_update, size_push']
  have hoL : (((s.heap.push (seqObj "list" #[] 0)).update s.heap.objs.size (Obj.mapSeq (· ++ vs.toArray))).push (seqObj "list" vs.toArray 0)).get? (s.heap.objs.size + 1) = some (seqObj "list" vs.toArray 0) := by
    rw [← hsz]
    exact Heap.get?_push_size _ rfl
  have keep : ∀ b o, s.heap.get? b = some o → b ≠ s.heap.objs.size + 1 ∧ (((s.heap.push (seqObj "list" #[] 0)).update s.heap.objs.size (Obj.mapSeq (· ++ vs.toArray))).push (seqObj "list" vs.toArray 0)).get? b = some o := fun b o q => by
    have hlt : b < s.heap.objs.size := Heap.lt_size q
    refine ⟨Nat.ne_of_lt (Nat.lt_succ_of_lt hlt), Heap.get?_push_of_some _ ?_⟩
    rw [Heap.get?_update_ne _ _ _ _ (Nat.ne_of_lt hlt)]
    exact Heap.get?_push_of_some _ q
  show wpAny _ _ _ _ _ { s with heap := ((s.heap.push (seqObj "list" #[] 0)).update s.heap.objs.size (Obj.mapSeq (· ++ vs.toArray))).push (seqObj "list" vs.toArray 0) }
  rw [hsz]
  refine wpAny_bind (wpAny_holding (wpAny_call_entry slot_list_sort ⟨_, hoL, rfl⟩ entry_list_sort (list_sort_ord O hoL hz (fun h2 => hS h2 _ _ hoL keep) fun out hs hb => ⟨_, rfl, ?_⟩) (args_list_sort _)))
  exact wpAny_pure ⟨_, rfl, h out hs hb⟩
end
end SrtO
namespace TW
open PySem PySem.Spec PyProof.Rows L2
section
variable {X : Cx} {c : Cf} {g : G} {sc : Scope} {N : List Str} {k : Nat} {e a b : Expr} {es : List Expr} {p : Rs → Prop} {pos pos2 p1 p2 p3 npos apos cpos : Pos} {x : Str}
theorem cr_sortedIT : CallR X (.builtin "sorted") (fun vs H Q => ∃ (a : Addr) (ns : List Int), vs = [V.ref a] ∧ SqT X.K H a (ns.map V.int) ∧
    ∀ (ns' : List Int) (p : Addr), ns'.Perm ns → ns'.Pairwise (· ≤ ·) → H p = none → Q (.ref p) (upd H p (.lst (ns'.map V.int)))) := by
  intro pins s σ H vs us Q I r h
  obtain ⟨a, ns, rfl, hs, q⟩ := h
  obtain ⟨its, rv, hl, hz⟩ := I.tuple hs
  rw [Vals.ref1 r]
  have hi := rv.ints
  refine SrtO.tw_sorted_tup SrtO.swo_int hl (by rw [← rv.length]; exact hz) (fun h2 h₁ a' _ _ => SrtO.ints_sortable hi h2) fun out h1 h2 => ?_
  obtain ⟨k1, k2, k3⟩ := SrtO.ints_out hi h1 h2
  obtain ⟨ep, he'⟩ := PyProof.Rows.sortedAll_at s.heap its out.toArray
  have hlen : ((out.map SrtO.iv).map V.int).length ≤ sizeLine := by
    rw [List.length_map, k2.length_eq]
    rw [List.length_map] at hz
    exact hz
  exact ⟨.ref _, upd H (s.heap.objs.size + 1) (.lst ((out.map SrtO.iv).map V.int)), I.laid (t' := s.toks) (fun _ _ => PyProof.Rows.sortedAll_old) (Nat.le_succ _) ⟨hlen, out, ep, vals_of_ints k1, he'⟩, rfl, q _ _ k2 k3 (I.hok.fresh (Nat.le_succ _))⟩
theorem xsortIT (h : WE X c g a fun r => ∃ ns : List Int, r = .d (.tup (ns.map D.int)) ∧ ∀ ns' : List Int, ns'.Perm ns → ns'.Pairwise (· ≤ ·) → p (.lst true (ns'.map D.int))) (B : Bx X N sc k := by assumption) (M : Nm X.mg := by assumption) (hg : glB sc "sorted" = true := by decide +kernel) (he : starEach [a] X.env = (false, eval a X.env) :: starEach [] X.env := by rfl) : WE X c g (.Call (.Name "sorted" pos2) [a] [] pos) p := by
  refine we_callB (P := fun rs => ∃ (ns : List Int), rs = [.d (.tup (ns.map D.int))] ∧ ∀ ns' : List Int, ns'.Perm ns → ns'.Pairwise (· ≤ ·) → p (.lst true (ns'.map D.int))) cr_sortedIT (B.gl hg) M.sorted (by decide +kernel) (by decide) (by decide) he rfl
    (a_cons (h.mono fun r ⟨ds, e1, e2⟩ => a_nil ⟨ds, by rw [e1], e2⟩) he) ?_
  intro H1 H vs rs Q hst hr ⟨ds, ers, q⟩ kk
  subst ers
  obtain ⟨v, rfl, hv⟩ := rs1 hr
  obtain ⟨l, xs, rfl, h1, h2⟩ := is_tup hv
  have e := h2.ints
  subst e
  exact ⟨l, ds, rfl, SqT.of h1, fun ns' pp pm pw hp => kk _ _ _ (Ext.new hp) (.ll upd_same (IsL.of_ints _) (st_new hst hp) fun _ => hp) (q ns' pm pw)⟩
/-! ### enumerate(tuple) -/
def IteT (K : Fg) (a : Addr) : It :=
  ⟨fun i H => ∃ (xs : List V) (x : V), SqT K H a xs ∧ xs[i]? = some x, fun i H v H' => ∃ T x, v = .ref T ∧ H T = none ∧ H' = upd H T (.tup [.int (i : Nat), x]) ∧ ∀ xs, SqT K H a xs → xs[i]? = some x, fun i H => ∃ xs : List V, SqT K H a xs ∧ xs.length ≤ i⟩
theorem turn_enumT {P : Program} {w : World} {K : Fg} {elts : List Expr} {kk : Nat} {tpos : Pos} (a e it : Addr) (hea : e ≠ a) (hai : a ≠ it) :
    Turn P w K (.Tuple elts kk tpos) (IteT K a) [e, it] e (fun i h => (∃ old, IsEnum h e it ((i : Nat) : Int) old) ∧ h.IsTupleIter it a i ∧ e ≠ it) where
  mem := by simp
  obj := fun i h st b hb => by
    obtain ⟨⟨old, he⟩, ⟨o, ho, hc, hd⟩, _⟩ := st
    have e' : b = e ∨ b = it := by simpa using hb
    rcases e' with z | z
    · rw [z]
      exact ⟨_, he, fun v q => nomatch q⟩
    · rw [z]
      exact ⟨o, ho, fun v q => by rw [hd] at q; cases q⟩
  keep := fun i h h' st k => by
    obtain ⟨⟨old, he⟩, hi, hne⟩ := st
    exact ⟨⟨old, k e (by simp) _ he⟩, hi.at fun o q => k it (by simp) o q, hne⟩
  item := by
    intro X hP hw hK hc i pins s σ H E I hf st hg
    subst hP hw hK
    obtain ⟨⟨old, he⟩, hit, hne⟩ := st
    obtain ⟨xs, x, hq, hx⟩ := hg
    obtain ⟨its, rv, p, hz⟩ := I.tuple hq
    obtain ⟨u, hu, ru⟩ := rv.get hx
    have hel : e < s.heap.objs.size := Heap.lt_size he
    have hil : it < s.heap.objs.size := by
      obtain ⟨_, q, _⟩ := hit
      exact Heap.lt_size q
    have hin : i < its.toArray.size := by
      rw [List.size_toArray]
      exact (List.getElem?_eq_some_iff.mp hu).1
    refine wpAny_pyNext_enum_itemD (Draws.tuple (A := X.A.in1) (I.ok.hd hc) it a hai its.toArray) he ⟨hit, p⟩ hin hne (by simp [hne, hea]) fun x' h' tk hx' ho hst hT hsz hk => ?_
    have exu : x' = u := by
      have q : its[i]? = some x' := by simpa using hx'
      rw [hu] at q
      exact (Option.some.inj q).symm
    subst exu
    refine ⟨_, rfl, wpAny_letOwnedTupleGo_enum (s := { s with heap := h', toks := tk + 1 }) ho fun h'' he' sb => ?_⟩
    have hT2 : h''.get? s.heap.objs.size = some { cls := .type "tuple", data := .seq #[.int i tk, x'] } := (sb.2 _ (Nat.ne_of_gt hel)).trans hT
    have new : ObjOk X.prog X.w (upd H s.heap.objs.size (.tup [.int (i : Nat), x])) h'' s.heap.objs.size (.tup [.int (i : Nat), x]) :=
      ⟨by show 2 ≤ sizeLine; decide, [.int i tk, x'], .cons ⟨_, rfl⟩ (.cons ru .nil), ⟨_, hT2, rfl, _, rfl⟩⟩
    have I1 : Inv X pins σ (upd H s.heap.objs.size (.tup [.int (i : Nat), x])) { s with heap := h'', toks := tk + 1 } :=
      I.turnedNew (ch := [e, it]) (fun b ob hb q => (sb.2 b (fun z => hb (by simp [z]))).trans (hk b ob (fun z => hb (by simp [z])) (fun z => hb (by simp [z])) q)) hf (Nat.le_refl _) new
    refine ⟨.ref s.heap.objs.size, _, I1, rfl, ⟨_, x, rfl, I.hok.fresh (Nat.le_refl _), rfl, fun ys hy => by rw [I.tuple_inj hy hq]; exact hx⟩, ⟨⟨x', ?_⟩, hst.1.at fun o q => (sb.2 it (Ne.symm hne)).trans q, hne⟩, fun b hb => ?_⟩
    · have e1 : ((i + 1 : Nat) : Int) = (i : Int) + 1 := by omega
      rw [e1]
      exact he'
    · have hb' : b < s.heap.objs.size := by
        have e' : b = e ∨ b = it := by simpa using hb
        rcases e' with z | z
        · rw [z]
          exact hel
        · rw [z]
          exact hil
      rw [upd_ne (Nat.ne_of_lt hb')]
      exact (hf b hb).1
  done := by
    intro X hP hw hK hc i pins s σ H E I hf st hg
    subst hP hw hK
    obtain ⟨⟨old, he⟩, hit, hne⟩ := st
    obtain ⟨xs, hq, hx⟩ := hg
    obtain ⟨its, rv, p, hz⟩ := I.tuple hq
    obtain ⟨f0, f1, f2, f3, f4, f5⟩ := hf it (by simp)
    have hl := rv.length
    have D := Draws.tuple (prog := X.prog) (w := X.w) (A := X.A.in1) (I.ok.hd hc) it a hai its.toArray
    unfold pyNext
    have hT : s.TypeIs (.ref e) "enumerate" := ⟨_, he, rfl⟩
    refine wpAny_bind (wpAny_attempt (wpAny_callSpecial?_slot (name := Str.ofString "__next__") hT F.slot_enumerate_next
      (wpAny_call_entry F.slot_enumerate_next hT F.entry_enumerate_next ?_ (F.args_enumerate_next_1 _))))
    show wpAny _ _ (field (.ref e) 2 >>= _) _ _ _
    refine wpAny_bind (wpAny_field he rfl (x := .ref it) rfl ?_)
    refine wpAny_bind (RZ.nextOf_tuple_end (I.ok.hd hc) hit p (by simp; omega) fun h' x' hb' hx' => ?_)
    obtain ⟨o, ho, hcc⟩ := hx'
    refine wpAny_bind (wpAny_isInstance (T := "StopIteration") (b := true) ⟨o, ho, hcc⟩ isSubtype_stop ?_)
    exact wpAny_pure ⟨rfl, I.turned (t' := s.toks) (fun b o hb q => hb' b o hb q) f0 f1 f3 f4 f5⟩
  self := fun A i s Q E st h => by
    obtain ⟨⟨_, he⟩, _⟩ := st
    exact wpAny_pyIter_enum he h
theorem pi_enumT {e : Expr} {ta : TA} {p pos tpos : Pos} {elts : List Expr} {kk : Nat} (hg : Gl X "enumerate") (hm : X.mg "enumerate" = none) (ha : PA X [e] ta) (hs : starEach [e] X.env = [(false, eval e X.env)]) :
    PI X (.Tuple elts kk tpos) (.Call (.Name "enumerate" p) [e] [] pos) (fun σ H R => ta σ H fun vs H1 => ∃ a xs, vs = [.ref a] ∧ SqT X.K H1 a xs ∧ R (IteT X.K a) H1) := by
  refine ⟨fun pins s σ H R I h => ?_⟩
  refine Call_ (ld_blt I hg hm boot_enumerate (PyProof.Rows.callWith_type1 (thn (ha.run pos pins s σ H _ I h) fun us s1 ⟨vs, H1, I1, r1, q1⟩ => ?_) hs rfl))
  obtain ⟨a, xs, ex, hq, q⟩ := q1
  subst ex
  cases r1 with
  | cons r rr =>
    cases rr
    cases r
    obtain ⟨its, rv, p', hz⟩ := I1.tuple hq
    have hal : a < s1.heap.objs.size := by
      obtain ⟨_, q, _⟩ := id p'
      exact Heap.lt_size q
    refine tw_call_enumerate p' fun h' he hit hsz hk => wpAny_pyIter_enum he ?_
    have I2 : Inv X pins σ H1 { s1 with heap := h' } := I1.kept (t' := s1.toks) hk
    refine ⟨s1.heap.objs.size + 1, [s1.heap.objs.size + 1, s1.heap.objs.size], _, _, H1, rfl, I2, turn_enumT a (s1.heap.objs.size + 1) s1.heap.objs.size (Nat.ne_of_gt (Nat.lt_succ_of_lt hal)) (Nat.ne_of_lt hal), ⟨⟨.none, he⟩, hit, Nat.succ_ne_self _⟩, fun b hb => ?_, q⟩
    have e' : b = s1.heap.objs.size + 1 ∨ b = s1.heap.objs.size := by simpa using hb
    have hle : s1.heap.objs.size ≤ b := by
      rcases e' with z | z
      · rw [z]
        exact Nat.le_add_right _ _
      · rw [z]
        exact Nat.le_refl _
    exact I1.fpOk hle (I1.hok.fresh hle)
theorem walk_enumT {K : Fg} {a : Addr} {xs : List V} : Walk (IteT K a) xs.length (fun H => SqT K H a xs) (YPair (fun i => some (.int (i : Nat))) (fun i => xs[i]?)) := by
  refine ⟨fun i _ hi q => ⟨xs, xs[i], q, by simp [hi]⟩, fun _ q => ⟨xs, q, Nat.le_refl _⟩, fun i H v H' _ q y => ?_⟩
  obtain ⟨T, x, h1, h2, h3, h4⟩ := y
  exact ⟨T, .int (i : Nat), x, h1, h2, h3, rfl, h4 xs q⟩
def enumD (ds : List D) : List D := ds.zipIdx.map fun q => .tup [.int (q.2 : Nat), q.1]
theorem qenum {lp : Bool} {P : List D → Prop} {elts : List Expr} {kk : Nat} {tpos : Pos} (h : WE X c g a fun r => ∃ ds, r = .d (.tup ds) ∧ P (enumD ds)) (B : Bx X N sc k := by assumption) (M : Nm X.mg := by assumption) (hg : glB sc "enumerate" = true := by decide +kernel)
    (hs : starEach [a] X.env = [(false, eval a X.env)] := by rfl) : WI X c g lp (.Tuple elts kk tpos) (.Call (.Name "enumerate" pos2) [a] [] pos) P := fun σ H E R kk => by
  refine wi_of (pi_enumT (B.gl hg) M.enumerate (pa_cons pe_w pa_nil hs) hs) ?_
  refine h σ H E _ fun v H1 r e1 r1 ⟨ds, er, q⟩ => ?_
  subst er
  obtain ⟨t, xs, rfl, h1, h2⟩ := is_tup r1
  refine ⟨t, xs, rfl, SqT.of h1, kk _ H1 _ e1 ⟨fun H => SqT X.K H t xs, YPair (fun i => some (.int (i : Nat))) (fun i => xs[i]?), fun _ => False, ?_, fun b hb => hb.elim, fun H'' st => ⟨SqT.of ?_, fun i x H3 hi y => ?_⟩⟩ q⟩
  · have e : (enumD ds).length = xs.length := by
      rw [h2.length]
      simp [enumD]
    rw [e]
    exact walk_enumT
  · rw [st t (.inr ⟨xs, h1⟩)]
    exact h1
  · obtain ⟨T, x', y', rfl, hT, rfl, g1, g2⟩ := y
    cases g1
    obtain ⟨d, hd, hi1⟩ := h2.getV g2
    refine ⟨.tup [.int (i : Nat), d], ?_, same_new hT, Is.tup upd_same ?_⟩
    · unfold enumD
      rw [List.getElem?_map, List.getElem?_zipIdx, hd]
      simp
    · have tx := (stay_tx st).trans (same_tx (same_new (o := HO.tup [V.int (i : Nat), y']) hT))
      exact .cons (Is.int _) (.cons (hi1.mono tx) .nil)
end
end TW

/-! TWT: statements in the form in which they are used. -/
namespace TW
open PySem PySem.Spec PyProof.Rows L2
section
variable {X : Cx} {c : Cf} {g : G} {sc : Scope} {N : List Str} {k : Nat} {e a b ke : Expr} {N' : Ks} {pos pos2 npos apos cpos : Pos} {x y z : Str} {ss body : List Stmt}
theorem sputK (i : Nat) {kvs : List (Int × D)} (hz : kvs.length < 1000000)
    (h : WE X c g e fun r => ∃ d, r = .d d ∧ WE X c g ke fun r' => ∃ j, r' = .d (.int j) ∧ N'.nx (g.set i (some (.dic (storeK kvs j d)))))
    (B : Bx X N sc k := by assumption) (hN : N[i]? = some x := by rfl) (hG : g[i]? = some (some (.dic kvs)) := by rfl) (hv : visB sc x = true := by decide +kernel)
    (hd : (x == ("__debug__" : Str)) = false := by decide) (hcd : (x == ("__classdict__" : Str)) = false := by decide)
    (hs : swapsWith e (some (.Subscript (.Name x npos) ke pos2)) pos.line X.env = pure false := by rfl) : WS X c g (.Assign [.Subscript (.Name x npos) ke pos2] e pos) N' := s_putK i B (hu1 B) hN hv hG hz h hd hcd hs
theorem ssetdef (i : Nat) {kvs : List (Int × D)} (hz : kvs.length < 1000000)
    (h : WE X c g ke fun r' => ∃ j, r' = .d (.int j) ∧ WE X c g e fun r => ∃ d, r = .d d ∧ N'.nx (g.set i (some (.dic (if (lookK kvs j).isSome = true then kvs else storeK kvs j d)))))
    (m : M2 X (.Name x npos) "setdefault" apos ke e cpos)
    (B : Bx X N sc k := by assumption) (hN : N[i]? = some x := by rfl) (hG : g[i]? = some (some (.dic kvs)) := by rfl) (hv : visB sc x = true := by decide +kernel)
    (hd : (x == ("__debug__" : Str)) = false := by decide) (hcd : (x == ("__classdict__" : Str)) = false := by decide) : WS X c g (.Expr (.Call (.Attribute (.Name x npos) "setdefault" apos) [ke, e] [] cpos) pos) N' := s_setdef i B hN hv hG hz h m hd hcd
theorem sext (i : Nat) {ds : List D} (h : WE X c g e fun r => ∃ es, r = .lst true es ∧ ds.length + es.length ≤ 1000000 ∧ N'.nx (g.set i (some (.own (ds ++ es)))))
    (B : Bx X N sc k := by assumption) (hN : N[i]? = some x := by rfl) (hG : g[i]? = some (some (.own ds)) := by rfl) (hv : visB sc x = true := by decide +kernel)
    (hd : (x == ("__debug__" : Str)) = false := by decide) (hcd : (x == ("__classdict__" : Str)) = false := by decide)
    (hbase : attributeBase (.Name x npos) "extend" X.env (eval (.Name x npos) X.env) = eval (.Name x npos) X.env := by rfl)
    (hfew : ((backTo cpos (starEach [e] X.env)).all (fun x => !x.1) && (backToKw cpos (keywordEach [] X.env)).all (fun x => x.1.isSome) && decide (([e] : List Expr).length + ([] : List Keyword).length + (if ([] : List Keyword).isEmpty then 0 else 1) < 30)) = true := by rfl)
    (hline : (apos.endLine == cpos.line) = true := by rfl) (hs : starEach [e] X.env = (false, eval e X.env) :: starEach [] X.env := by rfl) :
    WS X c g (.Expr (.Call (.Attribute (.Name x npos) "extend" apos) [e] [] cpos) pos) N' := s_ext i B hN hv hG h hd hcd hbase hfew hline hs
theorem spop (i j l : Nat) {ds : List D} {d1 d2 : D} {kk : Nat} {p1 p2 : Pos} (hG : g[i]? = some (some (.own (ds ++ [.tup [d1, d2]])))) (n : N'.nx (((g.set i (some (.own ds))).set j (some (.d d1))).set l (some (.d d2))))
    (B : Bd X N sc k := by assumption) (hN : N[i]? = some x := by rfl) (hv : visB sc x = true := by decide +kernel) (hNy : N[j]? = some y := by rfl) (hly : locB sc y = true := by decide +kernel) (hNz : N[l]? = some z := by rfl) (hlz : locB sc z = true := by decide +kernel)
    (hd : (x == ("__debug__" : Str)) = false := by decide) (hcd : (x == ("__classdict__" : Str)) = false := by decide)
    (hbase : attributeBase (.Name x npos) "pop" X.env (eval (.Name x npos) X.env) = eval (.Name x npos) X.env := by rfl) (hline : (apos.endLine == cpos.line) = true := by rfl)
    (hs : swapsWithSole [.Tuple [.Name y p1, .Name z p2] kk pos2] (.Call (.Attribute (.Name x npos) "pop" apos) [] [] cpos) pos.line X.env = pure false := by rfl) (hw : swappedStores [.Tuple [.Name y p1, .Name z p2] kk pos2] (.Call (.Attribute (.Name x npos) "pop" apos) [] [] cpos) X.env = pure none := by rfl)
    (h1 : (assignEach [.Tuple [.Name y p1, .Name z p2] kk pos2] X.env).map (·.2) = [assign (.Tuple [.Name y p1, .Name z p2] kk pos2) X.env] := by rfl) :
    WS X c g (.Assign [.Tuple [.Name y p1, .Name z p2] kk pos2] (.Call (.Attribute (.Name x npos) "pop" apos) [] [] cpos) pos) N' := s_popP i j l B hN hv hG hNy hly hNz hlz n hd hcd hbase hline hs hw h1
theorem ssetL (i : Nat) {ds : List D}
    (h : WE X c g e fun r => ∃ d, r = .d d ∧ WE X c g ke fun r' => ∃ j : Nat, r' = .d (.int j) ∧ j < ds.length ∧ N'.nx (g.set i (some (.own (ds.set j d)))))
    (B : Bx X N sc k := by assumption) (hN : N[i]? = some x := by rfl) (hG : g[i]? = some (some (.own ds)) := by rfl) (hv : visB sc x = true := by decide +kernel)
    (hd : (x == ("__debug__" : Str)) = false := by decide) (hcd : (x == ("__classdict__" : Str)) = false := by decide)
    (ha : ∀ v, assign (.Subscript (.Name x npos) ke pos2) X.env v = (do
      let ov ← holding [v] (eval (.Name x npos) X.env)
      let iv ← holding [v, ov] (eval ke X.env)
      standAt pos2
      holding [v, ov, iv] (setItem ov iv v)
      release [v, ov, iv] []) := by intro _; rfl)
    (hs : swapsWithSole [.Subscript (.Name x npos) ke pos2] e pos.line X.env = pure false := by rfl) (hw : swappedStores [.Subscript (.Name x npos) ke pos2] e X.env = pure none := by rfl)
    (h1 : (assignEach [.Subscript (.Name x npos) ke pos2] X.env).map (·.2) = [assign (.Subscript (.Name x npos) ke pos2) X.env] := by rfl) : WS X c g (.Assign [.Subscript (.Name x npos) ke pos2] e pos) N' := s_setL i B hN hv hG h hd hcd ha hs hw h1
theorem ssetP (j l : Nat) {kk : Nat} {p1 p2 : Pos} (h : WE X c g e fun r => ∃ d1 d2, r = .d (.tup [d1, d2]) ∧ N'.nx ((g.set j (some (.d d1))).set l (some (.d d2))))
    (B : Bd X N sc k := by assumption) (hNy : N[j]? = some y := by rfl) (hly : locB sc y = true := by decide +kernel) (hNz : N[l]? = some z := by rfl) (hlz : locB sc z = true := by decide +kernel)
    (hs : swapsWithSole [.Tuple [.Name y p1, .Name z p2] kk pos2] e pos.line X.env = pure false := by rfl) (hw : swappedStores [.Tuple [.Name y p1, .Name z p2] kk pos2] e X.env = pure none := by rfl)
    (h1 : (assignEach [.Tuple [.Name y p1, .Name z p2] kk pos2] X.env).map (·.2) = [assign (.Tuple [.Name y p1, .Name z p2] kk pos2) X.env] := by rfl) :
    WS X c g (.Assign [.Tuple [.Name y p1, .Name z p2] kk pos2] e pos) N' := s_setP j l B hNy hly hNz hlz h hs hw h1
theorem sstill (i : Nat) {ds : List D} (h : WSs X c (g.set i (some (.ro ds))) ss N') (hi : g[i]? = some (some (.own ds)) := by rfl) : WSs X c g ss N' := s_still i hi h
theorem slock (i : Nat) {kvs : List (Int × D)} (h : WSs X c (g.set i (some (.fz kvs))) ss N') (hi : g[i]? = some (some (.dic kvs)) := by rfl) : WSs X c g ss N' := s_lock i hi h
theorem swhile {a : Expr} (I : G → Nat → Prop) (m0 : Nat) (h0 : I g m0) (h : ∀ g1 m, I g1 m → WT X c g1 a fun i => if i = true then WSs X c g1 body ⟨fun g2 => ∃ m', m' < m ∧ I g2 m', N'.rt, N'.nx, fun g2 => ∃ m', m' < m ∧ I g2 m'⟩ else N'.nx g1) (B : Bx X N sc k := by assumption) :
    WS X c g (.While a body [] pos) N' := s_while B I m0 h0 h
theorem qkeysNew {lp : Bool} {tg : Expr} {p : List D → Prop} (h : WE X c g e fun r => ∃ kvs, r = .dct true kvs ∧ p (keyD kvs)) : WI X c g lp tg e p := src_keysNew h
theorem qfz {tg : Expr} {p : List D → Prop} (h : WE X c g e fun r => ∃ kvs, r = .fz kvs ∧ p (keyD kvs)) : WI X c g false tg e p := src_fz h
theorem qzip {lp : Bool} {elts : List Expr} {kk : Nat} {tpos : Pos} {p : List D → Prop} (h : WE X c g a fun r => ∃ ds, r = .d (.tup ds) ∧ WE X c g b fun r' => ∃ es, r' = .d (.tup es) ∧ p (zipD ds es)) (B : Bx X N sc k := by assumption) (M : Nm X.mg := by assumption) (hg : glB sc "zip" = true := by decide +kernel)
    (hs : starEach [a, b] X.env = (false, eval a X.env) :: starEach [b] X.env := by rfl) (hs2 : starEach [b] X.env = (false, eval b X.env) :: starEach [] X.env := by rfl) (hpl : (backTo pos (starEach [b] X.env)).any (·.1) = false := by rfl) :
    WI X c g lp (.Tuple elts kk tpos) (.Call (.Name "zip" pos2) [a, b] [] pos) p := src_zip B M h hg hs hs2 hpl
end
end TW

/-! TM0: what the defs reckon, in plain Lean. -/
namespace TW
open PySem PySem.Spec PyProof.Rows L2
structure Folk where (d fa mo man wed : Int)
structure News where (word : Str) (d who other : Int)
structure Row where (fo : Int) (men : Str) (wed : Int) (way : Str)
/-- a house, a book, a day -/
structure Sg where (h : List Folk) (b : List News) (day : Int)
abbrev folkD (f : Folk) : D := .tup [.int f.d, .int f.fa, .int f.mo, .int f.man, .int f.wed]
abbrev newsD (f : News) : D := .tup [.str f.word, .int f.d, .int f.who, .int f.other]
abbrev rowD (f : Row) : D := .tup [.int f.fo, .str f.men, .int f.wed, .str f.way]
abbrev houseD (h : List Folk) : D := .tup (h.map folkD)
abbrev bookD (h : List News) : D := .tup (h.map newsD)
abbrev ruleD (h : List Row) : D := .tup (h.map rowD)
abbrev intsD (l : List Int) : D := .tup (l.map D.int)
def hAt (h : List Folk) (i : Int) : Folk := h.getD i.toNat ⟨0, 0, 0, 0, 0⟩
def okF (h : List Folk) (i : Int) : Prop := 0 ≤ i ∧ i < (h.length : Nat)
instance (h : List Folk) (i : Int) : Decidable (okF h i) := by unfold okF; infer_instance
theorem hAt_get {h : List Folk} {i : Int} (o : okF h i) : h[i.toNat]? = some (hAt h i) := by
  obtain ⟨h1, h2⟩ := o
  have hn : i.toNat < h.length := by omega
  unfold hAt
  rw [List.getD_eq_getElem?_getD, List.getElem?_eq_getElem hn]
  rfl
theorem at_h {h : List Folk} {i : Int} (o : okF h i) : atI (h.map folkD) i = some (folkD (hAt h i)) := at_mapI o.1 (hAt_get o)
def idx (n : Nat) : List Int := (List.range n).map fun (j : Nat) => (j : Int)
theorem rng0 (n : Nat) : rngD 0 n = (idx n).map D.int := by
  unfold rngD idx
  rw [List.map_map]
  refine List.map_congr_left fun j _ => ?_
  show D.int (0 + (j : Int)) = D.int (j : Int)
  rw [Int.zero_add]
theorem mem_idx {n : Nat} {i : Int} : i ∈ idx n ↔ 0 ≤ i ∧ i < n := by
  unfold idx
  simp only [List.mem_map, List.mem_range]
  constructor
  · rintro ⟨j, h, rfl⟩
    omega
  · rintro ⟨h1, h2⟩
    exact ⟨i.toNat, by omega, by omega⟩
theorem idx_len (n : Nat) : (idx n).length = n := by simp [idx]
theorem idx_pw (n : Nat) : (idx n).Pairwise (· < ·) := by
  unfold idx
  rw [List.pairwise_map]
  refine List.Pairwise.imp ?_ List.pairwise_lt_range
  intro a b h
  omega
/-- the number of a folk -/
def folkB (h : List Folk) (d : D) : Bool := match d with
  | .int v => decide (okF h v)
  | _ => false
def kids (h : List Folk) (who : Int) : List Int := (idx h.length).filter fun c => decide (who = (hAt h c).fa ∨ who = (hAt h c).mo)
def daysOf (b : List News) (word : Str) (day who : Int) : List Int := (b.filter fun n => decide (n.word = word) && (decide (n.who = who) && decide (n.d ≤ day))).map (·.d)
def mx (l : List Int) : Int := l.foldl max (-1)
def isDead (s : Sg) (who : Int) : Bool := !(daysOf s.b "dies" s.day who).isEmpty
def backOf (s : Sg) (who : Int) : Int := mx (daysOf s.b "returns" s.day who)
def isOut (s : Sg) (who : Int) : Bool := decide (backOf s who < mx (daysOf s.b "leaves" s.day who ++ daysOf s.b "cuts" s.day who))
def mnOr (l : List Int) : Int := match l with
  | [] => -1
  | a :: t => t.foldl min a
def cutFrom (s : Sg) (who : Int) : Int := mnOr ((daysOf s.b "cuts" s.day who).filter fun c => decide (backOf s who < c))
def countsBy (h : List Folk) (r : Row) (p c : Int) : Bool := if r.wed = 1 ∧ (hAt h c).wed = 0 then false else (!decide (r.men = "only") || decide ((hAt h p).man = 1))
def heir (s : Sg) (r : Row) (who c : Int) : Bool := decide ((hAt s.h c).d ≤ s.day) && ((decide (cutFrom s who = -1) || decide ((hAt s.h c).d < cutFrom s who)) && countsBy s.h r who c)
def stepsOf (s : Sg) (r : Row) (who : Int) : List Int :=
  let found := (kids s.h who).filter (heir s r who)
  if r.men = "first" then (found.filter fun c => decide ((hAt s.h c).man = 1)) ++ (found.filter fun c => decide ((hAt s.h c).man = 0)) else found
def isFit (s : Sg) (r : Row) (who : Int) : Bool := if r.men = "only" ∧ (hAt s.h who).man = 0 then false else (!isDead s who && !isOut s who)
/-- a house as the law makes it -/
structure WH (h : List Folk) : Prop where
  pos : 1 ≤ h.length
  few : h.length ≤ 60
  rise : ∀ i j : Int, okF h i → okF h j → i ≤ j → (hAt h i).d ≤ (hAt h j).d
  fa : ∀ j : Int, okF h j → (hAt h j).fa < j
  mo : ∀ j : Int, okF h j → (hAt h j).mo < j
structure WS' (s : Sg) : Prop where
  h : WH s.h
  b : s.b.length ≤ 40
theorem foldl_max_ge : ∀ (l : List Int) (a : Int), a ≤ l.foldl max a ∧ ∀ x ∈ l, x ≤ l.foldl max a
  | [], a => ⟨Int.le_refl _, fun x h => by cases h⟩
  | y :: l, a => by
    obtain ⟨h1, h2⟩ := foldl_max_ge l (max a y)
    refine ⟨Int.le_trans (Int.le_max_left _ _) h1, fun x hx => ?_⟩
    rcases List.mem_cons.mp hx with e | h
    · subst e
      exact Int.le_trans (Int.le_max_right _ _) h1
    · exact h2 x h
theorem foldl_max_mem : ∀ (l : List Int) (a : Int), l.foldl max a ∈ a :: l
  | [], a => List.mem_cons_self
  | y :: l, a => by
    have h := foldl_max_mem l (max a y)
    rw [List.foldl_cons]
    rcases List.mem_cons.mp h with e | h
    · rw [e]
      rcases Int.le_total a y with q | q
      · rw [Int.max_eq_right q]
        simp
      · rw [Int.max_eq_left q]
        simp
    · exact List.mem_cons_of_mem _ (List.mem_cons_of_mem _ h)
theorem mx_eq {l : List Int} {m : Int} (h : m ∈ (-1) :: l) (h2 : ∀ y, y ∈ (-1) :: l → y ≤ m) : m = mx l := by
  have a := h2 _ (foldl_max_mem l (-1))
  have b : m ≤ mx l := by
    rcases List.mem_cons.mp h with e | e
    · rw [e]
      exact (foldl_max_ge l (-1)).1
    · exact (foldl_max_ge l (-1)).2 m e
  exact Int.le_antisymm b a
theorem foldl_min_le : ∀ (l : List Int) (a : Int), l.foldl min a ≤ a ∧ ∀ x ∈ l, l.foldl min a ≤ x
  | [], a => ⟨Int.le_refl _, fun x h => by cases h⟩
  | y :: l, a => by
    obtain ⟨h1, h2⟩ := foldl_min_le l (min a y)
    refine ⟨Int.le_trans h1 (Int.min_le_left _ _), fun x hx => ?_⟩
    rcases List.mem_cons.mp hx with e | h
    · subst e
      exact Int.le_trans h1 (Int.min_le_right _ _)
    · exact h2 x h
theorem foldl_min_mem : ∀ (l : List Int) (a : Int), l.foldl min a ∈ a :: l
  | [], a => List.mem_cons_self
  | y :: l, a => by
    have h := foldl_min_mem l (min a y)
    rw [List.foldl_cons]
    rcases List.mem_cons.mp h with e | h
    · rw [e]
      rcases Int.le_total a y with q | q
      · rw [Int.min_eq_left q]
        simp
      · rw [Int.min_eq_right q]
        simp
    · exact List.mem_cons_of_mem _ (List.mem_cons_of_mem _ h)
theorem mn_eq {l : List Int} {m : Int} (h : m ∈ l) (h2 : ∀ y, y ∈ l → m ≤ y) : m = mnOr l := by
  cases l with
  | nil => cases h
  | cons a t =>
    have p := h2 _ (foldl_min_mem t a)
    have q : mnOr (a :: t) ≤ m := by
      rcases List.mem_cons.mp h with e | e
      · rw [e]
        exact (foldl_min_le t a).1
      · exact (foldl_min_le t a).2 m e
    exact Int.le_antisymm p q
/-! ### steps -/
theorem okF_idx {h : List Folk} {i : Int} : i ∈ idx h.length ↔ okF h i := mem_idx
theorem kids_ok {h : List Folk} {who c : Int} (m : c ∈ kids h who) : okF h c ∧ (who = (hAt h c).fa ∨ who = (hAt h c).mo) := by
  unfold kids at m
  rw [List.mem_filter, mem_idx] at m
  exact ⟨m.1, of_decide_eq_true m.2⟩
theorem steps_kid {s : Sg} {r : Row} {who c : Int} (m : c ∈ stepsOf s r who) : c ∈ kids s.h who ∧ heir s r who c = true := by
  unfold stepsOf at m
  split at m
  · rcases List.mem_append.mp m with m | m
    · exact List.mem_filter.mp (List.mem_filter.mp m).1
    · exact List.mem_filter.mp (List.mem_filter.mp m).1
  · exact List.mem_filter.mp m
theorem steps_ok {s : Sg} {r : Row} {who c : Int} (w : WH s.h) (m : c ∈ stepsOf s r who) : okF s.h c ∧ who < c ∧ (hAt s.h c).d ≤ s.day := by
  obtain ⟨h1, h2⟩ := steps_kid m
  obtain ⟨h3, h4⟩ := kids_ok h1
  refine ⟨h3, ?_, ?_⟩
  · rcases h4 with e | e
    · rw [e]
      exact w.fa c h3
    · rw [e]
      exact w.mo c h3
  · unfold heir at h2
    simp only [Bool.and_eq_true, decide_eq_true_eq] at h2
    exact h2.1
theorem idx_nodup (n : Nat) : (idx n).Nodup := (idx_pw n).imp fun h => Int.ne_of_lt h
theorem kids_nodup (h : List Folk) (who : Int) : (kids h who).Nodup := (idx_nodup _).filter _
theorem steps_nodup (s : Sg) (r : Row) (who : Int) : (stepsOf s r who).Nodup := by
  have k := (kids_nodup s.h who).filter (heir s r who)
  unfold stepsOf
  split
  · rw [List.nodup_append]
    refine ⟨k.filter _, k.filter _, fun a ha b hb e => ?_⟩
    subst e
    have h1 := of_decide_eq_true (List.mem_filter.mp ha).2
    have h2 := of_decide_eq_true (List.mem_filter.mp hb).2
    omega
  · exact k
theorem kids_len (h : List Folk) (who : Int) : (kids h who).length ≤ h.length := by
  have := List.length_filter_le (fun c => decide (who = (hAt h c).fa ∨ who = (hAt h c).mo)) (idx h.length)
  rw [idx_len] at this
  exact this
theorem nodup_le : ∀ {l m : List Int}, l.Nodup → (∀ x ∈ l, x ∈ m) → l.length ≤ m.length
  | [], _, _, _ => Nat.zero_le _
  | a :: l, m, hd, h => by
    have hd' := List.nodup_cons.mp hd
    have ham := h a List.mem_cons_self
    have q := nodup_le (l := l) (m := m.erase a) hd'.2 fun x hx => (List.mem_erase_of_ne (fun e => hd'.1 (by rw [← e]; exact hx))).mpr (h x (List.mem_cons_of_mem _ hx))
    rw [List.length_erase_of_mem ham] at q
    have := List.length_pos_of_mem ham
    rw [List.length_cons]
    omega
theorem nodup_len {n : Nat} {l : List Int} (hd : l.Nodup) (h : ∀ x ∈ l, 0 ≤ x ∧ x < n) : l.length ≤ n := by
  have := nodup_le hd fun x hx => mem_idx.mpr (h x hx)
  rw [idx_len] at this
  exact this
theorem steps_len {s : Sg} {r : Row} {who : Int} (w : WH s.h) : (stepsOf s r who).length ≤ s.h.length := nodup_len (steps_nodup s r who) fun x hx => (steps_ok w hx).1
theorem daysOf_len (b : List News) (word : Str) (day who : Int) : (daysOf b word day who).length ≤ b.length := by
  unfold daysOf
  rw [List.length_map]
  exact List.length_filter_le _ _
theorem ite_b {b : Bool} {P Q : Prop} (h1 : b = true → P) (h2 : b = false → Q) : if b = true then P else Q := by
  cases b with
  | true => exact h1 rfl
  | false => exact h2 rfl
theorem ite_p {c : Prop} [Decidable c] {P Q : Prop} (h1 : c → P) (h2 : ¬ c → Q) : if c then P else Q := by
  split
  · exact h1 ‹_›
  · exact h2 ‹_›
end TW

/-! TM1: papers, lines. -/
namespace TW
open PySem PySem.Spec PyProof.Rows L2
/-- no tuple in it has more than n items -/
inductive Sm (n : Nat) : D → Prop
  | non : Sm n .non
  | bl (b : Bool) : Sm n (.bl b)
  | int (i : Int) : Sm n (.int i)
  | str (x : Str) : Sm n (.str x)
  | tup (ds : List D) : ds.length ≤ n → (∀ d ∈ ds, Sm n d) → Sm n (.tup ds)
structure FT (d : D) : Prop where
  fit : D.fit 60 d
  sm : Sm 1000 d
theorem FT.len {ds : List D} (h : FT (.tup ds)) : ds.length ≤ 1000 := by
  obtain ⟨_, h⟩ := h
  cases h with
  | tup _ h1 _ => exact h1
theorem FT.un {ds : List D} (h : FT (.tup ds)) {d : D} (m : d ∈ ds) : FT d := by
  obtain ⟨h0, h⟩ := h
  cases h with
  | tup _ h1 h2 => exact ⟨fit_mono (fit_untup (n := 59) h0 d m) (by omega), h2 d m⟩
theorem FT.f64 {d : D} (h : FT d) : D.fit 64 d := fit_mono h.fit (by omega)
theorem FT.int (i : Int) : FT (.int i) := ⟨fit_int i, .int i⟩
def rng (lo : Int) (n : Nat) : List Int := (List.range n).map fun (j : Nat) => lo + (j : Int)
theorem rngD_map (lo : Int) (n : Nat) : rngD lo n = (rng lo n).map D.int := by
  unfold rngD rng
  rw [List.map_map]
  rfl
theorem mem_rng {lo : Int} {n : Nat} {i : Int} : i ∈ rng lo n ↔ lo ≤ i ∧ i < lo + n := by
  unfold rng
  simp only [List.mem_map, List.mem_range]
  constructor
  · rintro ⟨j, h, rfl⟩
    omega
  · rintro ⟨h1, h2⟩
    exact ⟨(i - lo).toNat, by omega, by omega⟩
theorem rng_len (lo : Int) (n : Nat) : (rng lo n).length = n := by simp [rng]
/-- each and the next stand in R -/
def Ch (R : Int → Int → Prop) : List Int → Prop
  | [] => True
  | [_] => True
  | a :: b :: t => R a b ∧ Ch R (b :: t)
theorem ch_idx {R : Int → Int → Prop} : ∀ {xs : List Int}, Ch R xs ↔ ∀ (i : Nat) (a b : Int), xs[i]? = some a → xs[i + 1]? = some b → R a b
  | [] => ⟨fun _ i a b h => by simp at h, fun _ => True.intro⟩
  | [x] => ⟨fun _ i a b _ h => by simp at h, fun _ => True.intro⟩
  | x :: y :: t => by
    unfold Ch
    rw [ch_idx (xs := y :: t)]
    constructor
    · rintro ⟨h1, h2⟩ i a b ha hb
      cases i with
      | zero =>
        simp at ha hb
        rw [← ha, ← hb]
        exact h1
      | succ j => exact h2 j a b (by simpa using ha) (by simpa using hb)
    · intro h
      exact ⟨h 0 x y rfl rfl, fun i a b ha hb => h (i + 1) a b (by simpa using ha) (by simpa using hb)⟩
theorem ch_pw : ∀ {xs : List Int}, Ch (· < ·) xs ↔ xs.Pairwise (· < ·)
  | [] => by simp [Ch]
  | [x] => by simp [Ch]
  | x :: y :: t => by
    unfold Ch
    rw [ch_pw (xs := y :: t), List.pairwise_cons (a := x)]
    constructor
    · rintro ⟨h1, h2⟩
      refine ⟨fun z hz => ?_, h2⟩
      rcases List.mem_cons.mp hz with e | hz
      · rw [e]
        exact h1
      · exact Int.lt_trans h1 ((List.pairwise_cons.mp h2).1 z hz)
    · rintro ⟨h1, h2⟩
      exact ⟨h1 y List.mem_cons_self, h2⟩
def gI (xs : List Int) (i : Int) : Int := xs.getD i.toNat 0
theorem gI_get {xs : List Int} {i : Int} (h0 : 0 ≤ i) (h : i < xs.length) : xs[i.toNat]? = some (gI xs i) := by
  have hn : i.toNat < xs.length := by omega
  unfold gI
  rw [List.getD_eq_getElem?_getD, List.getElem?_eq_getElem hn]
  rfl
theorem at_ints {xs : List Int} {i : Int} (h0 : 0 ≤ i) (h : i < xs.length) : atI (xs.map D.int) i = some (.int (gI xs i)) := at_mapI h0 (gI_get h0 h)
theorem gI_mem {xs : List Int} {i : Int} (h0 : 0 ≤ i) (h : i < xs.length) : gI xs i ∈ xs := List.mem_of_getElem? (gI_get h0 h)
theorem ch_gI {R : Int → Int → Prop} {xs : List Int} : Ch R xs ↔ ∀ a ∈ rng 1 (xs.length - 1), R (gI xs (a - 1)) (gI xs a) := by
  rw [ch_idx]
  constructor
  · intro h a ha
    rw [mem_rng] at ha
    have e : a.toNat = (a - 1).toNat + 1 := by omega
    refine h (a - 1).toNat _ _ (gI_get (by omega) (by omega)) ?_
    rw [← e]
    exact gI_get (by omega) (by omega)
  · intro h i a b ha hb
    obtain ⟨l1, _⟩ := List.getElem?_eq_some_iff.mp hb
    have q := h ((i : Int) + 1) (by rw [mem_rng]; omega)
    have e1 := gI_get (xs := xs) (i := (i : Int) + 1 - 1) (by omega) (by omega)
    have e2 := gI_get (xs := xs) (i := (i : Int) + 1) (by omega) (by omega)
    rw [show ((i : Int) + 1 - 1).toNat = i by omega, ha] at e1
    rw [show ((i : Int) + 1).toNat = i + 1 by omega, hb] at e2
    rw [Option.some.inj e1, Option.some.inj e2]
    exact q
/-- a tuple of folk -/
def FolkT (h : List Folk) (d : D) (xs : List Int) : Prop := d = intsD xs ∧ ∀ x ∈ xs, okF h x
theorem all_folk {h : List Folk} : ∀ {ds : List D}, (ds.map (folkB h)).all id = true ↔ ∃ xs, FolkT h (.tup ds) xs
  | [] => ⟨fun _ => ⟨[], rfl, by simp⟩, fun _ => rfl⟩
  | d :: ds => by
    have ih := all_folk (h := h) (ds := ds)
    rw [List.map_cons, List.all_cons, Bool.and_eq_true, ih]
    constructor
    · rintro ⟨h1, xs, e, h2⟩
      cases d with
      | int v =>
        refine ⟨v :: xs, ?_, fun x hx => ?_⟩
        · cases e
          rfl
        · rcases List.mem_cons.mp hx with q | q
          · rw [q]
            exact of_decide_eq_true h1
          · exact h2 x q
      | _ => cases h1
    · rintro ⟨xs, e, h2⟩
      cases xs with
      | nil => cases e
      | cons v xs =>
        cases e
        exact ⟨decide_eq_true (h2 v List.mem_cons_self), xs, rfl, fun x hx => h2 x (List.mem_cons_of_mem _ hx)⟩
theorem intsD_inj {xs ys : List Int} (h : intsD xs = intsD ys) : xs = ys := by
  have h' : xs.map D.int = ys.map D.int := by
    unfold intsD at h
    exact D.tup.inj h
  induction xs generalizing ys with
  | nil =>
    cases ys with
    | nil => rfl
    | cons y ys => cases h'
  | cons x xs ih =>
    cases ys with
    | nil => cases h'
    | cons y ys =>
      rw [List.map_cons, List.map_cons] at h'
      obtain ⟨e1, e2⟩ := List.cons.inj h'
      cases e1
      rw [ih (by show D.tup _ = D.tup _; rw [e2]) e2]
def Rising (h : List Folk) (d : D) : Prop := ∃ xs, FolkT h d xs ∧ xs.Pairwise (· < ·)
def Line (s : Sg) (r : Row) (xs : List Int) : Prop := xs ≠ [] ∧ (∀ x ∈ xs, okF s.h x) ∧ xs.head? = some r.fo ∧ (hAt s.h r.fo).d ≤ s.day ∧ Ch (fun a b => b ∈ stepsOf s r a) xs
def IsLine (s : Sg) (r : Row) (d : D) : Prop := ∃ xs, d = intsD xs ∧ Line s r xs
theorem filter_empty {α : Type} {l : List α} {f : α → Bool} : (l.filter f).isEmpty = true ↔ ∀ a ∈ l, f a = false := by
  rw [List.isEmpty_iff, List.filter_eq_nil_iff]
  constructor
  · intro h a ha
    simpa using h a ha
  · intro h a ha
    simp [h a ha]
end TW

/-! TM2: the walk down the steps. -/
namespace TW
open PySem PySem.Spec PyProof.Rows L2
abbrev Kv := List (Int × Int)
abbrev keys (f : Kv) : List Int := f.map (·.1)
def kD (f : Kv) : List (Int × D) := f.map fun q => (q.1, .int q.2)
def dfs (S : Int → List Int) : Nat → Kv → Kv → Kv
  | 0, f, _ => f
  | _ + 1, f, [] => f
  | m + 1, f, (x, p) :: rest => if x ∈ keys f then dfs S m f rest else dfs S m (f ++ [(x, p)]) ((S x).map (fun c => (c, x)) ++ rest)
def fuel (n : Nat) : Nat := n * (n + 1) + 1
def size (n : Nat) (f st : Kv) : Nat := (n - f.length) * (n + 1) + st.length
structure Gd (n : Nat) (f st : Kv) : Prop where
  nd : (keys f).Nodup
  kin : ∀ x ∈ keys f, 0 ≤ x ∧ x < n
  sin : ∀ x ∈ keys st, 0 ≤ x ∧ x < n
structure StepOk (n : Nat) (S : Int → List Int) : Prop where
  inn : ∀ x, ∀ c ∈ S x, 0 ≤ c ∧ c < n
  up : ∀ x, ∀ c ∈ S x, x < c
  nd : ∀ x, (S x).Nodup
theorem keys_len {n : Nat} {f : Kv} (nd : (keys f).Nodup) (h : ∀ x ∈ keys f, 0 ≤ x ∧ x < n) : f.length ≤ n := by
  have := nodup_len nd h
  rw [List.length_map] at this
  exact this
section
variable {n : Nat} {S : Int → List Int} (O : StepOk n S)
include O
theorem gd_pop {f st : Kv} {x p : Int} (g : Gd n f ((x, p) :: st)) (h : x ∈ keys f) : Gd n f st ∧ size n f st < size n f ((x, p) :: st) := by
  refine ⟨⟨g.nd, g.kin, fun y hy => g.sin y (List.mem_cons_of_mem _ hy)⟩, ?_⟩
  unfold size
  rw [List.length_cons]
  omega
theorem gd_push {f st : Kv} {x p : Int} (g : Gd n f ((x, p) :: st)) (h : x ∉ keys f) : Gd n (f ++ [(x, p)]) ((S x).map (fun c => (c, x)) ++ st) ∧ size n (f ++ [(x, p)]) ((S x).map (fun c => (c, x)) ++ st) < size n f ((x, p) :: st) := by
  have hx := g.sin x List.mem_cons_self
  have g1 : Gd n (f ++ [(x, p)]) ((S x).map (fun c => (c, x)) ++ st) := by
    refine ⟨?_, fun y hy => ?_, fun y hy => ?_⟩
    · unfold keys
      rw [List.map_append]
      refine List.nodup_append.mpr ⟨g.nd, by simp, fun a ha b hb e => ?_⟩
      rw [e, List.mem_singleton.mp hb] at ha
      exact h ha
    · unfold keys at hy
      rw [List.map_append] at hy
      rcases List.mem_append.mp hy with hy | hy
      · exact g.kin y hy
      · rw [List.mem_singleton.mp hy]
        exact hx
    · unfold keys at hy
      rw [List.map_append] at hy
      rcases List.mem_append.mp hy with hy | hy
      · rw [List.map_map] at hy
        obtain ⟨c, hc, e⟩ := List.mem_map.mp hy
        rw [← e]
        exact O.inn x c hc
      · exact g.sin y (List.mem_cons_of_mem _ hy)
  refine ⟨g1, ?_⟩
  have l1 := keys_len g1.nd g1.kin
  rw [List.length_append, List.length_singleton] at l1
  have l2 : (S x).length ≤ n := nodup_len (O.nd x) (O.inn x)
  unfold size
  simp only [List.length_append, List.length_map, List.length_cons, List.length_nil, Nat.zero_add]
  have e : (n - f.length) * (n + 1) = (n - (f.length + 1)) * (n + 1) + (n + 1) := by
    rw [← Nat.succ_mul]
    congr 1
    omega
  rw [e]
  omega
/-- what each turn keeps stands at the end -/
theorem dfs_rec (Q : Kv → Kv → Prop) (h1 : ∀ f st x p, Gd n f ((x, p) :: st) → Q f ((x, p) :: st) → x ∈ keys f → Q f st)
    (h2 : ∀ f st x p, Gd n f ((x, p) :: st) → Q f ((x, p) :: st) → x ∉ keys f → Q (f ++ [(x, p)]) ((S x).map (fun c => (c, x)) ++ st)) :
    ∀ m f st, size n f st ≤ m → Gd n f st → Q f st → Gd n (dfs S m f st) [] ∧ Q (dfs S m f st) []
  | 0, f, [], _, g, q => ⟨g, q⟩
  | 0, f, (x, p) :: st, h, _, _ => by
    unfold size at h
    rw [List.length_cons] at h
    omega
  | m + 1, f, [], _, g, q => ⟨g, q⟩
  | m + 1, f, (x, p) :: st, h, g, q => by
    unfold dfs
    by_cases hx : x ∈ keys f
    · rw [if_pos hx]
      obtain ⟨g1, l1⟩ := gd_pop O g hx
      exact dfs_rec Q h1 h2 m f st (by omega) g1 (h1 f st x p g q hx)
    · rw [if_neg hx]
      obtain ⟨g1, l1⟩ := gd_push O g hx
      exact dfs_rec Q h1 h2 m _ _ (by omega) g1 (h2 f st x p g q hx)
end
theorem lookK_kD (f : Kv) (x : Int) : lookK (kD f) x = (f.lookup x).map D.int := by
  induction f with
  | nil => rfl
  | cons q f ih =>
    show lookK ((q.1, D.int q.2) :: kD f) x = _
    rw [lookK_cons, ih]
    by_cases h : q.1 = x
    · subst h
      rw [if_pos rfl]
      show _ = (List.lookup q.1 ((q.1, q.2) :: f)).map D.int
      rw [List.lookup_cons_self]
      rfl
    · rw [if_neg h]
      show _ = (List.lookup x ((q.1, q.2) :: f)).map D.int
      have hb : (x == q.1) = false := beq_eq_false_iff_ne.mpr fun e => h e.symm
      rw [List.lookup_cons, hb]
theorem lookup_isSome (f : Kv) (x : Int) : (f.lookup x).isSome = decide (x ∈ keys f) := by
  induction f with
  | nil => rfl
  | cons q f ih =>
    obtain ⟨a, b⟩ := q
    rw [List.lookup_cons]
    by_cases h : x = a
    · subst h
      simp
    · have hb : (x == a) = false := beq_eq_false_iff_ne.mpr h
      rw [hb]
      simp only [ih]
      rw [decide_eq_decide]
      simp [keys, h]
theorem look_isSome (f : Kv) (x : Int) : (lookK (kD f) x).isSome = decide (x ∈ keys f) := by
  rw [lookK_kD, Option.isSome_map, lookup_isSome]
def par (f : Kv) (x : Int) : Int := (f.lookup x).getD (-1)
theorem look_par {f : Kv} {x : Int} (h : x ∈ keys f) : lookK (kD f) x = some (.int (par f x)) := by
  have q := lookup_isSome f x
  rw [decide_eq_true h] at q
  obtain ⟨v, e⟩ := Option.isSome_iff_exists.mp q
  rw [lookK_kD]
  unfold par
  rw [e]
  rfl
theorem par_mem {f : Kv} {x : Int} (h : x ∈ keys f) : (x, par f x) ∈ f := by
  have q := lookup_isSome f x
  rw [decide_eq_true h] at q
  obtain ⟨v, e⟩ := Option.isSome_iff_exists.mp q
  have : par f x = v := by
    unfold par
    rw [e]
    rfl
  rw [this]
  clear q this h
  induction f with
  | nil => cases e
  | cons q f ih =>
    obtain ⟨a, b⟩ := q
    rw [List.lookup_cons] at e
    by_cases hx : x = a
    · subst hx
      simp at e
      rw [e]
      exact List.mem_cons_self
    · have hb : (x == a) = false := beq_eq_false_iff_ne.mpr hx
      rw [hb] at e
      exact List.mem_cons_of_mem _ (ih e)
theorem keys_of_mem {f : Kv} {x p : Int} (h : (x, p) ∈ f) : x ∈ keys f := List.mem_map.mpr ⟨_, h, rfl⟩
theorem par_of {f : Kv} (nd : (keys f).Nodup) {x p : Int} (h : (x, p) ∈ f) : par f x = p := by
  have q := par_mem (keys_of_mem h)
  generalize par f x = y at q
  induction f with
  | nil => cases h
  | cons a f ih =>
    have nd' := List.nodup_cons.mp nd
    rcases List.mem_cons.mp h with e | h
    · rcases List.mem_cons.mp q with e' | q
      · rw [← e] at e'
        exact (Prod.mk.inj e').2
      · rw [← e] at nd'
        exact absurd (keys_of_mem q) nd'.1
    · rcases List.mem_cons.mp q with e' | q
      · rw [← e'] at nd'
        exact absurd (keys_of_mem h) nd'.1
      · exact ih nd'.2 h q
theorem store_new {f : Kv} {x p : Int} (h : x ∉ keys f) : storeK (kD f) x (.int p) = kD (f ++ [(x, p)]) := by
  unfold storeK
  have q := look_isSome f x
  rw [decide_eq_false h] at q
  rw [q]
  simp [kD]
theorem kD_len (f : Kv) : (kD f).length = f.length := by simp [kD]
theorem keyD_kD (f : Kv) : keyD (kD f) = (keys f).map D.int := by
  unfold keyD kD keys
  rw [List.map_map, List.map_map]
  rfl
/-! ### the walk of a row -/
theorem steps_stepOk {s : Sg} (w : WH s.h) (r : Row) : StepOk s.h.length (stepsOf s r) :=
  ⟨fun x c hc => (steps_ok w hc).1, fun x c hc => (steps_ok w hc).2.1, fun x => steps_nodup s r x⟩
def start0 (s : Sg) (r : Row) : Kv := if (hAt s.h r.fo).d ≤ s.day then [(r.fo, -1)] else []
def cameBy (s : Sg) (r : Row) : Kv := dfs (stepsOf s r) (fuel s.h.length) [] (start0 s r)
def walkOf (s : Sg) (r : Row) : List Int := keys (cameBy s r)
theorem start_gd {s : Sg} {r : Row} (o : okF s.h r.fo) : Gd s.h.length [] (start0 s r) ∧ size s.h.length [] (start0 s r) ≤ fuel s.h.length := by
  unfold start0
  split
  · exact ⟨⟨by simp, by simp, fun x hx => by rw [List.mem_singleton.mp hx]; exact o⟩, by simp [size, fuel]⟩
  · exact ⟨⟨by simp, by simp, by simp⟩, by simp [size, fuel]⟩
/-- where each came from; what was found is closed -/
structure CameOk (s : Sg) (r : Row) (f st : Kv) : Prop where
  src : ∀ x p, ((x, p) ∈ f ∨ (x, p) ∈ st) → (x = r.fo ∧ p = -1 ∧ (hAt s.h r.fo).d ≤ s.day) ∨ (p ∈ keys f ∧ x ∈ stepsOf s r p)
  cl : ∀ x ∈ keys f, ∀ c ∈ stepsOf s r x, c ∈ keys f ∨ c ∈ keys st
  fo : (hAt s.h r.fo).d ≤ s.day → r.fo ∈ keys f ∨ r.fo ∈ keys st
theorem came_ok {s : Sg} {r : Row} (w : WH s.h) (o : okF s.h r.fo) : Gd s.h.length (cameBy s r) [] ∧ CameOk s r (cameBy s r) [] := by
  obtain ⟨g, l⟩ := start_gd o
  refine dfs_rec (steps_stepOk w r) (CameOk s r) (fun f st x p g q hx => ?_) (fun f st x p g q hx => ?_) _ _ _ l g ?_
  · refine ⟨fun y z h => q.src y z (h.imp id (List.mem_cons_of_mem _)), fun y hy c hc => ?_, fun h => ?_⟩
    · rcases q.cl y hy c hc with h | h
      · exact .inl h
      · rcases List.mem_cons.mp h with e | h
        · exact .inl (by rw [e]; exact hx)
        · exact .inr h
    · rcases q.fo h with h | h
      · exact .inl h
      · rcases List.mem_cons.mp h with e | h
        · exact .inl (by rw [e]; exact hx)
        · exact .inr h
  · have km : ∀ y, y ∈ keys f ∨ y = x → y ∈ keys (f ++ [(x, p)]) := fun y h => by
      unfold keys
      rw [List.map_append]
      rcases h with h | h
      · exact List.mem_append_left _ h
      · exact List.mem_append_right _ (by simp [h])
    have kn : ∀ y, y ∈ keys (f ++ [(x, p)]) → y ∈ keys f ∨ y = x := fun y h => by
      unfold keys at h
      rw [List.map_append] at h
      rcases List.mem_append.mp h with h | h
      · exact .inl h
      · exact .inr (by simpa using h)
    have ks : ∀ y, (y ∈ stepsOf s r x ∨ y ∈ keys st) → y ∈ keys ((stepsOf s r x).map (fun c => (c, x)) ++ st) := fun y h => by
      unfold keys
      rw [List.map_append, List.map_map]
      rcases h with h | h
      · exact List.mem_append_left _ (List.mem_map.mpr ⟨y, h, rfl⟩)
      · exact List.mem_append_right _ h
    refine ⟨fun y z h => ?_, fun y hy c hc => ?_, fun h => ?_⟩
    · have base : ((y, z) ∈ f ∨ (y, z) ∈ (x, p) :: st) → (y = r.fo ∧ z = -1 ∧ (hAt s.h r.fo).d ≤ s.day) ∨ (z ∈ keys (f ++ [(x, p)]) ∧ y ∈ stepsOf s r z) := fun h => by
        rcases q.src y z h with e | ⟨e1, e2⟩
        · exact .inl e
        · exact .inr ⟨km z (.inl e1), e2⟩
      rcases h with h | h
      · rcases List.mem_append.mp h with h | h
        · exact base (.inl h)
        · exact base (.inr (by rw [List.mem_singleton.mp h]; exact List.mem_cons_self))
      · rcases List.mem_append.mp h with h | h
        · obtain ⟨c, hc, e⟩ := List.mem_map.mp h
          cases e
          exact .inr ⟨km x (.inr rfl), hc⟩
        · exact base (.inr (List.mem_cons_of_mem _ h))
    · rcases kn y hy with hy | hy
      · rcases q.cl y hy c hc with h | h
        · exact .inl (km c (.inl h))
        · rcases List.mem_cons.mp h with e | h
          · exact .inl (km c (.inr e))
          · exact .inr (ks c (.inr h))
      · subst hy
        exact .inr (ks c (.inl hc))
    · rcases q.fo h with h | h
      · exact .inl (km _ (.inl h))
      · rcases List.mem_cons.mp h with e | h
        · exact .inl (km _ (.inr e))
        · exact .inr (ks _ (.inr h))
  · refine ⟨fun x p h => ?_, fun x hx => (by cases hx), fun h => .inr ?_⟩
    · rcases h with h | h
      · cases h
      · unfold start0 at h
        split at h
        · cases List.mem_singleton.mp h
          exact .inl ⟨rfl, rfl, by assumption⟩
        · cases h
    · unfold start0
      rw [if_pos h]
      exact List.mem_singleton.mpr rfl
theorem walk_nodup {s : Sg} {r : Row} (w : WH s.h) (o : okF s.h r.fo) : (walkOf s r).Nodup := (came_ok w o).1.nd
theorem walk_okF {s : Sg} {r : Row} (w : WH s.h) (o : okF s.h r.fo) {x : Int} (h : x ∈ walkOf s r) : okF s.h x := (came_ok w o).1.kin x h
theorem walk_len {s : Sg} {r : Row} (w : WH s.h) (o : okF s.h r.fo) : (walkOf s r).length ≤ s.h.length := nodup_len (walk_nodup w o) (came_ok w o).1.kin
theorem walk_closed {s : Sg} {r : Row} (w : WH s.h) (o : okF s.h r.fo) {x c : Int} (h : x ∈ walkOf s r) (hc : c ∈ stepsOf s r x) : c ∈ walkOf s r := by
  rcases (came_ok w o).2.cl x h c hc with q | q
  · exact q
  · cases q
theorem walk_par {s : Sg} {r : Row} (w : WH s.h) (o : okF s.h r.fo) {x : Int} (h : x ∈ walkOf s r) : (x = r.fo ∧ par (cameBy s r) x = -1 ∧ (hAt s.h r.fo).d ≤ s.day) ∨ (par (cameBy s r) x ∈ walkOf s r ∧ x ∈ stepsOf s r (par (cameBy s r) x)) :=
  (came_ok w o).2.src x _ (.inl (par_mem h))
theorem walk_born {s : Sg} {r : Row} (w : WH s.h) (o : okF s.h r.fo) {x : Int} (h : x ∈ walkOf s r) : (hAt s.h x).d ≤ s.day := by
  rcases walk_par w o h with ⟨e, _, hd⟩ | ⟨_, hs⟩
  · rw [e]
    exact hd
  · exact (steps_ok w hs).2.2
/-- the line upward -/
def climb (f : Kv) : Nat → Int → List Int
  | 0, x => [x]
  | m + 1, x => if par f x = -1 then [x] else climb f m (par f x) ++ [x]
def lineOf (s : Sg) (r : Row) (who : Int) : List Int := climb (cameBy s r) s.h.length who
end TW

/-! TM3: sorted lists, degrees, orders. -/
namespace TW
open PySem PySem.Spec PyProof.Rows L2
/-! ### sorted lists are one -/
theorem srt_uniq {α : Type} {R : α → α → Prop} (anti : ∀ a b, R a b → R b a → a = b) : ∀ {l m : List α}, l.Perm m → l.Pairwise R → m.Pairwise R → l = m
  | [], m, p, _, _ => (List.Perm.eq_nil p.symm).symm
  | x :: l, [], p, _, _ => absurd p.length_eq (by simp)
  | x :: l, y :: m, p, hl, hm => by
    have hl' := List.pairwise_cons.mp hl
    have hm' := List.pairwise_cons.mp hm
    have e : x = y := by
      rcases List.mem_cons.mp (p.mem_iff.mp (List.mem_cons_self (a := x) (l := l))) with e | hx
      · exact e
      · rcases List.mem_cons.mp (p.mem_iff.mpr (List.mem_cons_self (a := y) (l := m))) with e | hy
        · exact e.symm
        · exact anti x y (hl'.1 y hy) (hm'.1 x hx)
    subst e
    rw [srt_uniq anti p.cons_inv hl'.2 hm'.2]
def srtI (l : List Int) : List Int := l.mergeSort fun a b => decide (a ≤ b)
theorem srtI_perm (l : List Int) : (srtI l).Perm l := List.mergeSort_perm l _
theorem srtI_pw (l : List Int) : (srtI l).Pairwise (· ≤ ·) := by
  have h := List.pairwise_mergeSort (le := fun (a b : Int) => decide (a ≤ b)) (fun a b c h1 h2 => by
    simp only [decide_eq_true_eq] at *
    omega) (fun a b => by
    simp only [Bool.or_eq_true, decide_eq_true_eq]
    omega) l
  exact h.imp fun h => of_decide_eq_true h
theorem srtI_eq {l ns : List Int} (p : ns.Perm l) (h : ns.Pairwise (· ≤ ·)) : ns = srtI l :=
  srt_uniq (R := (· ≤ ·)) (fun a b h1 h2 => Int.le_antisymm h1 h2) (p.trans (srtI_perm l).symm) h (srtI_pw l)
def leP (u v : Int × Int) : Bool := decide (u.1 < v.1) || (decide (u.1 = v.1) && decide (u.2 ≤ v.2))
theorem leP_iff (u v : Int × Int) : leP u v = true ↔ (u.1 < v.1 ∨ (u.1 = v.1 ∧ u.2 ≤ v.2)) := by
  unfold leP
  simp only [Bool.or_eq_true, Bool.and_eq_true, decide_eq_true_eq]
theorem leP_not (u v : Int × Int) : leP u v = true ↔ ¬ ltPr v u := by
  rw [leP_iff]
  unfold ltPr
  omega
def srtP (l : List (Int × Int)) : List (Int × Int) := l.mergeSort leP
theorem srtP_perm (l : List (Int × Int)) : (srtP l).Perm l := List.mergeSort_perm l _
theorem srtP_pw (l : List (Int × Int)) : (srtP l).Pairwise (fun u v => ¬ ltPr v u) := by
  have h := List.pairwise_mergeSort (le := leP) (fun a b c h1 h2 => by
    rw [leP_iff] at *
    omega) (fun a b => by
    rw [Bool.or_eq_true, leP_iff, leP_iff]
    omega) l
  exact h.imp fun h => (leP_not _ _).mp h
theorem srtP_eq {l ns : List (Int × Int)} (p : ns.Perm l) (h : ns.Pairwise (fun u v => ¬ ltPr v u)) : ns = srtP l :=
  srt_uniq (R := fun u v => ¬ ltPr v u) (fun a b h1 h2 => by
    unfold ltPr at *
    exact Prod.ext (by omega) (by omega)) (p.trans (srtP_perm l).symm) h (srtP_pw l)
/-! ### degrees -/
def lesser (a b : Int) : Int := if a = -1 ∨ (-1 < b ∧ b < a) then b else a
def kS (S : Int → List Int) (l : List Int) : List (Int × D) := l.map fun x => (x, intsD (S x))
theorem look_kS (S : Int → List Int) (l : List Int) (x : Int) : lookK (kS S l) x = if x ∈ l then some (intsD (S x)) else none := by
  induction l with
  | nil => rfl
  | cons y l ih =>
    show lookK ((y, intsD (S y)) :: kS S l) x = _
    rw [lookK_cons, ih]
    by_cases h : y = x
    · subst h
      simp
    · have h' : ¬ x = y := fun e => h e.symm
      simp [h, h']
theorem look_kS_isSome (S : Int → List Int) (l : List Int) (x : Int) : (lookK (kS S l) x).isSome = decide (x ∈ l) := by
  rw [look_kS]
  by_cases h : x ∈ l <;> simp [h]
theorem store_kS {S : Int → List Int} {l : List Int} {x : Int} (h : x ∉ l) : storeK (kS S l) x (intsD (S x)) = kS S (l ++ [x]) := by
  unfold storeK
  rw [look_kS_isSome, decide_eq_false h]
  simp [kS]
theorem kS_keys (S : Int → List Int) (l : List Int) : (kS S l).map (·.1) = l := by
  unfold kS
  rw [List.map_map]
  exact List.map_id' l
theorem kS_len (S : Int → List Int) (l : List Int) : (kS S l).length = l.length := by simp [kS]
def bornOf (s : Sg) : Nat := (s.h.filter fun f => decide (f.d ≤ s.day)).length
def upOne (p : Int) (acc : List Int) (c : Int) : List Int := if gI acc c ≠ -1 then acc.set p.toNat (lesser (gI acc p) (gI acc c + 1)) else acc
def downOne (p : Int) (acc : List Int) (c : Int) : List Int := if gI acc p ≠ -1 then acc.set c.toNat (lesser (gI acc c) (gI acc p + 1)) else acc
def upAll (S : Int → List Int) (acc : List Int) (p : Int) : List Int := (S p).foldl (upOne p) acc
def downAll (S : Int → List Int) (acc : List Int) (p : Int) : List Int := (S p).foldl (downOne p) acc
theorem upOne_len (p : Int) (acc : List Int) (c : Int) : (upOne p acc c).length = acc.length := by
  unfold upOne
  split <;> simp
theorem downOne_len (p : Int) (acc : List Int) (c : Int) : (downOne p acc c).length = acc.length := by
  unfold downOne
  split <;> simp
theorem fold_len {β : Type} (f : List Int → β → List Int) (h : ∀ a b, (f a b).length = a.length) : ∀ (l : List β) (a : List Int), (l.foldl f a).length = a.length
  | [], a => rfl
  | x :: l, a => by
    rw [List.foldl_cons, fold_len f h l, h]
theorem upAll_len (S : Int → List Int) (acc : List Int) (p : Int) : (upAll S acc p).length = acc.length := fold_len _ (upOne_len p) _ _
theorem downAll_len (S : Int → List Int) (acc : List Int) (p : Int) : (downAll S acc p).length = acc.length := fold_len _ (downOne_len p) _ _
def degA (s : Sg) (who : Int) : List Int := (List.replicate (bornOf s) (-1)).set who.toNat 0
def degreesOf (s : Sg) (r : Row) (who : Int) : List Int :=
  if who ∈ walkOf s r then (srtI (walkOf s r)).foldl (downAll (stepsOf s r)) ((srtI (walkOf s r)).reverse.foldl (upAll (stepsOf s r)) (degA s who)) else List.replicate (bornOf s) (-1)
theorem degrees_len (s : Sg) (r : Row) (who : Int) : (degreesOf s r who).length = bornOf s := by
  unfold degreesOf
  split
  · rw [fold_len _ (downAll_len _), fold_len _ (upAll_len _)]
    simp [degA]
  · simp
theorem born_lt {s : Sg} (w : WH s.h) {x : Int} (o : okF s.h x) (h : (hAt s.h x).d ≤ s.day) : x < bornOf s := by
  have hx := o.1
  have hn := o.2
  have e : ((s.h.take (x.toNat + 1)).filter fun f => decide (f.d ≤ s.day)) = s.h.take (x.toNat + 1) := by
    rw [List.filter_eq_self]
    intro f hf
    obtain ⟨i, hi⟩ := List.mem_iff_getElem?.mp hf
    rw [List.getElem?_take] at hi
    split at hi
    · have oi : okF s.h (i : Int) := ⟨by omega, by omega⟩
      have e := hAt_get oi
      rw [Int.toNat_natCast, hi] at e
      rw [Option.some.inj e]
      have := w.rise (i : Int) x oi o (by omega)
      exact decide_eq_true (by omega)
    · cases hi
  have l1 : ((s.h.take (x.toNat + 1)).filter fun f => decide (f.d ≤ s.day)).length ≤ bornOf s := by
    unfold bornOf
    exact ((List.take_sublist _ _).filter _).length_le
  rw [e, List.length_take] at l1
  omega
theorem walk_lt_born {s : Sg} {r : Row} (w : WH s.h) (o : okF s.h r.fo) {x : Int} (h : x ∈ walkOf s r) : x < bornOf s := born_lt w (walk_okF w o h) (walk_born w o h)
theorem born_le (s : Sg) : bornOf s ≤ s.h.length := List.length_filter_le _ _
theorem gI_set {l : List Int} {i : Nat} {v : Int} : ∀ j : Int, 0 ≤ j → j < l.length → gI (l.set i v) j = if i = j.toNat then v else gI l j := by
  intro j h0 h1
  unfold gI
  rw [List.getD_eq_getElem?_getD, List.getD_eq_getElem?_getD, List.getElem?_set]
  by_cases h : i = j.toNat
  · subst h
    rw [if_pos rfl, if_pos rfl, if_pos (by omega)]
    rfl
  · rw [if_neg h, if_neg h]
/-! ### orders -/
def far (d : Int) : Int := if d = -1 then 1000 else d
def nearP (s : Sg) (r : Row) (last x : Int) : Int × Int := (far (gI (degreesOf s r last) x), x)
def standing (s : Sg) (r : Row) : List Int := (walkOf s r).filter (isFit s r)
def rowOrder (s : Sg) (r : Row) (last : Int) : List Int :=
  if r.way = "age" then srtI (standing s r) else if r.way = "near" then (srtP ((standing s r).map (nearP s r last))).map (·.2) else standing s r
def addNew (acc : List Int) (x : Int) : List Int := if x ∈ acc then acc else acc ++ [x]
def orderOf (s : Sg) (rule : List Row) (last : Int) : List Int := rule.foldl (fun acc r => (rowOrder s r last).foldl addNew acc) []
def firstIn (l : List Int) : Int := l.head?.getD (-1)
theorem standing_mem {s : Sg} {r : Row} {x : Int} : x ∈ standing s r ↔ x ∈ walkOf s r ∧ isFit s r x = true := List.mem_filter
theorem rowOrder_mem {s : Sg} {r : Row} {last x : Int} : x ∈ rowOrder s r last ↔ x ∈ standing s r := by
  unfold rowOrder
  split
  · exact (srtI_perm _).mem_iff
  · split
    · constructor
      · intro h
        obtain ⟨u, hu, e⟩ := List.mem_map.mp h
        obtain ⟨y, hy, e2⟩ := List.mem_map.mp ((srtP_perm _).mem_iff.mp hu)
        subst e2 e
        exact hy
      · intro h
        exact List.mem_map.mpr ⟨nearP s r last x, (srtP_perm _).mem_iff.mpr (List.mem_map.mpr ⟨x, h, rfl⟩), rfl⟩
    · exact Iff.rfl
theorem rowOrder_len (s : Sg) (r : Row) (last : Int) : (rowOrder s r last).length = (standing s r).length := by
  unfold rowOrder
  split
  · exact (srtI_perm _).length_eq
  · split
    · rw [List.length_map, (srtP_perm _).length_eq, List.length_map]
    · rfl
structure RuleOk (s : Sg) (rule : List Row) : Prop where
  len : rule.length ≤ 10
  fo : ∀ r ∈ rule, okF s.h r.fo
theorem addNew_len (acc : List Int) (x : Int) : (addNew acc x).length ≤ acc.length + 1 := by
  unfold addNew
  split
  · omega
  · rw [List.length_append, List.length_singleton]
    omega
theorem fold_addNew_len : ∀ (l acc : List Int), (l.foldl addNew acc).length ≤ acc.length + l.length
  | [], acc => by simp
  | x :: l, acc => by
    have h1 := fold_addNew_len l (addNew acc x)
    have h2 := addNew_len acc x
    rw [List.foldl_cons, List.length_cons]
    omega
theorem standing_len {s : Sg} {r : Row} (w : WH s.h) (o : okF s.h r.fo) : (standing s r).length ≤ 60 :=
  Nat.le_trans (List.length_filter_le _ _) (Nat.le_trans (walk_len w o) w.few)
theorem order_len {s : Sg} (w : WH s.h) (last : Int) : ∀ (rule : List Row) (acc : List Int), (∀ r ∈ rule, okF s.h r.fo) → (rule.foldl (fun acc r => (rowOrder s r last).foldl addNew acc) acc).length ≤ acc.length + 60 * rule.length
  | [], acc, _ => by simp
  | r :: rule, acc, h => by
    have h1 := order_len w last rule ((rowOrder s r last).foldl addNew acc) fun q hq => h q (List.mem_cons_of_mem _ hq)
    have h2 := fold_addNew_len (rowOrder s r last) acc
    have h3 := standing_len w (h r List.mem_cons_self)
    rw [rowOrder_len] at h2
    rw [List.foldl_cons, List.length_cons]
    omega
end TW

/-! TM4: reaches. -/
namespace TW
open PySem PySem.Spec PyProof.Rows L2
theorem prD_inj {u v : Int × Int} (h : prD u = prD v) : u = v := by
  unfold prD at h
  have h1 := D.tup.inj h
  have h2 := List.cons.inj h1
  have h3 := List.cons.inj h2.2
  exact Prod.ext (D.int.inj h2.1) (D.int.inj h3.1)
theorem map_prD_inj : ∀ {ps qs : Kv}, ps.map prD = qs.map prD → ps = qs
  | [], [], _ => rfl
  | [], _ :: _, h => by cases h
  | _ :: _, [], h => by cases h
  | u :: ps, v :: qs, h => by
    rw [List.map_cons, List.map_cons] at h
    obtain ⟨h1, h2⟩ := List.cons.inj h
    rw [prD_inj h1, map_prD_inj h2]
structure ArePairs (h : List Folk) (ps : Kv) : Prop where
  ok : ∀ x ∈ keys ps, okF h x
  pw : (keys ps).Pairwise (· < ·)
def Dead (s : Sg) (r : Row) : Prop := s.day < (hAt s.h r.fo).d
structure RReach (s : Sg) (r : Row) (ps : Kv) : Prop where
  pairs : ArePairs s.h ps
  dead : Dead s r → ps = []
  fo : ¬ Dead s r → (r.fo, -1) ∈ ps
  src : ¬ Dead s r → ∀ u ∈ ps, u.1 ≠ r.fo → u.2 ∈ keys ps ∧ u.1 ∈ stepsOf s r u.2
  cl : ¬ Dead s r → ∀ x ∈ keys ps, ∀ c ∈ stepsOf s r x, c ∈ keys ps
def IsReach (s : Sg) (r : Row) (d : D) : Prop := ∃ ps : Kv, d = .tup (ps.map prD) ∧ RReach s r ps
def badU (s : Sg) (r : Row) (ps : Kv) (u : Int × Int) : Bool := (!decide (u.1 = r.fo)) && ((!decide (u.2 ∈ keys ps)) || !decide (u.1 ∈ stepsOf s r u.2))
theorem badU_iff {s : Sg} {r : Row} {ps : Kv} {u : Int × Int} : badU s r ps u = false ↔ (u.1 ≠ r.fo → u.2 ∈ keys ps ∧ u.1 ∈ stepsOf s r u.2) := by
  unfold badU
  by_cases h1 : u.1 = r.fo <;> by_cases h2 : u.2 ∈ keys ps <;> by_cases h3 : u.1 ∈ stepsOf s r u.2 <;> simp [h1, h2, h3]
/-- what reach_of keeps: who of pre have been asked for their steps -/
structure RInv (s : Sg) (r : Row) (pre : List Int) (f : Kv) : Prop where
  nd : (keys f).Nodup
  ok : ∀ x ∈ keys f, okF s.h x
  dead : Dead s r → f = []
  fo : ¬ Dead s r → (r.fo, -1) ∈ f
  src : ∀ u ∈ f, u.1 ≠ r.fo → u.2 ∈ keys f ∧ u.1 ∈ stepsOf s r u.2
  cl : ∀ x ∈ pre, x ∈ keys f → ∀ c ∈ stepsOf s r x, c ∈ keys f
theorem rinv_start (s : Sg) (r : Row) (o : okF s.h r.fo) : RInv s r [] (if (hAt s.h r.fo).d ≤ s.day then [(r.fo, -1)] else []) := by
  split
  · refine ⟨by simp, fun x hx => by rw [List.mem_singleton.mp hx]; exact o, fun h => ?_, fun _ => by simp, fun u hu hn => ?_, fun x hx => by cases hx⟩
    · unfold Dead at h
      omega
    · rw [List.mem_singleton.mp hu] at hn
      exact absurd rfl hn
  · refine ⟨by simp, by simp, fun _ => rfl, fun h => ?_, by simp, fun x hx => by cases hx⟩
    unfold Dead at h
    omega
theorem rinv_skip {s : Sg} {r : Row} {pre : List Int} {f : Kv} {x : Int} (I : RInv s r pre f) (h : x ∉ keys f) : RInv s r (pre ++ [x]) f :=
  ⟨I.nd, I.ok, I.dead, I.fo, I.src, fun y hy hk => by
    rcases List.mem_append.mp hy with q | q
    · exact I.cl y q hk
    · rw [List.mem_singleton.mp q] at hk
      exact absurd hk h⟩
theorem rinv_full {s : Sg} {r : Row} {pre : List Int} {f : Kv} {x : Int} (I : RInv s r pre f) (h : ∀ c ∈ stepsOf s r x, c ∈ keys f) : RInv s r (pre ++ [x]) f :=
  ⟨I.nd, I.ok, I.dead, I.fo, I.src, fun y hy hk => by
    rcases List.mem_append.mp hy with q | q
    · exact I.cl y q hk
    · rw [List.mem_singleton.mp q]
      exact h⟩
theorem keys_snoc (f : Kv) (u : Int × Int) : keys (f ++ [u]) = keys f ++ [u.1] := by simp [keys]
theorem rinv_add {s : Sg} {r : Row} {pre : List Int} {f : Kv} {x c : Int} (w : WH s.h) (I : RInv s r pre f) (hx : x ∈ keys f) (hpre : ∀ y ∈ pre, y < x) (hc : c ∈ stepsOf s r x) (hn : c ∉ keys f) : RInv s r pre (f ++ [(c, x)]) := by
  have so := steps_ok w hc
  have nd : ¬ Dead s r := fun d => by
    rw [I.dead d] at hx
    cases hx
  have km : ∀ y, y ∈ keys f → y ∈ keys (f ++ [(c, x)]) := fun y hy => by
    rw [keys_snoc]
    exact List.mem_append_left _ hy
  refine ⟨?_, fun y hy => ?_, fun d => absurd d nd, fun h => List.mem_append_left _ (I.fo h), fun u hu hne => ?_, fun y hy hk c' hc' => ?_⟩
  · rw [keys_snoc]
    refine List.nodup_append.mpr ⟨I.nd, by simp, fun a ha b hb e => ?_⟩
    rw [List.mem_singleton.mp hb] at e
    rw [e] at ha
    exact hn ha
  · rw [keys_snoc] at hy
    rcases List.mem_append.mp hy with q | q
    · exact I.ok y q
    · rw [List.mem_singleton.mp q]
      exact so.1
  · rcases List.mem_append.mp hu with q | q
    · obtain ⟨h1, h2⟩ := I.src u q hne
      exact ⟨km _ h1, h2⟩
    · rw [List.mem_singleton.mp q]
      exact ⟨km _ hx, hc⟩
  · rw [keys_snoc] at hk
    rcases List.mem_append.mp hk with q | q
    · exact km _ (I.cl y hy q c' hc')
    · have := hpre y hy
      rw [List.mem_singleton.mp q] at this
      have := so.2.1
      have h3 : y = c := List.mem_singleton.mp q
      omega
theorem rinv_end {s : Sg} {r : Row} {f : Kv} (I : RInv s r (idx s.h.length) f) (ns : List Int) (pn : ns.Perm (keys f)) (wn : ns.Pairwise (· ≤ ·)) : RReach s r (ns.map fun x => (x, par f x)) := by
  have ek : keys (ns.map fun x => (x, par f x)) = ns := by
    unfold keys
    rw [List.map_map]
    exact List.map_id' ns
  have mem : ∀ {u : Int × Int}, u ∈ (ns.map fun x => (x, par f x)) → u ∈ f := fun {u} hu => by
    obtain ⟨x, hx, e⟩ := List.mem_map.mp hu
    rw [← e]
    exact par_mem (pn.mem_iff.mp hx)
  have nd : ns.Nodup := pn.nodup_iff.mpr I.nd
  refine ⟨⟨fun x hx => ?_, ?_⟩, fun d => ?_, fun d => ?_, fun d u hu hne => ?_, fun d x hx c hc => ?_⟩
  · rw [ek] at hx
    exact I.ok x (pn.mem_iff.mp hx)
  · rw [ek]
    exact (wn.and nd).imp fun ⟨h1, h2⟩ => by omega
  · have : ns = [] := by
      rw [I.dead d] at pn
      exact List.Perm.eq_nil pn
    rw [this]
    rfl
  · refine List.mem_map.mpr ⟨r.fo, pn.mem_iff.mpr (keys_of_mem (I.fo d)), ?_⟩
    rw [par_of I.nd (I.fo d)]
  · rw [ek]
    obtain ⟨h1, h2⟩ := I.src u (mem hu) hne
    exact ⟨pn.mem_iff.mpr h1, h2⟩
  · rw [ek] at hx ⊢
    exact pn.mem_iff.mpr (I.cl x (okF_idx.mpr (I.ok x (pn.mem_iff.mp hx))) (pn.mem_iff.mp hx) c hc)
/-- a right reach is what the walk finds -/
theorem reach_walk {s : Sg} {r : Row} {ps : Kv} (w : WH s.h) (o : okF s.h r.fo) (R : RReach s r ps) (x : Int) : x ∈ keys ps ↔ x ∈ walkOf s r := by
  by_cases d : Dead s r
  · rw [R.dead d]
    constructor
    · intro h
      cases h
    · intro h
      have e : cameBy s r = [] := by
        unfold cameBy start0
        rw [if_neg (by unfold Dead at d; omega)]
        unfold fuel
        rfl
      unfold walkOf at h
      rw [e] at h
      cases h
  · have fk : r.fo ∈ keys ps := keys_of_mem (R.fo d)
    have fw : r.fo ∈ walkOf s r := by
      rcases (came_ok w o).2.fo (by unfold Dead at d; omega) with h | h
      · exact h
      · cases h
    constructor
    · -- down from parents, by the number
      have key : ∀ n : Nat, ∀ x, x.toNat ≤ n → x ∈ keys ps → x ∈ walkOf s r := by
        intro n
        induction n with
        | zero =>
          intro x hn hx
          obtain ⟨u, hu, e⟩ := List.mem_map.mp hx
          subst e
          by_cases hf : u.1 = r.fo
          · rw [hf]
            exact fw
          · obtain ⟨h1, h2⟩ := R.src d u hu hf
            have := (steps_ok w h2).2.1
            have := (R.pairs.ok _ h1).1
            omega
        | succ n ih =>
          intro x hn hx
          obtain ⟨u, hu, e⟩ := List.mem_map.mp hx
          subst e
          by_cases hf : u.1 = r.fo
          · rw [hf]
            exact fw
          · obtain ⟨h1, h2⟩ := R.src d u hu hf
            have a := (steps_ok w h2).2.1
            have b := (R.pairs.ok _ h1).1
            exact walk_closed w o (ih u.2 (by omega) h1) h2
      exact key x.toNat x (Nat.le_refl _)
    · have key : ∀ n : Nat, ∀ x, x.toNat ≤ n → x ∈ walkOf s r → x ∈ keys ps := by
        intro n
        induction n with
        | zero =>
          intro x hn hx
          rcases walk_par w o hx with ⟨e, _⟩ | ⟨h1, h2⟩
          · rw [e]
            exact fk
          · have := (steps_ok w h2).2.1
            have := (walk_okF w o h1).1
            omega
        | succ n ih =>
          intro x hn hx
          rcases walk_par w o hx with ⟨e, _⟩ | ⟨h1, h2⟩
          · rw [e]
            exact fk
          · have a := (steps_ok w h2).2.1
            have b := (walk_okF w o h1).1
            exact R.cl d _ (ih _ (by omega) h1) x h2
      exact key x.toNat x (Nat.le_refl _)
end TW

/-! TM5: places, parts, papers. -/
namespace TW
open PySem PySem.Spec PyProof.Rows L2
def before (l : List Int) (z : Int) : List Int := l.takeWhile fun y => !decide (y = z)
theorem before_ix : ∀ {l : List Int} {z : Int}, z ∈ l → ∃ j : Nat, l[j]? = some z ∧ (∀ m, m < j → l[m]? ≠ some z) ∧ l.take j = before l z
  | [], _, h => by cases h
  | y :: l, z, h => by
    by_cases e : y = z
    · subst e
      refine ⟨0, rfl, fun m hm => by omega, ?_⟩
      unfold before
      rw [List.takeWhile_cons_of_neg (by simp)]
      rfl
    · have hz : z ∈ l := by
        rcases List.mem_cons.mp h with q | q
        · exact absurd q.symm e
        · exact q
      obtain ⟨j, h1, h2, h3⟩ := before_ix hz
      refine ⟨j + 1, h1, fun m hm => ?_, ?_⟩
      · cases m with
        | zero => simpa using e
        | succ m => exact h2 m (by omega)
      · unfold before at h3 ⊢
        rw [List.takeWhile_cons_of_pos (by simp [e]), List.take_succ_cons, h3]
theorem before_sub {l : List Int} {z x : Int} (h : x ∈ before l z) : x ∈ l := (List.takeWhile_sublist _).mem h
theorem before_split : ∀ {l : List Int} {z : Int}, z ∈ l → ∃ post, l = before l z ++ z :: post
  | [], _, h => by cases h
  | y :: l, z, h => by
    by_cases e : y = z
    · subst e
      refine ⟨l, ?_⟩
      unfold before
      rw [List.takeWhile_cons_of_neg (by simp)]
      rfl
    · have hz : z ∈ l := by
        rcases List.mem_cons.mp h with q | q
        · exact absurd q.symm e
        · exact q
      obtain ⟨post, h1⟩ := before_split hz
      refine ⟨post, ?_⟩
      unfold before at h1 ⊢
      rw [List.takeWhile_cons_of_pos (by simp [e]), List.cons_append, ← h1]
def links (xs : List Int) : List (Int × Int) := xs.zip (xs.drop 1)
def ranked (s : Sg) (r : Row) (xs : List Int) : List Int := (links xs).flatMap fun u => before (stepsOf s r u.1) u.2
theorem links_cons (a b : Int) (t : List Int) : links (a :: b :: t) = (a, b) :: links (b :: t) := rfl
theorem links_step {s : Sg} {r : Row} : ∀ {xs : List Int}, Ch (fun a b => b ∈ stepsOf s r a) xs → ∀ u ∈ links xs, u.2 ∈ stepsOf s r u.1 ∧ u.1 ∈ xs
  | [], _, u, h => by cases h
  | [x], _, u, h => by cases h
  | x :: y :: t, c, u, h => by
    rw [links_cons] at h
    rcases List.mem_cons.mp h with e | h
    · rw [e]
      exact ⟨c.1, List.mem_cons_self⟩
    · obtain ⟨h1, h2⟩ := links_step c.2 u h
      exact ⟨h1, List.mem_cons_of_mem _ h2⟩
def Led (s : Sg) (r : Row) (line ah : List Int) (x : Int) : Prop := x ∈ ranked s r line ∨ ∃ y ∈ ah, y ∉ line ∧ x ∈ stepsOf s r y
structure RPlace (s : Sg) (r : Row) (who : Int) (line ah : List Int) : Prop where
  isL : Line s r line
  last : line.getLast? = some who
  ok : ∀ x ∈ ah, okF s.h x
  pw : ah.Pairwise (· < ·)
  whoN : who ∉ ah
  bef : ∀ x ∈ line.dropLast, x ∈ ah
  led1 : ∀ x, Led s r line ah x → x ∈ ah ∧ x ∉ line
  led2 : ∀ x ∈ ah, x ∉ line → Led s r line ah x
def IsPlace (s : Sg) (r : Row) (who : Int) (d : D) : Prop := ∃ line ah, d = .tup [intsD line, intsD ah] ∧ RPlace s r who line ah
def fits (s : Sg) (r : Row) (xs : List Int) : List Int := xs.filter (isFit s r)
def Nobody (s : Sg) (r : Row) (d : D) : Prop := ∃ ps : Kv, d = .tup [.str "nobody", .tup (ps.map prD)] ∧ RReach s r ps ∧ fits s r (keys ps) = []
def ByLines (s : Sg) (r : Row) (who : Int) (d : D) : Prop := ∃ line ah, d = .tup [.str "lines", intsD line, intsD ah] ∧ RPlace s r who line ah ∧ isFit s r who = true ∧ fits s r ah = []
def ByAge (s : Sg) (r : Row) (who : Int) (d : D) : Prop := ∃ ps : Kv, d = .tup [.str "age", .tup (ps.map prD)] ∧ RReach s r ps ∧ who ∈ fits s r (keys ps) ∧ ∀ y ∈ fits s r (keys ps), who ≤ y
def ByNear (s : Sg) (r : Row) (last who : Int) (d : D) : Prop := ∃ ps : Kv, d = .tup [.str "near", .tup (ps.map prD)] ∧ RReach s r ps ∧ who ∈ fits s r (keys ps) ∧ ∀ y ∈ fits s r (keys ps), ¬ ltPr (nearP s r last y) (nearP s r last who)
def FirstPart (s : Sg) (r : Row) (last who : Int) (d : D) : Prop := if r.way = "lines" then ByLines s r who d else if r.way = "age" then ByAge s r who d else ByNear s r last who d
/-- the first parts nobody's, then as the last tells -/
def RFirst (s : Sg) (rule : List Row) (last who : Int) (d : D) : Prop := ∃ parts : List D, d = .tup parts ∧ parts ≠ [] ∧ parts.length ≤ rule.length ∧
  (∀ (i : Nat) (r : Row) (q : D), i < parts.length - (if who = -1 then 0 else 1) → rule[i]? = some r → parts[i]? = some q → Nobody s r q) ∧
  (if who = -1 then parts.length = rule.length else ∃ r q, rule[parts.length - 1]? = some r ∧ parts[parts.length - 1]? = some q ∧ FirstPart s r last who q)
/-! ### lists as dicts of truths -/
def kT (l : List Int) : List (Int × D) := l.map fun x => (x, .bl true)
theorem look_kT (l : List Int) (x : Int) : (lookK (kT l) x).isSome = decide (x ∈ l) := by
  induction l with
  | nil => rfl
  | cons y l ih =>
    show (lookK ((y, D.bl true) :: kT l) x).isSome = _
    rw [lookK_cons]
    by_cases h : y = x
    · subst h
      simp
    · have h' : ¬ x = y := fun e => h e.symm
      simp [h, h', ih]
theorem store_kT (l : List Int) (x : Int) : storeK (kT l) x (.bl true) = kT (addNew l x) := by
  unfold storeK addNew
  rw [look_kT]
  by_cases h : x ∈ l
  · rw [if_pos (by simp [h]), if_pos h]
    unfold kT
    rw [List.map_map]
    refine List.map_congr_left fun y _ => ?_
    show (if y = x then (y, D.bl true) else (y, D.bl true)) = _
    split <;> rfl
  · rw [if_neg (by simp [h]), if_neg h]
    simp [kT]
theorem kT_len (l : List Int) : (kT l).length = l.length := by simp [kT]
theorem keyD_kT (l : List Int) : keyD (kT l) = l.map D.int := by
  unfold keyD kT
  rw [List.map_map]
  rfl
theorem addNew_mem {l : List Int} {x y : Int} : y ∈ addNew l x ↔ y ∈ l ∨ y = x := by
  unfold addNew
  split
  · constructor
    · exact .inl
    · rintro (h | h)
      · exact h
      · rw [h]
        assumption
  · simp
theorem fold_addNew_mem : ∀ {l acc : List Int} {y : Int}, y ∈ l.foldl addNew acc ↔ y ∈ acc ∨ y ∈ l
  | [], acc, y => by simp
  | x :: l, acc, y => by
    rw [List.foldl_cons, fold_addNew_mem, addNew_mem, List.mem_cons, or_assoc]
theorem addNew_nd {l : List Int} {x : Int} (h : l.Nodup) : (addNew l x).Nodup := by
  unfold addNew
  split
  · exact h
  · refine List.nodup_append.mpr ⟨h, by simp, fun a ha b hb e => ?_⟩
    rw [List.mem_singleton.mp hb] at e
    rw [e] at ha
    contradiction
theorem fold_addNew_nd : ∀ {l acc : List Int}, acc.Nodup → (l.foldl addNew acc).Nodup
  | [], acc, h => h
  | x :: l, acc, h => fold_addNew_nd (l := l) (addNew_nd h)
theorem sIx_m1 (n : Nat) : HT.sIx n n (some (-1)) = n - 1 := by
  show (if (-1 : Int) < 0 then ((-1 : Int) + (n : Int)).toNat else min (-1 : Int).toNat n) = n - 1
  rw [if_pos (by decide)]
  omega
theorem cut_m1 (ds : List D) : cut ds none (some (-1)) = ds.dropLast := by
  unfold cut
  rw [sIx_m1]
  show (ds.drop 0).take (ds.length - 1 - 0) = _
  rw [List.drop_zero, Nat.sub_zero, List.dropLast_eq_take]
theorem cut_from {ds : List D} {j : Nat} (h : j ≤ ds.length) : cut ds (some (j : Int)) none = ds.drop j := by
  unfold cut
  rw [HT.sIx_nat, Nat.min_eq_left h]
  show (ds.drop j).take (ds.length - j) = _
  exact List.take_of_length_le (by rw [List.length_drop]; omega)
theorem cut_from1 (ds : List D) : cut ds (some 1) none = ds.drop 1 := by
  cases ds with
  | nil => rfl
  | cons a t => exact cut_from (j := 1) (by simp)
theorem zip_ints (xs ys : List Int) : zipD (xs.map D.int) (ys.map D.int) = (xs.zip ys).map fun u => .tup [.int u.1, .int u.2] := by
  unfold zipD
  rw [List.zip_map, List.map_map]
  rfl
end TW

/-! TM6: a right paper names the first. -/
namespace TW
open PySem PySem.Spec PyProof.Rows L2
theorem keys_append (a b : Kv) : keys (a ++ b) = keys a ++ keys b := List.map_append
theorem keys_child (l : List Int) (x : Int) : keys (l.map fun c => (c, x)) = l := by
  unfold keys
  rw [List.map_map]
  exact List.map_id' l
theorem line_pw {s : Sg} {r : Row} {xs : List Int} (w : WH s.h) (l : Line s r xs) : xs.Pairwise (· < ·) := by
  rw [← ch_pw, ch_idx]
  intro i a b ha hb
  exact (steps_ok w (ch_idx.mp l.2.2.2.2 i a b ha hb)).2.1
theorem ch_mid {R : Int → Int → Prop} : ∀ {l1 : List Int} {p q : Int} {l2 : List Int}, Ch R (l1 ++ p :: q :: l2) → R p q
  | [], p, q, l2, h => h.1
  | [x], p, q, l2, h => h.2.1
  | x :: y :: t, p, q, l2, h => ch_mid (l1 := y :: t) h.2
theorem links_mid : ∀ (l1 : List Int) (p q : Int) (l2 : List Int), (p, q) ∈ links (l1 ++ p :: q :: l2)
  | [], p, q, l2 => List.mem_cons_self
  | [x], p, q, l2 => List.mem_cons_of_mem _ List.mem_cons_self
  | x :: y :: t, p, q, l2 => List.mem_cons_of_mem _ (links_mid (y :: t) p q l2)
/-- what the walk keeps under a right place -/
def Pq (s : Sg) (r : Row) (who : Int) (line ah : List Int) (f st : Kv) : Prop :=
  (∃ l1 p l2 T q R, line = l1 ++ p :: l2 ∧ (∀ x ∈ keys f, x ∈ l1 ∨ (x ∈ ah ∧ x ∉ line)) ∧ st = T ++ (p, q) :: R ∧ ∀ t ∈ keys T, t ∈ ah ∧ t ∉ line) ∨
  ∃ f1 q f2, f = f1 ++ (who, q) :: f2 ∧ ∀ x ∈ keys f1, x ∈ ah
theorem place_walk {s : Sg} {r : Row} {who : Int} {line ah : List Int} (w : WH s.h) (o : okF s.h r.fo) (R : RPlace s r who line ah) : ∃ a b, walkOf s r = a ++ who :: b ∧ ∀ x ∈ a, x ∈ ah := by
  obtain ⟨lne, lok, lhd, lborn, lch⟩ := R.isL
  have lpw := line_pw w R.isL
  have lnd : line.Nodup := lpw.imp fun h => Int.ne_of_lt h
  obtain ⟨g, sz⟩ := start_gd o
  have main := dfs_rec (steps_stepOk w r) (Pq s r who line ah) (fun f st x p g q hx => ?_) (fun f st x p g q hx => ?_) _ _ _ sz g ?_
  · obtain ⟨_, q⟩ := main
    rcases q with ⟨l1, p, l2, T, q, R', _, _, e, _⟩ | ⟨f1, q, f2, e, h⟩
    · cases T <;> cases e
    · refine ⟨keys f1, keys f2, ?_, h⟩
      show keys (cameBy s r) = _
      unfold cameBy
      rw [e, keys_append]
      rfl
  · -- found before
    rcases q with ⟨l1, pp, l2, T, qq, R', e1, e2, e3, e4⟩ | h
    · cases T with
      | nil =>
        rw [List.nil_append] at e3
        obtain ⟨e5, e6⟩ := List.cons.inj e3
        cases e5
        exfalso
        rcases e2 x hx with h | h
        · rw [e1] at lnd
          exact (List.nodup_append.mp lnd).2.2 x h x List.mem_cons_self rfl
        · exact h.2 (by rw [e1]; simp)
      | cons t T =>
        rw [List.cons_append] at e3
        obtain ⟨e5, e6⟩ := List.cons.inj e3
        exact .inl ⟨l1, pp, l2, T, qq, R', e1, e2, e6, fun z hz => e4 z (List.mem_cons_of_mem _ hz)⟩
    · exact .inr h
  · rcases q with ⟨l1, pp, l2, T, qq, R', e1, e2, e3, e4⟩ | ⟨f1, q, f2, e, h⟩
    · cases T with
      | nil =>
        rw [List.nil_append] at e3
        obtain ⟨e5, e6⟩ := List.cons.inj e3
        cases e5
        subst e6
        cases l2 with
        | nil =>
          -- who is found
          have ew : x = who := by
            have := R.last
            rw [e1, List.getLast?_append] at this
            simpa using this
          subst ew
          refine .inr ⟨f, p, [], rfl, fun y hy => ?_⟩
          rcases e2 y hy with h | h
          · refine R.bef y ?_
            rw [e1, List.dropLast_concat]
            exact h
          · exact h.1
        | cons p2 l3 =>
          rw [e1] at lch
          have hs := ch_mid lch
          obtain ⟨post, ep⟩ := before_split hs
          refine .inl ⟨l1 ++ [x], p2, l3, (before (stepsOf s r x) p2).map (fun c => (c, x)), x, post.map (fun c => (c, x)) ++ st, by rw [e1]; simp, fun y hy => ?_, ?_, fun t ht => ?_⟩
          · rw [keys_append] at hy
            rcases List.mem_append.mp hy with h | h
            · rcases e2 y h with h | h
              · exact .inl (List.mem_append_left _ h)
              · exact .inr h
            · have : y = x := by simpa using h
              rw [this]
              exact .inl (by simp)
          · generalize before (stepsOf s r x) p2 = bf at ep
            rw [ep]
            simp
          · rw [keys_child] at ht
            refine R.led1 t (.inl ?_)
            unfold ranked
            refine List.mem_flatMap.mpr ⟨(x, p2), ?_, ht⟩
            rw [e1]
            exact links_mid l1 x p2 l3
      | cons t T =>
        rw [List.cons_append] at e3
        obtain ⟨e5, e6⟩ := List.cons.inj e3
        subst e5
        have hx2 := e4 x List.mem_cons_self
        refine .inl ⟨l1, pp, l2, (stepsOf s r x).map (fun c => (c, x)) ++ T, qq, R', e1, fun y hy => ?_, by rw [e6]; simp, fun z hz => ?_⟩
        · rw [keys_append] at hy
          rcases List.mem_append.mp hy with h | h
          · exact e2 y h
          · have : y = x := by simpa using h
            rw [this]
            exact .inr hx2
        · rw [keys_append, keys_child] at hz
          rcases List.mem_append.mp hz with h | h
          · exact R.led1 z (.inr ⟨x, hx2.1, hx2.2, h⟩)
          · exact e4 z (List.mem_cons_of_mem _ h)
    · refine .inr ⟨f1, q, f2 ++ [(x, p)], ?_, h⟩
      rw [e]
      simp
  · refine .inl ⟨[], r.fo, line.drop 1, [], -1, [], ?_, by simp, ?_, by simp⟩
    · cases line with
      | nil => exact absurd rfl lne
      | cons a t =>
        have : a = r.fo := by simpa using lhd
        rw [this]
        rfl
    · unfold start0
      rw [if_pos lborn]
      rfl
/-! ### the first of a row -/
theorem nobody_row {s : Sg} {r : Row} {d : D} (w : WH s.h) (o : okF s.h r.fo) (h : Nobody s r d) (last : Int) : rowOrder s r last = [] := by
  obtain ⟨ps, _, R, e⟩ := h
  refine List.eq_nil_iff_forall_not_mem.mpr fun x hx => ?_
  obtain ⟨h1, h2⟩ := standing_mem.mp (rowOrder_mem.mp hx)
  have : x ∈ fits s r (keys ps) := List.mem_filter.mpr ⟨(reach_walk w o R x).mpr h1, h2⟩
  rw [e] at this
  cases this
theorem lines_row {s : Sg} {r : Row} {who last : Int} {d : D} (w : WH s.h) (o : okF s.h r.fo) (hw : r.way = "lines") (h : ByLines s r who d) : (rowOrder s r last).head? = some who := by
  obtain ⟨line, ah, _, R, hf, hn⟩ := h
  obtain ⟨a, b, e, ha⟩ := place_walk w o R
  unfold rowOrder
  rw [if_neg (by rw [hw]; decide), if_neg (by rw [hw]; decide)]
  unfold standing
  rw [e, List.filter_append]
  have e2 : a.filter (isFit s r) = [] := List.filter_eq_nil_iff.mpr fun x hx hfx => by
    have : x ∈ fits s r ah := List.mem_filter.mpr ⟨ha x hx, hfx⟩
    rw [hn] at this
    cases this
  rw [e2, List.filter_cons_of_pos hf]
  rfl
theorem head_least {α : Type} {R : α → α → Prop} {l : List α} {x : α} (hp : l.Pairwise R) (hx : x ∈ l) (anti : ∀ y ∈ l, R y x → y = x) : l.head? = some x := by
  cases l with
  | nil => cases hx
  | cons y l =>
    rcases List.mem_cons.mp hx with e | h
    · rw [e]
      rfl
    · rw [← anti y List.mem_cons_self ((List.pairwise_cons.mp hp).1 x h)]
      rfl
theorem fits_standing {s : Sg} {r : Row} {ps : Kv} (w : WH s.h) (o : okF s.h r.fo) (R : RReach s r ps) (x : Int) : x ∈ fits s r (keys ps) ↔ x ∈ standing s r := by
  unfold fits standing
  rw [List.mem_filter, List.mem_filter, reach_walk w o R]
theorem age_row {s : Sg} {r : Row} {who last : Int} {d : D} (w : WH s.h) (o : okF s.h r.fo) (hw : r.way = "age") (h : ByAge s r who d) : (rowOrder s r last).head? = some who := by
  obtain ⟨ps, _, R, hm, hl⟩ := h
  unfold rowOrder
  rw [if_pos hw]
  refine head_least (srtI_pw _) ((srtI_perm _).mem_iff.mpr ((fits_standing w o R who).mp hm)) fun y hy hle => ?_
  have := hl y ((fits_standing w o R y).mpr ((srtI_perm _).mem_iff.mp hy))
  omega
theorem near_row {s : Sg} {r : Row} {who last : Int} {d : D} (w : WH s.h) (o : okF s.h r.fo) (hw : r.way = "near") (h : ByNear s r last who d) : (rowOrder s r last).head? = some who := by
  obtain ⟨ps, _, R, hm, hl⟩ := h
  unfold rowOrder
  rw [if_neg (by rw [hw]; decide), if_pos hw, List.head?_map]
  have : (srtP ((standing s r).map (nearP s r last))).head? = some (nearP s r last who) := by
    refine head_least (srtP_pw _) ((srtP_perm _).mem_iff.mpr (List.mem_map.mpr ⟨who, (fits_standing w o R who).mp hm, rfl⟩)) fun u hu hle => ?_
    obtain ⟨y, hy, e⟩ := List.mem_map.mp ((srtP_perm _).mem_iff.mp hu)
    have q := hl y ((fits_standing w o R y).mpr hy)
    rw [e] at q
    unfold ltPr at q hle
    exact Prod.ext (by omega) (by omega)
  rw [this]
  rfl
def WayOk (r : Row) : Prop := r.way = "lines" ∨ r.way = "age" ∨ r.way = "near"
theorem part_row {s : Sg} {r : Row} {who last : Int} {d : D} (w : WH s.h) (o : okF s.h r.fo) (hw : WayOk r) (h : FirstPart s r last who d) : (rowOrder s r last).head? = some who := by
  unfold FirstPart at h
  rcases hw with e | e | e
  · rw [if_pos e] at h
    exact lines_row w o e h
  · rw [if_neg (by rw [e]; decide), if_pos e] at h
    exact age_row w o e h
  · rw [if_neg (by rw [e]; decide), if_neg (by rw [e]; decide)] at h
    exact near_row w o e h
/-! ### the first of a rule -/
def fstOf (s : Sg) (last : Int) : List Row → Int
  | [] => -1
  | r :: rule => match rowOrder s r last with
    | [] => fstOf s last rule
    | x :: _ => x
theorem fold_head : ∀ (l acc : List Int), (l.foldl addNew acc).head? = if acc = [] then l.head? else acc.head?
  | [], acc => by
    by_cases h : acc = [] <;> simp [h]
  | x :: l, acc => by
    rw [List.foldl_cons, fold_head l]
    by_cases h : acc = []
    · subst h
      rfl
    · have : addNew acc x ≠ [] := by
        unfold addNew
        split
        · exact h
        · simp
      rw [if_neg this, if_neg h]
      unfold addNew
      split
      · rfl
      · cases acc with
        | nil => exact absurd rfl h
        | cons a t => rfl
theorem fold_nil : ∀ (l acc : List Int), l.foldl addNew acc = [] → acc = []
  | [], acc, h => h
  | x :: l, acc, h => by
    have := fold_nil l _ h
    unfold addNew at this
    split at this
    · exact this
    · simp at this
theorem order_head (s : Sg) (last : Int) : ∀ (rule : List Row) (acc : List Int), ((rule.foldl (fun acc r => (rowOrder s r last).foldl addNew acc) acc).head?).getD (-1) = if acc = [] then fstOf s last rule else acc.head?.getD (-1)
  | [], acc => by
    by_cases h : acc = [] <;> simp [h, fstOf]
  | r :: rule, acc => by
    rw [List.foldl_cons, order_head s last rule]
    by_cases h : acc = []
    · subst h
      have hf : fstOf s last (r :: rule) = (match rowOrder s r last with
        | [] => fstOf s last rule
        | x :: _ => x) := rfl
      rw [if_pos rfl, hf]
      cases e : rowOrder s r last with
      | nil =>
        rw [List.foldl_nil, if_pos rfl]
      | cons x l =>
        have h1 := fold_head (x :: l) []
        rw [if_pos rfl] at h1
        have h2 : (x :: l).foldl addNew [] ≠ [] := fun z => by
          rw [z] at h1
          cases h1
        rw [if_neg h2, h1]
        rfl
    · have h1 := fold_head (rowOrder s r last) acc
      rw [if_neg h] at h1
      have h2 : (rowOrder s r last).foldl addNew acc ≠ [] := fun z => h (fold_nil _ _ z)
      rw [if_neg h2, if_neg h, h1]
theorem first_eq (s : Sg) (rule : List Row) (last : Int) : firstIn (orderOf s rule last) = fstOf s last rule := by
  have := order_head s last rule []
  rw [if_pos rfl] at this
  exact this
theorem fst_skip {s : Sg} {last : Int} : ∀ {rule : List Row} {n : Nat}, n ≤ rule.length → (∀ (i : Nat) (r : Row), i < n → rule[i]? = some r → rowOrder s r last = []) → fstOf s last rule = fstOf s last (rule.drop n)
  | rule, 0, _, _ => by rw [List.drop_zero]
  | [], n + 1, h, _ => by simp at h
  | r :: rule, n + 1, h, hn => by
    have e := hn 0 r (by omega) rfl
    rw [List.drop_succ_cons, ← fst_skip (n := n) (by simpa using h) fun i q hi hq => hn (i + 1) q (by omega) (by simpa using hq)]
    show (match rowOrder s r last with
      | [] => fstOf s last rule
      | x :: _ => x) = _
    rw [e]
/-- a right paper for who: who is the first -/
theorem right_who {s : Sg} {rule : List Row} {last who : Int} {d : D} (w : WH s.h) (ro : RuleOk s rule) (hw : ∀ r ∈ rule, WayOk r) (h : RFirst s rule last who d) : who = firstIn (orderOf s rule last) := by
  rw [first_eq]
  obtain ⟨ps, _, hne, hl, nob, fin⟩ := h
  have pos : 0 < ps.length := List.length_pos_iff.mpr hne
  have skip : ∀ n, n = ps.length - (if who = -1 then 0 else 1) → fstOf s last rule = fstOf s last (rule.drop n) := fun n en => fst_skip (by omega) fun i r hi hr => by
    obtain ⟨q, hq⟩ : ∃ q, ps[i]? = some q := ⟨_, List.getElem?_eq_getElem (by omega)⟩
    exact nobody_row w (ro.fo r (List.mem_of_getElem? hr)) (nob i r q (by rw [← en]; exact hi) hr hq) last
  by_cases e : who = -1
  · rw [if_pos e] at fin
    rw [skip ps.length (by rw [if_pos e]; rfl), fin, List.drop_length]
    exact e
  · rw [if_neg e] at fin
    obtain ⟨r, q, h1, h2, h3⟩ := fin
    rw [skip (ps.length - 1) (by rw [if_neg e])]
    have hr := List.mem_of_getElem? h1
    have hh := part_row w (ro.fo r hr) (hw r hr) h3
    obtain ⟨hlt, e3⟩ := List.getElem?_eq_some_iff.mp h1
    rw [List.drop_eq_getElem_cons hlt, e3]
    unfold fstOf
    cases ho : rowOrder s r last with
    | nil =>
      rw [ho] at hh
      cases hh
    | cons x l =>
      rw [ho] at hh
      exact (Option.some.inj hh).symm
end TW

/-! TM7: the place that is made is right. -/
namespace TW
open PySem PySem.Spec PyProof.Rows L2
/-- the work at a: what was found under it (G), which of its steps are done (d), which wait (suf); F: all that is found -/
structure Wk (s : Sg) (r : Row) (a : Int) (F : List Int) (G : Kv) (d suf : List Int) : Prop where
  sp : stepsOf s r a = d ++ suf
  dn : ∀ z ∈ d, z ∈ F
  cl : ∀ z ∈ keys G, ∀ y ∈ stepsOf s r z, y ∈ F
  src : ∀ u ∈ G, u.1 ∈ stepsOf s r u.2 ∧ (u.2 = a ∧ u.1 ∈ d ∨ u.2 ∈ keys G)
def hdP (ch : List Int) : Int := ch.head?.getD (-1)
/-- found and stack when x is found; ch: the line above x, the nearest first -/
inductive Disc (s : Sg) (r : Row) : Kv → Kv → List Int → Int → Prop
  | base : (hAt s.h r.fo).d ≤ s.day → Disc s r [] [] [] r.fo
  | step {f st : Kv} {ch : List Int} {a x : Int} {G : Kv} {d suf : List Int} : Disc s r f st ch a → Wk s r a (keys (f ++ (a, hdP ch) :: G)) G d (x :: suf) →
      Disc s r (f ++ (a, hdP ch) :: G) (suf.map (fun c => (c, a)) ++ st) (a :: ch) x
/-- a state in the work at some a -/
def InW (s : Sg) (r : Row) (f st : Kv) : Prop := ∃ f0 st0 ch a G d suf, Disc s r f0 st0 ch a ∧ f = f0 ++ (a, hdP ch) :: G ∧ st = suf.map (fun c => (c, a)) ++ st0 ∧ Wk s r a (keys f) G d suf
/-- the same with a step that waits -/
theorem inw_norm {s : Sg} {r : Row} {f0 st0 : Kv} {ch : List Int} {a : Int} (D0 : Disc s r f0 st0 ch a) : ∀ {f st G : Kv} {d suf : List Int}, (keys f).Nodup → f = f0 ++ (a, hdP ch) :: G → st = suf.map (fun c => (c, a)) ++ st0 → Wk s r a (keys f) G d suf → st ≠ [] →
    ∃ f0 st0 ch a G d x suf, Disc s r f0 st0 ch a ∧ f = f0 ++ (a, hdP ch) :: G ∧ st = (x :: suf).map (fun c => (c, a)) ++ st0 ∧ Wk s r a (keys f) G d (x :: suf) := by
  induction D0 with
  | base hd =>
    intro f st G d suf nd ef es W hne
    cases suf with
    | nil => exact absurd es hne
    | cons x suf => exact ⟨_, _, _, _, _, _, x, suf, .base hd, ef, es, W⟩
  | @step fb stb chb b a Gb db sufb Db Wb ih =>
    intro f st G d suf nd ef es W hne
    cases suf with
    | cons x suf => exact ⟨_, _, _, _, _, _, x, suf, .step Db Wb, ef, es, W⟩
    | nil =>
      have eh : hdP (b :: chb) = b := rfl
      rw [eh] at ef
      rw [List.map_nil, List.nil_append] at es
      have ef' : f = fb ++ (b, hdP chb) :: (Gb ++ (a, b) :: G) := by
        rw [ef]
        simp
      have sub : ∀ z, z ∈ keys (fb ++ (b, hdP chb) :: Gb) → z ∈ keys f := fun z hz => by
        rw [ef, keys_append]
        exact List.mem_append_left _ hz
      have af : a ∈ keys f := by
        rw [ef, keys_append]
        exact List.mem_append_right _ List.mem_cons_self
      -- b stands ahead of a and of G
      have bn : ∀ u ∈ (a, b) :: G, b ≠ u.1 := fun u hu e => by
        rw [ef', keys_append] at nd
        have n2 := (List.nodup_append.mp nd).2.1
        have n3 := (List.nodup_cons.mp n2).1
        refine n3 ?_
        show b ∈ keys (Gb ++ (a, b) :: G)
        rw [keys_append]
        exact List.mem_append_right _ (List.mem_map.mpr ⟨u, hu, e.symm⟩)
      refine ih nd ef' es ⟨?_, fun z hz => ?_, fun z hz y hy => ?_, fun u hu => ?_⟩ hne (d := db ++ [a])
      · rw [Wb.sp]
        simp
      · rcases List.mem_append.mp hz with h | h
        · exact sub z (Wb.dn z h)
        · rw [List.mem_singleton.mp h]
          exact af
      · rw [keys_append] at hz
        rcases List.mem_append.mp hz with h | h
        · exact sub y (Wb.cl z h y hy)
        · rcases List.mem_cons.mp h with h | h
          · have h' : z = a := h
            rw [h', W.sp, List.append_nil] at hy
            exact W.dn y hy
          · exact W.cl z h y hy
      · rcases List.mem_append.mp hu with h | h
        · obtain ⟨h1, h2⟩ := Wb.src u h
          refine ⟨h1, ?_⟩
          rcases h2 with ⟨h2, h3⟩ | h2
          · exact .inl ⟨h2, List.mem_append_left _ h3⟩
          · exact .inr (by rw [keys_append]; exact List.mem_append_left _ h2)
        · rcases List.mem_cons.mp h with h | h
          · rw [h]
            exact ⟨by rw [Wb.sp]; simp, .inl ⟨rfl, by simp⟩⟩
          · obtain ⟨h1, h2⟩ := W.src u h
            refine ⟨h1, .inr ?_⟩
            rw [keys_append]
            rcases h2 with ⟨h2, _⟩ | h2
            · rw [h2]
              exact List.mem_append_right _ List.mem_cons_self
            · exact List.mem_append_right _ (List.mem_cons_of_mem _ h2)
/-- what the walk keeps -/
structure Wq (s : Sg) (r : Row) (f st : Kv) : Prop where
  now : (f = [] ∧ st = start0 s r) ∨ InW s r f st
  all : ∀ g1 x q g2, f = g1 ++ (x, q) :: g2 → ∃ st0 ch, Disc s r g1 st0 ch x ∧ q = hdP ch
theorem split_snoc {g1 : Kv} {x q : Int} {g2 f : Kv} {y p : Int} (e : f ++ [(y, p)] = g1 ++ (x, q) :: g2) : (g1 = f ∧ x = y ∧ q = p ∧ g2 = []) ∨ ∃ g3, f = g1 ++ (x, q) :: g3 := by
  rcases List.eq_nil_or_concat g2 with h | ⟨g3, u, h⟩
  · subst h
    obtain ⟨h1, h2⟩ := List.append_inj' e rfl
    have h3 := (List.cons.inj h2).1
    exact .inl ⟨h1.symm, (Prod.mk.inj h3).1.symm, (Prod.mk.inj h3).2.symm, rfl⟩
  · subst h
    have e2 : f ++ [(y, p)] = (g1 ++ (x, q) :: g3) ++ [u] := by
      rw [e]
      simp
    obtain ⟨h1, _⟩ := List.append_inj' e2 rfl
    exact .inr ⟨g3, h1⟩
theorem walk_disc {s : Sg} {r : Row} (w : WH s.h) (o : okF s.h r.fo) {g1 : Kv} {x q : Int} {g2 : Kv} (e : cameBy s r = g1 ++ (x, q) :: g2) : ∃ st0 ch, Disc s r g1 st0 ch x ∧ q = hdP ch := by
  obtain ⟨g, sz⟩ := start_gd o
  have main := dfs_rec (steps_stepOk w r) (Wq s r) (fun f st x p g q hx => ?_) (fun f st x p g q hx => ?_) _ _ _ sz g ⟨.inl ⟨rfl, rfl⟩, fun g1 x q g2 e => by cases g1 <;> cases e⟩
  · exact main.2.all g1 x q g2 e
  · refine ⟨?_, q.all⟩
    rcases q.now with ⟨e1, e2⟩ | ⟨f0, st0, ch, a, G, d, suf, D0, ef, es, W⟩
    · rw [e1] at hx
      cases hx
    · obtain ⟨f0, st0, ch, a, G, d, y, suf, D0, ef, es, W⟩ := inw_norm D0 g.nd ef es W (by simp)
      rw [List.map_cons, List.cons_append] at es
      obtain ⟨h1, h2⟩ := List.cons.inj es
      cases h1
      refine .inr ⟨f0, st0, ch, _, G, d ++ [x], suf, D0, ef, h2, ⟨by rw [W.sp]; simp, fun z hz => ?_, W.cl, fun u hu => ?_⟩⟩
      · rcases List.mem_append.mp hz with h | h
        · exact W.dn z h
        · rw [List.mem_singleton.mp h]
          exact hx
      · obtain ⟨h3, h4⟩ := W.src u hu
        refine ⟨h3, ?_⟩
        rcases h4 with ⟨h4, h5⟩ | h4
        · exact .inl ⟨h4, List.mem_append_left _ h5⟩
        · exact .inr h4
  · have disc : ∃ st0 ch, Disc s r f st0 ch x ∧ p = hdP ch ∧ st = st0 := by
      rcases q.now with ⟨e1, e2⟩ | ⟨f0, st0, ch, a, G, d, suf, D0, ef, es, W⟩
      · subst e1
        unfold start0 at e2
        split at e2
        · obtain ⟨h1, h2⟩ := List.cons.inj e2
          cases h1
          exact ⟨[], [], .base (by assumption), rfl, h2⟩
        · cases e2
      · obtain ⟨f0, st0, ch, a, G, d, y, suf, D0, ef, es, W⟩ := inw_norm D0 g.nd ef es W (by simp)
        rw [List.map_cons, List.cons_append] at es
        obtain ⟨h1, h2⟩ := List.cons.inj es
        cases h1
        subst ef
        exact ⟨_, _, .step D0 W, rfl, h2⟩
    obtain ⟨st0, ch, D1, ep, est⟩ := disc
    refine ⟨.inr ⟨f, st0, ch, x, [], [], stepsOf s r x, D1, by rw [ep], by rw [est], ⟨rfl, by simp, by simp, by simp⟩⟩, fun g1 y q' g2 e => ?_⟩
    rcases split_snoc e with ⟨h1, h2, h3, h4⟩ | ⟨g3, h1⟩
    · rw [h1, h2, h3]
      exact ⟨st0, ch, D1, ep⟩
    · exact q.all g1 y q' g3 h1
/-! ### what stands at a discovery -/
def lineC (ch : List Int) (x : Int) : List Int := ch.reverse ++ [x]
theorem lineC_cons (a : Int) (ch : List Int) (x : Int) : lineC (a :: ch) x = lineC ch a ++ [x] := by
  unfold lineC
  rw [List.reverse_cons]
theorem lineC_mem {ch : List Int} {x y : Int} : y ∈ lineC ch x ↔ y ∈ ch ∨ y = x := by
  unfold lineC
  simp
theorem ch_snoc {R : Int → Int → Prop} {x : Int} : ∀ {l : List Int} {a : Int}, Ch R (l ++ [a]) → R a x → Ch R (l ++ [a] ++ [x])
  | [], a, _, h => ⟨h, True.intro⟩
  | [b], a, h1, h2 => ⟨h1.1, h2, True.intro⟩
  | b :: c :: t, a, h1, h2 => ⟨h1.1, ch_snoc (l := c :: t) h1.2 h2⟩
theorem links_snoc : ∀ (l : List Int) (a x : Int), links (l ++ [a] ++ [x]) = links (l ++ [a]) ++ [(a, x)]
  | [], a, x => rfl
  | [b], a, x => rfl
  | b :: c :: t, a, x => by
    have ih := links_snoc (c :: t) a x
    show (b, c) :: links (c :: (t ++ [a] ++ [x])) = _
    have e : links (c :: (t ++ [a] ++ [x])) = links ((c :: t) ++ [a] ++ [x]) := rfl
    rw [e, ih]
    rfl
theorem ranked_snoc {s : Sg} {r : Row} (ch : List Int) (a x : Int) : ranked s r (lineC (a :: ch) x) = ranked s r (lineC ch a) ++ before (stepsOf s r a) x := by
  unfold ranked
  rw [lineC_cons]
  unfold lineC
  rw [links_snoc, List.flatMap_append, List.flatMap_singleton]
theorem before_of {l d suf : List Int} {x : Int} (nd : l.Nodup) (e : l = d ++ x :: suf) : before l x = d := by
  subst e
  unfold before
  have hx : ∀ y ∈ d, ¬ y = x := fun y hy z => (List.nodup_append.mp nd).2.2 y hy x List.mem_cons_self z
  rw [List.takeWhile_append_of_pos (fun y hy => by simp [hx y hy]), List.takeWhile_cons_of_neg (by simp), List.append_nil]
/-- the facts at the discovery of x: F has been found -/
structure Fact (s : Sg) (r : Row) (F ch : List Int) (x : Int) : Prop where
  ln : Ch (fun a b => b ∈ stepsOf s r a) (lineC ch x)
  hd : (lineC ch x).head? = some r.fo
  chF : ∀ a ∈ ch, a ∈ F
  up : ∀ a ∈ ch, a < x
  f1 : ∀ y, (y ∈ ranked s r (lineC ch x) ∨ ∃ z ∈ F, z ∉ lineC ch x ∧ y ∈ stepsOf s r z) → y ∈ F ∧ y ∉ lineC ch x
  f2 : ∀ y ∈ F, y ∉ lineC ch x → y ∈ ranked s r (lineC ch x) ∨ ∃ z ∈ F, z ∉ lineC ch x ∧ y ∈ stepsOf s r z
theorem disc_fact {s : Sg} {r : Row} (w : WH s.h) {f st : Kv} {ch : List Int} {x : Int} (D0 : Disc s r f st ch x) : (keys f).Nodup → x ∉ keys f → Fact s r (keys f) ch x := by
  induction D0 with
  | base hd => exact fun _ _ => ⟨True.intro, rfl, by simp, by simp, fun y h => (by
      rcases h with h | ⟨z, hz, _⟩
      · cases h
      · cases hz), fun y hy => by cases hy⟩
  | @step f st ch a x G d suf Da W ih =>
    intro nd hx
    have nd0 : (keys f).Nodup := by
      rw [keys_append] at nd
      exact (List.nodup_append.mp nd).1
    have an : a ∉ keys f := fun z => by
      rw [keys_append] at nd
      exact (List.nodup_append.mp nd).2.2 a z a List.mem_cons_self rfl
    have I := ih nd0 an
    have sub : ∀ z, z ∈ keys f → z ∈ keys (f ++ (a, hdP ch) :: G) := fun z hz => by
      rw [keys_append]
      exact List.mem_append_left _ hz
    have af : a ∈ keys (f ++ (a, hdP ch) :: G) := by
      rw [keys_append]
      exact List.mem_append_right _ List.mem_cons_self
    have gf : ∀ z, z ∈ keys G → z ∈ keys (f ++ (a, hdP ch) :: G) := fun z hz => by
      rw [keys_append]
      exact List.mem_append_right _ (List.mem_cons_of_mem _ hz)
    have cases3 : ∀ z, z ∈ keys (f ++ (a, hdP ch) :: G) → z ∈ keys f ∨ z = a ∨ z ∈ keys G := fun z hz => by
      rw [keys_append] at hz
      rcases List.mem_append.mp hz with h | h
      · exact .inl h
      · rcases List.mem_cons.mp h with h | h
        · exact .inr (.inl h)
        · exact .inr (.inr h)
    have hxs : x ∈ stepsOf s r a := by
      rw [W.sp]
      simp
    have xup := (steps_ok w hxs).2.1
    have bd : before (stepsOf s r a) x = d := before_of (steps_nodup s r a) W.sp
    -- what was found under a is greater
    have gup : ∀ n : Nat, ∀ z, z.toNat ≤ n → z ∈ keys G → a < z := by
      intro n
      induction n with
      | zero =>
        intro z hn hz
        obtain ⟨u, hu, e⟩ := List.mem_map.mp hz
        obtain ⟨h1, h2⟩ := W.src u hu
        have so := steps_ok w h1
        rw [← e]
        rcases h2 with ⟨h2, _⟩ | h2
        · rw [h2] at so
          exact so.2.1
        · exfalso
          obtain ⟨v, hv, ev⟩ := List.mem_map.mp h2
          obtain ⟨h3, _⟩ := W.src v hv
          have so2 := steps_ok w h3
          have := so.1.1
          have := so2.1.1
          have := so.2.1
          have : u.1 = z := e
          have : v.1 = u.2 := ev
          omega
      | succ n ihn =>
        intro z hn hz
        obtain ⟨u, hu, e⟩ := List.mem_map.mp hz
        obtain ⟨h1, h2⟩ := W.src u hu
        have so := steps_ok w h1
        rw [← e]
        rcases h2 with ⟨h2, _⟩ | h2
        · rw [h2] at so
          exact so.2.1
        · obtain ⟨v, hv, ev⟩ := List.mem_map.mp h2
          obtain ⟨h3, _⟩ := W.src v hv
          have so2 := steps_ok w h3
          have b1 := so2.1.1
          have b2 := so.2.1
          have b3 : u.1 = z := e
          have b4 : v.1 = u.2 := ev
          have := ihn u.2 (by omega) h2
          omega
    have gup' : ∀ z ∈ keys G, a < z := fun z hz => gup z.toNat z (Nat.le_refl _) hz
    have low : ∀ y, a < y → y ∉ lineC ch a := fun y hy h => by
      rcases lineC_mem.mp h with h | h
      · have := I.up y h
        omega
      · omega
    have nx : ∀ y, y ∈ keys (f ++ (a, hdP ch) :: G) → y ≠ x := fun y hy e => hx (e ▸ hy)
    have lx : ∀ y, y ∉ lineC ch a → y ≠ x → y ∉ lineC (a :: ch) x := fun y h1 h2 h3 => by
      rw [lineC_cons] at h3
      rcases List.mem_append.mp h3 with h | h
      · exact h1 h
      · exact h2 (List.mem_singleton.mp h)
    have lx2 : ∀ y, y ∉ lineC (a :: ch) x → y ∉ lineC ch a := fun y h1 h2 => h1 (by
      rw [lineC_cons]
      exact List.mem_append_left _ h2)
    refine ⟨?_, ?_, fun z hz => ?_, fun z hz => ?_, fun y hy => ?_, fun y hy hn => ?_⟩
    · rw [lineC_cons]
      exact ch_snoc I.ln hxs
    · rw [lineC_cons, List.head?_append, I.hd]
      rfl
    · rcases List.mem_cons.mp hz with h | h
      · rw [h]
        exact af
      · exact sub z (I.chF z h)
    · rcases List.mem_cons.mp hz with h | h
      · rw [h]
        exact xup
      · have := I.up z h
        omega
    · rcases hy with hy | ⟨z, hz, hzn, hy⟩
      · rw [ranked_snoc, bd] at hy
        rcases List.mem_append.mp hy with h | h
        · obtain ⟨h1, h2⟩ := I.f1 y (.inl h)
          exact ⟨sub y h1, lx y h2 (nx y (sub y h1))⟩
        · have h1 := W.dn y h
          refine ⟨h1, lx y (low y ?_) (nx y h1)⟩
          exact (steps_ok w (by rw [W.sp]; exact List.mem_append_left _ h : y ∈ stepsOf s r a)).2.1
      · rcases cases3 z hz with h | h | h
        · obtain ⟨h1, h2⟩ := I.f1 y (.inr ⟨z, h, lx2 z hzn, hy⟩)
          exact ⟨sub y h1, lx y h2 (nx y (sub y h1))⟩
        · exfalso
          refine hzn ?_
          rw [h, lineC_cons]
          exact List.mem_append_left _ (lineC_mem.mpr (.inr rfl))
        · have h1 := W.cl z h y hy
          refine ⟨h1, lx y (low y ?_) (nx y h1)⟩
          have := gup' z h
          have := (steps_ok w hy).2.1
          omega
    · rcases cases3 y hy with h | h | h
      · rcases I.f2 y h (lx2 y hn) with q | ⟨z, hz, hzn, q⟩
        · exact .inl (by rw [ranked_snoc]; exact List.mem_append_left _ q)
        · exact .inr ⟨z, sub z hz, lx z hzn (nx z (sub z hz)), q⟩
      · exfalso
        refine hn ?_
        rw [h, lineC_cons]
        exact List.mem_append_left _ (lineC_mem.mpr (.inr rfl))
      · obtain ⟨u, hu, e⟩ := List.mem_map.mp h
        obtain ⟨h1, h2⟩ := W.src u hu
        have e' : u.1 = y := e
        rw [e'] at h1 h2
        rcases h2 with ⟨_, h2⟩ | h2
        · exact .inl (by rw [ranked_snoc, bd]; exact List.mem_append_right _ h2)
        · exact .inr ⟨u.2, gf _ h2, lx _ (low _ (gup' _ h2)) (nx _ (gf _ h2)), h1⟩
/-- the line up is the chain -/
theorem disc_climb {s : Sg} {r : Row} {f st : Kv} {ch : List Int} {x : Int} (D0 : Disc s r f st ch x) (w : WH s.h) : ∀ (F : Kv) (m : Nat), (keys F).Nodup → (∀ u ∈ f, u ∈ F) → (x, hdP ch) ∈ F → 0 ≤ r.fo → x.toNat ≤ m → climb F m x = lineC ch x := by
  induction D0 with
  | base hd =>
    intro F m nd hf hx h0 hm
    have : par F r.fo = -1 := par_of nd hx
    cases m with
    | zero => rfl
    | succ m =>
      show (if par F r.fo = -1 then [r.fo] else _) = _
      rw [if_pos this]
      rfl
  | @step f st ch a x G d suf Da W ih =>
    intro F m nd hf hx h0 hm
    have hxs : x ∈ stepsOf s r a := by
      rw [W.sp]
      simp
    have xup := (steps_ok w hxs).2.1
    have hp : par F x = a := par_of nd hx
    have a0 : 0 ≤ a := by
      cases Da with
      | base _ => exact h0
      | step _ Wb => exact (steps_ok w (by rw [Wb.sp]; simp : a ∈ stepsOf s r _)).1.1
    cases m with
    | zero => omega
    | succ m =>
      show (if par F x = -1 then [x] else climb F m (par F x) ++ [x]) = _
      rw [hp, if_neg (by omega), lineC_cons, ih F m nd (fun u hu => hf u (List.mem_append_left _ hu)) (hf _ (by simp)) h0 (by omega)]
/-- the place that is made of who is right -/
theorem place_made {s : Sg} {r : Row} {who : Int} (w : WH s.h) (o : okF s.h r.fo) (hw : who ∈ walkOf s r) : RPlace s r who (lineOf s r who) (srtI (before (walkOf s r) who)) ∧ ∃ b, walkOf s r = before (walkOf s r) who ++ who :: b := by
  obtain ⟨u, hu, eu⟩ := List.mem_map.mp hw
  obtain ⟨g1, g2, e⟩ := List.append_of_mem hu
  obtain ⟨x, q⟩ := u
  have ex : x = who := eu
  subst ex
  obtain ⟨st0, ch, D0, eq⟩ := walk_disc w o e
  have nd := walk_nodup w o
  have ew : walkOf s r = keys g1 ++ x :: keys g2 := by
    show keys (cameBy s r) = _
    rw [e, keys_append]
    rfl
  have nd' := nd
  rw [ew] at nd'
  have n1 := (List.nodup_append.mp nd').1
  have hx : x ∉ keys g1 := fun z => (List.nodup_append.mp nd').2.2 x z x List.mem_cons_self rfl
  have Fa := disc_fact w D0 n1 hx
  have eb : before (walkOf s r) x = keys g1 := before_of nd ew
  have okx := walk_okF w o hw
  have el : lineOf s r x = lineC ch x := disc_climb D0 w _ _ nd (fun v hv => by rw [e]; exact List.mem_append_left _ hv) (by rw [← eq]; exact hu) o.1 (by
    have := okx.2
    omega)
  have mem : ∀ y, y ∈ srtI (before (walkOf s r) x) ↔ y ∈ keys g1 := fun y => by
    rw [(srtI_perm _).mem_iff, eb]
  have okg : ∀ y ∈ keys g1, okF s.h y := fun y hy => walk_okF w o (by rw [ew]; exact List.mem_append_left _ hy)
  refine ⟨?_, keys g2, by rw [eb]; exact ew⟩
  rw [el]
  have led : ∀ y, Led s r (lineC ch x) (srtI (before (walkOf s r) x)) y ↔ (y ∈ ranked s r (lineC ch x) ∨ ∃ z ∈ keys g1, z ∉ lineC ch x ∧ y ∈ stepsOf s r z) := fun y => by
    unfold Led
    simp only [mem]
  refine ⟨⟨by simp [lineC], fun y hy => ?_, Fa.hd, ?_, Fa.ln⟩, by simp [lineC], fun y hy => okg y ((mem y).mp hy), ?_, fun h => hx ((mem x).mp h), fun y hy => ?_, fun y hy => ?_, fun y hy hn => ?_⟩
  · rcases lineC_mem.mp hy with h | h
    · exact okg y (Fa.chF y h)
    · rw [h]
      exact okx
  · by_cases hd : (hAt s.h r.fo).d ≤ s.day
    · exact hd
    · exfalso
      have : cameBy s r = [] := by
        unfold cameBy start0
        rw [if_neg hd]
        unfold fuel
        rfl
      rw [this] at e
      cases g1 <;> cases e
  · have p := srtI_pw (before (walkOf s r) x)
    have n : (srtI (before (walkOf s r) x)).Nodup := (srtI_perm _).nodup_iff.mpr (by rw [eb]; exact n1)
    exact (p.and n).imp fun ⟨h1, h2⟩ => by omega
  · unfold lineC at hy
    rw [List.dropLast_concat] at hy
    exact (mem y).mpr (Fa.chF y (List.mem_reverse.mp hy))
  · obtain ⟨h1, h2⟩ := Fa.f1 y ((led y).mp hy)
    exact ⟨(mem y).mpr h1, h2⟩
  · exact (led y).mpr (Fa.f2 y ((mem y).mp hy) hn)
end TW

/-! TD0: the defs of the text by their places. -/
namespace TW
open PySem PySem.Spec PyProof.Rows L2
abbrev topS (i : Nat) : Stmt := PySem.Challenge.pw_thronewalk_k39_whole_the_first_is_the_fi.main.body.getD i (.Pass ⟨0, 0, 0, 0⟩)
abbrev s_is_number : Stmt := topS 4
abbrev N_is_number : List Str := ["thing"]
theorem sc_is_number : FnScope N_is_number ["thing"] (defScope s_is_number) := ⟨rfl, rfl, rfl, by decide +kernel, rfl, by decide +kernel, by decide +kernel⟩
abbrev s_is_within : Stmt := topS 5
abbrev N_is_within : List Str := ["thing", "least", "most"]
theorem sc_is_within : FnScope N_is_within ["thing", "least", "most"] (defScope s_is_within) := ⟨rfl, rfl, rfl, by decide +kernel, rfl, by decide +kernel, by decide +kernel⟩
abbrev s_is_folk : Stmt := topS 6
abbrev N_is_folk : List Str := ["house", "thing"]
theorem sc_is_folk : FnScope N_is_folk ["house", "thing"] (defScope s_is_folk) := ⟨rfl, rfl, rfl, by decide +kernel, rfl, by decide +kernel, by decide +kernel⟩
abbrev s_are_rising_folk : Stmt := topS 7
abbrev N_are_rising_folk : List Str := ["house", "thing", "at", "who"]
theorem sc_are_rising_folk : FnScope N_are_rising_folk ["house", "thing"] (defScope s_are_rising_folk) := ⟨rfl, rfl, rfl, by decide +kernel, rfl, by decide +kernel, by decide +kernel⟩
abbrev s_children_of : Stmt := topS 8
abbrev N_children_of : List Str := ["house", "who", "child", "folk"]
theorem sc_children_of : FnScope N_children_of ["house", "who"] (defScope s_children_of) := ⟨rfl, rfl, rfl, by decide +kernel, rfl, by decide +kernel, by decide +kernel⟩
abbrev s_days_of : Stmt := topS 10
abbrev N_days_of : List Str := ["book", "word", "day", "who", "news"]
theorem sc_days_of : FnScope N_days_of ["book", "word", "day", "who"] (defScope s_days_of) := ⟨rfl, rfl, rfl, by decide +kernel, rfl, by decide +kernel, by decide +kernel⟩
abbrev s_is_dead : Stmt := topS 11
abbrev N_is_dead : List Str := ["book", "day", "who"]
theorem sc_is_dead : FnScope N_is_dead ["book", "day", "who"] (defScope s_is_dead) := ⟨rfl, rfl, rfl, by decide +kernel, rfl, by decide +kernel, by decide +kernel⟩
abbrev s_back_of : Stmt := topS 12
abbrev N_back_of : List Str := ["book", "day", "who"]
theorem sc_back_of : FnScope N_back_of ["book", "day", "who"] (defScope s_back_of) := ⟨rfl, rfl, rfl, by decide +kernel, rfl, by decide +kernel, by decide +kernel⟩
abbrev s_is_out : Stmt := topS 13
abbrev N_is_out : List Str := ["book", "day", "who", "gone"]
theorem sc_is_out : FnScope N_is_out ["book", "day", "who"] (defScope s_is_out) := ⟨rfl, rfl, rfl, by decide +kernel, rfl, by decide +kernel, by decide +kernel⟩
abbrev s_cut_from : Stmt := topS 14
abbrev N_cut_from : List Str := ["book", "day", "who", "back", "cut"]
theorem sc_cut_from : FnScope N_cut_from ["book", "day", "who"] (defScope s_cut_from) := ⟨rfl, rfl, rfl, by decide +kernel, rfl, by decide +kernel, by decide +kernel⟩
abbrev s_counts_by : Stmt := topS 16
abbrev N_counts_by : List Str := ["house", "row", "parent", "child"]
theorem sc_counts_by : FnScope N_counts_by ["house", "row", "parent", "child"] (defScope s_counts_by) := ⟨rfl, rfl, rfl, by decide +kernel, rfl, by decide +kernel, by decide +kernel⟩
abbrev s_steps_of : Stmt := topS 17
abbrev N_steps_of : List Str := ["house", "book", "row", "day", "who", "cut", "found", "child", "born", "men"]
theorem sc_steps_of : FnScope N_steps_of ["house", "book", "row", "day", "who"] (defScope s_steps_of) := ⟨rfl, rfl, rfl, by decide +kernel, rfl, by decide +kernel, by decide +kernel⟩
abbrev s_is_line : Stmt := topS 18
abbrev N_is_line : List Str := ["house", "book", "row", "day", "thing", "at", "who"]
theorem sc_is_line : FnScope N_is_line ["house", "book", "row", "day", "thing"] (defScope s_is_line) := ⟨rfl, rfl, rfl, by decide +kernel, rfl, by decide +kernel, by decide +kernel⟩
abbrev s_came_by : Stmt := topS 20
abbrev N_came_by : List Str := ["house", "book", "row", "day", "found", "waiting", "who", "parent", "steps", "one"]
theorem sc_came_by : FnScope N_came_by ["house", "book", "row", "day"] (defScope s_came_by) := ⟨rfl, rfl, rfl, by decide +kernel, rfl, by decide +kernel, by decide +kernel⟩
abbrev s_walk : Stmt := topS 21
abbrev N_walk : List Str := ["house", "book", "row", "day", "who"]
theorem sc_walk : FnScope N_walk ["house", "book", "row", "day"] (defScope s_walk) := ⟨rfl, rfl, rfl, by decide +kernel, rfl, by decide +kernel, by decide +kernel⟩
abbrev s_least_line : Stmt := topS 22
abbrev N_least_line : List Str := ["house", "book", "row", "day", "who", "came", "line"]
theorem sc_least_line : FnScope N_least_line ["house", "book", "row", "day", "who"] (defScope s_least_line) := ⟨rfl, rfl, rfl, by decide +kernel, rfl, by decide +kernel, by decide +kernel⟩
abbrev s_lesser : Stmt := topS 24
abbrev N_lesser : List Str := ["one", "other"]
theorem sc_lesser : FnScope N_lesser ["one", "other"] (defScope s_lesser) := ⟨rfl, rfl, rfl, by decide +kernel, rfl, by decide +kernel, by decide +kernel⟩
abbrev s_steps_by_folk : Stmt := topS 25
abbrev N_steps_by_folk : List Str := ["house", "book", "row", "day", "found", "who"]
theorem sc_steps_by_folk : FnScope N_steps_by_folk ["house", "book", "row", "day"] (defScope s_steps_by_folk) := ⟨rfl, rfl, rfl, by decide +kernel, rfl, by decide +kernel, by decide +kernel⟩
abbrev s_degrees : Stmt := topS 26
abbrev N_degrees : List Str := ["house", "book", "row", "day", "who", "steps", "born", "found", "parent", "step", "folk"]
theorem sc_degrees : FnScope N_degrees ["house", "book", "row", "day", "who"] (defScope s_degrees) := ⟨rfl, rfl, rfl, by decide +kernel, rfl, by decide +kernel, by decide +kernel⟩
abbrev s_are_pairs : Stmt := topS 28
abbrev N_are_pairs : List Str := ["house", "thing", "last", "pair"]
theorem sc_are_pairs : FnScope N_are_pairs ["house", "thing"] (defScope s_are_pairs) := ⟨rfl, rfl, rfl, by decide +kernel, rfl, by decide +kernel, by decide +kernel⟩
abbrev s_right_reach : Stmt := topS 29
abbrev N_right_reach : List Str := ["house", "book", "row", "day", "thing", "steps", "who", "parent", "step"]
theorem sc_right_reach : FnScope N_right_reach ["house", "book", "row", "day", "thing"] (defScope s_right_reach) := ⟨rfl, rfl, rfl, by decide +kernel, rfl, by decide +kernel, by decide +kernel⟩
abbrev s_reach_of : Stmt := topS 30
abbrev N_reach_of : List Str := ["house", "book", "row", "day", "found", "who", "step"]
theorem sc_reach_of : FnScope N_reach_of ["house", "book", "row", "day"] (defScope s_reach_of) := ⟨rfl, rfl, rfl, by decide +kernel, rfl, by decide +kernel, by decide +kernel⟩
abbrev s_is_fit : Stmt := topS 31
abbrev N_is_fit : List Str := ["house", "book", "row", "day", "who"]
theorem sc_is_fit : FnScope N_is_fit ["house", "book", "row", "day", "who"] (defScope s_is_fit) := ⟨rfl, rfl, rfl, by decide +kernel, rfl, by decide +kernel, by decide +kernel⟩
abbrev s_farness : Stmt := topS 34
abbrev N_farness : List Str := ["degree"]
theorem sc_farness : FnScope N_farness ["degree"] (defScope s_farness) := ⟨rfl, rfl, rfl, by decide +kernel, rfl, by decide +kernel, by decide +kernel⟩
abbrev s_order_of_row : Stmt := topS 35
abbrev N_order_of_row : List Str := ["house", "book", "row", "day", "last", "came", "standing", "near", "who", "far"]
theorem sc_order_of_row : FnScope N_order_of_row ["house", "book", "row", "day", "last"] (defScope s_order_of_row) := ⟨rfl, rfl, rfl, by decide +kernel, rfl, by decide +kernel, by decide +kernel⟩
abbrev s_order_of : Stmt := topS 36
abbrev N_order_of : List Str := ["house", "book", "rule", "day", "last", "found", "row", "who"]
theorem sc_order_of : FnScope N_order_of ["house", "book", "rule", "day", "last"] (defScope s_order_of) := ⟨rfl, rfl, rfl, by decide +kernel, rfl, by decide +kernel, by decide +kernel⟩
abbrev s_first_of : Stmt := topS 37
abbrev N_first_of : List Str := ["house", "book", "rule", "day", "last", "order"]
theorem sc_first_of : FnScope N_first_of ["house", "book", "rule", "day", "last"] (defScope s_first_of) := ⟨rfl, rfl, rfl, by decide +kernel, rfl, by decide +kernel, by decide +kernel⟩
abbrev s_ranked_ahead : Stmt := topS 39
abbrev N_ranked_ahead : List Str := ["house", "book", "row", "day", "line", "found", "parent", "follower", "steps"]
theorem sc_ranked_ahead : FnScope N_ranked_ahead ["house", "book", "row", "day", "line"] (defScope s_ranked_ahead) := ⟨rfl, rfl, rfl, by decide +kernel, rfl, by decide +kernel, by decide +kernel⟩
abbrev s_are_parts_right : Stmt := topS 40
abbrev N_are_parts_right : List Str := ["house", "line", "ahead", "who"]
theorem sc_are_parts_right : FnScope N_are_parts_right ["house", "line", "ahead"] (defScope s_are_parts_right) := ⟨rfl, rfl, rfl, by decide +kernel, rfl, by decide +kernel, by decide +kernel⟩
abbrev s_right_place : Stmt := topS 41
abbrev N_right_place : List Str := ["house", "book", "row", "day", "who", "thing", "line", "ahead", "begun", "off", "led", "one", "step"]
theorem sc_right_place : FnScope N_right_place ["house", "book", "row", "day", "who", "thing"] (defScope s_right_place) := ⟨rfl, rfl, rfl, by decide +kernel, rfl, by decide +kernel, by decide +kernel⟩
abbrev s_fit_ones : Stmt := topS 43
abbrev N_fit_ones : List Str := ["house", "book", "row", "day", "some", "who"]
theorem sc_fit_ones : FnScope N_fit_ones ["house", "book", "row", "day", "some"] (defScope s_fit_ones) := ⟨rfl, rfl, rfl, by decide +kernel, rfl, by decide +kernel, by decide +kernel⟩
abbrev s_is_part : Stmt := topS 44
abbrev N_is_part : List Str := ["thing", "word", "many"]
theorem sc_is_part : FnScope N_is_part ["thing", "word", "many"] (defScope s_is_part) := ⟨rfl, rfl, rfl, by decide +kernel, rfl, by decide +kernel, by decide +kernel⟩
abbrev s_is_nobody : Stmt := topS 45
abbrev N_is_nobody : List Str := ["house", "book", "row", "day", "part", "who", "parent"]
theorem sc_is_nobody : FnScope N_is_nobody ["house", "book", "row", "day", "part"] (defScope s_is_nobody) := ⟨rfl, rfl, rfl, by decide +kernel, rfl, by decide +kernel, by decide +kernel⟩
abbrev s_is_by_lines : Stmt := topS 46
abbrev N_is_by_lines : List Str := ["house", "book", "row", "day", "who", "part"]
theorem sc_is_by_lines : FnScope N_is_by_lines ["house", "book", "row", "day", "who", "part"] (defScope s_is_by_lines) := ⟨rfl, rfl, rfl, by decide +kernel, rfl, by decide +kernel, by decide +kernel⟩
abbrev s_standing_in : Stmt := topS 47
abbrev N_standing_in : List Str := ["house", "book", "row", "day", "who", "part", "some", "one", "parent"]
theorem sc_standing_in : FnScope N_standing_in ["house", "book", "row", "day", "who", "part"] (defScope s_standing_in) := ⟨rfl, rfl, rfl, by decide +kernel, rfl, by decide +kernel, by decide +kernel⟩
abbrev s_is_by_age : Stmt := topS 48
abbrev N_is_by_age : List Str := ["house", "book", "row", "day", "who", "part", "some"]
theorem sc_is_by_age : FnScope N_is_by_age ["house", "book", "row", "day", "who", "part"] (defScope s_is_by_age) := ⟨rfl, rfl, rfl, by decide +kernel, rfl, by decide +kernel, by decide +kernel⟩
abbrev s_is_by_nearness : Stmt := topS 49
abbrev N_is_by_nearness : List Str := ["house", "book", "row", "day", "last", "who", "part", "some", "near", "one"]
theorem sc_is_by_nearness : FnScope N_is_by_nearness ["house", "book", "row", "day", "last", "who", "part"] (defScope s_is_by_nearness) := ⟨rfl, rfl, rfl, by decide +kernel, rfl, by decide +kernel, by decide +kernel⟩
abbrev s_is_first_part : Stmt := topS 50
abbrev N_is_first_part : List Str := ["house", "book", "row", "day", "last", "who", "part"]
theorem sc_is_first_part : FnScope N_is_first_part ["house", "book", "row", "day", "last", "who", "part"] (defScope s_is_first_part) := ⟨rfl, rfl, rfl, by decide +kernel, rfl, by decide +kernel, by decide +kernel⟩
abbrev s_right_first : Stmt := topS 51
abbrev N_right_first : List Str := ["house", "book", "rule", "day", "last", "who", "thing", "empty", "row", "part"]
theorem sc_right_first : FnScope N_right_first ["house", "book", "rule", "day", "last", "who", "thing"] (defScope s_right_first) := ⟨rfl, rfl, rfl, by decide +kernel, rfl, by decide +kernel, by decide +kernel⟩
abbrev s_place_of : Stmt := topS 53
abbrev N_place_of : List Str := ["house", "book", "row", "day", "who", "line", "came"]
theorem sc_place_of : FnScope N_place_of ["house", "book", "row", "day", "who"] (defScope s_place_of) := ⟨rfl, rfl, rfl, by decide +kernel, rfl, by decide +kernel, by decide +kernel⟩
abbrev s_part_of : Stmt := topS 55
abbrev N_part_of : List Str := ["house", "book", "row", "day", "who", "line", "ahead"]
theorem sc_part_of : FnScope N_part_of ["house", "book", "row", "day", "who"] (defScope s_part_of) := ⟨rfl, rfl, rfl, by decide +kernel, rfl, by decide +kernel, by decide +kernel⟩
abbrev s_first_paper : Stmt := topS 56
abbrev N_first_paper : List Str := ["house", "book", "rule", "day", "last", "parts", "row", "order", "first"]
theorem sc_first_paper : FnScope N_first_paper ["house", "book", "rule", "day", "last"] (defScope s_first_paper) := ⟨rfl, rfl, rfl, by decide +kernel, rfl, by decide +kernel, by decide +kernel⟩
abbrev s_law_take : Stmt := topS 58
abbrev N_law_take : List Str := ["_law_state", "_law_below", "_law_found", "_law_cell"]
theorem sc_law_take : FnScope N_law_take ["_law_state", "_law_below"] (defScope s_law_take) := ⟨rfl, rfl, rfl, by decide +kernel, rfl, by decide +kernel, by decide +kernel⟩
abbrev s_law_parent : Stmt := topS 59
abbrev N_law_parent : List Str := ["_law_state", "_law_folk", "_law_day_here", "_law_man", "_law_some_here", "_law_k"]
theorem sc_law_parent : FnScope N_law_parent ["_law_state", "_law_folk", "_law_day_here", "_law_man"] (defScope s_law_parent) := ⟨rfl, rfl, rfl, by decide +kernel, rfl, by decide +kernel, by decide +kernel⟩
abbrev s_law_house : Stmt := topS 60
abbrev N_law_house : List Str := ["_law_state", "_law_most", "_law_many", "_law_day_here", "_law_folk", "_law_k", "_law_father", "_law_mother", "_law_man"]
theorem sc_law_house : FnScope N_law_house ["_law_state", "_law_most"] (defScope s_law_house) := ⟨rfl, rfl, rfl, by decide +kernel, rfl, by decide +kernel, by decide +kernel⟩
abbrev s_law_news : Stmt := topS 61
abbrev N_law_news : List Str := ["_law_state", "_law_house_here", "_law_word", "_law_who", "_law_near", "_law_day_here", "_law_others", "_law_k"]
theorem sc_law_news : FnScope N_law_news ["_law_state", "_law_house_here"] (defScope s_law_news) := ⟨rfl, rfl, rfl, by decide +kernel, rfl, by decide +kernel, by decide +kernel⟩
abbrev s_law_book : Stmt := topS 62
abbrev N_law_book : List Str := ["_law_state", "_law_house_here", "_law_most", "_law_some_here", "_law_k"]
theorem sc_law_book : FnScope N_law_book ["_law_state", "_law_house_here", "_law_most"] (defScope s_law_book) := ⟨rfl, rfl, rfl, by decide +kernel, rfl, by decide +kernel, by decide +kernel⟩
abbrev s_law_row : Stmt := topS 63
abbrev N_law_row : List Str := ["_law_state", "_law_house_here", "_law_way", "_law_men", "_law_founder"]
theorem sc_law_row : FnScope N_law_row ["_law_state", "_law_house_here"] (defScope s_law_row) := ⟨rfl, rfl, rfl, by decide +kernel, rfl, by decide +kernel, by decide +kernel⟩
abbrev s_law_day : Stmt := topS 64
abbrev N_law_day : List Str := ["_law_state", "_law_house_here", "_law_near"]
theorem sc_law_day : FnScope N_law_day ["_law_state", "_law_house_here"] (defScope s_law_day) := ⟨rfl, rfl, rfl, by decide +kernel, rfl, by decide +kernel, by decide +kernel⟩
abbrev s_law_born : Stmt := topS 65
abbrev N_law_born : List Str := ["_law_house_here", "_law_day_here", "_law_folk"]
theorem sc_law_born : FnScope N_law_born ["_law_house_here", "_law_day_here"] (defScope s_law_born) := ⟨rfl, rfl, rfl, by decide +kernel, rfl, by decide +kernel, by decide +kernel⟩
abbrev s_law_rows : Stmt := topS 66
abbrev N_law_rows : List Str := ["_law_state", "_law_house_here", "_law_rows_here", "_law_late", "_law_at", "_law_k", "_law_row_here"]
theorem sc_law_rows : FnScope N_law_rows ["_law_state", "_law_house_here"] (defScope s_law_rows) := ⟨rfl, rfl, rfl, by decide +kernel, rfl, by decide +kernel, by decide +kernel⟩
abbrev s_law_some : Stmt := topS 67
abbrev N_law_some : List Str := ["_law_state", "_law_few", "_law_great", "_law_house_here", "_law_book_here"]
theorem sc_law_some : FnScope N_law_some ["_law_state", "_law_few"] (defScope s_law_some) := ⟨rfl, rfl, rfl, by decide +kernel, rfl, by decide +kernel, by decide +kernel⟩
abbrev s_law_bent : Stmt := topS 68
abbrev N_law_bent : List Str := ["_law_state", "_law_thing", "_law_many", "_law_at", "_law_way", "_law_word"]
theorem sc_law_bent : FnScope N_law_bent ["_law_state", "_law_thing", "_law_many"] (defScope s_law_bent) := ⟨rfl, rfl, rfl, by decide +kernel, rfl, by decide +kernel, by decide +kernel⟩
abbrev s_law : Stmt := topS 69
abbrev N_law : List Str := ["_law_script", "_law_state", "_law_turn", "_law_house_here", "_law_book_here", "_law_day_here", "_law_law_rows", "_law_born_here", "_law_last", "_law_first", "_law_papers", "_law_row_here", "_law_k", "_law_paper", "_law_who", "_law_is_first"]
theorem sc_law : FnScope N_law ["_law_script"] (defScope s_law) := ⟨rfl, rfl, rfl, by decide +kernel, rfl, by decide +kernel, by decide +kernel⟩
end TW

namespace TW
open PySem PySem.Spec PyProof.Rows L2
section
variable {P : Program} {w : World} {K : Fg} {mg : Str → Option Value} {base : Heap} {fa : Addr} {fd : FuncData}
def numB (d : D) : Bool := match d with
  | .int _ => true
  | _ => false
abbrev ph_is_number : Ph := fun rs p => ∃ d, rs = [.d d] ∧ p (.d (.bl (numB d)))
theorem ok_is_number (M : Nm mg) (F : Fun K "is_number" "is_number" s_is_number fa fd) : FnOk P w K mg base CX0 1 fa fd ["thing"] (spP K ph_is_number) := by
  refine fn_mk F sc_is_number _ (fun rs p ⟨d, e, _⟩ => by rw [e]; rfl) fun X c rs p eP ew eK eM eB B ⟨d, er, hp⟩ => ?_
  subst er eP ew eK eM eB
  have B' := B.toBx
  refine s_one (s_ret ?_)
  refine xand ?_
  refine xisInt ?_
  refine xv 0 ?_
  refine ⟨_, rfl, ?_⟩
  refine ⟨_, rfl, ?_⟩
  cases d with
  | int i =>
    show WE _ _ _ _ _
    refine n_one ?_
    refine n_not ?_
    refine xisBool ?_
    refine xv 0 ?_
    refine ⟨_, rfl, ?_⟩
    exact ⟨_, rfl, hp⟩
  | bl b =>
    show WE _ _ _ _ _
    refine n_one ?_
    refine n_not ?_
    refine xisBool ?_
    refine xv 0 ?_
    refine ⟨_, rfl, ?_⟩
    exact ⟨_, rfl, hp⟩
  | non => exact hp
  | str _ => exact hp
  | tup _ => exact hp
def withinB (d : D) (i j : Int) : Bool := match d with
  | .int v => decide (i ≤ v ∧ v ≤ j)
  | _ => false
abbrev ph_is_within : Ph := fun rs p => ∃ d i j, rs = [.d d, .d (.int i), .d (.int j)] ∧ p (.d (.bl (withinB d i j)))
theorem ok_is_within (M : Nm mg) (F : Fun K "is_within" "is_within" s_is_within fa fd) (F1 : Callee P w K mg base "is_number" 1 ph_is_number) : FnOk P w K mg base CX0 2 fa fd ["thing", "least", "most"] (spP K ph_is_within) := by
  refine fn_mk F sc_is_within _ (fun rs p ⟨d, i, j, e, _⟩ => by rw [e]; rfl) fun X c rs p eP ew eK eM eB B ⟨d, i, j, er, hp⟩ => ?_
  subst er eP ew eK eM eB
  have B' := B.toBx
  refine s_one (s_ret ?_)
  refine xand ?_
  refine xcall F1 ?_
  refine a_cons ?_
  refine xv 0 ?_
  refine a_nil ?_
  refine ⟨_, rfl, ?_⟩
  refine ⟨_, rfl, ?_⟩
  cases d with
  | int v =>
    show WE _ _ _ _ _
    refine n_one ?_
    refine xchle ?_
    refine xv 1 ?_
    refine ⟨_, rfl, ?_⟩
    refine xv 0 ?_
    refine ⟨_, rfl, ?_⟩
    refine ite_p (fun hb => ?_) (fun hb => ?_)
    · refine xv 2 ?_
      refine ⟨_, rfl, ?_⟩
      refine fin_b hp ?_
      simp [withinB, hb]
    · refine fin_b hp ?_
      simp [withinB, hb]
  | bl b => exact hp
  | non => exact hp
  | str _ => exact hp
  | tup _ => exact hp
abbrev ph_is_folk : Ph := fun rs p => ∃ h d, rs = [.d (houseD h), .d d] ∧ p (.d (.bl (folkB h d)))
theorem ok_is_folk (M : Nm mg) (F : Fun K "is_folk" "is_folk" s_is_folk fa fd) (F1 : Callee P w K mg base "is_within" 2 ph_is_within) : FnOk P w K mg base CX0 3 fa fd ["house", "thing"] (spP K ph_is_folk) := by
  refine fn_mk F sc_is_folk _ (fun rs p ⟨h, d, e, _⟩ => by rw [e]; rfl) fun X c rs p eP ew eK eM eB B ⟨h, d, er, hp⟩ => ?_
  subst er eP ew eK eM eB
  have B' := B.toBx
  refine s_one (s_ret ?_)
  refine xcall F1 ?_
  refine a_cons ?_
  refine xv 1 ?_
  refine a_cons ?_
  refine xi ?_
  refine a_cons ?_
  refine n_sub ?_
  refine xlen ?_
  refine xv 0 ?_
  refine ⟨_, rfl, ?_⟩
  refine ⟨_, rfl, ?_⟩
  refine xi ?_
  refine ⟨_, rfl, ?_⟩
  refine a_nil ?_
  refine ⟨_, _, _, rfl, ?_⟩
  refine fin_b hp ?_
  cases d with
  | int v =>
    show decide _ = decide _
    rw [decide_eq_decide]
    simp only [okF, List.length_map]
    omega
  | _ => rfl
abbrev ph_children_of : Ph := fun rs p => ∃ h who, rs = [.d (houseD h), .d (.int who)] ∧ h.length ≤ 1000 ∧ p (.d (intsD (kids h who)))
theorem ok_children_of (M : Nm mg) (F : Fun K "children_of" "children_of" s_children_of fa fd) : FnOk P w K mg base CX0 1 fa fd ["house", "who"] (spP K ph_children_of) := by
  refine fn_mk F sc_children_of _ (fun rs p ⟨_, _, e, _⟩ => by rw [e]; rfl) fun X c rs p eP ew eK eM eB B ⟨h, who, er, hl, hp⟩ => ?_
  subst er eP ew eK eM eB
  have B' := B.toBx
  have ez : enumD (h.map folkD) = (idx h.length).map fun i => .tup [.int i, folkD (hAt h i)] := by
    unfold enumD idx
    rw [List.map_map]
    refine List.ext_getElem? fun i => ?_
    rw [List.getElem?_map, List.getElem?_map, List.getElem?_zipIdx, List.getElem?_map]
    by_cases hi : i < h.length
    · rw [List.getElem?_eq_getElem hi, List.getElem?_range hi]
      have e := hAt_get (h := h) (i := (i : Int)) ⟨by omega, by omega⟩
      rw [Int.toNat_natCast, List.getElem?_eq_getElem hi] at e
      simp [Option.some.inj e]
    · rw [List.getElem?_eq_none (by omega), List.getElem?_eq_none (by simpa using hi)]
      rfl
  refine s_one (s_ret ?_)
  refine xtuple ?_
  refine xlc2 2 3 D.int (fun i => folkD (hAt h i)) (fun c => decide (who = (hAt h c).fa ∨ who = (hAt h c).mo)) D.int ?_
  refine qenum ?_
  refine xv 0 ?_
  refine ⟨_, rfl, ?_⟩
  refine ⟨idx h.length, ez, by rw [idx_len]; omega, fun a ha => ⟨_, _, rfl, rfl, fun X' hb B1 => ?_, fun _ X' hb B1 => ?_⟩, ?_⟩
  · show WT _ _ _ _ _
    refine tin ?_
    refine xv 1 ?_
    refine ⟨_, rfl, ?_⟩
    refine xsl ?_
    refine xv 3 ?_
    refine ⟨_, rfl, ?_⟩
    refine po1 ?_
    refine xi ?_
    refine ⟨_, rfl, ?_⟩
    refine po1 ?_
    refine xi ?_
    refine ⟨_, rfl, ?_⟩
    refine ⟨[(hAt h a).fa, (hAt h a).mo], rfl, ?_⟩
    simp
  · refine xv 2 ?_
    rfl
  · refine ⟨_, rfl, ?_⟩
    exact hp
abbrev ph_days_of : Ph := fun rs p => ∃ b word day who, rs = [.d (bookD b), .d (.str word), .d (.int day), .d (.int who)] ∧ b.length ≤ 40 ∧ p (.lst true ((daysOf b word day who).map D.int))
theorem ok_days_of (M : Nm mg) (F : Fun K "days_of" "days_of" s_days_of fa fd) : FnOk P w K mg base CX0 1 fa fd ["book", "word", "day", "who"] (spP K ph_days_of) := by
  refine fn_mk F sc_days_of _ (fun rs p ⟨_, _, _, _, e, _⟩ => by rw [e]; rfl) fun X c rs p eP ew eK eM eB B ⟨b, word, day, who, er, hl, hp⟩ => ?_
  subst er eP ew eK eM eB
  have B' := B.toBx
  refine s_one (s_ret ?_)
  refine xlc1 4 newsD (fun n => decide (n.word = word) && (decide (n.who = who) && decide (n.d ≤ day))) (fun n => .int n.d) ?_
  refine qtup ?_
  refine xv 0 ?_
  refine ⟨_, rfl, ?_⟩
  refine ⟨b, rfl, by omega, fun n hn => ⟨_, rfl, fun X' hb B1 => ?_, fun _ X' hb B1 => ?_⟩, ?_⟩
  · show WT _ _ _ _ _
    refine t_bop ?_
    refine w_and ?_
    refine teqS ?_
    refine xix ?_
    refine xv 4 ?_
    refine ⟨_, rfl, ?_⟩
    refine xi ?_
    refine ⟨_, rfl, ?_⟩
    refine ⟨_, rfl, ?_⟩
    refine ⟨_, rfl, ?_⟩
    refine xv 1 ?_
    refine ⟨_, rfl, ?_⟩
    refine ite_b (fun e1 => ?_) (fun e1 => ?_)
    · refine w_and ?_
      refine teq ?_
      refine xix ?_
      refine xv 4 ?_
      refine ⟨_, rfl, ?_⟩
      refine xi ?_
      refine ⟨_, rfl, ?_⟩
      refine ⟨_, rfl, ?_⟩
      refine ⟨_, rfl, ?_⟩
      refine xv 3 ?_
      refine ⟨_, rfl, ?_⟩
      refine ite_b (fun e2 => ?_) (fun e2 => ?_)
      · refine w_and1 ?_
        refine tle ?_
        refine xix ?_
        refine xv 4 ?_
        refine ⟨_, rfl, ?_⟩
        refine xi ?_
        refine ⟨_, rfl, ?_⟩
        refine ⟨_, rfl, ?_⟩
        refine ⟨_, rfl, ?_⟩
        refine xv 2 ?_
        refine ⟨_, rfl, ?_⟩
        rw [e1, e2]
        rfl
      · rw [e1, e2]
        rfl
    · rw [e1]
      rfl
  · refine xix ?_
    refine xv 4 ?_
    refine ⟨_, rfl, ?_⟩
    refine xi ?_
    refine ⟨_, rfl, ?_⟩
    refine ⟨_, rfl, ?_⟩
    rfl
  · rw [show (daysOf b word day who).map D.int = (b.filter fun n => decide (n.word = word) && (decide (n.who = who) && decide (n.d ≤ day))).map fun n => .int n.d by
      unfold daysOf
      rw [List.map_map]
      rfl] at hp
    exact hp
theorem fit_ints {n : Nat} (l : List Int) : ∀ d ∈ l.map D.int, D.fit n d := fun d h => by
  obtain ⟨i, _, rfl⟩ := List.mem_map.mp h
  exact fit_int i
theorem isEmpty_map {α β : Type} (f : α → β) (l : List α) : (l.map f).isEmpty = l.isEmpty := by cases l <;> rfl
abbrev sgA (s : Sg) : List Rs := [.d (bookD s.b), .d (.int s.day)]
abbrev ph_is_dead : Ph := fun rs p => ∃ (s : Sg) (who : Int), rs = [.d (bookD s.b), .d (.int s.day), .d (.int who)] ∧ s.b.length ≤ 40 ∧ p (.d (.bl (isDead s who)))
theorem ok_is_dead (M : Nm mg) (F : Fun K "is_dead" "is_dead" s_is_dead fa fd) (F1 : Callee P w K mg base "days_of" 1 ph_days_of) : FnOk P w K mg base CX0 2 fa fd ["book", "day", "who"] (spP K ph_is_dead) := by
  refine fn_mk F sc_is_dead _ (fun rs p ⟨_, _, e, _⟩ => by rw [e]; rfl) fun X c rs p eP ew eK eM eB B ⟨s, who, er, hl, hp⟩ => ?_
  subst er eP ew eK eM eB
  have B' := B.toBx
  refine s_one (s_ret ?_)
  refine xneN ?_
  refine xcall F1 ?_
  refine a_cons ?_
  refine xv 0 ?_
  refine a_cons ?_
  refine xs ?_
  refine a_cons ?_
  refine xv 1 ?_
  refine a_cons ?_
  refine xv 2 ?_
  refine a_nil ?_
  refine ⟨_, _, _, _, rfl, hl, ?_⟩
  refine ⟨_, rfl, ?_⟩
  refine n_lst ?_
  refine a_nil ?_
  refine ⟨[], rfl, by simp, _, rfl, rfl, fit_ints _, ?_⟩
  refine fin_b hp ?_
  rw [isEmpty_map]
  rfl
abbrev ph_back_of : Ph := fun rs p => ∃ (s : Sg) (who : Int), rs = [.d (bookD s.b), .d (.int s.day), .d (.int who)] ∧ s.b.length ≤ 40 ∧ p (.d (.int (backOf s who)))
theorem ok_back_of (M : Nm mg) (F : Fun K "back_of" "back_of" s_back_of fa fd) (F1 : Callee P w K mg base "days_of" 1 ph_days_of) : FnOk P w K mg base CX0 2 fa fd ["book", "day", "who"] (spP K ph_back_of) := by
  refine fn_mk F sc_back_of _ (fun rs p ⟨_, _, e, _⟩ => by rw [e]; rfl) fun X c rs p eP ew eK eM eB B ⟨s, who, er, hl, hp⟩ => ?_
  subst er eP ew eK eM eB
  have B' := B.toBx
  have l1 := daysOf_len s.b "returns" s.day who
  refine s_one (s_ret ?_)
  refine xmaxL ?_
  refine xcat ?_
  refine n_lst ?_
  refine a_cons ?_
  refine n_neg ?_
  refine xi ?_
  refine ⟨_, rfl, ?_⟩
  refine a_nil ?_
  refine ⟨[.int (-1)], rfl, by simp, _, rfl, ?_⟩
  refine xcall F1 ?_
  refine a_cons ?_
  refine xv 0 ?_
  refine a_cons ?_
  refine xs ?_
  refine a_cons ?_
  refine xv 1 ?_
  refine a_cons ?_
  refine xv 2 ?_
  refine a_nil ?_
  refine ⟨_, _, _, _, rfl, hl, ?_⟩
  refine ⟨_, rfl, by simp; omega, (-1) :: daysOf s.b "returns" s.day who, rfl, by simp, fun m h1 h2 => ?_⟩
  rw [mx_eq h1 h2]
  exact hp
abbrev ph_is_out : Ph := fun rs p => ∃ (s : Sg) (who : Int), rs = [.d (bookD s.b), .d (.int s.day), .d (.int who)] ∧ s.b.length ≤ 40 ∧ p (.d (.bl (isOut s who)))
theorem ok_is_out (M : Nm mg) (F : Fun K "is_out" "is_out" s_is_out fa fd) (F1 : Callee P w K mg base "days_of" 1 ph_days_of) (F2 : Callee P w K mg base "back_of" 2 ph_back_of) : FnOk P w K mg base CX0 3 fa fd ["book", "day", "who"] (spP K ph_is_out) := by
  refine fn_mk F sc_is_out _ (fun rs p ⟨_, _, e, _⟩ => by rw [e]; rfl) fun X c rs p eP ew eK eM eB B ⟨s, who, er, hl, hp⟩ => ?_
  subst er eP ew eK eM eB
  have B' := B.toBx
  have l1 := daysOf_len s.b "leaves" s.day who
  have l2 := daysOf_len s.b "cuts" s.day who
  refine s_cons ?_
  refine sset 3 ?_
  refine xcat ?_
  refine xcall F1 ?_
  refine a_cons ?_
  refine xv 0 ?_
  refine a_cons ?_
  refine xs ?_
  refine a_cons ?_
  refine xv 1 ?_
  refine a_cons ?_
  refine xv 2 ?_
  refine a_nil ?_
  refine ⟨_, _, _, _, rfl, hl, ?_⟩
  refine ⟨_, rfl, ?_⟩
  refine xcall F1 ?_
  refine a_cons ?_
  refine xv 0 ?_
  refine a_cons ?_
  refine xs ?_
  refine a_cons ?_
  refine xv 1 ?_
  refine a_cons ?_
  refine xv 2 ?_
  refine a_nil ?_
  refine ⟨_, _, _, _, rfl, hl, ?_⟩
  refine ⟨_, rfl, by simp; omega, _, rfl, ?_⟩
  refine s_one (s_ret ?_)
  refine xgt ?_
  refine xmaxL ?_
  refine xcat ?_
  refine n_lst ?_
  refine a_cons ?_
  refine n_neg ?_
  refine xi ?_
  refine ⟨_, rfl, ?_⟩
  refine a_nil ?_
  refine ⟨[.int (-1)], rfl, by simp, _, rfl, ?_⟩
  refine xv 3 ?_
  refine ⟨_, rfl, by simp; omega, (-1) :: (daysOf s.b "leaves" s.day who ++ daysOf s.b "cuts" s.day who), ?_, by simp, fun m h1 h2 => ?_⟩
  · simp [Rs.lds]
  rw [mx_eq h1 h2]
  refine ⟨_, rfl, ?_⟩
  refine xcall F2 ?_
  refine a_cons ?_
  refine xv 0 ?_
  refine a_cons ?_
  refine xv 1 ?_
  refine a_cons ?_
  refine xv 2 ?_
  refine a_nil ?_
  refine ⟨s, who, rfl, hl, ?_⟩
  refine ⟨_, rfl, ?_⟩
  exact hp
abbrev ph_cut_from : Ph := fun rs p => ∃ (s : Sg) (who : Int), rs = [.d (bookD s.b), .d (.int s.day), .d (.int who)] ∧ s.b.length ≤ 40 ∧ p (.d (.int (cutFrom s who)))
theorem ok_cut_from (M : Nm mg) (F : Fun K "cut_from" "cut_from" s_cut_from fa fd) (F1 : Callee P w K mg base "days_of" 1 ph_days_of) (F2 : Callee P w K mg base "back_of" 2 ph_back_of) : FnOk P w K mg base CX0 3 fa fd ["book", "day", "who"] (spP K ph_cut_from) := by
  refine fn_mk F sc_cut_from _ (fun rs p ⟨_, _, e, _⟩ => by rw [e]; rfl) fun X c rs p eP ew eK eM eB B ⟨s, who, er, hl, hp⟩ => ?_
  subst er eP ew eK eM eB
  have B' := B.toBx
  have l1 := daysOf_len s.b "cuts" s.day who
  refine s_cons ?_
  refine sset 3 ?_
  refine xcall F2 ?_
  refine a_cons ?_
  refine xv 0 ?_
  refine a_cons ?_
  refine xv 1 ?_
  refine a_cons ?_
  refine xv 2 ?_
  refine a_nil ?_
  refine ⟨s, who, rfl, hl, ?_⟩
  refine ⟨_, rfl, ?_⟩
  refine s_one (s_ret ?_)
  refine xminD ?_
  refine xlc1 4 D.int (fun c => decide (backOf s who < c)) D.int ?_
  refine qlst ?_
  refine xcall F1 ?_
  refine a_cons ?_
  refine xv 0 ?_
  refine a_cons ?_
  refine xs ?_
  refine a_cons ?_
  refine xv 1 ?_
  refine a_cons ?_
  refine xv 2 ?_
  refine a_nil ?_
  refine ⟨_, _, _, _, rfl, hl, ?_⟩
  refine ⟨_, rfl, ?_⟩
  refine ⟨daysOf s.b "cuts" s.day who, rfl, by omega, fun a ha => ⟨_, rfl, fun X' hb B1 => ?_, fun _ X' hb B1 => ?_⟩, ?_⟩
  · show WT _ _ _ _ _
    refine tgt ?_
    refine xv 4 ?_
    refine ⟨_, rfl, ?_⟩
    refine xv 3 ?_
    refine ⟨_, rfl, ?_⟩
    rfl
  · refine xv 4 ?_
    rfl
  refine ⟨_, rfl, ?_⟩
  refine n_neg ?_
  refine xi ?_
  refine ⟨_, rfl, ?_⟩
  refine ⟨_, rfl, fun e => ?_, fun m h1 h2 => ?_⟩
  · have e2 : cutFrom s who = -1 := by
      unfold cutFrom
      rw [e]
      rfl
    rw [e2] at hp
    exact hp
  · have e2 : m = cutFrom s who := mn_eq h1 h2
    rw [e2]
    exact hp
abbrev ph_counts_by : Ph := fun rs p => ∃ (h : List Folk) (r : Row) (a b : Int), rs = [.d (houseD h), .d (rowD r), .d (.int a), .d (.int b)] ∧ okF h a ∧ okF h b ∧ p (.d (.bl (countsBy h r a b)))
theorem ok_counts_by (M : Nm mg) (F : Fun K "counts_by" "counts_by" s_counts_by fa fd) : FnOk P w K mg base CX0 1 fa fd ["house", "row", "parent", "child"] (spP K ph_counts_by) := by
  refine fn_mk F sc_counts_by _ (fun rs p ⟨_, _, _, _, e, _⟩ => by rw [e]; rfl) fun X c rs p eP ew eK eM eB B ⟨h, r, a, b, er, oa, ob, hp⟩ => ?_
  subst er eP ew eK eM eB
  have B' := B.toBx
  have last : ¬ (r.wed = 1 ∧ (hAt h b).wed = 0) → WSs X c (g0 [.d (houseD h), .d (rowD r), .d (.int a), .d (.int b)] N_counts_by) ((defBody s_counts_by).drop 1) ⟨fun _ => p (.d .non), p, fun _ => False, fun _ => False⟩ := fun hn => by
    refine s_one (s_ret ?_)
    refine xor_ ?_
    refine xneS ?_
    refine xix ?_
    refine xv 1 ?_
    refine ⟨_, rfl, ?_⟩
    refine xi ?_
    refine ⟨_, rfl, ?_⟩
    refine ⟨_, rfl, ?_⟩
    refine ⟨_, rfl, ?_⟩
    refine xs ?_
    refine ⟨_, rfl, ?_⟩
    refine ⟨_, rfl, ?_⟩
    refine ite_b (fun e1 => ?_) (fun e1 => ?_)
    · refine fin_b hp ?_
      unfold countsBy
      rw [if_neg hn, e1]
      rfl
    · refine n_one ?_
      refine xeq ?_
      refine xix ?_
      refine xix ?_
      refine xv 0 ?_
      refine ⟨_, rfl, ?_⟩
      refine xv 2 ?_
      refine ⟨_, rfl, ?_⟩
      refine ⟨_, at_h oa, ?_⟩
      refine ⟨_, rfl, ?_⟩
      refine xi ?_
      refine ⟨_, rfl, ?_⟩
      refine ⟨_, rfl, ?_⟩
      refine ⟨_, rfl, ?_⟩
      refine xi ?_
      refine ⟨_, rfl, ?_⟩
      refine fin_b hp ?_
      unfold countsBy
      rw [if_neg hn, e1]
      rfl
  refine s_cons ?_
  refine sif ?_
  refine t_bop ?_
  refine w_and ?_
  refine teq ?_
  refine xix ?_
  refine xv 1 ?_
  refine ⟨_, rfl, ?_⟩
  refine xi ?_
  refine ⟨_, rfl, ?_⟩
  refine ⟨_, rfl, ?_⟩
  refine ⟨_, rfl, ?_⟩
  refine xi ?_
  refine ⟨_, rfl, ?_⟩
  refine ite_b (fun e1 => ?_) (fun e1 => ?_)
  · refine w_and1 ?_
    refine teq ?_
    refine xix ?_
    refine xix ?_
    refine xv 0 ?_
    refine ⟨_, rfl, ?_⟩
    refine xv 3 ?_
    refine ⟨_, rfl, ?_⟩
    refine ⟨_, at_h ob, ?_⟩
    refine ⟨_, rfl, ?_⟩
    refine xi ?_
    refine ⟨_, rfl, ?_⟩
    refine ⟨_, rfl, ?_⟩
    refine ⟨_, rfl, ?_⟩
    refine xi ?_
    refine ⟨_, rfl, ?_⟩
    refine ite_b (fun e2 => ?_) (fun e2 => ?_)
    · refine s_one ?_
      refine s_ret ?_
      refine xb ?_
      refine fin_b hp ?_
      unfold countsBy
      rw [if_pos ⟨of_decide_eq_true e1, of_decide_eq_true e2⟩]
    · refine s_nil ?_
      exact last fun q => of_decide_eq_false e2 q.2
  · simp only [Bool.false_eq_true, if_false]
    refine s_nil ?_
    exact last fun q => of_decide_eq_false e1 q.1
abbrev sgR (s : Sg) (r : Row) : List Rs := [.d (houseD s.h), .d (bookD s.b), .d (rowD r), .d (.int s.day)]
abbrev ph_steps_of : Ph := fun rs p => ∃ (s : Sg) (r : Row) (who : Int), rs = [.d (houseD s.h), .d (bookD s.b), .d (rowD r), .d (.int s.day), .d (.int who)] ∧ WS' s ∧ okF s.h who ∧ p (.tx true ((stepsOf s r who).map D.int))
end
end TW

namespace TW
open PySem PySem.Spec PyProof.Rows L2
section
variable {P : Program} {w : World} {K : Fg} {mg : Str → Option Value} {base : Heap} {fa : Addr} {fd : FuncData}
abbrev G_steps_of (s : Sg) (r : Row) (who : Int) (acc : List D) (x7 x8 : Option Sl) : G := [some (.d (houseD s.h)), some (.d (bookD s.b)), some (.d (rowD r)), some (.d (.int s.day)), some (.d (.int who)), some (.d (.int (cutFrom s who))), some (.own acc), x7, x8, none]
theorem ok_steps_of (M : Nm mg) (F : Fun K "steps_of" "steps_of" s_steps_of fa fd) (F1 : Callee P w K mg base "cut_from" 3 ph_cut_from) (F2 : Callee P w K mg base "children_of" 1 ph_children_of) (F3 : Callee P w K mg base "counts_by" 1 ph_counts_by) : FnOk P w K mg base CX0 4 fa fd ["house", "book", "row", "day", "who"] (spP K ph_steps_of) := by
  refine fn_mk F sc_steps_of _ (fun rs p ⟨_, _, _, e, _⟩ => by rw [e]; rfl) fun X c rs p eP ew eK eM eB B ⟨s, r, who, er, ws, ow, hp⟩ => ?_
  subst er eP ew eK eM eB
  have B' := B.toBx
  have few := ws.h.few
  have kl := kids_len s.h who
  refine s_cons ?_
  refine sset 5 ?_
  refine xcall F1 ?_
  refine a_cons ?_
  refine xv 1 ?_
  refine a_cons ?_
  refine xv 3 ?_
  refine a_cons ?_
  refine xv 4 ?_
  refine a_nil ?_
  refine ⟨s, who, rfl, ws.b, ?_⟩
  refine ⟨_, rfl, ?_⟩
  refine s_cons ?_
  refine sset 6 ?_
  refine n_lst ?_
  refine a_nil ?_
  refine ⟨[], rfl, by simp, ?_⟩
  refine ⟨_, rfl, ?_⟩
  refine s_cons ?_
  refine sfor1 7 D.int ?_
  refine qtup ?_
  refine xcall F2 ?_
  refine a_cons ?_
  refine xv 0 ?_
  refine a_cons ?_
  refine xv 4 ?_
  refine a_nil ?_
  refine ⟨s.h, who, rfl, by omega, ?_⟩
  refine ⟨_, rfl, ?_⟩
  refine ⟨kids s.h who, fun pre g1 => ∃ x7 x8, g1 = G_steps_of s r who ((pre.filter (heir s r who)).map D.int) x7 x8, rfl, ⟨none, none, rfl⟩, ?_, ?_⟩
  · intro pre a post g1 el ⟨x7, x8, eg⟩ c' ec
    subst eg
    have oa : okF s.h a := (kids_ok (by rw [el]; simp : a ∈ kids s.h who)).1
    refine s_cons ?_
    refine sset 8 ?_
    refine xix ?_
    refine xix ?_
    refine xv 0 ?_
    refine ⟨_, rfl, ?_⟩
    refine xv 7 ?_
    refine ⟨_, rfl, ?_⟩
    refine ⟨_, at_h oa, ?_⟩
    refine ⟨_, rfl, ?_⟩
    refine xi ?_
    refine ⟨_, rfl, ?_⟩
    refine ⟨_, rfl, ?_⟩
    refine ⟨_, rfl, ?_⟩
    refine s_one ?_
    refine sif (WT.mono (p := fun i => i = heir s r who a) ?_ fun i ei => ?_)
    · refine t_bop ?_
      refine w_and ?_
      refine tle ?_
      refine xv 8 ?_
      refine ⟨_, rfl, ?_⟩
      refine xv 3 ?_
      refine ⟨_, rfl, ?_⟩
      refine ite_b (fun e1 => ?_) (fun e1 => ?_)
      · refine w_and ?_
        refine t_bop ?_
        refine w_or ?_
        refine teq ?_
        refine xv 5 ?_
        refine ⟨_, rfl, ?_⟩
        refine n_neg ?_
        refine xi ?_
        refine ⟨_, rfl, ?_⟩
        refine ⟨_, rfl, ?_⟩
        refine ite_b (fun e2 => ?_) (fun e2 => ?_)
        · simp only [if_true]
          refine w_and1 ?_
          refine t_val ?_
          refine xcall F3 ?_
          refine a_cons ?_
          refine xv 0 ?_
          refine a_cons ?_
          refine xv 2 ?_
          refine a_cons ?_
          refine xv 4 ?_
          refine a_cons ?_
          refine xv 7 ?_
          refine a_nil ?_
          refine ⟨s.h, r, who, a, rfl, ow, oa, ?_⟩
          refine ⟨_, rfl, ?_⟩
          unfold heir
          rw [e1, e2]
          rfl
        · refine w_or1 ?_
          refine tgt ?_
          refine xv 5 ?_
          refine ⟨_, rfl, ?_⟩
          refine xv 8 ?_
          refine ⟨_, rfl, ?_⟩
          refine ite_b (fun e3 => ?_) (fun e3 => ?_)
          · refine w_and1 ?_
            refine t_val ?_
            refine xcall F3 ?_
            refine a_cons ?_
            refine xv 0 ?_
            refine a_cons ?_
            refine xv 2 ?_
            refine a_cons ?_
            refine xv 4 ?_
            refine a_cons ?_
            refine xv 7 ?_
            refine a_nil ?_
            refine ⟨s.h, r, who, a, rfl, ow, oa, ?_⟩
            refine ⟨_, rfl, ?_⟩
            unfold heir
            rw [e1, e2, e3]
            rfl
          · unfold heir
            rw [e1, e2, e3]
            rfl
      · unfold heir
        rw [e1]
        rfl
    · refine ite_b (fun e1 => ?_) (fun e1 => ?_)
      · have hz : ((pre.filter (heir s r who)).map D.int).length < 1000000 := by
          have h1 := List.length_filter_le (heir s r who) pre
          have h2 : pre.length ≤ (kids s.h who).length := by
            rw [el]
            simp
          rw [List.length_map]
          omega
        refine s_one ?_
        refine sapp 6 hz ?_
        refine xv 7 ?_
        refine ⟨_, rfl, ?_⟩
        show ∃ x7 x8, _ = G_steps_of s r who (((pre ++ [a]).filter (heir s r who)).map D.int) x7 x8
        rw [List.filter_append, List.filter_cons_of_pos (by rw [← ei, e1]), List.filter_nil, List.map_append]
        exact ⟨_, _, rfl⟩
      · refine s_nil ?_
        show ∃ x7 x8, _ = G_steps_of s r who (((pre ++ [a]).filter (heir s r who)).map D.int) x7 x8
        rw [List.filter_append, List.filter_cons_of_neg (by rw [← ei, e1]; simp), List.filter_nil, List.append_nil]
        exact ⟨_, _, rfl⟩
  · intro g1 ⟨x7, x8, eg⟩
    subst eg
    generalize hf : (kids s.h who).filter (heir s r who) = fl
    have fle : fl.length ≤ 60 := by
      have h1 := List.length_filter_le (heir s r who) (kids s.h who)
      rw [hf] at h1
      omega
    have okl : ∀ a, a ∈ fl → okF s.h a := fun a ha => by
      rw [← hf] at ha
      exact (kids_ok (List.mem_filter.mp ha).1).1
    have es : stepsOf s r who = if r.men = "first" then (fl.filter fun c => decide ((hAt s.h c).man = 1)) ++ (fl.filter fun c => decide ((hAt s.h c).man = 0)) else fl := by
      unfold stepsOf
      rw [hf]
    rw [es] at hp
    refine s_cons ?_
    refine sif ?_
    refine teqS ?_
    refine xix ?_
    refine xv 2 ?_
    refine ⟨_, rfl, ?_⟩
    refine xi ?_
    refine ⟨_, rfl, ?_⟩
    refine ⟨_, rfl, ?_⟩
    refine ⟨_, rfl, ?_⟩
    refine xs ?_
    refine ⟨_, rfl, ?_⟩
    refine ite_b (fun e1 => ?_) (fun e1 => ?_)
    · rw [if_pos (of_decide_eq_true e1)] at hp
      refine s_cons ?_
      refine slc1 9 7 D.int (fun c => decide ((hAt s.h c).man = 1)) D.int ?_
      refine qlst ?_
      refine xv 6 ?_
      refine ⟨_, rfl, ?_⟩
      refine ⟨fl, rfl, by omega, fun a ha => ⟨_, rfl, fun X' hb B1 => ?_, fun _ X' hb B1 => ?_⟩, ?_⟩
      · show WT _ _ _ _ _
        refine teq ?_
        refine xix ?_
        refine xix ?_
        refine xv 0 ?_
        refine ⟨_, rfl, ?_⟩
        refine xv 7 ?_
        refine ⟨_, rfl, ?_⟩
        refine ⟨_, at_h (okl a ha), ?_⟩
        refine ⟨_, rfl, ?_⟩
        refine xi ?_
        refine ⟨_, rfl, ?_⟩
        refine ⟨_, rfl, ?_⟩
        refine ⟨_, rfl, ?_⟩
        refine xi ?_
        refine ⟨_, rfl, ?_⟩
        rfl
      · refine xv 7 ?_
        rfl
      refine s_one ?_
      refine sset 6 ?_
      refine xcat ?_
      refine xv 9 ?_
      refine ⟨_, rfl, ?_⟩
      refine xlc1 7 D.int (fun c => decide ((hAt s.h c).man = 0)) D.int ?_
      refine qlst ?_
      refine xv 6 ?_
      refine ⟨_, rfl, ?_⟩
      refine ⟨fl, rfl, by omega, fun a ha => ⟨_, rfl, fun X' hb B1 => ?_, fun _ X' hb B1 => ?_⟩, ?_⟩
      · show WT _ _ _ _ _
        refine teq ?_
        refine xix ?_
        refine xix ?_
        refine xv 0 ?_
        refine ⟨_, rfl, ?_⟩
        refine xv 7 ?_
        refine ⟨_, rfl, ?_⟩
        refine ⟨_, at_h (okl a ha), ?_⟩
        refine ⟨_, rfl, ?_⟩
        refine xi ?_
        refine ⟨_, rfl, ?_⟩
        refine ⟨_, rfl, ?_⟩
        refine ⟨_, rfl, ?_⟩
        refine xi ?_
        refine ⟨_, rfl, ?_⟩
        rfl
      · refine xv 7 ?_
        rfl
      refine ⟨_, rfl, ?_, _, rfl, ?_⟩
      · have h1 := List.length_filter_le (fun c => decide ((hAt s.h c).man = 1)) fl
        have h2 := List.length_filter_le (fun c => decide ((hAt s.h c).man = 0)) fl
        rw [List.length_map, List.length_map]
        omega
      refine s_one (s_ret ?_)
      refine xtupleX ?_
      refine xv 6 ?_
      refine ⟨_, rfl, ?_⟩
      rw [← List.map_append]
      exact hp
    · rw [if_neg (of_decide_eq_false e1)] at hp
      refine s_nil ?_
      refine s_one (s_ret ?_)
      refine xtupleX ?_
      refine xv 6 ?_
      refine ⟨_, rfl, ?_⟩
      exact hp
end
end TW

namespace TW
open PySem PySem.Spec PyProof.Rows L2
section
variable {P : Program} {w : World} {K : Fg} {mg : Str → Option Value} {base : Heap} {fa : Addr} {fd : FuncData}
theorem isTup_cases {d : D} (h : isTupD d = true) : ∃ ds, d = .tup ds := by
  cases d with
  | tup ds => exact ⟨ds, rfl⟩
  | _ => cases h
abbrev ph_are_rising_folk : Ph := fun rs p => ∃ (h : List Folk) (d : D), rs = [.d (houseD h), .d d] ∧ h.length ≤ 60 ∧ FT d ∧ ∀ b : Bool, (b = true ↔ Rising h d) → p (.d (.bl b))
theorem ok_are_rising_folk (M : Nm mg) (F : Fun K "are_rising_folk" "are_rising_folk" s_are_rising_folk fa fd) (F1 : Callee P w K mg base "is_folk" 3 ph_is_folk) : FnOk P w K mg base CX0 4 fa fd ["house", "thing"] (spP K ph_are_rising_folk) := by
  refine fn_mk F sc_are_rising_folk _ (fun rs p ⟨_, _, e, _⟩ => by rw [e]; rfl) fun X c rs p eP ew eK eM eB B ⟨h, d, er, hl, ft, hp⟩ => ?_
  subst er eP ew eK eM eB
  have B' := B.toBx
  refine s_cons ?_
  refine sif ?_
  refine t_bop ?_
  refine w_or ?_
  refine t_not ?_
  refine t_val ?_
  refine xisTup ?_
  refine xv 1 ?_
  refine ⟨_, rfl, ?_⟩
  refine ⟨_, rfl, ?_⟩
  refine ite_b (fun e1 => ?_) (fun e1 => ?_)
  · refine s_one ?_
    refine s_ret ?_
    refine xb ?_
    refine hp _ ⟨fun q => (by cases q), fun ⟨xs, ⟨e, _⟩, _⟩ => ?_⟩
    subst e
    cases e1
  · obtain ⟨ds, rfl⟩ := isTup_cases (by simpa using e1)
    have dl := ft.len
    refine w_or1 ?_
    refine t_not ?_
    refine t_val ?_
    refine xall ?_
    refine xlc1m 3 (fun a => a) (fun a => .bl (folkB h a)) ?_
    refine qtup ?_
    refine xv 1 ?_
    refine ⟨_, rfl, ?_⟩
    refine ⟨ds, by simp, by omega, fun a ha => ⟨_, rfl, fun X' hb B1 => ?_⟩, ?_⟩
    · refine xcall (hb.callee F1) ?_
      refine a_cons ?_
      refine xv 0 ?_
      refine a_cons ?_
      refine xv 3 ?_
      refine a_nil ?_
      refine ⟨_, _, rfl, ?_⟩
      rfl
    refine ⟨ds.map (folkB h), by rw [List.map_map]; rfl, _, rfl, ?_⟩
    refine ite_b (fun e2 => ?_) (fun e2 => ?_)
    · refine s_one ?_
      refine s_ret ?_
      refine xb ?_
      refine hp _ ⟨fun q => (by cases q), fun ⟨xs, h1, _⟩ => ?_⟩
      have := all_folk.mpr ⟨xs, h1⟩
      rw [this] at e2
      cases e2
    · obtain ⟨xs, h1, h2⟩ := all_folk.mp (by simpa using e2)
      cases h1
      have xl : xs.length ≤ 1000 := by simpa using dl
      refine s_nil ?_
      refine s_one (s_ret ?_)
      refine xeqN ?_
      refine xlc1 2 D.int (fun a => decide (gI xs a ≤ gI xs (a - 1))) D.int ?_
      refine qrange2 ?_
      refine xi ?_
      refine ⟨_, rfl, ?_⟩
      refine xlen ?_
      refine xv 1 ?_
      refine ⟨_, rfl, ?_⟩
      refine ⟨_, rfl, ?_⟩
      refine ⟨by omega, by omega, ?_, ?_, rng 1 (xs.length - 1), ?_, by rw [rng_len]; omega, fun a ha => ⟨_, rfl, fun X' hb B1 => ?_, fun _ X' hb B1 => ?_⟩, ?_⟩
      · simp only [List.length_map]; omega
      · simp only [List.length_map]; omega
      · rw [rngD_map, List.length_map]
        congr 2
        omega
      · have ha' := mem_rng.mp ha
        show WT _ _ _ _ _
        refine tge ?_
        refine xix ?_
        refine xv 1 ?_
        refine ⟨_, rfl, ?_⟩
        refine n_sub ?_
        refine xv 2 ?_
        refine ⟨_, rfl, ?_⟩
        refine xi ?_
        refine ⟨_, rfl, ?_⟩
        refine ⟨_, rfl, ?_⟩
        refine ⟨_, at_ints (by omega) (by omega), ?_⟩
        refine ⟨_, rfl, ?_⟩
        refine xix ?_
        refine xv 1 ?_
        refine ⟨_, rfl, ?_⟩
        refine xv 2 ?_
        refine ⟨_, rfl, ?_⟩
        refine ⟨_, at_ints (by omega) (by omega), ?_⟩
        refine ⟨_, rfl, ?_⟩
        rfl
      · refine xv 2 ?_
        rfl
      refine ⟨_, rfl, ?_⟩
      refine n_lst ?_
      refine a_nil ?_
      refine ⟨[], rfl, by simp, _, rfl, rfl, fit_ints _, ?_⟩
      refine hp _ ?_
      rw [isEmpty_map, filter_empty]
      have key : (∀ a ∈ rng 1 (xs.length - 1), decide (gI xs a ≤ gI xs (a - 1)) = false) ↔ xs.Pairwise (· < ·) := by
        rw [← ch_pw, ch_gI]
        refine ⟨fun q a ha => ?_, fun q a ha => ?_⟩
        · have := of_decide_eq_false (q a ha)
          omega
        · have := q a ha
          exact decide_eq_false (by omega)
      rw [key]
      refine ⟨fun q => ⟨xs, ⟨rfl, h2⟩, q⟩, fun ⟨ys, ⟨e, _⟩, q⟩ => ?_⟩
      rw [intsD_inj e]
      exact q
abbrev ph_is_line : Ph := fun rs p => ∃ (s : Sg) (r : Row) (d : D), rs = [.d (houseD s.h), .d (bookD s.b), .d (rowD r), .d (.int s.day), .d d] ∧ WS' s ∧ okF s.h r.fo ∧ FT d ∧ ∀ b : Bool, (b = true ↔ IsLine s r d) → p (.d (.bl b))
theorem ok_is_line (M : Nm mg) (F : Fun K "is_line" "is_line" s_is_line fa fd) (F1 : Callee P w K mg base "is_folk" 3 ph_is_folk) (F2 : Callee P w K mg base "steps_of" 4 ph_steps_of) : FnOk P w K mg base CX0 5 fa fd ["house", "book", "row", "day", "thing"] (spP K ph_is_line) := by
  refine fn_mk F sc_is_line _ (fun rs p ⟨_, _, _, e, _⟩ => by rw [e]; rfl) fun X c rs p eP ew eK eM eB B ⟨s, r, d, er, ws, of, ft, hp⟩ => ?_
  subst er eP ew eK eM eB
  have B' := B.toBx
  have few := ws.h.few
  refine s_cons ?_
  refine sif ?_
  refine t_bop ?_
  refine w_or ?_
  refine t_not ?_
  refine t_val ?_
  refine xisTup ?_
  refine xv 4 ?_
  refine ⟨_, rfl, ?_⟩
  refine ⟨_, rfl, ?_⟩
  refine ite_b (fun e1 => ?_) (fun e1 => ?_)
  · refine s_one ?_
    refine s_ret ?_
    refine xb ?_
    refine hp _ ⟨fun q => (by cases q), fun ⟨xs, e, _⟩ => ?_⟩
    subst e
    cases e1
  obtain ⟨ds, rfl⟩ := isTup_cases (by simpa using e1)
  have dl := ft.len
  refine w_or ?_
  refine teqT0 ?_
  refine xv 4 ?_
  refine ⟨_, rfl, ?_⟩
  refine n_tup ?_
  refine a_nil ?_
  refine ⟨[], rfl, by simp, rfl, ft.f64, ?_⟩
  refine ite_b (fun e0 => ?_) (fun e0 => ?_)
  · refine s_one ?_
    refine s_ret ?_
    refine xb ?_
    refine hp _ ⟨fun q => (by cases q), fun ⟨xs, e, q, _⟩ => ?_⟩
    cases e
    rw [isEmpty_map, List.isEmpty_iff] at e0
    exact absurd e0 q
  refine w_or1 ?_
  refine t_not ?_
  refine t_val ?_
  refine xall ?_
  refine xlc1m 6 (fun a => a) (fun a => .bl (folkB s.h a)) ?_
  refine qtup ?_
  refine xv 4 ?_
  refine ⟨_, rfl, ?_⟩
  refine ⟨ds, by simp, by omega, fun a ha => ⟨_, rfl, fun X' hb B1 => ?_⟩, ?_⟩
  · refine xcall (hb.callee F1) ?_
    refine a_cons ?_
    refine xv 0 ?_
    refine a_cons ?_
    refine xv 6 ?_
    refine a_nil ?_
    refine ⟨_, _, rfl, ?_⟩
    rfl
  refine ⟨ds.map (folkB s.h), by rw [List.map_map]; rfl, _, rfl, ?_⟩
  refine ite_b (fun e2 => ?_) (fun e2 => ?_)
  · refine s_one ?_
    refine s_ret ?_
    refine xb ?_
    refine hp _ ⟨fun q => (by cases q), fun ⟨xs, e, _, h1, _⟩ => ?_⟩
    have := all_folk.mpr ⟨xs, e, h1⟩
    rw [this] at e2
    cases e2
  obtain ⟨xs, h1, h2⟩ := all_folk.mp (by simpa using e2)
  cases h1
  have xl : xs.length ≤ 1000 := by simpa using dl
  rw [isEmpty_map] at e0
  have xne : xs ≠ [] := fun z => by
    rw [z] at e0
    cases e0
  have xpos : 0 < xs.length := List.length_pos_iff.mpr xne
  have hd : xs.head? = some (gI xs 0) := by
    rw [List.head?_eq_getElem?]
    exact gI_get (i := 0) (by omega) (by omega)
  have eqv : ∀ b : Bool, (b = true ↔ (gI xs 0 = r.fo ∧ (hAt s.h r.fo).d ≤ s.day ∧ Ch (fun a b => b ∈ stepsOf s r a) xs)) → p (.d (.bl b)) := fun b hb => hp b (hb.trans ⟨fun ⟨q1, q2, q3⟩ => ⟨xs, rfl, xne, h2, by rw [hd, q1], q2, q3⟩, fun ⟨ys, e, q0, q1, q2, q3, q4⟩ => by
    cases intsD_inj e
    rw [hd] at q2
    exact ⟨Option.some.inj q2, q3, q4⟩⟩)
  refine s_nil ?_
  refine s_cons ?_
  refine sif ?_
  refine t_bop ?_
  refine w_or ?_
  refine tne ?_
  refine xix ?_
  refine xv 4 ?_
  refine ⟨_, rfl, ?_⟩
  refine xi ?_
  refine ⟨_, rfl, ?_⟩
  refine ⟨_, at_ints (by omega) (by omega), ?_⟩
  refine ⟨_, rfl, ?_⟩
  refine xix ?_
  refine xv 2 ?_
  refine ⟨_, rfl, ?_⟩
  refine xi ?_
  refine ⟨_, rfl, ?_⟩
  refine ⟨_, rfl, ?_⟩
  refine ⟨_, rfl, ?_⟩
  refine ite_b (fun e3 => ?_) (fun e3 => ?_)
  · refine s_one ?_
    refine s_ret ?_
    refine xb ?_
    refine eqv _ ⟨fun q => (by cases q), fun ⟨q, _⟩ => ?_⟩
    rw [q] at e3
    simp at e3
  refine w_or1 ?_
  refine tgt ?_
  refine xix ?_
  refine xix ?_
  refine xv 0 ?_
  refine ⟨_, rfl, ?_⟩
  refine xix ?_
  refine xv 2 ?_
  refine ⟨_, rfl, ?_⟩
  refine xi ?_
  refine ⟨_, rfl, ?_⟩
  refine ⟨_, rfl, ?_⟩
  refine ⟨_, rfl, ?_⟩
  refine ⟨_, at_h of, ?_⟩
  refine ⟨_, rfl, ?_⟩
  refine xi ?_
  refine ⟨_, rfl, ?_⟩
  refine ⟨_, rfl, ?_⟩
  refine ⟨_, rfl, ?_⟩
  refine xv 3 ?_
  refine ⟨_, rfl, ?_⟩
  refine ite_b (fun e4 => ?_) (fun e4 => ?_)
  · refine s_one ?_
    refine s_ret ?_
    refine xb ?_
    refine eqv _ ⟨fun q => (by cases q), fun ⟨_, q, _⟩ => ?_⟩
    have := of_decide_eq_true e4
    omega
  have e3' : gI xs 0 = r.fo := by simpa using e3
  have e4' : (hAt s.h r.fo).d ≤ s.day := by
    have := of_decide_eq_false e4
    omega
  refine s_nil ?_
  refine s_cons ?_
  refine sfor1 5 D.int ?_
  refine qrange2 ?_
  refine xi ?_
  refine ⟨_, rfl, ?_⟩
  refine xlen ?_
  refine xv 4 ?_
  refine ⟨_, rfl, ?_⟩
  refine ⟨_, rfl, ?_⟩
  refine ⟨by omega, by omega, ?_, ?_, rng 1 (xs.length - 1), fun pre g1 => (∃ x5, g1 = [some (.d (houseD s.h)), some (.d (bookD s.b)), some (.d (rowD r)), some (.d (.int s.day)), some (.d (intsD xs)), x5, none]) ∧ ∀ a ∈ pre, gI xs a ∈ stepsOf s r (gI xs (a - 1)), ?_, ⟨⟨none, rfl⟩, by simp⟩, ?_, ?_⟩
  · simp only [List.length_map]; omega
  · simp only [List.length_map]; omega
  · rw [rngD_map, List.length_map]
    congr 2
    omega
  · intro pre a post g1 el ⟨⟨x5, eg⟩, hpre⟩ c' ec
    subst eg
    have ha := mem_rng.mp (by rw [el]; simp : a ∈ rng 1 (xs.length - 1))
    refine s_one ?_
    refine sif ?_
    refine tnin ?_
    refine xix ?_
    refine xv 4 ?_
    refine ⟨_, rfl, ?_⟩
    refine xv 5 ?_
    refine ⟨_, rfl, ?_⟩
    refine ⟨_, at_ints (by omega) (by omega), ?_⟩
    refine ⟨_, rfl, ?_⟩
    refine we_thaw ?_
    refine xcall F2 ?_
    refine a_cons ?_
    refine xv 0 ?_
    refine a_cons ?_
    refine xv 1 ?_
    refine a_cons ?_
    refine xv 2 ?_
    refine a_cons ?_
    refine xv 3 ?_
    refine a_cons ?_
    refine xix ?_
    refine xv 4 ?_
    refine ⟨_, rfl, ?_⟩
    refine n_sub ?_
    refine xv 5 ?_
    refine ⟨_, rfl, ?_⟩
    refine xi ?_
    refine ⟨_, rfl, ?_⟩
    refine ⟨_, rfl, ?_⟩
    refine ⟨_, at_ints (by omega) (by omega), ?_⟩
    refine a_nil ?_
    refine ⟨s, r, _, rfl, ws, h2 _ (gI_mem (by omega) (by omega)), ?_⟩
    refine ⟨_, rfl, ?_⟩
    refine ⟨_, rfl, ?_⟩
    refine ite_b (fun e5 => ?_) (fun e5 => ?_)
    · refine s_one ?_
      refine s_ret ?_
      refine xb ?_
      refine eqv _ ⟨fun q => (by cases q), fun ⟨_, _, q⟩ => ?_⟩
      have := ch_gI.mp q a (by rw [el]; simp)
      simp [this] at e5
    · refine s_nil ?_
      refine ⟨⟨_, rfl⟩, fun z hz => ?_⟩
      rcases List.mem_append.mp hz with hz | hz
      · exact hpre z hz
      · rw [List.mem_singleton.mp hz]
        simpa using e5
  · intro g1 ⟨⟨x5, eg⟩, hpre⟩
    subst eg
    refine s_one (s_ret ?_)
    refine xb ?_
    exact eqv _ ⟨fun _ => ⟨e3', e4', ch_gI.mpr hpre⟩, fun _ => rfl⟩
abbrev ph_is_fit : Ph := fun rs p => ∃ (s : Sg) (r : Row) (who : Int), rs = [.d (houseD s.h), .d (bookD s.b), .d (rowD r), .d (.int s.day), .d (.int who)] ∧ WS' s ∧ okF s.h who ∧ p (.d (.bl (isFit s r who)))
theorem ok_is_fit (M : Nm mg) (F : Fun K "is_fit" "is_fit" s_is_fit fa fd) (F1 : Callee P w K mg base "is_dead" 2 ph_is_dead) (F2 : Callee P w K mg base "is_out" 3 ph_is_out) : FnOk P w K mg base CX0 4 fa fd ["house", "book", "row", "day", "who"] (spP K ph_is_fit) := by
  refine fn_mk F sc_is_fit _ (fun rs p ⟨_, _, _, e, _⟩ => by rw [e]; rfl) fun X c rs p eP ew eK eM eB B ⟨s, r, who, er, ws, ow, hp⟩ => ?_
  subst er eP ew eK eM eB
  have B' := B.toBx
  have last : ¬ (r.men = "only" ∧ (hAt s.h who).man = 0) → WSs X c (g0 [.d (houseD s.h), .d (bookD s.b), .d (rowD r), .d (.int s.day), .d (.int who)] N_is_fit) ((defBody s_is_fit).drop 1) ⟨fun _ => p (.d .non), p, fun _ => False, fun _ => False⟩ := fun hn => by
    unfold isFit at hp
    rw [if_neg hn] at hp
    refine s_one (s_ret ?_)
    refine xand ?_
    refine n_not ?_
    refine xcall F1 ?_
    refine a_cons ?_
    refine xv 1 ?_
    refine a_cons ?_
    refine xv 3 ?_
    refine a_cons ?_
    refine xv 4 ?_
    refine a_nil ?_
    refine ⟨s, who, rfl, ws.b, ?_⟩
    refine ⟨_, rfl, ?_⟩
    refine ⟨_, rfl, ?_⟩
    refine ite_b (fun e1 => ?_) (fun e1 => ?_)
    · refine n_one ?_
      refine n_not ?_
      refine xcall F2 ?_
      refine a_cons ?_
      refine xv 1 ?_
      refine a_cons ?_
      refine xv 3 ?_
      refine a_cons ?_
      refine xv 4 ?_
      refine a_nil ?_
      refine ⟨s, who, rfl, ws.b, ?_⟩
      refine ⟨_, rfl, ?_⟩
      refine fin_b hp ?_
      rw [e1]
      rfl
    · refine fin_b hp ?_
      rw [e1]
      rfl
  refine s_cons ?_
  refine sif ?_
  refine t_bop ?_
  refine w_and ?_
  refine teqS ?_
  refine xix ?_
  refine xv 2 ?_
  refine ⟨_, rfl, ?_⟩
  refine xi ?_
  refine ⟨_, rfl, ?_⟩
  refine ⟨_, rfl, ?_⟩
  refine ⟨_, rfl, ?_⟩
  refine xs ?_
  refine ⟨_, rfl, ?_⟩
  refine ite_b (fun e1 => ?_) (fun e1 => ?_)
  · refine w_and1 ?_
    refine teq ?_
    refine xix ?_
    refine xix ?_
    refine xv 0 ?_
    refine ⟨_, rfl, ?_⟩
    refine xv 4 ?_
    refine ⟨_, rfl, ?_⟩
    refine ⟨_, at_h ow, ?_⟩
    refine ⟨_, rfl, ?_⟩
    refine xi ?_
    refine ⟨_, rfl, ?_⟩
    refine ⟨_, rfl, ?_⟩
    refine ⟨_, rfl, ?_⟩
    refine xi ?_
    refine ⟨_, rfl, ?_⟩
    refine ite_b (fun e2 => ?_) (fun e2 => ?_)
    · refine s_one ?_
      refine s_ret ?_
      refine xb ?_
      unfold isFit at hp
      rw [if_pos ⟨of_decide_eq_true e1, of_decide_eq_true e2⟩] at hp
      exact hp
    · refine s_nil ?_
      exact last fun q => of_decide_eq_false e2 q.2
  · simp only [Bool.false_eq_true, if_false]
    refine s_nil ?_
    exact last fun q => of_decide_eq_false e1 q.1
end
end TW

namespace TW
open PySem PySem.Spec PyProof.Rows L2
section
variable {P : Program} {w : World} {K : Fg} {mg : Str → Option Value} {base : Heap} {fa : Addr} {fd : FuncData}
abbrev ph_came_by : Ph := fun rs p => ∃ (s : Sg) (r : Row), rs = [.d (houseD s.h), .d (bookD s.b), .d (rowD r), .d (.int s.day)] ∧ WS' s ∧ okF s.h r.fo ∧ p (.dct true (kD (cameBy s r)))
abbrev G_came_by (s : Sg) (r : Row) (f : List (Int × D)) (st : List D) (x6 x7 x8 : Option Sl) : G := [some (.d (houseD s.h)), some (.d (bookD s.b)), some (.d (rowD r)), some (.d (.int s.day)), some (.dic f), some (.own st), x6, x7, x8, none]
theorem fit_prs {l : List (Int × Int)} : ∀ d ∈ l.map prD, D.fit 63 d := fun d h => by
  obtain ⟨i, _, rfl⟩ := List.mem_map.mp h
  exact fit_mono (fit_pr i) (by omega)
theorem ok_came_by (M : Nm mg) (F : Fun K "came_by" "came_by" s_came_by fa fd) (F1 : Callee P w K mg base "steps_of" 4 ph_steps_of) : FnOk P w K mg base CX0 5 fa fd ["house", "book", "row", "day"] (spP K ph_came_by) := by
  refine fn_mk F sc_came_by _ (fun rs p ⟨_, _, e, _⟩ => by rw [e]; rfl) fun X c rs p eP ew eK eM eB B ⟨s, r, er, ws, of, hp⟩ => ?_
  subst er eP ew eK eM eB
  have B' := B.toBx
  have few := ws.h.few
  have O := steps_stepOk ws.h r
  obtain ⟨gd0, sz0⟩ := start_gd of
  have fu : fuel s.h.length ≤ 4000 := by
    unfold fuel
    have : s.h.length * (s.h.length + 1) ≤ 60 * 61 := Nat.mul_le_mul few (by omega)
    omega
  -- from the loop on
  have main : ∀ x6 x7 x8, WSs X c (G_came_by s r [] ((start0 s r).reverse.map prD) x6 x7 x8) ((defBody s_came_by).drop 3) ⟨fun _ => p (.d .non), p, fun _ => False, fun _ => False⟩ := fun x6 x7 x8 => by
    refine s_cons (swhile (fun g1 m => ∃ f st x6 x7 x8, g1 = G_came_by s r (kD f) (st.reverse.map prD) x6 x7 x8 ∧ dfs (stepsOf s r) m f st = cameBy s r ∧ size s.h.length f st ≤ m ∧ Gd s.h.length f st ∧ m ≤ 4000) (fuel s.h.length) ⟨[], start0 s r, x6, x7, x8, rfl, rfl, sz0, gd0, fu⟩ ?_)
    intro g1 m ⟨f, st, x6, x7, x8, eg, ed, sz, gd, ml⟩
    subst eg
    have fl : f.length ≤ 60 := Nat.le_trans (keys_len gd.nd gd.kin) few
    refine tneN ?_
    refine xv 5 ?_
    refine ⟨_, rfl, ?_⟩
    refine n_lst ?_
    refine a_nil ?_
    refine ⟨[], rfl, by simp, _, rfl, rfl, fit_prs, ?_⟩
    cases st with
    | nil =>
      show WSs X c _ _ _
      refine s_one (sretV 4 ?_)
      have : dfs (stepsOf s r) m f [] = f := by cases m <;> rfl
      rw [this] at ed
      rw [← ed] at hp
      exact hp
    | cons q st =>
      obtain ⟨x, par0⟩ := q
      have hne : (List.map prD ((x, par0) :: st).reverse).isEmpty = false := by
        rw [isEmpty_map, List.reverse_cons]
        cases st.reverse <;> rfl
      rw [hne]
      show WSs X c _ _ _
      cases m with
      | zero =>
        unfold size at sz
        rw [List.length_cons] at sz
        omega
      | succ m =>
      have okx : okF s.h x := gd.sin x List.mem_cons_self
      have eG : G_came_by s r (kD f) (((x, par0) :: st).reverse.map prD) x6 x7 x8 = G_came_by s r (kD f) (st.reverse.map prD ++ [.tup [.int x, .int par0]]) x6 x7 x8 := by
        rw [List.reverse_cons, List.map_append]
        rfl
      rw [eG]
      refine s_cons ?_
      refine spop 5 6 7 rfl ?_
      unfold dfs at ed
      refine s_one ?_
      refine sif ?_
      refine tninK ?_
      refine xv 6 ?_
      refine ⟨_, rfl, ?_⟩
      refine xv 4 ?_
      refine ⟨_, rfl, ?_⟩
      rw [look_isSome]
      by_cases hx : x ∈ keys f
      · rw [if_pos hx] at ed
        obtain ⟨g1, l1⟩ := gd_pop O gd hx
        rw [decide_eq_true hx]
        show WSs X c _ _ _
        refine s_nil ?_
        exact ⟨m, by omega, f, st, _, _, _, rfl, ed, by omega, g1, by omega⟩
      · rw [if_neg hx] at ed
        obtain ⟨g1, l1⟩ := gd_push O gd hx
        rw [decide_eq_false hx]
        show WSs X c _ _ _
        have stl : (stepsOf s r x).length ≤ s.h.length := steps_len ws.h
        have sl : st.length ≤ 4001 := by
          unfold size at sz
          rw [List.length_cons] at sz
          omega
        refine s_cons ?_
        refine sputK 4 (kvs := kD f) (by rw [kD_len]; omega) ?_
        refine xv 7 ?_
        refine ⟨_, rfl, ?_⟩
        refine xv 6 ?_
        refine ⟨_, rfl, ?_⟩
        rw [store_new hx]
        refine s_cons ?_
        refine sset 8 ?_
        refine we_thaw ?_
        refine xcall F1 ?_
        refine a_cons ?_
        refine xv 0 ?_
        refine a_cons ?_
        refine xv 1 ?_
        refine a_cons ?_
        refine xv 2 ?_
        refine a_cons ?_
        refine xv 3 ?_
        refine a_cons ?_
        refine xv 6 ?_
        refine a_nil ?_
        refine ⟨s, r, x, rfl, ws, okx, ?_⟩
        refine ⟨_, rfl, ?_⟩
        refine ⟨_, rfl, ?_⟩
        refine s_one ?_
        refine sext 5 ?_
        refine xlc1m 9 D.int (fun a => prD (a, x)) ?_
        refine qtup ?_
        refine xrevT ?_
        refine xv 8 ?_
        refine ⟨_, rfl, ?_⟩
        refine ⟨_, rfl, ?_⟩
        refine ⟨(stepsOf s r x).reverse, by rw [List.map_reverse], by rw [List.length_reverse]; omega, fun a ha => ⟨_, rfl, fun X' hb B1 => ?_⟩, ?_⟩
        · refine n_tup ?_
          refine a_cons ?_
          refine xv 9 ?_
          refine a_cons ?_
          refine xv 6 ?_
          refine a_nil ?_
          refine ⟨[.int a, .int x], rfl, by simp, ?_⟩
          rfl
        have e2 : ((stepsOf s r x).map (fun c => (c, x)) ++ st).reverse.map prD = st.reverse.map prD ++ ((stepsOf s r x).reverse.map fun a => prD (a, x)) := by
          rw [List.reverse_append, List.map_append, ← List.map_reverse, List.map_map]
          rfl
        refine ⟨_, rfl, ?_, m, by omega, f ++ [(x, par0)], (stepsOf s r x).map (fun c => (c, x)) ++ st, some (.d (.int x)), some (.d (.int par0)), some (.d (intsD (stepsOf s r x))), ?_, ed, by omega, g1, by omega⟩
        · simp only [List.length_map, List.length_reverse]
          omega
        · rw [e2]
          rfl
  refine s_cons ?_
  refine sset 4 ?_
  refine n_dnew ?_
  refine ⟨_, rfl, ?_⟩
  refine s_cons ?_
  refine sset 5 ?_
  refine n_lst ?_
  refine a_nil ?_
  refine ⟨[], rfl, by simp, ?_⟩
  refine ⟨_, rfl, ?_⟩
  refine s_cons ?_
  refine sif ?_
  refine tle ?_
  refine xix ?_
  refine xix ?_
  refine xv 0 ?_
  refine ⟨_, rfl, ?_⟩
  refine xix ?_
  refine xv 2 ?_
  refine ⟨_, rfl, ?_⟩
  refine xi ?_
  refine ⟨_, rfl, ?_⟩
  refine ⟨_, rfl, ?_⟩
  refine ⟨_, rfl, ?_⟩
  refine ⟨_, at_h of, ?_⟩
  refine ⟨_, rfl, ?_⟩
  refine xi ?_
  refine ⟨_, rfl, ?_⟩
  refine ⟨_, rfl, ?_⟩
  refine ⟨_, rfl, ?_⟩
  refine xv 3 ?_
  refine ⟨_, rfl, ?_⟩
  refine ite_b (fun e1 => ?_) (fun e1 => ?_)
  · have hz : ([] : List D).length < 1000000 := by simp
    refine s_one ?_
    refine sapp 5 hz ?_
    refine n_tup ?_
    refine a_cons ?_
    refine xix ?_
    refine xv 2 ?_
    refine ⟨_, rfl, ?_⟩
    refine xi ?_
    refine ⟨_, rfl, ?_⟩
    refine ⟨_, rfl, ?_⟩
    refine a_cons ?_
    refine n_neg ?_
    refine xi ?_
    refine ⟨_, rfl, ?_⟩
    refine a_nil ?_
    refine ⟨[.int r.fo, .int (-1)], rfl, by simp, ?_⟩
    refine ⟨_, rfl, ?_⟩
    have := main none none none
    unfold start0 at this
    rw [if_pos (of_decide_eq_true e1)] at this
    exact this
  · refine s_nil ?_
    have := main none none none
    unfold start0 at this
    rw [if_neg (of_decide_eq_false e1)] at this
    exact this
abbrev ph_walk : Ph := fun rs p => ∃ (s : Sg) (r : Row), rs = [.d (houseD s.h), .d (bookD s.b), .d (rowD r), .d (.int s.day)] ∧ WS' s ∧ okF s.h r.fo ∧ p (.tx true ((walkOf s r).map D.int))
theorem ok_walk (M : Nm mg) (F : Fun K "walk" "walk" s_walk fa fd) (F1 : Callee P w K mg base "came_by" 5 ph_came_by) : FnOk P w K mg base CX0 6 fa fd ["house", "book", "row", "day"] (spP K ph_walk) := by
  refine fn_mk F sc_walk _ (fun rs p ⟨_, _, e, _⟩ => by rw [e]; rfl) fun X c rs p eP ew eK eM eB B ⟨s, r, er, ws, of, hp⟩ => ?_
  subst er eP ew eK eM eB
  have B' := B.toBx
  have wl := walk_len ws.h of
  have few := ws.h.few
  refine s_one (s_ret ?_)
  refine xtupleX ?_
  refine xlc1m 4 D.int D.int ?_
  refine qkeysNew ?_
  refine xcall F1 ?_
  refine a_cons ?_
  refine xv 0 ?_
  refine a_cons ?_
  refine xv 1 ?_
  refine a_cons ?_
  refine xv 2 ?_
  refine a_cons ?_
  refine xv 3 ?_
  refine a_nil ?_
  refine ⟨s, r, rfl, ws, of, ?_⟩
  refine ⟨_, rfl, ?_⟩
  refine ⟨walkOf s r, keyD_kD _, by omega, fun a ha => ⟨_, rfl, fun X' hb B1 => ?_⟩, ?_⟩
  · refine xv 4 ?_
    rfl
  · refine ⟨_, rfl, ?_⟩
    exact hp
abbrev ph_least_line : Ph := fun rs p => ∃ (s : Sg) (r : Row) (who : Int), rs = [.d (houseD s.h), .d (bookD s.b), .d (rowD r), .d (.int s.day), .d (.int who)] ∧ WS' s ∧ okF s.h r.fo ∧ who ∈ walkOf s r ∧ p (.d (intsD (lineOf s r who)))
abbrev G_least_line (s : Sg) (r : Row) (who : Int) (l : List D) : G := [some (.d (houseD s.h)), some (.d (bookD s.b)), some (.d (rowD r)), some (.d (.int s.day)), some (.d (.int who)), some (.dic (kD (cameBy s r))), some (.own l)]
theorem ok_least_line (M : Nm mg) (F : Fun K "least_line" "least_line" s_least_line fa fd) (F1 : Callee P w K mg base "came_by" 5 ph_came_by) : FnOk P w K mg base CX0 6 fa fd ["house", "book", "row", "day", "who"] (spP K ph_least_line) := by
  refine fn_mk F sc_least_line _ (fun rs p ⟨_, _, _, e, _⟩ => by rw [e]; rfl) fun X c rs p eP ew eK eM eB B ⟨s, r, who, er, ws, of, hw, hp⟩ => ?_
  subst er eP ew eK eM eB
  have B' := B.toBx
  have few := ws.h.few
  have ow := walk_okF ws.h of hw
  refine s_cons ?_
  refine sset 5 ?_
  refine xcall F1 ?_
  refine a_cons ?_
  refine xv 0 ?_
  refine a_cons ?_
  refine xv 1 ?_
  refine a_cons ?_
  refine xv 2 ?_
  refine a_cons ?_
  refine xv 3 ?_
  refine a_nil ?_
  refine ⟨s, r, rfl, ws, of, ?_⟩
  refine ⟨_, rfl, ?_⟩
  refine s_cons ?_
  refine sif ?_
  refine tninK ?_
  refine xv 4 ?_
  refine ⟨_, rfl, ?_⟩
  refine xv 5 ?_
  refine ⟨_, rfl, ?_⟩
  rw [look_isSome, decide_eq_true (show who ∈ keys (cameBy s r) from hw)]
  show WSs X c _ _ _
  refine s_nil ?_
  refine s_cons ?_
  refine sset 6 ?_
  refine n_lst ?_
  refine a_cons ?_
  refine xv 4 ?_
  refine a_nil ?_
  refine ⟨[.int who], rfl, by simp, ?_⟩
  refine ⟨_, rfl, ?_⟩
  refine s_cons (swhile (fun g1 m => ∃ l y, g1 = G_least_line s r who ((l ++ [y]).map D.int) ∧ climb (cameBy s r) s.h.length who = climb (cameBy s r) m y ++ l.reverse ∧ y ∈ walkOf s r ∧ y.toNat ≤ m ∧ l.length + m ≤ 60) s.h.length ⟨[], who, rfl, by simp, hw, ?_, by simpa using few⟩ ?_)
  · have := ow.1
    have := ow.2
    omega
  intro g1 m ⟨l, y, eg, ec, hy, ym, lm⟩
  subst eg
  have oy := walk_okF ws.h of hy
  have elast : (l ++ [y]).getLast? = some y := by simp
  refine tne ?_
  refine xixK ?_
  refine xv 5 ?_
  refine ⟨_, rfl, ?_⟩
  refine xixL ?_
  refine xv 6 ?_
  refine ⟨_, rfl, ?_⟩
  refine n_neg ?_
  refine xi ?_
  refine ⟨_, rfl, ?_⟩
  refine ⟨_, rfl, ?_⟩
  refine ⟨_, at_last elast, ?_⟩
  refine ⟨y, rfl, _, look_par hy, ?_⟩
  refine ⟨_, rfl, ?_⟩
  refine n_neg ?_
  refine xi ?_
  refine ⟨_, rfl, ?_⟩
  refine ⟨_, rfl, ?_⟩
  refine ite_b (fun e1 => ?_) (fun e1 => ?_)
  · have hne : par (cameBy s r) y ≠ -1 := by simpa using e1
    rcases walk_par ws.h of hy with ⟨_, e, _⟩ | ⟨h1, h2⟩
    · exact absurd e hne
    · have op := walk_okF ws.h of h1
      have up := (steps_ok ws.h h2).2.1
      have o1 := op.1
      have o2 := oy.1
      cases m with
      | zero => omega
      | succ m =>
        have hz : ((l ++ [y]).map D.int).length < 1000000 := by
          simp only [List.length_map, List.length_append, List.length_singleton]
          omega
        refine s_one ?_
        refine sapp 6 hz ?_
        refine xixK ?_
        refine xv 5 ?_
        refine ⟨_, rfl, ?_⟩
        refine xixL ?_
        refine xv 6 ?_
        refine ⟨_, rfl, ?_⟩
        refine n_neg ?_
        refine xi ?_
        refine ⟨_, rfl, ?_⟩
        refine ⟨_, rfl, ?_⟩
        refine ⟨_, at_last elast, ?_⟩
        refine ⟨y, rfl, _, look_par hy, ?_⟩
        refine ⟨_, rfl, m, by omega, l ++ [y], par (cameBy s r) y, ?_, ?_, h1, by omega, ?_⟩
        · rw [List.map_append (l₁ := l ++ [y])]
          rfl
        · rw [ec]
          show (if par (cameBy s r) y = -1 then [y] else climb (cameBy s r) m (par (cameBy s r) y) ++ [y]) ++ l.reverse = _
          rw [if_neg hne, List.reverse_append]
          simp
        · rw [List.length_append, List.length_singleton]
          omega
  · have he : par (cameBy s r) y = -1 := by simpa using e1
    have e2 : climb (cameBy s r) m y = [y] := by
      cases m with
      | zero => rfl
      | succ m =>
        show (if par (cameBy s r) y = -1 then [y] else climb (cameBy s r) m (par (cameBy s r) y) ++ [y]) = _
        rw [if_pos he]
    refine s_one (s_ret ?_)
    refine xtuple ?_
    refine xrev ?_
    refine xv 6 ?_
    refine ⟨_, rfl, ?_⟩
    refine ⟨_, rfl, ?_⟩
    rw [← List.map_reverse, List.reverse_append]
    have e3 : lineOf s r who = [y].reverse ++ l.reverse := by
      unfold lineOf
      rw [ec, e2]
      rfl
    rw [e3] at hp
    exact hp
end
end TW

namespace TW
open PySem PySem.Spec PyProof.Rows L2
section
variable {P : Program} {w : World} {K : Fg} {mg : Str → Option Value} {base : Heap} {fa : Addr} {fd : FuncData}
abbrev ph_lesser : Ph := fun rs p => ∃ (a b : Int), rs = [.d (.int a), .d (.int b)] ∧ p (.d (.int (lesser a b)))
theorem ok_lesser (M : Nm mg) (F : Fun K "lesser" "lesser" s_lesser fa fd) : FnOk P w K mg base CX0 1 fa fd ["one", "other"] (spP K ph_lesser) := by
  refine fn_mk F sc_lesser _ (fun rs p ⟨_, _, e, _⟩ => by rw [e]; rfl) fun X c rs p eP ew eK eM eB B ⟨a, b, er, hp⟩ => ?_
  subst er eP ew eK eM eB
  have B' := B.toBx
  unfold lesser at hp
  have no : ¬ (a = -1 ∨ (-1 < b ∧ b < a)) → WSs X c (g0 [.d (.int a), .d (.int b)] N_lesser) ((defBody s_lesser).drop 1) ⟨fun _ => p (.d .non), p, fun _ => False, fun _ => False⟩ := fun h => by
    rw [if_neg h] at hp
    refine s_one (s_ret ?_)
    refine xv 0 ?_
    exact hp
  refine s_cons ?_
  refine sif ?_
  refine t_bop ?_
  refine w_or ?_
  refine teq ?_
  refine xv 0 ?_
  refine ⟨_, rfl, ?_⟩
  refine n_neg ?_
  refine xi ?_
  refine ⟨_, rfl, ?_⟩
  refine ⟨_, rfl, ?_⟩
  refine ite_b (fun e1 => ?_) (fun e1 => ?_)
  · rw [if_pos (.inl (of_decide_eq_true e1))] at hp
    refine s_one (s_ret ?_)
    refine xv 1 ?_
    exact hp
  · refine w_or1 ?_
    refine tchlt ?_
    refine n_neg ?_
    refine xi ?_
    refine ⟨_, rfl, ?_⟩
    refine ⟨_, rfl, ?_⟩
    refine xv 1 ?_
    refine ⟨_, rfl, ?_⟩
    refine ite_p (fun e2 => ?_) (fun e2 => ?_)
    · refine xv 0 ?_
      refine ⟨_, rfl, ?_⟩
      refine ite_b (fun e3 => ?_) (fun e3 => ?_)
      · rw [if_pos (.inr ⟨e2, of_decide_eq_true e3⟩)] at hp
        refine s_one (s_ret ?_)
        refine xv 1 ?_
        exact hp
      · refine s_nil ?_
        exact no fun h => h.elim (of_decide_eq_false e1) fun h => of_decide_eq_false e3 h.2
    · simp only [Bool.false_eq_true, if_false]
      refine s_nil ?_
      exact no fun h => h.elim (of_decide_eq_false e1) fun h => e2 h.1
abbrev ph_steps_by_folk : Ph := fun rs p => ∃ (s : Sg) (r : Row), rs = [.d (houseD s.h), .d (bookD s.b), .d (rowD r), .d (.int s.day)] ∧ WS' s ∧ okF s.h r.fo ∧ p (.dct true (kS (stepsOf s r) (walkOf s r)))
theorem ok_steps_by_folk (M : Nm mg) (F : Fun K "steps_by_folk" "steps_by_folk" s_steps_by_folk fa fd) (F1 : Callee P w K mg base "walk" 6 ph_walk) (F2 : Callee P w K mg base "steps_of" 4 ph_steps_of) : FnOk P w K mg base CX0 7 fa fd ["house", "book", "row", "day"] (spP K ph_steps_by_folk) := by
  refine fn_mk F sc_steps_by_folk _ (fun rs p ⟨_, _, e, _⟩ => by rw [e]; rfl) fun X c rs p eP ew eK eM eB B ⟨s, r, er, ws, of, hp⟩ => ?_
  subst er eP ew eK eM eB
  have B' := B.toBx
  have few := ws.h.few
  have wl := walk_len ws.h of
  have wnd := walk_nodup ws.h of
  refine s_cons ?_
  refine sset 4 ?_
  refine n_dnew ?_
  refine ⟨_, rfl, ?_⟩
  refine s_cons ?_
  refine sfor1 5 D.int ?_
  refine qtup ?_
  refine we_thaw ?_
  refine xcall F1 ?_
  refine a_cons ?_
  refine xv 0 ?_
  refine a_cons ?_
  refine xv 1 ?_
  refine a_cons ?_
  refine xv 2 ?_
  refine a_cons ?_
  refine xv 3 ?_
  refine a_nil ?_
  refine ⟨s, r, rfl, ws, of, ?_⟩
  refine ⟨_, rfl, ?_⟩
  refine ⟨_, rfl, ?_⟩
  refine ⟨walkOf s r, fun pre g1 => ∃ x5, g1 = [some (.d (houseD s.h)), some (.d (bookD s.b)), some (.d (rowD r)), some (.d (.int s.day)), some (.dic (kS (stepsOf s r) pre)), x5], rfl, ⟨none, rfl⟩, ?_, ?_⟩
  · intro pre a post g1 el ⟨x5, eg⟩ c' ec
    subst eg
    have ha : a ∈ walkOf s r := by rw [el]; simp
    have hn : a ∉ pre := by
      rw [el] at wnd
      intro z
      exact (List.nodup_append.mp wnd).2.2 a z a (by simp) rfl
    have pl : pre.length ≤ (walkOf s r).length := by rw [el]; simp
    refine s_one ?_
    refine sputK 4 (kvs := kS (stepsOf s r) pre) (by rw [kS_len]; omega) ?_
    refine we_thaw ?_
    refine xcall F2 ?_
    refine a_cons ?_
    refine xv 0 ?_
    refine a_cons ?_
    refine xv 1 ?_
    refine a_cons ?_
    refine xv 2 ?_
    refine a_cons ?_
    refine xv 3 ?_
    refine a_cons ?_
    refine xv 5 ?_
    refine a_nil ?_
    refine ⟨s, r, a, rfl, ws, walk_okF ws.h of ha, ?_⟩
    refine ⟨_, rfl, ?_⟩
    refine ⟨_, rfl, ?_⟩
    refine xv 5 ?_
    refine ⟨_, rfl, ?_⟩
    rw [store_kS hn]
    exact ⟨_, rfl⟩
  · intro g1 ⟨x5, eg⟩
    subst eg
    refine s_one (sretV 4 ?_)
    exact hp
abbrev ph_degrees : Ph := fun rs p => ∃ (s : Sg) (r : Row) (who : Int), rs = [.d (houseD s.h), .d (bookD s.b), .d (rowD r), .d (.int s.day), .d (.int who)] ∧ WS' s ∧ okF s.h r.fo ∧ p (.d (intsD (degreesOf s r who)))
abbrev G_degrees (s : Sg) (r : Row) (who : Int) (acc : List Int) (x8 x9 : Option Sl) : G := [some (.d (houseD s.h)), some (.d (bookD s.b)), some (.d (rowD r)), some (.d (.int s.day)), some (.d (.int who)), some (.dic (kS (stepsOf s r) (walkOf s r))), some (.d (.int (bornOf s : Nat))), some (.own (acc.map D.int)), x8, x9, none]
theorem ok_degrees (M : Nm mg) (F : Fun K "degrees" "degrees" s_degrees fa fd) (F1 : Callee P w K mg base "steps_by_folk" 7 ph_steps_by_folk) (F2 : Callee P w K mg base "lesser" 1 ph_lesser) : FnOk P w K mg base CX0 8 fa fd ["house", "book", "row", "day", "who"] (spP K ph_degrees) := by
  refine fn_mk F sc_degrees _ (fun rs p ⟨_, _, _, e, _⟩ => by rw [e]; rfl) fun X c rs p eP ew eK eM eB B ⟨s, r, who, er, ws, of, hp⟩ => ?_
  subst er eP ew eK eM eB
  have B' := B.toBx
  have few := ws.h.few
  have wl := walk_len ws.h of
  have bl := born_le s
  have hK : ∀ a ∈ walkOf s r, lookK (kS (stepsOf s r) (walkOf s r)) a = some (intsD (stepsOf s r a)) := fun a ha => (by rw [look_kS, if_pos ha])
  refine s_cons ?_
  refine sset 5 ?_
  refine xcall F1 ?_
  refine a_cons ?_
  refine xv 0 ?_
  refine a_cons ?_
  refine xv 1 ?_
  refine a_cons ?_
  refine xv 2 ?_
  refine a_cons ?_
  refine xv 3 ?_
  refine a_nil ?_
  refine ⟨s, r, rfl, ws, of, ?_⟩
  refine ⟨_, rfl, ?_⟩
  refine s_cons ?_
  refine sset 6 ?_
  refine xlen ?_
  refine xlc1 10 folkD (fun f => decide (f.d ≤ s.day)) folkD ?_
  refine qtup ?_
  refine xv 0 ?_
  refine ⟨_, rfl, ?_⟩
  refine ⟨s.h, rfl, by omega, fun a ha => ⟨_, rfl, fun X' hb B1 => ?_, fun _ X' hb B1 => ?_⟩, ?_⟩
  · show WT _ _ _ _ _
    refine tle ?_
    refine xix ?_
    refine xv 10 ?_
    refine ⟨_, rfl, ?_⟩
    refine xi ?_
    refine ⟨_, rfl, ?_⟩
    refine ⟨_, rfl, ?_⟩
    refine ⟨_, rfl, ?_⟩
    refine xv 3 ?_
    refine ⟨_, rfl, ?_⟩
    rfl
  · refine xv 10 ?_
    rfl
  refine ⟨_, rfl, ?_⟩
  rw [List.length_map]
  refine ⟨.d (.int (bornOf s : Nat)), rfl, ?_⟩
  refine s_cons ?_
  refine sset 7 ?_
  refine n_rep ?_
  refine n_lst ?_
  refine a_cons ?_
  refine n_neg ?_
  refine xi ?_
  refine ⟨_, rfl, ?_⟩
  refine a_nil ?_
  refine ⟨[.int (-1)], rfl, by simp, ?_⟩
  refine ⟨_, _, rfl, ?_⟩
  refine xv 6 ?_
  refine ⟨bornOf s, rfl, by omega, ?_⟩
  refine ⟨_, rfl, ?_⟩
  rw [show List.replicate (bornOf s) (D.int (-1)) = (List.replicate (bornOf s) (-1)).map D.int by rw [List.map_replicate]]
  refine s_cons ?_
  refine sif ?_
  refine tninK ?_
  refine xv 4 ?_
  refine ⟨_, rfl, ?_⟩
  refine xv 5 ?_
  refine ⟨_, rfl, ?_⟩
  rw [look_kS_isSome]
  unfold degreesOf at hp
  by_cases hw : who ∈ walkOf s r
  · rw [if_pos hw] at hp
    rw [decide_eq_true hw]
    show WSs X c _ _ _
    have ow := walk_okF ws.h of hw
    have o1 := ow.1
    have wlt := walk_lt_born ws.h of hw
    have lt : ∀ {a : Int}, a ∈ walkOf s r → 0 ≤ a ∧ a < bornOf s := fun ha => ⟨(walk_okF ws.h of ha).1, walk_lt_born ws.h of ha⟩
    refine s_nil ?_
    refine s_cons ?_
    refine ssetL 7 ?_
    refine xi ?_
    refine ⟨_, rfl, ?_⟩
    refine xv 4 ?_
    refine ⟨who.toNat, (by rw [Int.toNat_of_nonneg o1]; rfl), by rw [List.length_map, List.length_replicate]; omega, ?_⟩
    rw [← List.map_set]
    have len0 : (degA s who).length = bornOf s := by simp [degA]
    -- the loop upward
    refine s_cons ?_
    refine sfor1 8 D.int ?_
    refine qnew ?_
    refine xrev ?_
    refine xsortK ?_
    refine xv 5 ?_
    refine ⟨_, rfl, by rw [kS_len]; omega, fun ns pn wn => ?_⟩
    refine ⟨_, rfl, ?_⟩
    refine ⟨_, rfl, ?_⟩
    rw [kS_keys] at pn
    have en := srtI_eq pn wn
    subst en
    refine ⟨(srtI (walkOf s r)).reverse, fun pre g1 => ∃ x8 x9, g1 = G_degrees s r who (pre.foldl (upAll (stepsOf s r)) (degA s who)) x8 x9, by rw [List.map_reverse], ⟨none, none, rfl⟩, ?_, ?_⟩
    · intro pre a post g1 el ⟨x8, x9, eg⟩ c' ec
      subst eg
      have ha : a ∈ walkOf s r := (srtI_perm _).mem_iff.mp (List.mem_reverse.mp (by rw [el]; simp))
      have la : (pre.foldl (upAll (stepsOf s r)) (degA s who)).length = bornOf s := by rw [fold_len _ (upAll_len _), len0]
      dsimp only
      rw [List.foldl_append]
      generalize pre.foldl (upAll (stepsOf s r)) (degA s who) = acc at la
      show WSs X c' _ _ ⟨fun g1 => ∃ x8 x9, g1 = G_degrees s r who ((stepsOf s r a).foldl (upOne a) acc) x8 x9, _, _, fun g1 => ∃ x8 x9, g1 = G_degrees s r who ((stepsOf s r a).foldl (upOne a) acc) x8 x9⟩
      refine s_one ?_
      refine sfor1 9 D.int ?_
      refine qtup ?_
      refine xixK ?_
      refine xv 5 ?_
      refine ⟨_, rfl, ?_⟩
      refine xv 8 ?_
      refine ⟨_, rfl, ?_⟩
      refine ⟨_, hK a ha, ?_⟩
      refine ⟨_, rfl, ?_⟩
      refine ⟨stepsOf s r a, fun pre g1 => ∃ x9, g1 = G_degrees s r who (pre.foldl (upOne a) acc) (some (.d (.int a))) x9, rfl, ⟨x9, rfl⟩, ?_, fun g1 ⟨x9, eg⟩ => ⟨_, _, eg⟩⟩
      intro pre b post g1 el2 ⟨x9, eg⟩ c2 ec2
      subst eg
      have hb := walk_closed ws.h of ha (by rw [el2]; simp : b ∈ stepsOf s r a)
      obtain ⟨a0, a1⟩ := lt ha
      obtain ⟨b0, b1⟩ := lt hb
      have lb : (pre.foldl (upOne a) acc).length = bornOf s := by rw [fold_len _ (upOne_len _), la]
      dsimp only
      rw [List.foldl_append]
      generalize pre.foldl (upOne a) acc = ac at lb
      show WSs X c2 _ _ ⟨fun g1 => ∃ x9, g1 = G_degrees s r who (upOne a ac b) (some (.d (.int a))) x9, _, _, fun g1 => ∃ x9, g1 = G_degrees s r who (upOne a ac b) (some (.d (.int a))) x9⟩
      unfold upOne
      refine s_one ?_
      refine sif ?_
      refine tne ?_
      refine xixL ?_
      refine xv 7 ?_
      refine ⟨_, rfl, ?_⟩
      refine xv 9 ?_
      refine ⟨_, rfl, ?_⟩
      refine ⟨_, at_ints b0 (by omega), ?_⟩
      refine ⟨_, rfl, ?_⟩
      refine n_neg ?_
      refine xi ?_
      refine ⟨_, rfl, ?_⟩
      refine ⟨_, rfl, ?_⟩
      refine ite_b (fun e1 => ?_) (fun e1 => ?_)
      · rw [if_pos (by simpa using e1)]
        refine s_one ?_
        refine ssetL 7 ?_
        refine xcall F2 ?_
        refine a_cons ?_
        refine xixL ?_
        refine xv 7 ?_
        refine ⟨_, rfl, ?_⟩
        refine xv 8 ?_
        refine ⟨_, rfl, ?_⟩
        refine ⟨_, at_ints a0 (by omega), ?_⟩
        refine a_cons ?_
        refine n_add ?_
        refine xixL ?_
        refine xv 7 ?_
        refine ⟨_, rfl, ?_⟩
        refine xv 9 ?_
        refine ⟨_, rfl, ?_⟩
        refine ⟨_, at_ints b0 (by omega), ?_⟩
        refine ⟨_, rfl, ?_⟩
        refine xi ?_
        refine ⟨_, rfl, ?_⟩
        refine a_nil ?_
        refine ⟨_, _, rfl, ?_⟩
        refine ⟨_, rfl, ?_⟩
        refine xv 8 ?_
        refine ⟨a.toNat, (by rw [Int.toNat_of_nonneg a0]; rfl), by rw [List.length_map]; omega, ?_⟩
        rw [← List.map_set]
        exact ⟨_, rfl⟩
      · rw [if_neg (by simpa using e1)]
        refine s_nil ?_
        exact ⟨_, rfl⟩
    intro g1 ⟨x8, x9, eg⟩
    subst eg
    have len1 : ((srtI (walkOf s r)).reverse.foldl (upAll (stepsOf s r)) (degA s who)).length = bornOf s := by rw [fold_len _ (upAll_len _), len0]
    generalize (srtI (walkOf s r)).reverse.foldl (upAll (stepsOf s r)) (degA s who) = ac1 at len1 hp
    -- the loop downward
    refine s_cons ?_
    refine sfor1 8 D.int ?_
    refine qnew ?_
    refine xsortK ?_
    refine xv 5 ?_
    refine ⟨_, rfl, by rw [kS_len]; omega, fun ns pn wn => ?_⟩
    refine ⟨_, rfl, ?_⟩
    rw [kS_keys] at pn
    have en := srtI_eq pn wn
    subst en
    refine ⟨srtI (walkOf s r), fun pre g1 => ∃ x8 x9, g1 = G_degrees s r who (pre.foldl (downAll (stepsOf s r)) ac1) x8 x9, rfl, ⟨_, _, rfl⟩, ?_, ?_⟩
    · intro pre a post g1 el ⟨x8, x9, eg⟩ c' ec
      subst eg
      have ha : a ∈ walkOf s r := (srtI_perm _).mem_iff.mp (by rw [el]; simp)
      have la : (pre.foldl (downAll (stepsOf s r)) ac1).length = bornOf s := by rw [fold_len _ (downAll_len _), len1]
      dsimp only
      rw [List.foldl_append]
      generalize pre.foldl (downAll (stepsOf s r)) ac1 = acc at la
      show WSs X c' _ _ ⟨fun g1 => ∃ x8 x9, g1 = G_degrees s r who ((stepsOf s r a).foldl (downOne a) acc) x8 x9, _, _, fun g1 => ∃ x8 x9, g1 = G_degrees s r who ((stepsOf s r a).foldl (downOne a) acc) x8 x9⟩
      refine s_one ?_
      refine sfor1 9 D.int ?_
      refine qtup ?_
      refine xixK ?_
      refine xv 5 ?_
      refine ⟨_, rfl, ?_⟩
      refine xv 8 ?_
      refine ⟨_, rfl, ?_⟩
      refine ⟨_, hK a ha, ?_⟩
      refine ⟨_, rfl, ?_⟩
      refine ⟨stepsOf s r a, fun pre g1 => ∃ x9, g1 = G_degrees s r who (pre.foldl (downOne a) acc) (some (.d (.int a))) x9, rfl, ⟨x9, rfl⟩, ?_, fun g1 ⟨x9, eg⟩ => ⟨_, _, eg⟩⟩
      intro pre b post g1 el2 ⟨x9, eg⟩ c2 ec2
      subst eg
      have hb := walk_closed ws.h of ha (by rw [el2]; simp : b ∈ stepsOf s r a)
      obtain ⟨a0, a1⟩ := lt ha
      obtain ⟨b0, b1⟩ := lt hb
      have lb : (pre.foldl (downOne a) acc).length = bornOf s := by rw [fold_len _ (downOne_len _), la]
      dsimp only
      rw [List.foldl_append]
      generalize pre.foldl (downOne a) acc = ac at lb
      show WSs X c2 _ _ ⟨fun g1 => ∃ x9, g1 = G_degrees s r who (downOne a ac b) (some (.d (.int a))) x9, _, _, fun g1 => ∃ x9, g1 = G_degrees s r who (downOne a ac b) (some (.d (.int a))) x9⟩
      unfold downOne
      refine s_one ?_
      refine sif ?_
      refine tne ?_
      refine xixL ?_
      refine xv 7 ?_
      refine ⟨_, rfl, ?_⟩
      refine xv 8 ?_
      refine ⟨_, rfl, ?_⟩
      refine ⟨_, at_ints a0 (by omega), ?_⟩
      refine ⟨_, rfl, ?_⟩
      refine n_neg ?_
      refine xi ?_
      refine ⟨_, rfl, ?_⟩
      refine ⟨_, rfl, ?_⟩
      refine ite_b (fun e1 => ?_) (fun e1 => ?_)
      · rw [if_pos (by simpa using e1)]
        refine s_one ?_
        refine ssetL 7 ?_
        refine xcall F2 ?_
        refine a_cons ?_
        refine xixL ?_
        refine xv 7 ?_
        refine ⟨_, rfl, ?_⟩
        refine xv 9 ?_
        refine ⟨_, rfl, ?_⟩
        refine ⟨_, at_ints b0 (by omega), ?_⟩
        refine a_cons ?_
        refine n_add ?_
        refine xixL ?_
        refine xv 7 ?_
        refine ⟨_, rfl, ?_⟩
        refine xv 8 ?_
        refine ⟨_, rfl, ?_⟩
        refine ⟨_, at_ints a0 (by omega), ?_⟩
        refine ⟨_, rfl, ?_⟩
        refine xi ?_
        refine ⟨_, rfl, ?_⟩
        refine a_nil ?_
        refine ⟨_, _, rfl, ?_⟩
        refine ⟨_, rfl, ?_⟩
        refine xv 9 ?_
        refine ⟨b.toNat, (by rw [Int.toNat_of_nonneg b0]; rfl), by rw [List.length_map]; omega, ?_⟩
        rw [← List.map_set]
        exact ⟨_, rfl⟩
      · rw [if_neg (by simpa using e1)]
        refine s_nil ?_
        exact ⟨_, rfl⟩
    intro g1 ⟨x8, x9, eg⟩
    subst eg
    refine s_one (s_ret ?_)
    refine xtuple ?_
    refine xv 7 ?_
    refine ⟨_, rfl, ?_⟩
    exact hp
  · rw [if_neg hw] at hp
    rw [decide_eq_false hw]
    show WSs X c _ _ _
    refine s_one (s_ret ?_)
    refine xtuple ?_
    refine xv 7 ?_
    refine ⟨_, rfl, ?_⟩
    exact hp
end
end TW

namespace TW
open PySem PySem.Spec PyProof.Rows L2
section
variable {P : Program} {w : World} {K : Fg} {mg : Str → Option Value} {base : Heap} {fa : Addr} {fd : FuncData}
abbrev ph_farness : Ph := fun rs p => ∃ (a : Int), rs = [.d (.int a)] ∧ p (.d (.int (far a)))
theorem ok_farness {t : Tok} (M : Nm mg) (hF : mg "FAR" = some (.int 1000 t)) (F : Fun K "farness" "farness" s_farness fa fd) : FnOk P w K mg base CX0 1 fa fd ["degree"] (spP K ph_farness) := by
  refine fn_mk F sc_farness _ (fun rs p ⟨_, e, _⟩ => by rw [e]; rfl) fun X c rs p eP ew eK eM eB B ⟨a, er, hp⟩ => ?_
  subst er eP ew eK eM eB
  have B' := B.toBx
  unfold far at hp
  refine s_cons ?_
  refine sif ?_
  refine teq ?_
  refine xv 0 ?_
  refine ⟨_, rfl, ?_⟩
  refine n_neg ?_
  refine xi ?_
  refine ⟨_, rfl, ?_⟩
  refine ⟨_, rfl, ?_⟩
  refine ite_b (fun e1 => ?_) (fun e1 => ?_)
  · rw [if_pos (of_decide_eq_true e1)] at hp
    refine s_one ?_
    refine s_ret ?_
    refine n_globI B' (by decide +kernel) hF ?_
    exact hp
  · rw [if_neg (of_decide_eq_false e1)] at hp
    refine s_nil ?_
    refine s_one (s_ret ?_)
    refine xv 0 ?_
    exact hp
abbrev ph_order_of_row : Ph := fun rs p => ∃ (s : Sg) (r : Row) (last : Int), rs = [.d (houseD s.h), .d (bookD s.b), .d (rowD r), .d (.int s.day), .d (.int last)] ∧ WS' s ∧ okF s.h r.fo ∧ p (.lst true ((rowOrder s r last).map D.int))
theorem ok_order_of_row (M : Nm mg) (F : Fun K "order_of_row" "order_of_row" s_order_of_row fa fd) (F1 : Callee P w K mg base "walk" 6 ph_walk) (F2 : Callee P w K mg base "is_fit" 4 ph_is_fit) (F3 : Callee P w K mg base "degrees" 8 ph_degrees) (F4 : Callee P w K mg base "farness" 1 ph_farness) : FnOk P w K mg base CX0 9 fa fd ["house", "book", "row", "day", "last"] (spP K ph_order_of_row) := by
  refine fn_mk F sc_order_of_row _ (fun rs p ⟨_, _, _, e, _⟩ => by rw [e]; rfl) fun X c rs p eP ew eK eM eB B ⟨s, r, last, er, ws, of, hp⟩ => ?_
  subst er eP ew eK eM eB
  have B' := B.toBx
  have few := ws.h.few
  have wl := walk_len ws.h of
  have sl := standing_len ws.h of
  have dl := degrees_len s r last
  unfold rowOrder at hp
  refine s_cons ?_
  refine sset 5 ?_
  refine we_thaw ?_
  refine xcall F1 ?_
  refine a_cons ?_
  refine xv 0 ?_
  refine a_cons ?_
  refine xv 1 ?_
  refine a_cons ?_
  refine xv 2 ?_
  refine a_cons ?_
  refine xv 3 ?_
  refine a_nil ?_
  refine ⟨s, r, rfl, ws, of, ?_⟩
  refine ⟨_, rfl, ?_⟩
  refine ⟨_, rfl, ?_⟩
  refine s_cons ?_
  refine slc1 6 8 D.int (isFit s r) D.int ?_
  refine qtup ?_
  refine xv 5 ?_
  refine ⟨_, rfl, ?_⟩
  refine ⟨walkOf s r, rfl, by omega, fun a ha => ⟨_, rfl, fun X' hb B1 => ?_, fun _ X' hb B1 => ?_⟩, ?_⟩
  · show WT _ _ _ _ _
    refine t_val ?_
    refine xcall (hb.callee F2) ?_
    refine a_cons ?_
    refine xv 0 ?_
    refine a_cons ?_
    refine xv 1 ?_
    refine a_cons ?_
    refine xv 2 ?_
    refine a_cons ?_
    refine xv 3 ?_
    refine a_cons ?_
    refine xv 8 ?_
    refine a_nil ?_
    refine ⟨s, r, a, rfl, ws, walk_okF ws.h of ha, ?_⟩
    refine ⟨_, rfl, ?_⟩
    rfl
  · refine xv 8 ?_
    rfl
  show WSs X c _ _ _
  rw [show (walkOf s r).filter (isFit s r) = standing s r from rfl]
  refine s_cons ?_
  refine sif ?_
  refine teqS ?_
  refine xix ?_
  refine xv 2 ?_
  refine ⟨_, rfl, ?_⟩
  refine xi ?_
  refine ⟨_, rfl, ?_⟩
  refine ⟨_, rfl, ?_⟩
  refine ⟨_, rfl, ?_⟩
  refine xs ?_
  refine ⟨_, rfl, ?_⟩
  refine ite_b (fun e1 => ?_) (fun e1 => ?_)
  · rw [if_pos (of_decide_eq_true e1)] at hp
    refine s_one ?_
    refine s_ret ?_
    refine xsortI ?_
    refine xv 6 ?_
    refine ⟨standing s r, rfl, fun ns pn wn => ?_⟩
    rw [srtI_eq pn wn]
    exact hp
  rw [if_neg (of_decide_eq_false e1)] at hp
  refine s_nil ?_
  refine s_cons ?_
  refine sif ?_
  refine teqS ?_
  refine xix ?_
  refine xv 2 ?_
  refine ⟨_, rfl, ?_⟩
  refine xi ?_
  refine ⟨_, rfl, ?_⟩
  refine ⟨_, rfl, ?_⟩
  refine ⟨_, rfl, ?_⟩
  refine xs ?_
  refine ⟨_, rfl, ?_⟩
  refine ite_b (fun e2 => ?_) (fun e2 => ?_)
  · rw [if_pos (of_decide_eq_true e2)] at hp
    refine s_cons ?_
    refine sset 7 ?_
    refine xcall F3 ?_
    refine a_cons ?_
    refine xv 0 ?_
    refine a_cons ?_
    refine xv 1 ?_
    refine a_cons ?_
    refine xv 2 ?_
    refine a_cons ?_
    refine xv 3 ?_
    refine a_cons ?_
    refine xv 4 ?_
    refine a_nil ?_
    refine ⟨s, r, last, rfl, ws, of, ?_⟩
    refine ⟨_, rfl, ?_⟩
    refine s_one ?_
    refine s_ret ?_
    refine xlc2m 9 8 (fun u : Int × Int => .int u.1) (fun u => .int u.2) (fun u => .int u.2) ?_
    refine qlst ?_
    refine xsortP ?_
    refine xlc1m 8 D.int (fun x => prD (nearP s r last x)) ?_
    refine qlst ?_
    refine xv 6 ?_
    refine ⟨_, rfl, ?_⟩
    refine ⟨standing s r, rfl, by omega, fun a ha => ⟨_, rfl, fun X' hb B1 => ?_⟩, ?_⟩
    · have hw := (standing_mem.mp ha).1
      have h0 := (walk_okF ws.h of hw).1
      have h1 := walk_lt_born ws.h of hw
      refine n_tup ?_
      refine a_cons ?_
      refine xcall (hb.callee F4) ?_
      refine a_cons ?_
      refine xix ?_
      refine xv 7 ?_
      refine ⟨_, rfl, ?_⟩
      refine xv 8 ?_
      refine ⟨_, rfl, ?_⟩
      refine ⟨_, at_ints h0 (by omega), ?_⟩
      refine a_nil ?_
      refine ⟨_, rfl, ?_⟩
      refine a_cons ?_
      refine xv 8 ?_
      refine a_nil ?_
      refine ⟨[.int (far (gI (degreesOf s r last) a)), .int a], rfl, by simp, ?_⟩
      rfl
    refine ⟨(standing s r).map (nearP s r last), by rw [List.map_map]; rfl, fun us pu wu => ?_⟩
    rw [srtP_eq pu wu]
    refine ⟨_, rfl, srtP ((standing s r).map (nearP s r last)), rfl, ?_, fun u hu => ⟨_, _, rfl, rfl, fun X' hb B1 => ?_⟩, ?_⟩
    · rw [(srtP_perm _).length_eq, List.length_map]
      omega
    · refine xv 8 ?_
      rfl
    · rw [List.map_map] at hp
      exact hp
  · rw [if_neg (of_decide_eq_false e2)] at hp
    refine s_nil ?_
    refine s_one (sretV 6 ?_)
    exact hp
abbrev ph_order_of : Ph := fun rs p => ∃ (s : Sg) (rule : List Row) (last : Int), rs = [.d (houseD s.h), .d (bookD s.b), .d (ruleD rule), .d (.int s.day), .d (.int last)] ∧ WS' s ∧ RuleOk s rule ∧ p (.d (intsD (orderOf s rule last)))
abbrev G_order_of (s : Sg) (rule : List Row) (last : Int) (acc : List D) (x6 x7 : Option Sl) : G := [some (.d (houseD s.h)), some (.d (bookD s.b)), some (.d (ruleD rule)), some (.d (.int s.day)), some (.d (.int last)), some (.own acc), x6, x7]
theorem ok_order_of (M : Nm mg) (F : Fun K "order_of" "order_of" s_order_of fa fd) (F1 : Callee P w K mg base "order_of_row" 9 ph_order_of_row) : FnOk P w K mg base CX0 10 fa fd ["house", "book", "rule", "day", "last"] (spP K ph_order_of) := by
  refine fn_mk F sc_order_of _ (fun rs p ⟨_, _, _, e, _⟩ => by rw [e]; rfl) fun X c rs p eP ew eK eM eB B ⟨s, rule, last, er, ws, ro, hp⟩ => ?_
  subst er eP ew eK eM eB
  have B' := B.toBx
  have rl := ro.len
  refine s_cons ?_
  refine sset 5 ?_
  refine n_lst ?_
  refine a_nil ?_
  refine ⟨[], rfl, by simp, ?_⟩
  refine ⟨_, rfl, ?_⟩
  refine s_cons ?_
  refine sfor1 6 rowD ?_
  refine qtup ?_
  refine xv 2 ?_
  refine ⟨_, rfl, ?_⟩
  refine ⟨rule, fun pre g1 => ∃ x6 x7, g1 = G_order_of s rule last ((pre.foldl (fun acc r => (rowOrder s r last).foldl addNew acc) []).map D.int) x6 x7, rfl, ⟨none, none, rfl⟩, ?_, ?_⟩
  · intro pre r post g1 el ⟨x6, x7, eg⟩ c' ec
    subst eg
    have hr : r ∈ rule := by rw [el]; simp
    have of := ro.fo r hr
    have ol := order_len ws.h last pre [] fun q hq => ro.fo q (by rw [el]; simp [hq])
    have pl : pre.length ≤ rule.length := by rw [el]; simp
    have sl := standing_len ws.h of
    have rol := rowOrder_len s r last
    dsimp only
    rw [List.foldl_append]
    generalize pre.foldl (fun acc r => (rowOrder s r last).foldl addNew acc) [] = acc at ol
    rw [List.length_nil] at ol
    show WSs X c' _ _ ⟨fun g1 => ∃ x6 x7, g1 = G_order_of s rule last (((rowOrder s r last).foldl addNew acc).map D.int) x6 x7, _, _, fun g1 => ∃ x6 x7, g1 = G_order_of s rule last (((rowOrder s r last).foldl addNew acc).map D.int) x6 x7⟩
    refine s_one ?_
    refine sfor1 7 D.int ?_
    refine qnew ?_
    refine xcall F1 ?_
    refine a_cons ?_
    refine xv 0 ?_
    refine a_cons ?_
    refine xv 1 ?_
    refine a_cons ?_
    refine xv 6 ?_
    refine a_cons ?_
    refine xv 3 ?_
    refine a_cons ?_
    refine xv 4 ?_
    refine a_nil ?_
    refine ⟨s, r, last, rfl, ws, of, ?_⟩
    refine ⟨_, rfl, ?_⟩
    refine ⟨rowOrder s r last, fun pre g1 => ∃ x7, g1 = G_order_of s rule last ((pre.foldl addNew acc).map D.int) (some (.d (rowD r))) x7, rfl, ⟨_, rfl⟩, ?_, fun g1 ⟨x7, eg⟩ => ⟨_, _, eg⟩⟩
    intro pre a post g1 el2 ⟨x7, eg⟩ c2 ec2
    subst eg
    have al := fold_addNew_len pre acc
    have pl2 : pre.length ≤ (rowOrder s r last).length := by rw [el2]; simp
    dsimp only
    rw [List.foldl_append]
    generalize pre.foldl addNew acc = ac at al
    show WSs X c2 _ _ ⟨fun g1 => ∃ x7, g1 = G_order_of s rule last ((addNew ac a).map D.int) (some (.d (rowD r))) x7, _, _, fun g1 => ∃ x7, g1 = G_order_of s rule last ((addNew ac a).map D.int) (some (.d (rowD r))) x7⟩
    unfold addNew
    refine s_one ?_
    refine sif ?_
    refine tnin ?_
    refine xv 7 ?_
    refine ⟨_, rfl, ?_⟩
    refine xv 5 ?_
    refine ⟨ac, rfl, ?_⟩
    refine ite_b (fun e1 => ?_) (fun e1 => ?_)
    · rw [if_neg (by simpa using e1)]
      have hz : (ac.map D.int).length < 1000000 := by
        rw [List.length_map]
        omega
      refine s_one ?_
      refine sapp 5 hz ?_
      refine xv 7 ?_
      refine ⟨_, rfl, ?_⟩
      rw [List.map_append]
      exact ⟨_, rfl⟩
    · rw [if_pos (by simpa using e1)]
      refine s_nil ?_
      exact ⟨_, rfl⟩
  · intro g1 ⟨x6, x7, eg⟩
    subst eg
    refine s_one (s_ret ?_)
    refine xtuple ?_
    refine xv 5 ?_
    refine ⟨_, rfl, ?_⟩
    exact hp
abbrev ph_first_of : Ph := fun rs p => ∃ (s : Sg) (rule : List Row) (last : Int), rs = [.d (houseD s.h), .d (bookD s.b), .d (ruleD rule), .d (.int s.day), .d (.int last)] ∧ WS' s ∧ RuleOk s rule ∧ p (.d (.int (firstIn (orderOf s rule last))))
theorem ok_first_of (M : Nm mg) (F : Fun K "first_of" "first_of" s_first_of fa fd) (F1 : Callee P w K mg base "order_of" 10 ph_order_of) : FnOk P w K mg base CX0 11 fa fd ["house", "book", "rule", "day", "last"] (spP K ph_first_of) := by
  refine fn_mk F sc_first_of _ (fun rs p ⟨_, _, _, e, _⟩ => by rw [e]; rfl) fun X c rs p eP ew eK eM eB B ⟨s, rule, last, er, ws, ro, hp⟩ => ?_
  subst er eP ew eK eM eB
  have B' := B.toBx
  refine s_cons ?_
  refine sset 5 ?_
  refine xcall F1 ?_
  refine a_cons ?_
  refine xv 0 ?_
  refine a_cons ?_
  refine xv 1 ?_
  refine a_cons ?_
  refine xv 2 ?_
  refine a_cons ?_
  refine xv 3 ?_
  refine a_cons ?_
  refine xv 4 ?_
  refine a_nil ?_
  refine ⟨s, rule, last, rfl, ws, ro, ?_⟩
  refine ⟨_, rfl, ?_⟩
  refine s_cons ?_
  refine sif ?_
  refine teqT0 ?_
  refine xv 5 ?_
  refine ⟨_, rfl, ?_⟩
  refine n_tup ?_
  refine a_nil ?_
  refine ⟨[], rfl, by simp, rfl, fit_mono (fit_tup (n := 0) (fit_ints _)) (by omega), ?_⟩
  rw [isEmpty_map]
  cases ho : orderOf s rule last with
  | nil =>
    rw [ho] at hp
    show WSs X c _ _ _
    refine s_one ?_
    refine s_ret ?_
    refine n_neg ?_
    refine xi ?_
    refine ⟨_, rfl, ?_⟩
    exact hp
  | cons x l =>
    rw [ho] at hp
    show WSs X c _ _ _
    refine s_nil ?_
    refine s_one (s_ret ?_)
    refine xix ?_
    refine xv 5 ?_
    refine ⟨_, rfl, ?_⟩
    refine xi ?_
    refine ⟨_, rfl, ?_⟩
    exact ⟨.int x, at_map (f := D.int) (l := x :: l) (n := 0) rfl, hp⟩
end
end TW

namespace TW
open PySem PySem.Spec PyProof.Rows L2
section
variable {P : Program} {w : World} {K : Fg} {mg : Str → Option Value} {base : Heap} {fa : Addr} {fd : FuncData}
abbrev ph_are_pairs : Ph := fun rs p => ∃ (h : List Folk) (d : D), rs = [.d (houseD h), .d d] ∧ FT d ∧ ∀ b : Bool, (b = true ↔ ∃ ps : Kv, d = .tup (ps.map prD) ∧ ArePairs h ps) → p (.d (.bl b))
theorem len2 {ds : List D} (h : ds.length = 2) : ∃ a b, ds = [a, b] := by
  match ds, h with
  | [a, b], _ => exact ⟨a, b, rfl⟩
theorem ok_are_pairs (M : Nm mg) (F : Fun K "are_pairs" "are_pairs" s_are_pairs fa fd) (F1 : Callee P w K mg base "is_folk" 3 ph_is_folk) (F2 : Callee P w K mg base "is_number" 1 ph_is_number) : FnOk P w K mg base CX0 4 fa fd ["house", "thing"] (spP K ph_are_pairs) := by
  refine fn_mk F sc_are_pairs _ (fun rs p ⟨_, _, e, _⟩ => by rw [e]; rfl) fun X c rs p eP ew eK eM eB B ⟨h, d, er, ft, hp⟩ => ?_
  subst er eP ew eK eM eB
  have B' := B.toBx
  refine s_cons ?_
  refine sif ?_
  refine t_not ?_
  refine t_val ?_
  refine xisTup ?_
  refine xv 1 ?_
  refine ⟨_, rfl, ?_⟩
  refine ⟨_, rfl, ?_⟩
  refine ite_b (fun e1 => ?_) (fun e1 => ?_)
  · refine s_one ?_
    refine s_ret ?_
    refine xb ?_
    refine hp _ ⟨fun q => (by cases q), fun ⟨ps, e, _⟩ => ?_⟩
    subst e
    cases e1
  obtain ⟨ds, rfl⟩ := isTup_cases (by simpa using e1)
  refine s_nil ?_
  refine s_cons ?_
  refine sset 2 ?_
  refine n_neg ?_
  refine xi ?_
  refine ⟨_, rfl, ?_⟩
  refine ⟨_, rfl, ?_⟩
  refine s_cons ?_
  refine sfor1 3 (fun d => d) ?_
  refine qtup ?_
  refine xv 1 ?_
  refine ⟨_, rfl, ?_⟩
  refine ⟨ds, fun pre g1 => ∃ (ps : Kv) (lst : Int) (x3 : Option Sl), g1 = [some (.d (houseD h)), some (.d (.tup ds)), some (.d (.int lst)), x3] ∧ pre = ps.map prD ∧ ArePairs h ps ∧ (∀ x ∈ keys ps, x ≤ lst) ∧ (lst = -1 ∨ lst ∈ keys ps), by simp, ⟨[], -1, none, rfl, rfl, ⟨by simp, by simp⟩, by simp, .inl rfl⟩, ?_, ?_⟩
  · intro pre a post g1 el ⟨ps, lst, x3, eg, ep, ap, le, lm⟩ c' ec
    subst eg ep
    -- if all were well, a would be a pair that goes on
    have must : ∀ qs : Kv, D.tup ds = .tup (qs.map prD) → ArePairs h qs → ∃ u, a = prD u ∧ okF h u.1 ∧ ∀ x ∈ keys ps, x < u.1 := fun qs e aq => by
      have e2 : ps.map prD ++ a :: post = qs.map prD := by
        rw [← el]
        exact D.tup.inj e
      obtain ⟨q1, q2, rfl, e3, e4⟩ := List.append_eq_map_iff.mp e2
      obtain ⟨u, q3, rfl, e5, e6⟩ := List.map_eq_cons_iff.mp e4
      have e7 := map_prD_inj e3
      subst e7
      refine ⟨u, e5.symm, aq.ok _ (by simp [keys]), fun x hx => ?_⟩
      have pw := aq.pw
      unfold keys at pw
      rw [List.map_append, List.map_cons] at pw
      exact (List.pairwise_append.mp pw).2.2 x hx u.1 List.mem_cons_self
    have fta : FT a := ft.un (by rw [el]; simp)
    have no : (∀ u, a = prD u → okF h u.1 → False) → p (.d (.bl false)) := fun hn => hp _ ⟨fun q => (by cases q), fun ⟨qs, e, aq⟩ => by
      obtain ⟨u, e1, e2, _⟩ := must qs e aq
      exact (hn u e1 e2).elim⟩
    refine s_cons ?_
    refine sif ?_
    refine t_bop ?_
    refine w_or ?_
    refine t_not ?_
    refine t_val ?_
    refine xisTup ?_
    refine xv 3 ?_
    refine ⟨_, rfl, ?_⟩
    refine ⟨_, rfl, ?_⟩
    refine ite_b (fun e2 => ?_) (fun e2 => ?_)
    · refine s_one ?_
      refine s_ret ?_
      refine xb ?_
      refine no fun u eu _ => ?_
      subst eu
      cases e2
    obtain ⟨es, rfl⟩ := isTup_cases (by simpa using e2)
    refine w_or ?_
    refine tne ?_
    refine xlen ?_
    refine xv 3 ?_
    refine ⟨es, rfl, ?_⟩
    refine ⟨_, rfl, ?_⟩
    refine xi ?_
    refine ⟨_, rfl, ?_⟩
    refine ite_b (fun e3 => ?_) (fun e3 => ?_)
    · refine s_one ?_
      refine s_ret ?_
      refine xb ?_
      refine no fun u eu _ => ?_
      cases eu
      simp at e3
    have e3' : es.length = 2 := by
      have : ((es.length : Nat) : Int) = 2 := by simpa using e3
      omega
    obtain ⟨a1, a2, rfl⟩ := len2 e3'
    refine w_or ?_
    refine t_not ?_
    refine t_val ?_
    refine xcall F1 ?_
    refine a_cons ?_
    refine xv 0 ?_
    refine a_cons ?_
    refine xix ?_
    refine xv 3 ?_
    refine ⟨_, rfl, ?_⟩
    refine xi ?_
    refine ⟨_, rfl, ?_⟩
    refine ⟨_, rfl, ?_⟩
    refine a_nil ?_
    refine ⟨_, _, rfl, ?_⟩
    refine ⟨_, rfl, ?_⟩
    refine ite_b (fun e4 => ?_) (fun e4 => ?_)
    · refine s_one ?_
      refine s_ret ?_
      refine xb ?_
      refine no fun u eu ou => ?_
      cases eu
      have : folkB h (.int u.1) = true := decide_eq_true ou
      rw [this] at e4
      cases e4
    refine w_or1 ?_
    refine t_not ?_
    refine t_val ?_
    refine xcall F2 ?_
    refine a_cons ?_
    refine xix ?_
    refine xv 3 ?_
    refine ⟨_, rfl, ?_⟩
    refine xi ?_
    refine ⟨_, rfl, ?_⟩
    refine ⟨_, rfl, ?_⟩
    refine a_nil ?_
    refine ⟨_, rfl, ?_⟩
    refine ⟨_, rfl, ?_⟩
    refine ite_b (fun e5 => ?_) (fun e5 => ?_)
    · refine s_one ?_
      refine s_ret ?_
      refine xb ?_
      refine no fun u eu ou => ?_
      cases eu
      cases e5
    obtain ⟨i, rfl⟩ : ∃ i, a1 = .int i := by
      cases a1 with
      | int i => exact ⟨i, rfl⟩
      | _ => simp [folkB] at e4
    obtain ⟨j, rfl⟩ : ∃ j, a2 = .int j := by
      cases a2 with
      | int j => exact ⟨j, rfl⟩
      | _ => simp [numB] at e5
    have oi : okF h i := by simpa [folkB] using e4
    have oi1 := oi.1
    refine s_nil ?_
    refine s_cons ?_
    refine sif ?_
    refine tle ?_
    refine xix ?_
    refine xv 3 ?_
    refine ⟨_, rfl, ?_⟩
    refine xi ?_
    refine ⟨_, rfl, ?_⟩
    refine ⟨_, rfl, ?_⟩
    refine ⟨_, rfl, ?_⟩
    refine xv 2 ?_
    refine ⟨_, rfl, ?_⟩
    refine ite_b (fun e6 => ?_) (fun e6 => ?_)
    · refine s_one ?_
      refine s_ret ?_
      refine xb ?_
      have e6' := of_decide_eq_true e6
      refine hp _ ⟨fun q => (by cases q), fun ⟨qs, e, aq⟩ => ?_⟩
      obtain ⟨u, eu, _, hlt⟩ := must qs e aq
      cases eu
      rcases lm with z | z
      · omega
      · have := hlt lst z
        omega
    have e6' := of_decide_eq_false e6
    refine s_nil ?_
    refine s_one ?_
    refine sset 2 ?_
    refine xix ?_
    refine xv 3 ?_
    refine ⟨_, rfl, ?_⟩
    refine xi ?_
    refine ⟨_, rfl, ?_⟩
    refine ⟨_, rfl, ?_⟩
    refine ⟨_, rfl, ?_⟩
    refine ⟨ps ++ [(i, j)], i, _, rfl, ?_, ⟨fun x hx => ?_, ?_⟩, fun x hx => ?_, .inr ?_⟩
    · rw [List.map_append]
      rfl
    · rw [keys_snoc] at hx
      rcases List.mem_append.mp hx with z | z
      · exact ap.ok x z
      · rw [List.mem_singleton.mp z]
        exact oi
    · rw [keys_snoc]
      refine List.pairwise_append.mpr ⟨ap.pw, by simp, fun x hx y hy => ?_⟩
      rw [List.mem_singleton.mp hy]
      have := le x hx
      show x < i
      omega
    · rw [keys_snoc] at hx
      rcases List.mem_append.mp hx with z | z
      · have := le x z
        omega
      · rw [List.mem_singleton.mp z]
        exact Int.le_refl _
    · rw [keys_snoc]
      simp
  · intro g1 ⟨ps, lst, x3, eg, ep, ap, _⟩
    subst eg
    refine s_one (s_ret ?_)
    refine xb ?_
    exact hp _ ⟨fun _ => ⟨ps, by rw [ep], ap⟩, fun _ => rfl⟩
theorem hu65 {X : Cx} {N : List Str} {sc : Scope} {k : Nat} (B : Bx X N sc k) : X.A.units + 65 < cLine := by
  have := B.room.un
  omega
theorem fit_prs2 {l : List (Int × Int)} : D.fit 64 (.tup (l.map prD)) := fit_mono (fit_tup (n := 1) fun d h => by
  obtain ⟨i, _, rfl⟩ := List.mem_map.mp h
  exact fit_pr i) (by omega)
abbrev ph_right_reach : Ph := fun rs p => ∃ (s : Sg) (r : Row) (d : D), rs = [.d (houseD s.h), .d (bookD s.b), .d (rowD r), .d (.int s.day), .d d] ∧ WS' s ∧ okF s.h r.fo ∧ FT d ∧ ∀ b : Bool, (b = true ↔ IsReach s r d) → p (.d (.bl b))
theorem ok_right_reach (M : Nm mg) (F : Fun K "right_reach" "right_reach" s_right_reach fa fd) (F1 : Callee P w K mg base "are_pairs" 4 ph_are_pairs) (F2 : Callee P w K mg base "steps_of" 4 ph_steps_of) : FnOk P w K mg base CX0 5 fa fd ["house", "book", "row", "day", "thing"] (spP K ph_right_reach) := by
  refine fn_mk F sc_right_reach _ (fun rs p ⟨_, _, _, e, _⟩ => by rw [e]; rfl) fun X c rs p eP ew eK eM eB B ⟨s, r, d, er, ws, of, ft, hp⟩ => ?_
  subst er eP ew eK eM eB
  have B' := B.toBx
  have few := ws.h.few
  refine s_cons ?_
  refine sif ?_
  refine t_not ?_
  refine t_val ?_
  refine xcall F1 ?_
  refine a_cons ?_
  refine xv 0 ?_
  refine a_cons ?_
  refine xv 4 ?_
  refine a_nil ?_
  refine ⟨s.h, d, rfl, ft, fun b hb => ?_⟩
  refine ⟨_, rfl, ?_⟩
  refine ite_b (fun e1 => ?_) (fun e1 => ?_)
  · refine s_one ?_
    refine s_ret ?_
    refine xb ?_
    refine hp _ ⟨fun q => (by cases q), fun ⟨ps, e, R⟩ => ?_⟩
    rw [hb.mpr ⟨ps, e, R.pairs⟩] at e1
    cases e1
  obtain ⟨ps, rfl, ap⟩ := hb.mp (by simpa using e1)
  have fal : ¬ RReach s r ps → p (.d (.bl false)) := fun hn => hp _ ⟨fun q => (by cases q), fun ⟨qs, e, R⟩ => by
    cases map_prD_inj (D.tup.inj e)
    exact (hn R).elim⟩
  have knd : (keys ps).Nodup := ap.pw.imp fun h => Int.ne_of_lt h
  have kl : ps.length ≤ 60 := Nat.le_trans (keys_len knd ap.ok) few
  refine s_nil ?_
  refine s_cons ?_
  refine sif ?_
  refine tgt ?_
  refine xix ?_
  refine xix ?_
  refine xv 0 ?_
  refine ⟨_, rfl, ?_⟩
  refine xix ?_
  refine xv 2 ?_
  refine ⟨_, rfl, ?_⟩
  refine xi ?_
  refine ⟨_, rfl, ?_⟩
  refine ⟨_, rfl, ?_⟩
  refine ⟨_, rfl, ?_⟩
  refine ⟨_, at_h of, ?_⟩
  refine ⟨_, rfl, ?_⟩
  refine xi ?_
  refine ⟨_, rfl, ?_⟩
  refine ⟨_, rfl, ?_⟩
  refine ⟨_, rfl, ?_⟩
  refine xv 3 ?_
  refine ⟨_, rfl, ?_⟩
  refine ite_b (fun e2 => ?_) (fun e2 => ?_)
  · have dead : Dead s r := by
      unfold Dead
      exact of_decide_eq_true e2
    refine s_one ?_
    refine s_ret ?_
    refine xeqT0 ?_
    refine xv 4 ?_
    refine ⟨_, rfl, ?_⟩
    refine n_tup ?_
    refine a_nil ?_
    refine ⟨[], rfl, by simp, rfl, fit_prs2, ?_⟩
    refine hp _ ⟨fun q => ?_, fun ⟨qs, e, R⟩ => ?_⟩
    · rw [isEmpty_map, List.isEmpty_iff] at q
      subst q
      exact ⟨[], rfl, ap, fun _ => rfl, fun h => absurd dead h, fun h => absurd dead h, fun h => absurd dead h⟩
    · cases map_prD_inj (D.tup.inj e)
      rw [R.dead dead]
      rfl
  have dead : ¬ Dead s r := by
    unfold Dead
    exact of_decide_eq_false e2
  refine s_nil ?_
  refine s_cons ?_
  refine sif ?_
  refine tninP (hu65 B') ?_
  refine n_tup ?_
  refine a_cons ?_
  refine xix ?_
  refine xv 2 ?_
  refine ⟨_, rfl, ?_⟩
  refine xi ?_
  refine ⟨_, rfl, ?_⟩
  refine ⟨_, rfl, ?_⟩
  refine a_cons ?_
  refine n_neg ?_
  refine xi ?_
  refine ⟨_, rfl, ?_⟩
  refine a_nil ?_
  refine ⟨[.int r.fo, .int (-1)], rfl, by simp, (r.fo, -1), rfl, ?_⟩
  refine xv 4 ?_
  refine ⟨ps, rfl, ?_⟩
  refine ite_b (fun e3 => ?_) (fun e3 => ?_)
  · refine s_one ?_
    refine s_ret ?_
    refine xb ?_
    refine fal fun R => ?_
    have := R.fo dead
    simp [this] at e3
  have hfo : (r.fo, -1) ∈ ps := by simpa using e3
  refine s_nil ?_
  refine s_cons ?_
  refine sset 5 ?_
  refine n_dnew ?_
  refine ⟨_, rfl, ?_⟩
  refine s_cons ?_
  refine sfor2 6 7 (fun u : Int × Int => .int u.1) (fun u => .int u.2) ?_
  refine qtup ?_
  refine xv 4 ?_
  refine ⟨_, rfl, ?_⟩
  refine ⟨ps, fun pre g1 => ∃ x6 x7, g1 = [some (.d (houseD s.h)), some (.d (bookD s.b)), some (.d (rowD r)), some (.d (.int s.day)), some (.d (.tup (ps.map prD))), some (.dic (kS (stepsOf s r) (keys pre))), x6, x7, none], rfl, ⟨none, none, rfl⟩, ?_, ?_⟩
  · intro pre a post g1 el ⟨x6, x7, eg⟩ c' ec
    subst eg
    have ha : a.1 ∈ keys ps := by rw [el]; simp [keys]
    have hn : a.1 ∉ keys pre := fun z => by
      rw [el] at knd
      unfold keys at knd
      rw [List.map_append, List.map_cons] at knd
      exact (List.nodup_append.mp knd).2.2 _ z _ List.mem_cons_self rfl
    have pl : pre.length ≤ ps.length := by rw [el]; simp
    refine s_one ?_
    refine sputK 5 (kvs := kS (stepsOf s r) (keys pre)) (by rw [kS_len, List.length_map]; omega) ?_
    refine we_thaw ?_
    refine xcall F2 ?_
    refine a_cons ?_
    refine xv 0 ?_
    refine a_cons ?_
    refine xv 1 ?_
    refine a_cons ?_
    refine xv 2 ?_
    refine a_cons ?_
    refine xv 3 ?_
    refine a_cons ?_
    refine xv 6 ?_
    refine a_nil ?_
    refine ⟨s, r, a.1, rfl, ws, ap.ok _ ha, ?_⟩
    refine ⟨_, rfl, ?_⟩
    refine ⟨_, rfl, ?_⟩
    refine xv 6 ?_
    refine ⟨_, rfl, ?_⟩
    rw [store_kS hn, ← keys_snoc]
    exact ⟨_, _, rfl⟩
  intro g1 ⟨x6, x7, eg⟩
  subst eg
  have hK : ∀ a ∈ keys ps, lookK (kS (stepsOf s r) (keys ps)) a = some (intsD (stepsOf s r a)) := fun a ha => (by rw [look_kS, if_pos ha])
  refine s_cons ?_
  refine sfor2 6 7 (fun u : Int × Int => .int u.1) (fun u => .int u.2) ?_
  refine qtup ?_
  refine xv 4 ?_
  refine ⟨_, rfl, ?_⟩
  refine ⟨ps, fun pre g1 => (∃ x6 x7, g1 = [some (.d (houseD s.h)), some (.d (bookD s.b)), some (.d (rowD r)), some (.d (.int s.day)), some (.d (.tup (ps.map prD))), some (.dic (kS (stepsOf s r) (keys ps))), x6, x7, none]) ∧ ∀ u ∈ pre, badU s r ps u = false ∧ ∀ c ∈ stepsOf s r u.1, c ∈ keys ps, rfl, ⟨⟨_, _, rfl⟩, by simp⟩, ?_, ?_⟩
  · intro pre a post g1 el ⟨⟨x6, x7, eg⟩, hpre⟩ c' ec
    subst eg
    have hap : a ∈ ps := by rw [el]; simp
    have ha : a.1 ∈ keys ps := List.mem_map.mpr ⟨a, hap, rfl⟩
    have sl := steps_len (s := s) (r := r) (who := a.1) ws.h
    refine s_cons ?_
    refine sif (WT.mono (p := fun i => i = badU s r ps a) ?_ fun i ei => ?_)
    · unfold badU
      refine t_bop ?_
      refine w_and ?_
      refine tne ?_
      refine xv 6 ?_
      refine ⟨_, rfl, ?_⟩
      refine xix ?_
      refine xv 2 ?_
      refine ⟨_, rfl, ?_⟩
      refine xi ?_
      refine ⟨_, rfl, ?_⟩
      refine ⟨_, rfl, ?_⟩
      refine ⟨_, rfl, ?_⟩
      refine ite_b (fun e4 => ?_) (fun e4 => ?_)
      · refine w_and1 ?_
        refine t_bop ?_
        refine w_or ?_
        refine tninK ?_
        refine xv 7 ?_
        refine ⟨_, rfl, ?_⟩
        refine xv 5 ?_
        refine ⟨_, rfl, ?_⟩
        rw [look_kS_isSome]
        refine ite_b (fun e5 => ?_) (fun e5 => ?_)
        · rw [e4, e5]
          rfl
        · have hk : a.2 ∈ keys ps := by simpa using e5
          refine w_or1 ?_
          refine tnin ?_
          refine xv 6 ?_
          refine ⟨_, rfl, ?_⟩
          refine xixK ?_
          refine xv 5 ?_
          refine ⟨_, rfl, ?_⟩
          refine xv 7 ?_
          refine ⟨_, rfl, ?_⟩
          refine ⟨_, hK _ hk, ?_⟩
          refine ⟨_, rfl, ?_⟩
          rw [e4, e5]
          rfl
      · rw [e4]
        rfl
    · refine ite_b (fun e4 => ?_) (fun e4 => ?_)
      · refine s_one ?_
        refine s_ret ?_
        refine xb ?_
        refine fal fun R => ?_
        have := badU_iff.mpr fun h => R.src dead a hap h
        rw [← ei, e4] at this
        cases this
      refine s_nil ?_
      refine s_one ?_
      refine sif ?_
      refine tneN ?_
      refine xlc1 8 D.int (fun c => !decide (c ∈ keys ps)) D.int ?_
      refine qtup ?_
      refine xixK ?_
      refine xv 5 ?_
      refine ⟨_, rfl, ?_⟩
      refine xv 6 ?_
      refine ⟨_, rfl, ?_⟩
      refine ⟨_, hK _ ha, ?_⟩
      refine ⟨_, rfl, ?_⟩
      refine ⟨stepsOf s r a.1, rfl, by omega, fun b hb0 => ⟨_, rfl, fun X' hb B1 => ?_, fun _ X' hb B1 => ?_⟩, ?_⟩
      · show WT _ _ _ _ _
        refine tninK ?_
        refine xv 8 ?_
        refine ⟨_, rfl, ?_⟩
        refine xv 5 ?_
        refine ⟨_, rfl, ?_⟩
        rw [look_kS_isSome]
      · refine xv 8 ?_
        rfl
      refine ⟨_, rfl, ?_⟩
      refine n_lst ?_
      refine a_nil ?_
      refine ⟨[], rfl, by simp, _, rfl, rfl, fit_ints _, ?_⟩
      rw [isEmpty_map]
      refine ite_b (fun e5 => ?_) (fun e5 => ?_)
      · refine s_one ?_
        refine s_ret ?_
        refine xb ?_
        refine fal fun R => ?_
        have h2 : ((stepsOf s r a.1).filter fun c => !decide (c ∈ keys ps)).isEmpty = true := filter_empty.mpr fun c hc => by simp [R.cl dead a.1 ha c hc]
        rw [h2] at e5
        cases e5
      · have h2 := filter_empty.mp (by simpa using e5 : ((stepsOf s r a.1).filter fun c => !decide (c ∈ keys ps)).isEmpty = true)
        refine s_nil ?_
        refine ⟨⟨_, _, rfl⟩, fun u hu => ?_⟩
        rcases List.mem_append.mp hu with z | z
        · exact hpre u z
        · rw [List.mem_singleton.mp z]
          exact ⟨by rw [← ei, e4], fun c hc => by simpa using h2 c hc⟩
  · intro g1 ⟨⟨x6, x7, eg⟩, hall⟩
    subst eg
    refine s_one (s_ret ?_)
    refine xb ?_
    refine hp _ ⟨fun _ => ⟨ps, rfl, ap, fun h => absurd h dead, fun _ => hfo, fun _ u hu => badU_iff.mp (hall u hu).1, fun _ x hx => ?_⟩, fun _ => rfl⟩
    obtain ⟨u, hu, e⟩ := List.mem_map.mp hx
    subst e
    exact (hall u hu).2
end
end TW

namespace TW
open PySem PySem.Spec PyProof.Rows L2
section
variable {P : Program} {w : World} {K : Fg} {mg : Str → Option Value} {base : Heap} {fa : Addr} {fd : FuncData}
abbrev ph_reach_of : Ph := fun rs p => ∃ (s : Sg) (r : Row), rs = [.d (houseD s.h), .d (bookD s.b), .d (rowD r), .d (.int s.day)] ∧ WS' s ∧ okF s.h r.fo ∧ ∀ ps : Kv, RReach s r ps → p (.d (.tup (ps.map prD)))
abbrev G_reach_of (s : Sg) (r : Row) (f : Kv) (x5 x6 : Option Sl) : G := [some (.d (houseD s.h)), some (.d (bookD s.b)), some (.d (rowD r)), some (.d (.int s.day)), some (.dic (kD f)), x5, x6]
theorem ok_reach_of (M : Nm mg) (F : Fun K "reach_of" "reach_of" s_reach_of fa fd) (F1 : Callee P w K mg base "steps_of" 4 ph_steps_of) : FnOk P w K mg base CX0 5 fa fd ["house", "book", "row", "day"] (spP K ph_reach_of) := by
  refine fn_mk F sc_reach_of _ (fun rs p ⟨_, _, e, _⟩ => by rw [e]; rfl) fun X c rs p eP ew eK eM eB B ⟨s, r, er, ws, of, hp⟩ => ?_
  subst er eP ew eK eM eB
  have B' := B.toBx
  have few := ws.h.few
  have st := rinv_start s r of
  have main : ∀ f0 x5 x6, RInv s r [] f0 → WSs X c (G_reach_of s r f0 x5 x6) ((defBody s_reach_of).drop 2) ⟨fun _ => p (.d .non), p, fun _ => False, fun _ => False⟩ := fun f0 x5 x6 I0 => by
    refine s_cons ?_
    refine sfor1 5 D.int ?_
    refine qrange ?_
    refine xlen ?_
    refine xv 0 ?_
    refine ⟨_, rfl, ?_⟩
    refine ⟨s.h.length, by rw [List.length_map], by omega, ?_⟩
    refine ⟨idx s.h.length, fun pre g1 => ∃ f x5 x6, g1 = G_reach_of s r f x5 x6 ∧ RInv s r pre f, rng0 _, ⟨f0, x5, x6, rfl, I0⟩, ?_, ?_⟩
    · intro pre a post g1 el ⟨f, x5, x6, eg, I⟩ c' ec
      subst eg
      have oa : okF s.h a := okF_idx.mp (by rw [el]; simp)
      have lt : ∀ y ∈ pre, y < a := fun y hy => by
        have q := idx_pw s.h.length
        rw [el] at q
        exact (List.pairwise_append.mp q).2.2 y hy a List.mem_cons_self
      have fl : f.length ≤ 60 := Nat.le_trans (keys_len I.nd I.ok) few
      refine s_one ?_
      refine sif ?_
      refine tinK ?_
      refine xv 5 ?_
      refine ⟨_, rfl, ?_⟩
      refine xv 4 ?_
      refine ⟨_, rfl, ?_⟩
      rw [look_isSome]
      by_cases hk : a ∈ keys f
      · rw [decide_eq_true hk]
        show WSs X c' _ _ _
        refine s_one ?_
        refine sfor1 6 D.int ?_
        refine qtup ?_
        refine we_thaw ?_
        refine xcall F1 ?_
        refine a_cons ?_
        refine xv 0 ?_
        refine a_cons ?_
        refine xv 1 ?_
        refine a_cons ?_
        refine xv 2 ?_
        refine a_cons ?_
        refine xv 3 ?_
        refine a_cons ?_
        refine xv 5 ?_
        refine a_nil ?_
        refine ⟨s, r, a, rfl, ws, oa, ?_⟩
        refine ⟨_, rfl, ?_⟩
        refine ⟨_, rfl, ?_⟩
        refine ⟨stepsOf s r a, fun pre2 g1 => ∃ f2 x6, g1 = G_reach_of s r f2 (some (.d (.int a))) x6 ∧ RInv s r pre f2 ∧ (a ∈ keys f2) ∧ ∀ c ∈ pre2, c ∈ keys f2, rfl, ⟨f, _, rfl, I, hk, by simp⟩, ?_, fun g1 ⟨f2, x6, eg, I2, hk2, hall⟩ => ⟨f2, _, _, eg, rinv_full I2 hall⟩⟩
        intro pre2 b post2 g1 el2 ⟨f2, x6, eg, I2, hk2, hall⟩ c2 ec2
        subst eg
        have hb : b ∈ stepsOf s r a := by rw [el2]; simp
        have fl2 : f2.length ≤ 60 := Nat.le_trans (keys_len I2.nd I2.ok) few
        refine s_one ?_
        refine ssetdef 4 (kvs := kD f2) (by rw [kD_len]; omega) ?_ ⟨rfl, rfl, rfl, rfl⟩
        refine xv 6 ?_
        refine ⟨_, rfl, ?_⟩
        refine xv 5 ?_
        refine ⟨_, rfl, ?_⟩
        rw [look_isSome]
        by_cases hb2 : b ∈ keys f2
        · rw [decide_eq_true hb2]
          refine ⟨f2, _, rfl, I2, hk2, fun c hc => ?_⟩
          rcases List.mem_append.mp hc with z | z
          · exact hall c z
          · rw [List.mem_singleton.mp z]
            exact hb2
        · rw [decide_eq_false hb2, store_new hb2]
          refine ⟨f2 ++ [(b, a)], _, rfl, rinv_add ws.h I2 hk2 lt hb hb2, ?_, fun c hc => ?_⟩
          · rw [keys_snoc]
            exact List.mem_append_left _ hk2
          · rw [keys_snoc]
            rcases List.mem_append.mp hc with z | z
            · exact List.mem_append_left _ (hall c z)
            · rw [List.mem_singleton.mp z]
              simp
      · rw [decide_eq_false hk]
        show WSs X c' _ _ _
        refine s_nil ?_
        exact ⟨f, _, _, rfl, rinv_skip I hk⟩
    · intro g1 ⟨f, x5, x6, eg, I⟩
      subst eg
      have fl : f.length ≤ 60 := Nat.le_trans (keys_len I.nd I.ok) few
      refine s_one (s_ret ?_)
      refine xtuple ?_
      refine xlc1m 5 D.int (fun x => prD (x, par f x)) ?_
      refine qlst ?_
      refine xsortK ?_
      refine xv 4 ?_
      refine ⟨_, rfl, by rw [kD_len]; omega, fun ns pn wn => ?_⟩
      refine ⟨_, rfl, ?_⟩
      have ek : (kD f).map (·.1) = keys f := by
        unfold kD keys
        rw [List.map_map]
        rfl
      rw [ek] at pn
      refine ⟨ns, rfl, ?_, fun a ha => ⟨_, rfl, fun X' hb B1 => ?_⟩, ?_⟩
      · rw [pn.length_eq, List.length_map]
        omega
      · refine n_tup ?_
        refine a_cons ?_
        refine xv 5 ?_
        refine a_cons ?_
        refine xixK ?_
        refine xv 4 ?_
        refine ⟨_, rfl, ?_⟩
        refine xv 5 ?_
        refine ⟨_, rfl, ?_⟩
        refine ⟨_, look_par (pn.mem_iff.mp ha), ?_⟩
        refine a_nil ?_
        refine ⟨[.int a, .int (par f a)], rfl, by simp, ?_⟩
        rfl
      · refine ⟨_, rfl, ?_⟩
        have := hp _ (rinv_end I ns pn wn)
        rw [List.map_map] at this
        exact this
  refine s_cons ?_
  refine sset 4 ?_
  refine n_dnew ?_
  refine ⟨_, rfl, ?_⟩
  refine s_cons ?_
  refine sif ?_
  refine tle ?_
  refine xix ?_
  refine xix ?_
  refine xv 0 ?_
  refine ⟨_, rfl, ?_⟩
  refine xix ?_
  refine xv 2 ?_
  refine ⟨_, rfl, ?_⟩
  refine xi ?_
  refine ⟨_, rfl, ?_⟩
  refine ⟨_, rfl, ?_⟩
  refine ⟨_, rfl, ?_⟩
  refine ⟨_, at_h of, ?_⟩
  refine ⟨_, rfl, ?_⟩
  refine xi ?_
  refine ⟨_, rfl, ?_⟩
  refine ⟨_, rfl, ?_⟩
  refine ⟨_, rfl, ?_⟩
  refine xv 3 ?_
  refine ⟨_, rfl, ?_⟩
  refine ite_b (fun e1 => ?_) (fun e1 => ?_)
  · refine s_one ?_
    refine sputK 4 (kvs := []) (by simp) ?_
    refine n_neg ?_
    refine xi ?_
    refine ⟨_, rfl, ?_⟩
    refine ⟨_, rfl, ?_⟩
    refine xix ?_
    refine xv 2 ?_
    refine ⟨_, rfl, ?_⟩
    refine xi ?_
    refine ⟨_, rfl, ?_⟩
    refine ⟨_, rfl, ?_⟩
    refine ⟨_, rfl, ?_⟩
    rw [if_pos (of_decide_eq_true e1)] at st
    exact main _ none none st
  · refine s_nil ?_
    rw [if_neg (of_decide_eq_false e1)] at st
    exact main _ none none st
abbrev ph_ranked_ahead : Ph := fun rs p => ∃ (s : Sg) (r : Row) (xs : List Int), rs = [.d (houseD s.h), .d (bookD s.b), .d (rowD r), .d (.int s.day), .d (intsD xs)] ∧ WS' s ∧ Line s r xs ∧ xs.length ≤ 1000 ∧ p (.lst true ((ranked s r xs).map D.int))
theorem ok_ranked_ahead (M : Nm mg) (F : Fun K "ranked_ahead" "ranked_ahead" s_ranked_ahead fa fd) (F1 : Callee P w K mg base "steps_of" 4 ph_steps_of) : FnOk P w K mg base CX0 5 fa fd ["house", "book", "row", "day", "line"] (spP K ph_ranked_ahead) := by
  refine fn_mk F sc_ranked_ahead _ (fun rs p ⟨_, _, _, e, _⟩ => by rw [e]; rfl) fun X c rs p eP ew eK eM eB B ⟨s, r, xs, er, ws, ln, xl, hp⟩ => ?_
  subst er eP ew eK eM eB
  have B' := B.toBx
  have few := ws.h.few
  have lks := links_step ln.2.2.2.2
  refine s_cons ?_
  refine sset 5 ?_
  refine n_lst ?_
  refine a_nil ?_
  refine ⟨[], rfl, by simp, ?_⟩
  refine ⟨_, rfl, ?_⟩
  refine s_cons ?_
  refine sfor2 6 7 (fun u : Int × Int => .int u.1) (fun u => .int u.2) ?_
  refine qzip ?_
  refine xv 4 ?_
  refine ⟨_, rfl, ?_⟩
  refine xsl ?_
  refine xv 4 ?_
  refine ⟨_, rfl, ?_⟩
  refine po1 ?_
  refine xi ?_
  refine ⟨_, rfl, ?_⟩
  refine po0 ?_
  refine ⟨_, rfl, ?_⟩
  rw [cut_from1, ← List.map_drop, zip_ints]
  refine ⟨links xs, fun pre g1 => (∃ x6 x7 x8, g1 = [some (.d (houseD s.h)), some (.d (bookD s.b)), some (.d (rowD r)), some (.d (.int s.day)), some (.d (intsD xs)), some (.own ((pre.flatMap fun u => before (stepsOf s r u.1) u.2).map D.int)), x6, x7, x8]) ∧ (pre.flatMap fun u => before (stepsOf s r u.1) u.2).length ≤ 60 * pre.length, rfl, ⟨⟨none, none, none, rfl⟩, by simp⟩, ?_, ?_⟩
  · intro pre a post g1 el ⟨⟨x6, x7, x8, eg⟩, len⟩ c' ec
    subst eg
    have ha : a ∈ links xs := by rw [el]; simp
    obtain ⟨h1, h2⟩ := lks a ha
    have pl : pre.length ≤ (links xs).length := by rw [el]; simp
    have ll : (links xs).length ≤ xs.length := by
      unfold links
      rw [List.length_zip]
      omega
    have sl := steps_len (s := s) (r := r) (who := a.1) ws.h
    obtain ⟨j, j1, j2, j3⟩ := before_ix h1
    have bl : (before (stepsOf s r a.1) a.2).length ≤ 60 := by
      rw [← j3, List.length_take]
      omega
    refine s_cons ?_
    refine sset 8 ?_
    refine xcall F1 ?_
    refine a_cons ?_
    refine xv 0 ?_
    refine a_cons ?_
    refine xv 1 ?_
    refine a_cons ?_
    refine xv 2 ?_
    refine a_cons ?_
    refine xv 3 ?_
    refine a_cons ?_
    refine xv 6 ?_
    refine a_nil ?_
    refine ⟨s, r, a.1, rfl, ws, ln.2.1 _ h2, ?_⟩
    refine ⟨_, rfl, ?_⟩
    refine s_one ?_
    refine sextT 5 ?_
    refine xcutIx 8 ?_
    refine xv 7 ?_
    refine ⟨_, rfl, j, j1, j2, ?_⟩
    rw [j3]
    refine ⟨_, rfl, ?_, ?_⟩
    · rw [List.length_map, List.length_map]
      omega
    · dsimp only
      rw [List.flatMap_append, List.map_append, List.flatMap_singleton]
      refine ⟨⟨_, _, _, rfl⟩, ?_⟩
      simp only [List.length_append, List.length_singleton]
      omega
  · intro g1 ⟨⟨x6, x7, x8, eg⟩, len⟩
    subst eg
    refine s_one (sretV 5 ?_)
    exact hp
abbrev ph_are_parts_right : Ph := fun rs p => ∃ (h : List Folk) (xs : List Int) (lst : Int) (d : D), rs = [.d (houseD h), .d (intsD xs), .d d] ∧ h.length ≤ 60 ∧ xs.getLast? = some lst ∧ xs.length ≤ 1000 ∧ FT d ∧ ∀ b : Bool, (b = true ↔ ∃ ah, FolkT h d ah ∧ ah.Pairwise (· < ·) ∧ lst ∉ ah ∧ ∀ x ∈ xs.dropLast, x ∈ ah) → p (.d (.bl b))
theorem all_id {l : List Int} {f : Int → Bool} : (l.map f).all id = true ↔ ∀ x ∈ l, f x = true := by
  rw [List.all_map, List.all_eq_true]
  exact Iff.rfl
theorem ok_are_parts_right (M : Nm mg) (F : Fun K "are_parts_right" "are_parts_right" s_are_parts_right fa fd) (F1 : Callee P w K mg base "are_rising_folk" 4 ph_are_rising_folk) : FnOk P w K mg base CX0 5 fa fd ["house", "line", "ahead"] (spP K ph_are_parts_right) := by
  refine fn_mk F sc_are_parts_right _ (fun rs p ⟨_, _, _, _, e, _⟩ => by rw [e]; rfl) fun X c rs p eP ew eK eM eB B ⟨h, xs, lst, d, er, hl, hlast, xl, ft, hp⟩ => ?_
  subst er eP ew eK eM eB
  have B' := B.toBx
  refine s_cons ?_
  refine sif ?_
  refine t_bop ?_
  refine w_or ?_
  refine t_not ?_
  refine t_val ?_
  refine xcall F1 ?_
  refine a_cons ?_
  refine xv 0 ?_
  refine a_cons ?_
  refine xv 2 ?_
  refine a_nil ?_
  refine ⟨h, d, rfl, hl, ft, fun b hb => ?_⟩
  refine ⟨_, rfl, ?_⟩
  refine ite_b (fun e1 => ?_) (fun e1 => ?_)
  · refine s_one ?_
    refine s_ret ?_
    refine xb ?_
    refine hp _ ⟨fun q => (by cases q), fun ⟨ah, h1, h2, _⟩ => ?_⟩
    rw [hb.mpr ⟨ah, h1, h2⟩] at e1
    cases e1
  obtain ⟨ah, h1, h2⟩ := hb.mp (by simpa using e1)
  have same : ∀ ah', FolkT h d ah' → ah' = ah := fun ah' q => intsD_inj (q.1.symm.trans h1.1)
  have ed := h1.1
  subst ed
  refine w_or1 ?_
  refine tin ?_
  refine xix ?_
  refine xv 1 ?_
  refine ⟨_, rfl, ?_⟩
  refine n_neg ?_
  refine xi ?_
  refine ⟨_, rfl, ?_⟩
  refine ⟨_, rfl, ?_⟩
  refine ⟨_, at_last hlast, ?_⟩
  refine ⟨_, rfl, ?_⟩
  refine xv 2 ?_
  refine ⟨_, rfl, ?_⟩
  refine ite_b (fun e2 => ?_) (fun e2 => ?_)
  · refine s_one ?_
    refine s_ret ?_
    refine xb ?_
    refine hp _ ⟨fun q => (by cases q), fun ⟨ah', g1, g2, g3, _⟩ => ?_⟩
    rw [same ah' g1] at g3
    simp [g3] at e2
  have hn : lst ∉ ah := by simpa using e2
  refine s_nil ?_
  refine s_one (s_ret ?_)
  refine xall ?_
  refine xlc1m 3 D.int (fun x => .bl (decide (x ∈ ah))) ?_
  refine qtup ?_
  refine xsl ?_
  refine xv 1 ?_
  refine ⟨_, rfl, ?_⟩
  refine po0 ?_
  refine po1 ?_
  refine n_neg ?_
  refine xi ?_
  refine ⟨_, rfl, ?_⟩
  refine ⟨_, rfl, ?_⟩
  refine ⟨_, rfl, ?_⟩
  rw [cut_m1, ← List.map_dropLast]
  refine ⟨xs.dropLast, rfl, by rw [List.length_dropLast]; omega, fun a ha => ⟨_, rfl, fun X' hb B1 => ?_⟩, ?_⟩
  · refine xin ?_
    refine xv 3 ?_
    refine ⟨_, rfl, ?_⟩
    refine xv 2 ?_
    refine ⟨_, rfl, ?_⟩
    rfl
  refine ⟨xs.dropLast.map fun x => decide (x ∈ ah), by rw [List.map_map]; rfl, ?_⟩
  refine hp _ (all_id.trans ⟨fun q => ⟨ah, h1, h2, hn, fun x hx => of_decide_eq_true (q x hx)⟩, fun ⟨ah', g1, g2, g3, g4⟩ x hx => ?_⟩)
  rw [← same ah' g1]
  exact decide_eq_true (g4 x hx)
end
end TW

namespace TW
open PySem PySem.Spec PyProof.Rows L2
section
variable {P : Program} {w : World} {K : Fg} {mg : Str → Option Value} {base : Heap} {fa : Addr} {fd : FuncData}
abbrev ph_right_place : Ph := fun rs p => ∃ (s : Sg) (r : Row) (who : Int) (d : D), rs = [.d (houseD s.h), .d (bookD s.b), .d (rowD r), .d (.int s.day), .d (.int who), .d d] ∧ WS' s ∧ okF s.h r.fo ∧ FT d ∧ ∀ b : Bool, (b = true ↔ IsPlace s r who d) → p (.d (.bl b))
abbrev G_right_place (s : Sg) (r : Row) (who : Int) (line ah : List Int) (beg off : List Int) (led : List Int) (x11 x12 : Option Sl) : G := [some (.d (houseD s.h)), some (.d (bookD s.b)), some (.d (rowD r)), some (.d (.int s.day)), some (.d (.int who)), some (.d (.tup [intsD line, intsD ah])), some (.d (intsD line)), some (.d (intsD ah)), some (.ro (beg.map D.int)), some (.ro (off.map D.int)), some (.dic (kT led)), x11, x12]
theorem Line.len {s : Sg} {r : Row} {xs : List Int} (w : WH s.h) (l : Line s r xs) : xs.length ≤ s.h.length := by
  have pw : xs.Pairwise (· < ·) := by
    rw [← ch_pw, ch_idx]
    intro i a b ha hb
    exact (steps_ok w (ch_idx.mp l.2.2.2.2 i a b ha hb)).2.1
  exact nodup_len (pw.imp fun h => Int.ne_of_lt h) l.2.1
theorem ok_right_place (M : Nm mg) (F : Fun K "right_place" "right_place" s_right_place fa fd) (F1 : Callee P w K mg base "is_line" 5 ph_is_line) (F2 : Callee P w K mg base "are_parts_right" 5 ph_are_parts_right) (F3 : Callee P w K mg base "ranked_ahead" 5 ph_ranked_ahead) (F4 : Callee P w K mg base "steps_of" 4 ph_steps_of) : FnOk P w K mg base CX0 6 fa fd ["house", "book", "row", "day", "who", "thing"] (spP K ph_right_place) := by
  refine fn_mk F sc_right_place _ (fun rs p ⟨_, _, _, _, e, _⟩ => by rw [e]; rfl) fun X c rs p eP ew eK eM eB B ⟨s, r, who, d, er, ws, of, ft, hp⟩ => ?_
  subst er eP ew eK eM eB
  have B' := B.toBx
  have few := ws.h.few
  refine s_cons ?_
  refine sif ?_
  refine t_bop ?_
  refine w_or ?_
  refine t_not ?_
  refine t_val ?_
  refine xisTup ?_
  refine xv 5 ?_
  refine ⟨_, rfl, ?_⟩
  refine ⟨_, rfl, ?_⟩
  refine ite_b (fun e1 => ?_) (fun e1 => ?_)
  · refine s_one ?_
    refine s_ret ?_
    refine xb ?_
    refine hp _ ⟨fun q => (by cases q), fun ⟨_, _, e, _⟩ => ?_⟩
    subst e
    cases e1
  obtain ⟨ds, rfl⟩ := isTup_cases (by simpa using e1)
  refine w_or1 ?_
  refine tne ?_
  refine xlen ?_
  refine xv 5 ?_
  refine ⟨ds, rfl, ?_⟩
  refine ⟨_, rfl, ?_⟩
  refine xi ?_
  refine ⟨_, rfl, ?_⟩
  refine ite_b (fun e2 => ?_) (fun e2 => ?_)
  · refine s_one ?_
    refine s_ret ?_
    refine xb ?_
    refine hp _ ⟨fun q => (by cases q), fun ⟨_, _, e, _⟩ => ?_⟩
    cases e
    simp at e2
  have e2' : ds.length = 2 := by
    have : ((ds.length : Nat) : Int) = 2 := by simpa using e2
    omega
  obtain ⟨d1, d2, rfl⟩ := len2 e2'
  have ft1 := ft.un (d := d1) (by simp)
  have ft2 := ft.un (d := d2) (by simp)
  have fal : (∀ line ah, d1 = intsD line → d2 = intsD ah → RPlace s r who line ah → False) → p (.d (.bl false)) := fun hn => hp _ ⟨fun q => (by cases q), fun ⟨line, ah, e, R⟩ => by
    cases e
    exact (hn line ah rfl rfl R).elim⟩
  refine s_nil ?_
  refine s_cons ?_
  refine ssetP 6 7 ?_
  refine xv 5 ?_
  refine ⟨d1, d2, rfl, ?_⟩
  refine s_cons ?_
  refine sif ?_
  refine t_bop ?_
  refine w_or ?_
  refine t_not ?_
  refine t_val ?_
  refine xcall F1 ?_
  refine a_cons ?_
  refine xv 0 ?_
  refine a_cons ?_
  refine xv 1 ?_
  refine a_cons ?_
  refine xv 2 ?_
  refine a_cons ?_
  refine xv 3 ?_
  refine a_cons ?_
  refine xv 6 ?_
  refine a_nil ?_
  refine ⟨s, r, d1, rfl, ws, of, ft1, fun b hb => ?_⟩
  refine ⟨_, rfl, ?_⟩
  refine ite_b (fun e3 => ?_) (fun e3 => ?_)
  · refine s_one ?_
    refine s_ret ?_
    refine xb ?_
    refine fal fun line ah h1 h2 R => ?_
    rw [hb.mpr ⟨line, h1, R.isL⟩] at e3
    cases e3
  obtain ⟨line, rfl, ln⟩ := hb.mp (by simpa using e3)
  have ll := ln.len ws.h
  obtain ⟨lst, hlast⟩ : ∃ lst, line.getLast? = some lst := by
    cases h : line.getLast? with
    | none => exact absurd (List.getLast?_eq_none_iff.mp h) ln.1
    | some x => exact ⟨x, rfl⟩
  refine w_or1 ?_
  refine tne ?_
  refine xix ?_
  refine xv 6 ?_
  refine ⟨_, rfl, ?_⟩
  refine n_neg ?_
  refine xi ?_
  refine ⟨_, rfl, ?_⟩
  refine ⟨_, rfl, ?_⟩
  refine ⟨_, at_last hlast, ?_⟩
  refine ⟨_, rfl, ?_⟩
  refine xv 4 ?_
  refine ⟨_, rfl, ?_⟩
  refine ite_b (fun e4 => ?_) (fun e4 => ?_)
  · refine s_one ?_
    refine s_ret ?_
    refine xb ?_
    refine fal fun line' ah h1 h2 R => ?_
    cases intsD_inj h1
    have := R.last
    rw [hlast] at this
    cases this
    simp at e4
  have ewho : lst = who := by simpa using e4
  subst ewho
  refine s_nil ?_
  refine s_cons ?_
  refine sif ?_
  refine t_not ?_
  refine t_val ?_
  refine xcall F2 ?_
  refine a_cons ?_
  refine xv 0 ?_
  refine a_cons ?_
  refine xv 6 ?_
  refine a_cons ?_
  refine xv 7 ?_
  refine a_nil ?_
  refine ⟨s.h, line, lst, d2, rfl, few, hlast, by omega, ft2, fun b2 hb2 => ?_⟩
  refine ⟨_, rfl, ?_⟩
  refine ite_b (fun e5 => ?_) (fun e5 => ?_)
  · refine s_one ?_
    refine s_ret ?_
    refine xb ?_
    refine fal fun line' ah h1 h2 R => ?_
    cases intsD_inj h1
    rw [hb2.mpr ⟨ah, ⟨h2, R.ok⟩, R.pw, R.whoN, R.bef⟩] at e5
    cases e5
  obtain ⟨ah, ⟨rfl, aok⟩, apw, awn, abef⟩ := hb2.mp (by simpa using e5)
  have al : ah.length ≤ 60 := Nat.le_trans (nodup_len (apw.imp fun h => Int.ne_of_lt h) aok) few
  refine s_nil ?_
  refine s_cons ?_
  refine sset 8 ?_
  refine xcall F3 ?_
  refine a_cons ?_
  refine xv 0 ?_
  refine a_cons ?_
  refine xv 1 ?_
  refine a_cons ?_
  refine xv 2 ?_
  refine a_cons ?_
  refine xv 3 ?_
  refine a_cons ?_
  refine xv 6 ?_
  refine a_nil ?_
  refine ⟨s, r, line, rfl, ws, ln, by omega, ?_⟩
  refine ⟨_, rfl, ?_⟩
  refine s_cons ?_
  refine slc1 9 11 D.int (fun x => !decide (x ∈ line)) D.int ?_
  refine qtup ?_
  refine xv 7 ?_
  refine ⟨_, rfl, ?_⟩
  refine ⟨ah, rfl, by omega, fun a ha => ⟨_, rfl, fun X' hb B1 => ?_, fun _ X' hb B1 => ?_⟩, ?_⟩
  · show WT _ _ _ _ _
    refine tnin ?_
    refine xv 11 ?_
    refine ⟨_, rfl, ?_⟩
    refine xv 6 ?_
    refine ⟨_, rfl, ?_⟩
    rfl
  · refine xv 11 ?_
    rfl
  show WSs X c _ _ _
  generalize hoff : (ah.filter fun x => !decide (x ∈ line)) = off
  have moff : ∀ x, x ∈ off ↔ x ∈ ah ∧ x ∉ line := fun x => by
    rw [← hoff, List.mem_filter]
    simp
  have offl : off.length ≤ 60 := by
    rw [← hoff]
    exact Nat.le_trans (List.length_filter_le _ _) al
  refine s_cons ?_
  refine sset 10 ?_
  refine n_dnew ?_
  refine ⟨_, rfl, ?_⟩
  refine sstill 8 (sstill 9 ?_)
  have rok : ∀ x ∈ ranked s r line, okF s.h x := fun x hx => by
    unfold ranked at hx
    obtain ⟨u, hu, hx⟩ := List.mem_flatMap.mp hx
    exact (steps_ok ws.h (before_sub hx)).1
  -- the loop over what was ranked ahead
  refine s_cons ?_
  refine sfor1 11 D.int ?_
  refine qro 8 ?_
  refine ⟨ranked s r line, fun pre g1 => ∃ x11, g1 = G_right_place s r lst line ah (ranked s r line) off (pre.foldl addNew []) x11 none, rfl, ⟨_, rfl⟩, ?_, ?_⟩
  · intro pre a post g1 el ⟨x11, eg⟩ c' ec
    subst eg
    have nd : (pre.foldl addNew []).Nodup := fold_addNew_nd List.nodup_nil
    have l60 : (pre.foldl addNew []).length ≤ s.h.length := nodup_len nd fun x hx => by
      rcases fold_addNew_mem.mp hx with z | z
      · cases z
      · exact rok x (by rw [el]; exact List.mem_append_left _ z)
    refine s_one ?_
    refine sputK 10 (kvs := kT (pre.foldl addNew [])) (by rw [kT_len]; omega) ?_
    refine xb ?_
    refine ⟨_, rfl, ?_⟩
    refine xv 11 ?_
    refine ⟨_, rfl, ?_⟩
    rw [store_kT]
    dsimp only
    rw [List.foldl_append]
    exact ⟨_, rfl⟩
  intro g1 ⟨x11, eg⟩
  subst eg
  have nd0 : ((ranked s r line).foldl addNew []).Nodup := fold_addNew_nd List.nodup_nil
  have m0 : ∀ x, x ∈ (ranked s r line).foldl addNew [] ↔ x ∈ ranked s r line := fun x => by
    rw [fold_addNew_mem]
    simp
  generalize (ranked s r line).foldl addNew [] = led0 at nd0 m0
  -- the loop over those off the line
  refine s_cons ?_
  refine sfor1 11 D.int ?_
  refine qro 9 ?_
  refine ⟨off, fun pre g1 => ∃ led x11 x12, g1 = G_right_place s r lst line ah (ranked s r line) off led x11 x12 ∧ led.Nodup ∧ ∀ x, x ∈ led ↔ x ∈ ranked s r line ∨ ∃ y ∈ pre, x ∈ stepsOf s r y, rfl, ⟨led0, _, _, rfl, nd0, fun x => by simp [m0]⟩, ?_, ?_⟩
  · intro pre a post g1 el ⟨led, x11, x12, eg, nd, ml⟩ c' ec
    subst eg
    have ha : a ∈ off := by rw [el]; simp
    refine s_one ?_
    refine sfor1 12 D.int ?_
    refine qtup ?_
    refine we_thaw ?_
    refine xcall F4 ?_
    refine a_cons ?_
    refine xv 0 ?_
    refine a_cons ?_
    refine xv 1 ?_
    refine a_cons ?_
    refine xv 2 ?_
    refine a_cons ?_
    refine xv 3 ?_
    refine a_cons ?_
    refine xv 11 ?_
    refine a_nil ?_
    refine ⟨s, r, a, rfl, ws, aok a ((moff a).mp ha).1, ?_⟩
    refine ⟨_, rfl, ?_⟩
    refine ⟨_, rfl, ?_⟩
    refine ⟨stepsOf s r a, fun pre2 g1 => ∃ led2 x12, g1 = G_right_place s r lst line ah (ranked s r line) off led2 (some (.d (.int a))) x12 ∧ led2.Nodup ∧ ∀ x, x ∈ led2 ↔ (x ∈ ranked s r line ∨ ∃ y ∈ pre, x ∈ stepsOf s r y) ∨ x ∈ pre2, rfl, ⟨led, _, rfl, nd, fun x => by simp [ml]⟩, ?_, ?_⟩
    · intro pre2 b post2 g1 el2 ⟨led2, x12, eg, nd2, ml2⟩ c2 ec2
      subst eg
      have l60 : led2.length ≤ s.h.length := nodup_len nd2 fun x hx => by
        rcases (ml2 x).mp hx with (z | ⟨y, _, z⟩) | z
        · exact rok x z
        · exact (steps_ok ws.h z).1
        · exact (steps_ok (r := r) (who := a) ws.h (by rw [el2]; exact List.mem_append_left _ z)).1
      refine s_one ?_
      refine sputK 10 (kvs := kT led2) (by rw [kT_len]; omega) ?_
      refine xb ?_
      refine ⟨_, rfl, ?_⟩
      refine xv 12 ?_
      refine ⟨_, rfl, ?_⟩
      rw [store_kT]
      refine ⟨addNew led2 b, _, rfl, addNew_nd nd2, fun x => ?_⟩
      rw [addNew_mem, ml2, List.mem_append, List.mem_singleton, or_assoc]
    · intro g1 ⟨led2, x12, eg, nd2, ml2⟩
      refine ⟨led2, _, x12, eg, nd2, fun x => ?_⟩
      rw [ml2]
      constructor
      · rintro ((h | ⟨y, hy, h⟩) | h)
        · exact .inl h
        · exact .inr ⟨y, List.mem_append_left _ hy, h⟩
        · exact .inr ⟨a, by simp, h⟩
      · rintro (h | ⟨y, hy, h⟩)
        · exact .inl (.inl h)
        · rcases List.mem_append.mp hy with q | q
          · exact .inl (.inr ⟨y, q, h⟩)
          · rw [List.mem_singleton.mp q] at h
            exact .inr h
  intro g1 ⟨led, x11, x12, eg, nd, ml⟩
  subst eg
  have mled : ∀ x, x ∈ led ↔ Led s r line ah x := fun x => by
    rw [ml]
    unfold Led
    constructor
    · rintro (h | ⟨y, hy, h⟩)
      · exact .inl h
      · exact .inr ⟨y, ((moff y).mp hy).1, ((moff y).mp hy).2, h⟩
    · rintro (h | ⟨y, hy, hn, h⟩)
      · exact .inl h
      · exact .inr ⟨y, (moff y).mpr ⟨hy, hn⟩, h⟩
  have ledl : led.length ≤ s.h.length := nodup_len nd fun x hx => by
    rcases (ml x).mp hx with z | ⟨y, _, z⟩
    · exact rok x z
    · exact (steps_ok ws.h z).1
  refine slock 10 ?_
  refine s_cons ?_
  refine sif ?_
  refine t_not ?_
  refine t_val ?_
  refine xall ?_
  refine xlc1m 11 D.int (fun x => .bl (decide (x ∈ ah) && !decide (x ∈ line))) ?_
  refine qfz ?_
  refine xv 10 ?_
  refine ⟨_, rfl, ?_⟩
  rw [keyD_kT]
  refine ⟨led, rfl, by omega, fun a ha => ⟨_, rfl, fun X' hb B1 => ?_⟩, ?_⟩
  · refine xand ?_
    refine xin ?_
    refine xv 11 ?_
    refine ⟨_, rfl, ?_⟩
    refine xv 7 ?_
    refine ⟨_, rfl, ?_⟩
    refine ⟨_, rfl, ?_⟩
    refine ite_b (fun e6 => ?_) (fun e6 => ?_)
    · refine n_one ?_
      refine xnin ?_
      refine xv 11 ?_
      refine ⟨_, rfl, ?_⟩
      refine xv 6 ?_
      refine ⟨_, rfl, ?_⟩
      rw [e6]
      rfl
    · rw [e6]
      rfl
  refine ⟨led.map fun x => decide (x ∈ ah) && !decide (x ∈ line), by rw [List.map_map]; rfl, _, rfl, ?_⟩
  refine ite_b (fun e6 => ?_) (fun e6 => ?_)
  · refine s_one ?_
    refine s_ret ?_
    refine xb ?_
    refine fal fun line' ah' h1 h2 R => ?_
    cases intsD_inj h1
    cases intsD_inj h2
    have : (led.map fun x => decide (x ∈ ah) && !decide (x ∈ line)).all id = true := all_id.mpr fun x hx => by
      obtain ⟨q1, q2⟩ := R.led1 x ((mled x).mp hx)
      simp [q1, q2]
    rw [this] at e6
    cases e6
  have g1 := all_id.mp (by simpa using e6 : (led.map fun x => decide (x ∈ ah) && !decide (x ∈ line)).all id = true)
  refine s_nil ?_
  refine s_one (s_ret ?_)
  refine xall ?_
  refine xlc1m 11 D.int (fun x => .bl (decide (x ∈ led))) ?_
  refine qlst ?_
  refine xv 9 ?_
  refine ⟨_, rfl, ?_⟩
  refine ⟨off, rfl, by omega, fun a ha => ⟨_, rfl, fun X' hb B1 => ?_⟩, ?_⟩
  · refine xinK ?_
    refine xv 11 ?_
    refine ⟨_, rfl, ?_⟩
    refine xv 10 ?_
    refine ⟨_, rfl, ?_⟩
    rw [look_kT]
  refine ⟨off.map fun x => decide (x ∈ led), by rw [List.map_map]; rfl, ?_⟩
  refine hp _ (all_id.trans ⟨fun q => ⟨line, ah, rfl, ln, hlast, aok, apw, awn, abef, fun x hx => ?_, fun x hx hn => ?_⟩, fun ⟨line', ah', e, R⟩ x hx => ?_⟩)
  · have := g1 x ((mled x).mpr hx)
    simp only [Bool.and_eq_true, decide_eq_true_eq, Bool.not_eq_true', decide_eq_false_iff_not] at this
    exact this
  · exact (mled x).mp (of_decide_eq_true (q x ((moff x).mpr ⟨hx, hn⟩)))
  · obtain ⟨q1, q2⟩ := List.cons.inj (D.tup.inj e)
    obtain ⟨q3, _⟩ := List.cons.inj q2
    cases intsD_inj q1
    cases intsD_inj q3
    exact decide_eq_true ((mled x).mpr (R.led2 x ((moff x).mp hx).1 ((moff x).mp hx).2))
end
end TW

namespace TW
open PySem PySem.Spec PyProof.Rows L2
section
variable {P : Program} {w : World} {K : Fg} {mg : Str → Option Value} {base : Heap} {fa : Addr} {fd : FuncData}
abbrev ph_fit_ones : Ph := fun rs p => ∃ (s : Sg) (r : Row) (xs : List Int) (x : Rs), rs = [.d (houseD s.h), .d (bookD s.b), .d (rowD r), .d (.int s.day), x] ∧ (x = .d (intsD xs) ∨ x = .lst false (xs.map D.int)) ∧ WS' s ∧ (∀ a ∈ xs, okF s.h a) ∧ xs.length ≤ 1000 ∧ p (.lst true ((fits s r xs).map D.int))
theorem ok_fit_ones (M : Nm mg) (F : Fun K "fit_ones" "fit_ones" s_fit_ones fa fd) (F1 : Callee P w K mg base "is_fit" 4 ph_is_fit) : FnOk P w K mg base CX0 5 fa fd ["house", "book", "row", "day", "some"] (spP K ph_fit_ones) := by
  refine fn_mk F sc_fit_ones _ (fun rs p ⟨_, _, _, _, e, _⟩ => by rw [e]; rfl) fun X c rs p eP ew eK eM eB B ⟨s, r, xs, x, er, hx, ws, ok, xl, hp⟩ => ?_
  subst er eP ew eK eM eB
  have B' := B.toBx
  rcases hx with rfl | rfl
  · refine s_one (s_ret ?_)
    refine xlc1 5 D.int (isFit s r) D.int ?_
    refine qtup ?_
    refine xv 4 ?_
    refine ⟨_, rfl, ?_⟩
    refine ⟨xs, rfl, by omega, fun a ha => ⟨_, rfl, fun X' hb B1 => ?_, fun _ X' hb B1 => ?_⟩, hp⟩
    · show WT _ _ _ _ _
      refine t_val ?_
      refine xcall (hb.callee F1) ?_
      refine a_cons ?_
      refine xv 0 ?_
      refine a_cons ?_
      refine xv 1 ?_
      refine a_cons ?_
      refine xv 2 ?_
      refine a_cons ?_
      refine xv 3 ?_
      refine a_cons ?_
      refine xv 5 ?_
      refine a_nil ?_
      refine ⟨s, r, a, rfl, ws, ok a ha, ?_⟩
      refine ⟨_, rfl, ?_⟩
      rfl
    · refine xv 5 ?_
      rfl
  · refine s_one (s_ret ?_)
    refine xlc1 5 D.int (isFit s r) D.int ?_
    refine qlst ?_
    refine xv 4 ?_
    refine ⟨_, rfl, ?_⟩
    refine ⟨xs, rfl, by omega, fun a ha => ⟨_, rfl, fun X' hb B1 => ?_, fun _ X' hb B1 => ?_⟩, hp⟩
    · show WT _ _ _ _ _
      refine t_val ?_
      refine xcall (hb.callee F1) ?_
      refine a_cons ?_
      refine xv 0 ?_
      refine a_cons ?_
      refine xv 1 ?_
      refine a_cons ?_
      refine xv 2 ?_
      refine a_cons ?_
      refine xv 3 ?_
      refine a_cons ?_
      refine xv 5 ?_
      refine a_nil ?_
      refine ⟨s, r, a, rfl, ws, ok a ha, ?_⟩
      refine ⟨_, rfl, ?_⟩
      rfl
    · refine xv 5 ?_
      rfl
def partB (d : D) (word : Str) (many : Nat) : Bool := match d with
  | .tup (.str x :: t) => decide (t.length + 1 = many) && decide (x = word)
  | _ => false
theorem partB2 {d : D} {w : Str} (h : partB d w 2 = true) : ∃ a, d = .tup [.str w, a] := by
  unfold partB at h
  split at h
  · rename_i x t
    simp only [Bool.and_eq_true, decide_eq_true_eq] at h
    obtain ⟨h1, rfl⟩ := h
    match t, h1 with
    | [a], _ => exact ⟨a, rfl⟩
  · cases h
theorem partB3 {d : D} {w : Str} (h : partB d w 3 = true) : ∃ a b, d = .tup [.str w, a, b] := by
  unfold partB at h
  split at h
  · rename_i x t
    simp only [Bool.and_eq_true, decide_eq_true_eq] at h
    obtain ⟨h1, rfl⟩ := h
    match t, h1 with
    | [a, b], _ => exact ⟨a, b, rfl⟩
  · cases h
abbrev ph_is_part : Ph := fun rs p => ∃ (d : D) (word : Str) (many : Nat), rs = [.d d, .d (.str word), .d (.int (many : Nat))] ∧ 1 ≤ many ∧ p (.d (.bl (partB d word many)))
theorem ok_is_part (M : Nm mg) (F : Fun K "is_part" "is_part" s_is_part fa fd) : FnOk P w K mg base CX0 1 fa fd ["thing", "word", "many"] (spP K ph_is_part) := by
  refine fn_mk F sc_is_part _ (fun rs p ⟨_, _, _, e, _⟩ => by rw [e]; rfl) fun X c rs p eP ew eK eM eB B ⟨d, word, many, er, hm, hp⟩ => ?_
  subst er eP ew eK eM eB
  have B' := B.toBx
  refine s_cons ?_
  refine sif ?_
  refine t_bop ?_
  refine w_or ?_
  refine t_not ?_
  refine t_val ?_
  refine xisTup ?_
  refine xv 0 ?_
  refine ⟨_, rfl, ?_⟩
  refine ⟨_, rfl, ?_⟩
  refine ite_b (fun e1 => ?_) (fun e1 => ?_)
  · refine s_one ?_
    refine s_ret ?_
    refine xb ?_
    refine fin_b hp ?_
    unfold partB
    split
    · cases e1
    · rfl
  obtain ⟨ds, rfl⟩ := isTup_cases (by simpa using e1)
  refine w_or1 ?_
  refine tne ?_
  refine xlen ?_
  refine xv 0 ?_
  refine ⟨ds, rfl, ?_⟩
  refine ⟨_, rfl, ?_⟩
  refine xv 2 ?_
  refine ⟨_, rfl, ?_⟩
  refine ite_b (fun e2 => ?_) (fun e2 => ?_)
  · refine s_one ?_
    refine s_ret ?_
    refine xb ?_
    refine fin_b hp ?_
    unfold partB
    split
    · rename_i x t h
      cases h
      have : ¬ (t.length + 1 = many) := fun q => by
        rw [List.length_cons, q] at e2
        simp at e2
      rw [decide_eq_false this]
      rfl
    · rfl
  have e2' : ds.length = many := by
    have : ((ds.length : Nat) : Int) = (many : Nat) := by simpa using e2
    omega
  obtain ⟨a, t, rfl⟩ : ∃ a t, ds = a :: t := by
    cases ds with
    | nil =>
      rw [List.length_nil] at e2'
      omega
    | cons a t => exact ⟨a, t, rfl⟩
  have at0 : atI (a :: t) 0 = some a := by
    have := at_map (f := fun x : D => x) (l := a :: t) (n := 0) rfl
    simpa using this
  refine s_nil ?_
  refine s_one (s_ret ?_)
  refine xand ?_
  refine xisStr ?_
  refine xix ?_
  refine xv 0 ?_
  refine ⟨_, rfl, ?_⟩
  refine xi ?_
  refine ⟨_, rfl, ?_⟩
  refine ⟨_, at0, ?_⟩
  refine ⟨_, rfl, ?_⟩
  cases a with
  | str x =>
    refine ⟨_, rfl, ?_⟩
    show WE _ _ _ _ _
    refine n_one ?_
    refine xeqS ?_
    refine xix ?_
    refine xv 0 ?_
    refine ⟨_, rfl, ?_⟩
    refine xi ?_
    refine ⟨_, rfl, ?_⟩
    refine ⟨_, at0, ?_⟩
    refine ⟨_, rfl, ?_⟩
    refine xv 1 ?_
    refine ⟨_, rfl, ?_⟩
    refine fin_b hp ?_
    show (decide (t.length + 1 = many) && decide (x = word)) = _
    rw [decide_eq_true (by rw [List.length_cons] at e2'; exact e2')]
    rfl
  | non => exact ⟨_, rfl, hp⟩
  | bl _ => exact ⟨_, rfl, hp⟩
  | int _ => exact ⟨_, rfl, hp⟩
  | tup _ => exact ⟨_, rfl, hp⟩
theorem rr_len {s : Sg} {r : Row} {ps : Kv} (w : WH s.h) (R : RReach s r ps) : ps.length ≤ 60 := Nat.le_trans (keys_len (R.pairs.pw.imp fun h => Int.ne_of_lt h) R.pairs.ok) w.few
abbrev ph_is_nobody : Ph := fun rs p => ∃ (s : Sg) (r : Row) (d : D), rs = [.d (houseD s.h), .d (bookD s.b), .d (rowD r), .d (.int s.day), .d d] ∧ WS' s ∧ okF s.h r.fo ∧ FT d ∧ ∀ b : Bool, (b = true ↔ Nobody s r d) → p (.d (.bl b))
theorem ok_is_nobody (M : Nm mg) (F : Fun K "is_nobody" "is_nobody" s_is_nobody fa fd) (F1 : Callee P w K mg base "is_part" 1 ph_is_part) (F2 : Callee P w K mg base "right_reach" 5 ph_right_reach) (F3 : Callee P w K mg base "fit_ones" 5 ph_fit_ones) : FnOk P w K mg base CX0 6 fa fd ["house", "book", "row", "day", "part"] (spP K ph_is_nobody) := by
  refine fn_mk F sc_is_nobody _ (fun rs p ⟨_, _, _, e, _⟩ => by rw [e]; rfl) fun X c rs p eP ew eK eM eB B ⟨s, r, d, er, ws, of, ft, hp⟩ => ?_
  subst er eP ew eK eM eB
  have B' := B.toBx
  refine s_cons ?_
  refine sif ?_
  refine t_bop ?_
  refine w_or ?_
  refine t_not ?_
  refine t_val ?_
  refine xcall F1 ?_
  refine a_cons ?_
  refine xv 4 ?_
  refine a_cons ?_
  refine xs ?_
  refine a_cons ?_
  refine xi ?_
  refine a_nil ?_
  refine ⟨d, _, 2, rfl, by omega, ?_⟩
  refine ⟨_, rfl, ?_⟩
  refine ite_b (fun e1 => ?_) (fun e1 => ?_)
  · refine s_one ?_
    refine s_ret ?_
    refine xb ?_
    refine hp _ ⟨fun q => (by cases q), fun ⟨ps, e, _⟩ => ?_⟩
    subst e
    cases e1
  obtain ⟨d2, rfl⟩ := partB2 (by simpa using e1)
  have ft2 := ft.un (d := d2) (by simp)
  refine w_or1 ?_
  refine t_not ?_
  refine t_val ?_
  refine xcall F2 ?_
  refine a_cons ?_
  refine xv 0 ?_
  refine a_cons ?_
  refine xv 1 ?_
  refine a_cons ?_
  refine xv 2 ?_
  refine a_cons ?_
  refine xv 3 ?_
  refine a_cons ?_
  refine xix ?_
  refine xv 4 ?_
  refine ⟨_, rfl, ?_⟩
  refine xi ?_
  refine ⟨_, rfl, ?_⟩
  refine ⟨_, rfl, ?_⟩
  refine a_nil ?_
  refine ⟨s, r, d2, rfl, ws, of, ft2, fun b hb => ?_⟩
  refine ⟨_, rfl, ?_⟩
  refine ite_b (fun e2 => ?_) (fun e2 => ?_)
  · refine s_one ?_
    refine s_ret ?_
    refine xb ?_
    refine hp _ ⟨fun q => (by cases q), fun ⟨ps, e, R, _⟩ => ?_⟩
    cases e
    rw [hb.mpr ⟨ps, rfl, R⟩] at e2
    cases e2
  obtain ⟨ps, rfl, R⟩ := hb.mp (by simpa using e2)
  have pl := rr_len ws.h R
  refine s_nil ?_
  refine s_one (s_ret ?_)
  refine xeqN ?_
  refine xcall F3 ?_
  refine a_cons ?_
  refine xv 0 ?_
  refine a_cons ?_
  refine xv 1 ?_
  refine a_cons ?_
  refine xv 2 ?_
  refine a_cons ?_
  refine xv 3 ?_
  refine a_cons ?_
  refine xlc2m 5 6 (fun u : Int × Int => .int u.1) (fun u => .int u.2) (fun u => .int u.1) ?_
  refine qtup ?_
  refine xix ?_
  refine xv 4 ?_
  refine ⟨_, rfl, ?_⟩
  refine xi ?_
  refine ⟨_, rfl, ?_⟩
  refine ⟨_, rfl, ?_⟩
  refine ⟨_, rfl, ?_⟩
  refine ⟨ps, rfl, by omega, fun a ha => ⟨_, _, rfl, rfl, fun X' hb B1 => ?_⟩, ?_⟩
  · refine xv 5 ?_
    rfl
  refine a_nil ?_
  refine ⟨s, r, keys ps, _, rfl, .inr (by unfold keys; rw [List.map_map]; rfl), ws, R.pairs.ok, by rw [List.length_map]; omega, ?_⟩
  refine ⟨_, rfl, ?_⟩
  refine n_lst ?_
  refine a_nil ?_
  refine ⟨[], rfl, by simp, _, rfl, rfl, fit_ints _, ?_⟩
  refine hp _ ?_
  rw [isEmpty_map, List.isEmpty_iff]
  refine ⟨fun q => ⟨ps, rfl, R, q⟩, fun ⟨ps', e, R', q⟩ => ?_⟩
  have e3 : ps.map prD = ps'.map prD := by
    have := (List.cons.inj (List.cons.inj (D.tup.inj e)).2).1
    exact D.tup.inj this
  rw [map_prD_inj e3]
  exact q
theorem FT.tail {a : D} {ds : List D} (h : FT (.tup (a :: ds))) : FT (.tup ds) := by
  refine ⟨?_, ?_⟩
  · have := fitL (n := 59) (ds := ds) fun d hd => fit_untup (n := 59) h.fit d (List.mem_cons_of_mem _ hd)
    exact fit_tup (n := 59) fun d hd => fit_untup (n := 59) h.fit d (List.mem_cons_of_mem _ hd)
  · obtain ⟨_, sm⟩ := h
    cases sm with
    | tup _ h1 h2 => exact .tup ds (by rw [List.length_cons] at h1; omega) fun d hd => h2 d (List.mem_cons_of_mem _ hd)
abbrev ph_is_by_lines : Ph := fun rs p => ∃ (s : Sg) (r : Row) (who : Int) (d : D), rs = [.d (houseD s.h), .d (bookD s.b), .d (rowD r), .d (.int s.day), .d (.int who), .d d] ∧ WS' s ∧ okF s.h r.fo ∧ FT d ∧ ∀ b : Bool, (b = true ↔ ByLines s r who d) → p (.d (.bl b))
theorem ok_is_by_lines (M : Nm mg) (F : Fun K "is_by_lines" "is_by_lines" s_is_by_lines fa fd) (F1 : Callee P w K mg base "is_part" 1 ph_is_part) (F2 : Callee P w K mg base "right_place" 6 ph_right_place) (F3 : Callee P w K mg base "fit_ones" 5 ph_fit_ones) (F4 : Callee P w K mg base "is_fit" 4 ph_is_fit) : FnOk P w K mg base CX0 7 fa fd ["house", "book", "row", "day", "who", "part"] (spP K ph_is_by_lines) := by
  refine fn_mk F sc_is_by_lines _ (fun rs p ⟨_, _, _, _, e, _⟩ => by rw [e]; rfl) fun X c rs p eP ew eK eM eB B ⟨s, r, who, d, er, ws, of, ft, hp⟩ => ?_
  subst er eP ew eK eM eB
  have B' := B.toBx
  refine s_cons ?_
  refine sif ?_
  refine t_bop ?_
  refine w_or ?_
  refine t_not ?_
  refine t_val ?_
  refine xcall F1 ?_
  refine a_cons ?_
  refine xv 5 ?_
  refine a_cons ?_
  refine xs ?_
  refine a_cons ?_
  refine xi ?_
  refine a_nil ?_
  refine ⟨d, _, 3, rfl, by omega, ?_⟩
  refine ⟨_, rfl, ?_⟩
  refine ite_b (fun e1 => ?_) (fun e1 => ?_)
  · refine s_one ?_
    refine s_ret ?_
    refine xb ?_
    refine hp _ ⟨fun q => (by cases q), fun ⟨_, _, e, _⟩ => ?_⟩
    subst e
    cases e1
  obtain ⟨d1, d2, rfl⟩ := partB3 (by simpa using e1)
  refine w_or1 ?_
  refine t_not ?_
  refine t_val ?_
  refine xcall F2 ?_
  refine a_cons ?_
  refine xv 0 ?_
  refine a_cons ?_
  refine xv 1 ?_
  refine a_cons ?_
  refine xv 2 ?_
  refine a_cons ?_
  refine xv 3 ?_
  refine a_cons ?_
  refine xv 4 ?_
  refine a_cons ?_
  refine xsl ?_
  refine xv 5 ?_
  refine ⟨_, rfl, ?_⟩
  refine po1 ?_
  refine xi ?_
  refine ⟨_, rfl, ?_⟩
  refine po0 ?_
  refine a_nil ?_
  rw [cut_from1]
  refine ⟨s, r, who, .tup [d1, d2], rfl, ws, of, ft.tail, fun b hb => ?_⟩
  refine ⟨_, rfl, ?_⟩
  refine ite_b (fun e2 => ?_) (fun e2 => ?_)
  · refine s_one ?_
    refine s_ret ?_
    refine xb ?_
    refine hp _ ⟨fun q => (by cases q), fun ⟨line, ah, e, R, _⟩ => ?_⟩
    cases e
    rw [hb.mpr ⟨line, ah, rfl, R⟩] at e2
    cases e2
  obtain ⟨line, ah, e3, R⟩ := hb.mp (by simpa using e2)
  cases e3
  have ow : okF s.h who := R.isL.2.1 who (List.mem_of_getLast? R.last)
  have al : ah.length ≤ 60 := Nat.le_trans (nodup_len (R.pw.imp fun h => Int.ne_of_lt h) R.ok) ws.h.few
  have fin : ∀ b : Bool, (b = true ↔ isFit s r who = true ∧ fits s r ah = []) → p (.d (.bl b)) := fun b hb => hp b (hb.trans ⟨fun ⟨q1, q2⟩ => ⟨line, ah, rfl, R, q1, q2⟩, fun ⟨line', ah', e, _, q1, q2⟩ => by
    obtain ⟨_, q⟩ := List.cons.inj (D.tup.inj e)
    obtain ⟨_, q⟩ := List.cons.inj q
    cases intsD_inj (List.cons.inj q).1
    exact ⟨q1, q2⟩⟩)
  refine s_nil ?_
  refine s_one (s_ret ?_)
  refine xand ?_
  refine xcall F4 ?_
  refine a_cons ?_
  refine xv 0 ?_
  refine a_cons ?_
  refine xv 1 ?_
  refine a_cons ?_
  refine xv 2 ?_
  refine a_cons ?_
  refine xv 3 ?_
  refine a_cons ?_
  refine xv 4 ?_
  refine a_nil ?_
  refine ⟨s, r, who, rfl, ws, ow, ?_⟩
  refine ⟨_, rfl, ?_⟩
  refine ite_b (fun e4 => ?_) (fun e4 => ?_)
  · refine n_one ?_
    refine xeqN ?_
    refine xcall F3 ?_
    refine a_cons ?_
    refine xv 0 ?_
    refine a_cons ?_
    refine xv 1 ?_
    refine a_cons ?_
    refine xv 2 ?_
    refine a_cons ?_
    refine xv 3 ?_
    refine a_cons ?_
    refine xix ?_
    refine xv 5 ?_
    refine ⟨_, rfl, ?_⟩
    refine xi ?_
    refine ⟨_, rfl, ?_⟩
    refine ⟨_, rfl, ?_⟩
    refine a_nil ?_
    refine ⟨s, r, ah, _, rfl, .inl rfl, ws, R.ok, by omega, ?_⟩
    refine ⟨_, rfl, ?_⟩
    refine n_lst ?_
    refine a_nil ?_
    refine ⟨[], rfl, by simp, _, rfl, rfl, fit_ints _, ?_⟩
    refine fin _ ?_
    rw [isEmpty_map, List.isEmpty_iff]
    exact ⟨fun q => ⟨e4, q⟩, fun q => q.2⟩
  · refine fin _ ⟨fun q => (by cases q), fun q => ?_⟩
    rw [q.1] at e4
    cases e4
abbrev ph_standing_in : Ph := fun rs p => ∃ (s : Sg) (r : Row) (who : Int) (a d : D), rs = [.d (houseD s.h), .d (bookD s.b), .d (rowD r), .d (.int s.day), .d (.int who), .d (.tup [a, d])] ∧ WS' s ∧ okF s.h r.fo ∧ FT d ∧
  (∀ ps : Kv, d = .tup (ps.map prD) → RReach s r ps → who ∈ fits s r (keys ps) → p (.lst true ((fits s r (keys ps)).map D.int))) ∧ ((∀ ps : Kv, d = .tup (ps.map prD) → RReach s r ps → who ∉ fits s r (keys ps)) → p (.d .non))
theorem ok_standing_in (M : Nm mg) (F : Fun K "standing_in" "standing_in" s_standing_in fa fd) (F2 : Callee P w K mg base "right_reach" 5 ph_right_reach) (F3 : Callee P w K mg base "fit_ones" 5 ph_fit_ones) : FnOk P w K mg base CX0 6 fa fd ["house", "book", "row", "day", "who", "part"] (spP K ph_standing_in) := by
  refine fn_mk F sc_standing_in _ (fun rs p ⟨_, _, _, _, _, e, _⟩ => by rw [e]; rfl) fun X c rs p eP ew eK eM eB B ⟨s, r, who, d1, d2, er, ws, of, ft2, hp1, hp2⟩ => ?_
  subst er eP ew eK eM eB
  have B' := B.toBx
  refine s_cons ?_
  refine sif ?_
  refine t_not ?_
  refine t_val ?_
  refine xcall F2 ?_
  refine a_cons ?_
  refine xv 0 ?_
  refine a_cons ?_
  refine xv 1 ?_
  refine a_cons ?_
  refine xv 2 ?_
  refine a_cons ?_
  refine xv 3 ?_
  refine a_cons ?_
  refine xix ?_
  refine xv 5 ?_
  refine ⟨_, rfl, ?_⟩
  refine xi ?_
  refine ⟨_, rfl, ?_⟩
  refine ⟨_, rfl, ?_⟩
  refine a_nil ?_
  refine ⟨s, r, d2, rfl, ws, of, ft2, fun b hb => ?_⟩
  refine ⟨_, rfl, ?_⟩
  refine ite_b (fun e2 => ?_) (fun e2 => ?_)
  · refine s_one ?_
    refine s_ret ?_
    refine xn ?_
    refine hp2 fun ps e R => ?_
    rw [hb.mpr ⟨ps, e, R⟩] at e2
    cases e2
  obtain ⟨ps, rfl, R⟩ := hb.mp (by simpa using e2)
  have pl := rr_len ws.h R
  refine s_nil ?_
  refine s_cons ?_
  refine sset 6 ?_
  refine xcall F3 ?_
  refine a_cons ?_
  refine xv 0 ?_
  refine a_cons ?_
  refine xv 1 ?_
  refine a_cons ?_
  refine xv 2 ?_
  refine a_cons ?_
  refine xv 3 ?_
  refine a_cons ?_
  refine xlc2m 7 8 (fun u : Int × Int => .int u.1) (fun u => .int u.2) (fun u => .int u.1) ?_
  refine qtup ?_
  refine xix ?_
  refine xv 5 ?_
  refine ⟨_, rfl, ?_⟩
  refine xi ?_
  refine ⟨_, rfl, ?_⟩
  refine ⟨_, rfl, ?_⟩
  refine ⟨_, rfl, ?_⟩
  refine ⟨ps, rfl, by omega, fun a ha => ⟨_, _, rfl, rfl, fun X' hb B1 => ?_⟩, ?_⟩
  · refine xv 7 ?_
    rfl
  refine a_nil ?_
  refine ⟨s, r, keys ps, _, rfl, .inr (by unfold keys; rw [List.map_map]; rfl), ws, R.pairs.ok, by rw [List.length_map]; omega, ?_⟩
  refine ⟨_, rfl, ?_⟩
  refine s_cons ?_
  refine sif ?_
  refine tnin ?_
  refine xv 4 ?_
  refine ⟨_, rfl, ?_⟩
  refine xv 6 ?_
  refine ⟨_, rfl, ?_⟩
  refine ite_b (fun e3 => ?_) (fun e3 => ?_)
  · refine s_one ?_
    refine s_ret ?_
    refine xn ?_
    refine hp2 fun ps' e R' => ?_
    cases map_prD_inj (D.tup.inj e)
    simpa using e3
  · refine s_nil ?_
    refine s_one (sretV 6 ?_)
    exact hp1 ps rfl R (by simpa using e3)
abbrev ph_is_by_age : Ph := fun rs p => ∃ (s : Sg) (r : Row) (who : Int) (d : D), rs = [.d (houseD s.h), .d (bookD s.b), .d (rowD r), .d (.int s.day), .d (.int who), .d d] ∧ WS' s ∧ okF s.h r.fo ∧ FT d ∧ ∀ b : Bool, (b = true ↔ ByAge s r who d) → p (.d (.bl b))
theorem ok_is_by_age (M : Nm mg) (F : Fun K "is_by_age" "is_by_age" s_is_by_age fa fd) (F1 : Callee P w K mg base "is_part" 1 ph_is_part) (F2 : Callee P w K mg base "standing_in" 6 ph_standing_in) : FnOk P w K mg base CX0 7 fa fd ["house", "book", "row", "day", "who", "part"] (spP K ph_is_by_age) := by
  refine fn_mk F sc_is_by_age _ (fun rs p ⟨_, _, _, _, e, _⟩ => by rw [e]; rfl) fun X c rs p eP ew eK eM eB B ⟨s, r, who, d, er, ws, of, ft, hp⟩ => ?_
  subst er eP ew eK eM eB
  have B' := B.toBx
  refine s_cons ?_
  refine sif ?_
  refine t_not ?_
  refine t_val ?_
  refine xcall F1 ?_
  refine a_cons ?_
  refine xv 5 ?_
  refine a_cons ?_
  refine xs ?_
  refine a_cons ?_
  refine xi ?_
  refine a_nil ?_
  refine ⟨d, _, 2, rfl, by omega, ?_⟩
  refine ⟨_, rfl, ?_⟩
  refine ite_b (fun e1 => ?_) (fun e1 => ?_)
  · refine s_one ?_
    refine s_ret ?_
    refine xb ?_
    refine hp _ ⟨fun q => (by cases q), fun ⟨_, e, _⟩ => ?_⟩
    subst e
    cases e1
  obtain ⟨d2, rfl⟩ := partB2 (by simpa using e1)
  have inj : ∀ {ps : Kv} {d2 : D} {x : Str}, D.tup [.str x, d2] = .tup [.str x, .tup (ps.map prD)] → d2 = .tup (ps.map prD) := fun e => (List.cons.inj (List.cons.inj (D.tup.inj e)).2).1
  refine s_nil ?_
  refine s_cons ?_
  refine sset 6 ?_
  refine xcall F2 ?_
  refine a_cons ?_
  refine xv 0 ?_
  refine a_cons ?_
  refine xv 1 ?_
  refine a_cons ?_
  refine xv 2 ?_
  refine a_cons ?_
  refine xv 3 ?_
  refine a_cons ?_
  refine xv 4 ?_
  refine a_cons ?_
  refine xv 5 ?_
  refine a_nil ?_
  refine ⟨s, r, who, _, d2, rfl, ws, of, ft.un (by simp), fun ps e R hw => ?_, fun hn => ?_⟩
  · subst e
    refine ⟨_, rfl, ?_⟩
    refine s_one (s_ret ?_)
    refine xand ?_
    refine xnotN ?_
    refine xv 6 ?_
    refine ⟨_, rfl, ?_⟩
    show WE _ _ _ _ _
    refine n_one ?_
    refine xeq ?_
    refine xminL ?_
    refine xv 6 ?_
    refine ⟨fits s r (keys ps), rfl, List.length_pos_of_mem hw, fun m m1 m2 => ?_⟩
    refine ⟨_, rfl, ?_⟩
    refine xv 4 ?_
    refine ⟨_, rfl, ?_⟩
    refine hp _ ?_
    rw [decide_eq_true_eq]
    refine ⟨fun q => ⟨ps, rfl, R, hw, fun y hy => by rw [← q]; exact m2 y hy⟩, fun ⟨ps', e, R', hw', hl⟩ => ?_⟩
    cases map_prD_inj (D.tup.inj (inj e))
    exact Int.le_antisymm (m2 who hw) (hl m m1)
  · refine ⟨_, rfl, ?_⟩
    refine s_one (s_ret ?_)
    refine xand ?_
    refine xnotN ?_
    refine xv 6 ?_
    refine ⟨_, rfl, ?_⟩
    refine hp _ ⟨fun q => (by cases q), fun ⟨ps, e, R, hw, _⟩ => ?_⟩
    exact (hn ps (inj e) R hw).elim
abbrev ph_is_by_nearness : Ph := fun rs p => ∃ (s : Sg) (r : Row) (last who : Int) (d : D), rs = [.d (houseD s.h), .d (bookD s.b), .d (rowD r), .d (.int s.day), .d (.int last), .d (.int who), .d d] ∧ WS' s ∧ okF s.h r.fo ∧ FT d ∧ ∀ b : Bool, (b = true ↔ ByNear s r last who d) → p (.d (.bl b))
theorem ok_is_by_nearness (M : Nm mg) (F : Fun K "is_by_nearness" "is_by_nearness" s_is_by_nearness fa fd) (F1 : Callee P w K mg base "is_part" 1 ph_is_part) (F2 : Callee P w K mg base "standing_in" 6 ph_standing_in) (F3 : Callee P w K mg base "degrees" 8 ph_degrees) (F4 : Callee P w K mg base "farness" 1 ph_farness) : FnOk P w K mg base CX0 9 fa fd ["house", "book", "row", "day", "last", "who", "part"] (spP K ph_is_by_nearness) := by
  refine fn_mk F sc_is_by_nearness _ (fun rs p ⟨_, _, _, _, _, e, _⟩ => by rw [e]; rfl) fun X c rs p eP ew eK eM eB B ⟨s, r, last, who, d, er, ws, of, ft, hp⟩ => ?_
  subst er eP ew eK eM eB
  have B' := B.toBx
  refine s_cons ?_
  refine sif ?_
  refine t_not ?_
  refine t_val ?_
  refine xcall F1 ?_
  refine a_cons ?_
  refine xv 6 ?_
  refine a_cons ?_
  refine xs ?_
  refine a_cons ?_
  refine xi ?_
  refine a_nil ?_
  refine ⟨d, _, 2, rfl, by omega, ?_⟩
  refine ⟨_, rfl, ?_⟩
  refine ite_b (fun e1 => ?_) (fun e1 => ?_)
  · refine s_one ?_
    refine s_ret ?_
    refine xb ?_
    refine hp _ ⟨fun q => (by cases q), fun ⟨_, e, _⟩ => ?_⟩
    subst e
    cases e1
  obtain ⟨d2, rfl⟩ := partB2 (by simpa using e1)
  have inj : ∀ {ps : Kv} {d2 : D} {x : Str}, D.tup [.str x, d2] = .tup [.str x, .tup (ps.map prD)] → d2 = .tup (ps.map prD) := fun e => (List.cons.inj (List.cons.inj (D.tup.inj e)).2).1
  have dl := degrees_len s r last
  refine s_nil ?_
  refine s_cons ?_
  refine sset 7 ?_
  refine xcall F2 ?_
  refine a_cons ?_
  refine xv 0 ?_
  refine a_cons ?_
  refine xv 1 ?_
  refine a_cons ?_
  refine xv 2 ?_
  refine a_cons ?_
  refine xv 3 ?_
  refine a_cons ?_
  refine xv 5 ?_
  refine a_cons ?_
  refine xv 6 ?_
  refine a_nil ?_
  refine ⟨s, r, who, _, d2, rfl, ws, of, ft.un (by simp), fun ps e R hw => ?_, fun hn => ?_⟩
  · subst e
    have pl := rr_len ws.h R
    have fl : (fits s r (keys ps)).length ≤ 60 := Nat.le_trans (List.length_filter_le _ _) (by rw [List.length_map]; exact pl)
    have bd : ∀ a ∈ fits s r (keys ps), 0 ≤ a ∧ a < (degreesOf s r last).length := fun a ha => by
      have hw := (reach_walk ws.h of R a).mp (List.mem_filter.mp ha).1
      have := (walk_okF ws.h of hw).1
      have := walk_lt_born ws.h of hw
      omega
    refine ⟨_, rfl, ?_⟩
    refine s_cons ?_
    refine sif ?_
    refine tisN ?_
    refine xv 7 ?_
    show WSs X c _ _ _
    refine s_nil ?_
    refine s_cons ?_
    refine sset 8 ?_
    refine xcall F3 ?_
    refine a_cons ?_
    refine xv 0 ?_
    refine a_cons ?_
    refine xv 1 ?_
    refine a_cons ?_
    refine xv 2 ?_
    refine a_cons ?_
    refine xv 3 ?_
    refine a_cons ?_
    refine xv 4 ?_
    refine a_nil ?_
    refine ⟨s, r, last, rfl, ws, of, ?_⟩
    refine ⟨_, rfl, ?_⟩
    refine s_one (s_ret ?_)
    refine xeqP ?_
    refine xminP ?_
    refine xlc1m 9 D.int (fun x => prD (nearP s r last x)) ?_
    refine qlst ?_
    refine xv 7 ?_
    refine ⟨_, rfl, ?_⟩
    refine ⟨fits s r (keys ps), rfl, by omega, fun a ha => ⟨_, rfl, fun X' hb B1 => ?_⟩, ?_⟩
    · refine n_tup ?_
      refine a_cons ?_
      refine xcall (hb.callee F4) ?_
      refine a_cons ?_
      refine xix ?_
      refine xv 8 ?_
      refine ⟨_, rfl, ?_⟩
      refine xv 9 ?_
      refine ⟨_, rfl, ?_⟩
      refine ⟨_, at_ints (bd a ha).1 (bd a ha).2, ?_⟩
      refine a_nil ?_
      refine ⟨_, rfl, ?_⟩
      refine a_cons ?_
      refine xv 9 ?_
      refine a_nil ?_
      refine ⟨[.int (far (gI (degreesOf s r last) a)), .int a], rfl, by simp, ?_⟩
      rfl
    refine ⟨(fits s r (keys ps)).map (nearP s r last), by rw [List.map_map]; rfl, fun z => ?_, fun m m1 m2 => ?_⟩
    · rw [List.map_eq_nil_iff] at z
      rw [z] at hw
      cases hw
    refine ⟨_, rfl, ?_⟩
    refine n_tup ?_
    refine a_cons ?_
    refine xcall F4 ?_
    refine a_cons ?_
    refine xix ?_
    refine xv 8 ?_
    refine ⟨_, rfl, ?_⟩
    refine xv 5 ?_
    refine ⟨_, rfl, ?_⟩
    refine ⟨_, at_ints (bd who hw).1 (bd who hw).2, ?_⟩
    refine a_nil ?_
    refine ⟨_, rfl, ?_⟩
    refine a_cons ?_
    refine xv 5 ?_
    refine a_nil ?_
    refine ⟨[.int (far (gI (degreesOf s r last) who)), .int who], rfl, by simp, nearP s r last who, rfl, ?_⟩
    refine hp _ ?_
    rw [decide_eq_true_eq]
    refine ⟨fun q => ⟨ps, rfl, R, hw, fun y hy => by rw [← q]; exact m2 _ (List.mem_map.mpr ⟨y, hy, rfl⟩)⟩, fun ⟨ps', e, R', hw', hl⟩ => ?_⟩
    cases map_prD_inj (D.tup.inj (inj e))
    obtain ⟨y, hy, ey⟩ := List.mem_map.mp m1
    have a1 := hl y hy
    have a2 := m2 (nearP s r last who) (List.mem_map.mpr ⟨who, hw, rfl⟩)
    rw [ey] at a1
    unfold ltPr at a1 a2
    exact Prod.ext (by omega) (by omega)
  · refine ⟨_, rfl, ?_⟩
    refine s_cons ?_
    refine sif ?_
    refine tisN ?_
    refine xv 7 ?_
    show WSs X c _ _ _
    refine s_one ?_
    refine s_ret ?_
    refine xb ?_
    refine hp _ ⟨fun q => (by cases q), fun ⟨ps, e, R, hw, _⟩ => ?_⟩
    exact (hn ps (inj e) R hw).elim
abbrev ph_is_first_part : Ph := fun rs p => ∃ (s : Sg) (r : Row) (last who : Int) (d : D), rs = [.d (houseD s.h), .d (bookD s.b), .d (rowD r), .d (.int s.day), .d (.int last), .d (.int who), .d d] ∧ WS' s ∧ okF s.h r.fo ∧ FT d ∧ ∀ b : Bool, (b = true ↔ FirstPart s r last who d) → p (.d (.bl b))
theorem ok_is_first_part (M : Nm mg) (F : Fun K "is_first_part" "is_first_part" s_is_first_part fa fd) (F1 : Callee P w K mg base "is_by_lines" 7 ph_is_by_lines) (F2 : Callee P w K mg base "is_by_age" 7 ph_is_by_age) (F3 : Callee P w K mg base "is_by_nearness" 9 ph_is_by_nearness) : FnOk P w K mg base CX0 10 fa fd ["house", "book", "row", "day", "last", "who", "part"] (spP K ph_is_first_part) := by
  refine fn_mk F sc_is_first_part _ (fun rs p ⟨_, _, _, _, _, e, _⟩ => by rw [e]; rfl) fun X c rs p eP ew eK eM eB B ⟨s, r, last, who, d, er, ws, of, ft, hp⟩ => ?_
  subst er eP ew eK eM eB
  have B' := B.toBx
  unfold FirstPart at hp
  refine s_cons ?_
  refine sif ?_
  refine teqS ?_
  refine xix ?_
  refine xv 2 ?_
  refine ⟨_, rfl, ?_⟩
  refine xi ?_
  refine ⟨_, rfl, ?_⟩
  refine ⟨_, rfl, ?_⟩
  refine ⟨_, rfl, ?_⟩
  refine xs ?_
  refine ⟨_, rfl, ?_⟩
  refine ite_b (fun e1 => ?_) (fun e1 => ?_)
  · rw [if_pos (of_decide_eq_true e1)] at hp
    refine s_one (s_ret ?_)
    refine xcall F1 ?_
    refine a_cons ?_
    refine xv 0 ?_
    refine a_cons ?_
    refine xv 1 ?_
    refine a_cons ?_
    refine xv 2 ?_
    refine a_cons ?_
    refine xv 3 ?_
    refine a_cons ?_
    refine xv 5 ?_
    refine a_cons ?_
    refine xv 6 ?_
    refine a_nil ?_
    refine ⟨s, r, who, d, rfl, ws, of, ft, hp⟩
  rw [if_neg (of_decide_eq_false e1)] at hp
  refine s_nil ?_
  refine s_cons ?_
  refine sif ?_
  refine teqS ?_
  refine xix ?_
  refine xv 2 ?_
  refine ⟨_, rfl, ?_⟩
  refine xi ?_
  refine ⟨_, rfl, ?_⟩
  refine ⟨_, rfl, ?_⟩
  refine ⟨_, rfl, ?_⟩
  refine xs ?_
  refine ⟨_, rfl, ?_⟩
  refine ite_b (fun e2 => ?_) (fun e2 => ?_)
  · rw [if_pos (of_decide_eq_true e2)] at hp
    refine s_one (s_ret ?_)
    refine xcall F2 ?_
    refine a_cons ?_
    refine xv 0 ?_
    refine a_cons ?_
    refine xv 1 ?_
    refine a_cons ?_
    refine xv 2 ?_
    refine a_cons ?_
    refine xv 3 ?_
    refine a_cons ?_
    refine xv 5 ?_
    refine a_cons ?_
    refine xv 6 ?_
    refine a_nil ?_
    refine ⟨s, r, who, d, rfl, ws, of, ft, hp⟩
  rw [if_neg (of_decide_eq_false e2)] at hp
  refine s_nil ?_
  refine s_one (s_ret ?_)
  refine xcall F3 ?_
  refine a_cons ?_
  refine xv 0 ?_
  refine a_cons ?_
  refine xv 1 ?_
  refine a_cons ?_
  refine xv 2 ?_
  refine a_cons ?_
  refine xv 3 ?_
  refine a_cons ?_
  refine xv 4 ?_
  refine a_cons ?_
  refine xv 5 ?_
  refine a_cons ?_
  refine xv 6 ?_
  refine a_nil ?_
  refine ⟨s, r, last, who, d, rfl, ws, of, ft, hp⟩
end
end TW

namespace TW
open PySem PySem.Spec PyProof.Rows L2
section
variable {P : Program} {w : World} {K : Fg} {mg : Str → Option Value} {base : Heap} {fa : Addr} {fd : FuncData}
theorem zip_rows (l : List Row) (m : List D) : zipD (l.map rowD) m = (l.zip m).map fun u => .tup [rowD u.1, u.2] := by
  unfold zipD
  rw [List.zip_map_left, List.map_map]
  rfl
theorem at_lastD {ds : List D} {a : D} (h : ds[ds.length - 1]? = some a) : atI ds (-1) = some a := by
  have := at_last (f := fun x : D => x) (l := ds) (a := a) (by rw [List.getLast?_eq_getElem?]; exact h)
  simpa using this
abbrev ph_right_first : Ph := fun rs p => ∃ (s : Sg) (rule : List Row) (last who : Int) (d : D), rs = [.d (houseD s.h), .d (bookD s.b), .d (ruleD rule), .d (.int s.day), .d (.int last), .d (.int who), .d d] ∧ WS' s ∧ RuleOk s rule ∧ FT d ∧ ∀ b : Bool, (b = true ↔ RFirst s rule last who d) → p (.d (.bl b))
theorem ok_right_first (M : Nm mg) (F : Fun K "right_first" "right_first" s_right_first fa fd) (F1 : Callee P w K mg base "is_nobody" 6 ph_is_nobody) (F2 : Callee P w K mg base "is_first_part" 10 ph_is_first_part) : FnOk P w K mg base CX0 11 fa fd ["house", "book", "rule", "day", "last", "who", "thing"] (spP K ph_right_first) := by
  refine fn_mk F sc_right_first _ (fun rs p ⟨_, _, _, _, _, e, _⟩ => by rw [e]; rfl) fun X c rs p eP ew eK eM eB B ⟨s, rule, last, who, d, er, ws, ro, ft, hp⟩ => ?_
  subst er eP ew eK eM eB
  have B' := B.toBx
  have rl := ro.len
  refine s_cons ?_
  refine sif ?_
  refine t_bop ?_
  refine w_or ?_
  refine t_not ?_
  refine t_val ?_
  refine xisTup ?_
  refine xv 6 ?_
  refine ⟨_, rfl, ?_⟩
  refine ⟨_, rfl, ?_⟩
  refine ite_b (fun e1 => ?_) (fun e1 => ?_)
  · refine s_one ?_
    refine s_ret ?_
    refine xb ?_
    refine hp _ ⟨fun q => (by cases q), fun ⟨_, e, _⟩ => ?_⟩
    subst e
    cases e1
  obtain ⟨ps, rfl⟩ := isTup_cases (by simpa using e1)
  have inj : ∀ {ps ps' : List D}, D.tup ps = .tup ps' → ps = ps' := fun e => D.tup.inj e
  refine w_or ?_
  refine teqT0 ?_
  refine xv 6 ?_
  refine ⟨_, rfl, ?_⟩
  refine n_tup ?_
  refine a_nil ?_
  refine ⟨[], rfl, by simp, rfl, ft.f64, ?_⟩
  refine ite_b (fun e2 => ?_) (fun e2 => ?_)
  · refine s_one ?_
    refine s_ret ?_
    refine xb ?_
    refine hp _ ⟨fun q => (by cases q), fun ⟨ps', e, hne, _⟩ => ?_⟩
    cases inj e
    exact (hne (List.isEmpty_iff.mp e2)).elim
  have hne : ps ≠ [] := fun z => by
    rw [z] at e2
    cases e2
  refine w_or1 ?_
  refine tgt ?_
  refine xlen ?_
  refine xv 6 ?_
  refine ⟨ps, rfl, ?_⟩
  refine ⟨_, rfl, ?_⟩
  refine xlen ?_
  refine xv 2 ?_
  refine ⟨_, rfl, ?_⟩
  refine ⟨_, rfl, ?_⟩
  refine ite_b (fun e3 => ?_) (fun e3 => ?_)
  · refine s_one ?_
    refine s_ret ?_
    refine xb ?_
    refine hp _ ⟨fun q => (by cases q), fun ⟨ps', e, _, hl, _⟩ => ?_⟩
    cases inj e
    have := of_decide_eq_true e3
    rw [List.length_map] at this
    omega
  have hl : ps.length ≤ rule.length := by
    have := of_decide_eq_false e3
    rw [List.length_map] at this
    omega
  have pos : 0 < ps.length := List.length_pos_iff.mpr hne
  obtain ⟨em, hem⟩ : ∃ em, em = ps.length - (if who = -1 then 0 else 1) := ⟨_, rfl⟩
  have eem : ((ps.length : Nat) : Int) - (if (!decide (who = -1)) = true then 1 else 0) = (em : Nat) := by
    rw [hem]
    by_cases hw : who = -1
    · simp [hw]
    · simp [hw]
      omega
  have eml : em ≤ ps.length := by omega
  refine s_nil ?_
  refine s_cons ?_
  refine sset 7 ?_
  refine n_sub ?_
  refine xlen ?_
  refine xv 6 ?_
  refine ⟨ps, rfl, ?_⟩
  refine ⟨_, rfl, ?_⟩
  refine xint ?_
  refine xne ?_
  refine xv 5 ?_
  refine ⟨_, rfl, ?_⟩
  refine n_neg ?_
  refine xi ?_
  refine ⟨_, rfl, ?_⟩
  refine ⟨_, rfl, ?_⟩
  refine ⟨_, rfl, ?_⟩
  refine ⟨_, rfl, ?_⟩
  rw [eem]
  refine ⟨_, rfl, ?_⟩
  refine s_cons ?_
  refine sfor2 8 9 (fun u : Row × D => rowD u.1) (fun u => u.2) ?_
  refine qzip ?_
  refine xsl ?_
  refine xv 2 ?_
  refine ⟨_, rfl, ?_⟩
  refine po0 ?_
  refine po1 ?_
  refine xv 7 ?_
  refine ⟨_, rfl, ?_⟩
  refine ⟨_, rfl, ?_⟩
  refine xsl ?_
  refine xv 6 ?_
  refine ⟨_, rfl, ?_⟩
  refine po0 ?_
  refine po1 ?_
  refine xv 7 ?_
  refine ⟨_, rfl, ?_⟩
  refine ⟨_, rfl, ?_⟩
  rw [cut_to (by rw [List.length_map]; omega), cut_to eml, ← List.map_take, zip_rows]
  have ix : ∀ {i : Nat} {r : Row} {q : D}, i < em → rule[i]? = some r → ps[i]? = some q → (r, q) ∈ (rule.take em).zip (ps.take em) := fun {i r q} h1 h2 h3 => by
    refine List.mem_iff_getElem?.mpr ⟨i, ?_⟩
    rw [List.getElem?_zip_eq_some]
    exact ⟨by rw [List.getElem?_take_of_lt h1]; exact h2, by rw [List.getElem?_take_of_lt h1]; exact h3⟩
  have zix : ∀ {u : Row × D}, u ∈ (rule.take em).zip (ps.take em) → ∃ i : Nat, i < em ∧ rule[i]? = some u.1 ∧ ps[i]? = some u.2 := fun {u} h => by
    obtain ⟨i, hi⟩ := List.mem_iff_getElem?.mp h
    rw [List.getElem?_zip_eq_some] at hi
    obtain ⟨h1, h2⟩ := hi
    have hlt : i < em := by
      have := (List.getElem?_eq_some_iff.mp h1).1
      rw [List.length_take] at this
      omega
    rw [List.getElem?_take_of_lt hlt] at h1 h2
    exact ⟨i, hlt, h1, h2⟩
  refine ⟨(rule.take em).zip (ps.take em), fun pre g1 => (∃ x8 x9, g1 = [some (.d (houseD s.h)), some (.d (bookD s.b)), some (.d (ruleD rule)), some (.d (.int s.day)), some (.d (.int last)), some (.d (.int who)), some (.d (.tup ps)), some (.d (.int (em : Nat))), x8, x9]) ∧ ∀ u ∈ pre, Nobody s u.1 u.2, rfl, ⟨⟨none, none, rfl⟩, by simp⟩, ?_, ?_⟩
  · intro pre a post g1 el ⟨⟨x8, x9, eg⟩, hpre⟩ c' ec
    subst eg
    obtain ⟨i, h1, h2, h3⟩ := zix (u := a) (by rw [el]; simp)
    refine s_one ?_
    refine sif ?_
    refine t_not ?_
    refine t_val ?_
    refine xcall F1 ?_
    refine a_cons ?_
    refine xv 0 ?_
    refine a_cons ?_
    refine xv 1 ?_
    refine a_cons ?_
    refine xv 8 ?_
    refine a_cons ?_
    refine xv 3 ?_
    refine a_cons ?_
    refine xv 9 ?_
    refine a_nil ?_
    refine ⟨s, a.1, a.2, rfl, ws, ro.fo a.1 (List.mem_of_getElem? h2), ft.un (List.mem_of_getElem? h3), fun b hb => ?_⟩
    refine ⟨_, rfl, ?_⟩
    refine ite_b (fun e4 => ?_) (fun e4 => ?_)
    · refine s_one ?_
      refine s_ret ?_
      refine xb ?_
      refine hp _ ⟨fun q => (by cases q), fun ⟨ps', e, _, _, hn, _⟩ => ?_⟩
      cases inj e
      have := hb.mpr (hn i a.1 a.2 (by rw [← hem]; exact h1) h2 h3)
      rw [this] at e4
      cases e4
    · refine s_nil ?_
      refine ⟨⟨_, _, rfl⟩, fun u hu => ?_⟩
      rcases List.mem_append.mp hu with z | z
      · exact hpre u z
      · rw [List.mem_singleton.mp z]
        exact hb.mp (by simpa using e4)
  intro g1 ⟨⟨x8, x9, eg⟩, hall⟩
  subst eg
  have nob : ∀ (i : Nat) (r : Row) (q : D), i < ps.length - (if who = -1 then 0 else 1) → rule[i]? = some r → ps[i]? = some q → Nobody s r q := fun i r q h1 h2 h3 => hall (r, q) (ix (by rw [hem]; exact h1) h2 h3)
  have fin : ∀ b : Bool, (b = true ↔ (if who = -1 then ps.length = rule.length else ∃ r q, rule[ps.length - 1]? = some r ∧ ps[ps.length - 1]? = some q ∧ FirstPart s r last who q)) → p (.d (.bl b)) := fun b hb => hp b (hb.trans ⟨fun q => ⟨ps, rfl, hne, hl, nob, q⟩, fun ⟨ps', e, _, _, _, q⟩ => by
    cases inj e
    exact q⟩)
  refine s_cons ?_
  refine sif ?_
  refine teq ?_
  refine xv 5 ?_
  refine ⟨_, rfl, ?_⟩
  refine n_neg ?_
  refine xi ?_
  refine ⟨_, rfl, ?_⟩
  refine ⟨_, rfl, ?_⟩
  refine ite_b (fun e5 => ?_) (fun e5 => ?_)
  · have hw := of_decide_eq_true e5
    refine s_one (s_ret ?_)
    refine xeq ?_
    refine xlen ?_
    refine xv 6 ?_
    refine ⟨ps, rfl, ?_⟩
    refine ⟨_, rfl, ?_⟩
    refine xlen ?_
    refine xv 2 ?_
    refine ⟨_, rfl, ?_⟩
    refine ⟨_, rfl, ?_⟩
    refine fin _ ?_
    rw [if_pos hw, decide_eq_true_eq, List.length_map]
    omega
  · have hw := of_decide_eq_false e5
    have hem' : em = ps.length - 1 := by rw [hem, if_neg hw]
    obtain ⟨r, hr⟩ : ∃ r, rule[em]? = some r := ⟨_, List.getElem?_eq_getElem (by omega)⟩
    obtain ⟨q, hq⟩ : ∃ q, ps[ps.length - 1]? = some q := ⟨_, List.getElem?_eq_getElem (by omega)⟩
    refine s_nil ?_
    refine s_one (s_ret ?_)
    refine xcall F2 ?_
    refine a_cons ?_
    refine xv 0 ?_
    refine a_cons ?_
    refine xv 1 ?_
    refine a_cons ?_
    refine xix ?_
    refine xv 2 ?_
    refine ⟨_, rfl, ?_⟩
    refine xv 7 ?_
    refine ⟨_, rfl, ?_⟩
    refine ⟨_, at_map hr, ?_⟩
    refine a_cons ?_
    refine xv 3 ?_
    refine a_cons ?_
    refine xv 4 ?_
    refine a_cons ?_
    refine xv 5 ?_
    refine a_cons ?_
    refine xix ?_
    refine xv 6 ?_
    refine ⟨_, rfl, ?_⟩
    refine n_neg ?_
    refine xi ?_
    refine ⟨_, rfl, ?_⟩
    refine ⟨_, rfl, ?_⟩
    refine ⟨_, at_lastD hq, ?_⟩
    refine a_nil ?_
    refine ⟨s, r, last, who, q, rfl, ws, ro.fo r (List.mem_of_getElem? hr), ft.un (List.mem_of_getElem? hq), fun b hb => ?_⟩
    refine fin b ?_
    rw [if_neg hw, hb]
    constructor
    · intro h
      exact ⟨r, q, by rw [← hem']; exact hr, hq, h⟩
    · rintro ⟨r', q', h1, h2, h3⟩
      rw [← hem', hr] at h1
      rw [hq] at h2
      cases h1
      cases h2
      exact h3
def aheadOf (s : Sg) (r : Row) (who : Int) : List Int := srtI (before (walkOf s r) who)
abbrev ph_place_of : Ph := fun rs p => ∃ (s : Sg) (r : Row) (who : Int), rs = [.d (houseD s.h), .d (bookD s.b), .d (rowD r), .d (.int s.day), .d (.int who)] ∧ WS' s ∧ okF s.h r.fo ∧ who ∈ walkOf s r ∧ p (.d (.tup [intsD (lineOf s r who), intsD (aheadOf s r who)]))
theorem ok_place_of (M : Nm mg) (F : Fun K "place_of" "place_of" s_place_of fa fd) (F1 : Callee P w K mg base "least_line" 6 ph_least_line) (F2 : Callee P w K mg base "walk" 6 ph_walk) : FnOk P w K mg base CX0 7 fa fd ["house", "book", "row", "day", "who"] (spP K ph_place_of) := by
  refine fn_mk F sc_place_of _ (fun rs p ⟨_, _, _, e, _⟩ => by rw [e]; rfl) fun X c rs p eP ew eK eM eB B ⟨s, r, who, er, ws, of, hw, hp⟩ => ?_
  subst er eP ew eK eM eB
  have B' := B.toBx
  refine s_cons ?_
  refine sset 5 ?_
  refine xcall F1 ?_
  refine a_cons ?_
  refine xv 0 ?_
  refine a_cons ?_
  refine xv 1 ?_
  refine a_cons ?_
  refine xv 2 ?_
  refine a_cons ?_
  refine xv 3 ?_
  refine a_cons ?_
  refine xv 4 ?_
  refine a_nil ?_
  refine ⟨s, r, who, rfl, ws, of, hw, ?_⟩
  refine ⟨_, rfl, ?_⟩
  refine s_cons ?_
  refine sset 6 ?_
  refine xcall F2 ?_
  refine a_cons ?_
  refine xv 0 ?_
  refine a_cons ?_
  refine xv 1 ?_
  refine a_cons ?_
  refine xv 2 ?_
  refine a_cons ?_
  refine xv 3 ?_
  refine a_nil ?_
  refine ⟨s, r, rfl, ws, of, ?_⟩
  refine ⟨_, rfl, ?_⟩
  obtain ⟨j, j1, j2, j3⟩ := before_ix hw
  refine s_one (s_ret ?_)
  refine n_tup ?_
  refine a_cons ?_
  refine xv 5 ?_
  refine a_cons ?_
  refine xtuple ?_
  refine xsortIT ?_
  refine xcutIx 6 ?_
  refine xv 4 ?_
  refine ⟨_, rfl, j, j1, j2, ?_⟩
  refine ⟨_, rfl, fun ns pn wn => ?_⟩
  rw [j3] at pn
  rw [srtI_eq pn wn]
  refine ⟨_, rfl, ?_⟩
  refine a_nil ?_
  exact ⟨[intsD (lineOf s r who), intsD (aheadOf s r who)], rfl, by simp, hp⟩
/-- the part that is made of who -/
def PartMade (s : Sg) (r : Row) (who : Int) (d : D) : Prop :=
  if who = -1 then ∃ ps : Kv, RReach s r ps ∧ d = .tup [.str "nobody", .tup (ps.map prD)]
  else if r.way = "lines" then d = .tup [.str "lines", intsD (lineOf s r who), intsD (aheadOf s r who)]
  else ∃ ps : Kv, RReach s r ps ∧ d = .tup [.str r.way, .tup (ps.map prD)]
abbrev ph_part_of : Ph := fun rs p => ∃ (s : Sg) (r : Row) (who : Int), rs = [.d (houseD s.h), .d (bookD s.b), .d (rowD r), .d (.int s.day), .d (.int who)] ∧ WS' s ∧ okF s.h r.fo ∧ (who ≠ -1 → who ∈ walkOf s r) ∧ ∀ d, PartMade s r who d → p (.d d)
theorem ok_part_of (M : Nm mg) (F : Fun K "part_of" "part_of" s_part_of fa fd) (F1 : Callee P w K mg base "reach_of" 5 ph_reach_of) (F2 : Callee P w K mg base "place_of" 7 ph_place_of) : FnOk P w K mg base CX0 8 fa fd ["house", "book", "row", "day", "who"] (spP K ph_part_of) := by
  refine fn_mk F sc_part_of _ (fun rs p ⟨_, _, _, e, _⟩ => by rw [e]; rfl) fun X c rs p eP ew eK eM eB B ⟨s, r, who, er, ws, of, hw, hp⟩ => ?_
  subst er eP ew eK eM eB
  have B' := B.toBx
  unfold PartMade at hp
  refine s_cons ?_
  refine sif ?_
  refine teq ?_
  refine xv 4 ?_
  refine ⟨_, rfl, ?_⟩
  refine n_neg ?_
  refine xi ?_
  refine ⟨_, rfl, ?_⟩
  refine ⟨_, rfl, ?_⟩
  refine ite_b (fun e1 => ?_) (fun e1 => ?_)
  · simp only [if_pos (of_decide_eq_true e1)] at hp
    refine s_one ?_
    refine s_ret ?_
    refine n_tup ?_
    refine a_cons ?_
    refine xs ?_
    refine a_cons ?_
    refine xcall F1 ?_
    refine a_cons ?_
    refine xv 0 ?_
    refine a_cons ?_
    refine xv 1 ?_
    refine a_cons ?_
    refine xv 2 ?_
    refine a_cons ?_
    refine xv 3 ?_
    refine a_nil ?_
    refine ⟨s, r, rfl, ws, of, fun ps R => ?_⟩
    refine a_nil ?_
    exact ⟨[_, _], rfl, by simp, hp _ ⟨ps, R, rfl⟩⟩
  have hne := of_decide_eq_false e1
  simp only [if_neg hne] at hp
  refine s_nil ?_
  refine s_cons ?_
  refine sif ?_
  refine teqS ?_
  refine xix ?_
  refine xv 2 ?_
  refine ⟨_, rfl, ?_⟩
  refine xi ?_
  refine ⟨_, rfl, ?_⟩
  refine ⟨_, rfl, ?_⟩
  refine ⟨_, rfl, ?_⟩
  refine xs ?_
  refine ⟨_, rfl, ?_⟩
  refine ite_b (fun e2 => ?_) (fun e2 => ?_)
  · simp only [if_pos (of_decide_eq_true e2)] at hp
    refine s_cons ?_
    refine ssetP 5 6 ?_
    refine xcall F2 ?_
    refine a_cons ?_
    refine xv 0 ?_
    refine a_cons ?_
    refine xv 1 ?_
    refine a_cons ?_
    refine xv 2 ?_
    refine a_cons ?_
    refine xv 3 ?_
    refine a_cons ?_
    refine xv 4 ?_
    refine a_nil ?_
    refine ⟨s, r, who, rfl, ws, of, hw hne, ?_⟩
    refine ⟨_, _, rfl, ?_⟩
    refine s_one ?_
    refine s_ret ?_
    refine n_tup ?_
    refine a_cons ?_
    refine xs ?_
    refine a_cons ?_
    refine xv 5 ?_
    refine a_cons ?_
    refine xv 6 ?_
    refine a_nil ?_
    exact ⟨[_, _, _], rfl, by simp, hp _ rfl⟩
  · simp only [if_neg (of_decide_eq_false e2)] at hp
    refine s_nil ?_
    refine s_one ?_
    refine s_ret ?_
    refine n_tup ?_
    refine a_cons ?_
    refine xix ?_
    refine xv 2 ?_
    refine ⟨_, rfl, ?_⟩
    refine xi ?_
    refine ⟨_, rfl, ?_⟩
    refine ⟨_, rfl, ?_⟩
    refine a_cons ?_
    refine xcall F1 ?_
    refine a_cons ?_
    refine xv 0 ?_
    refine a_cons ?_
    refine xv 1 ?_
    refine a_cons ?_
    refine xv 2 ?_
    refine a_cons ?_
    refine xv 3 ?_
    refine a_nil ?_
    refine ⟨s, r, rfl, ws, of, fun ps R => ?_⟩
    refine a_nil ?_
    exact ⟨[_, _], rfl, by simp, hp _ ⟨ps, R, rfl⟩⟩
/-- the parts of a first paper -/
inductive Paper (s : Sg) (last : Int) : List Row → List D → Prop
  | nil : Paper s last [] []
  | nob {r : Row} {rule : List Row} {d : D} {ds : List D} : rowOrder s r last = [] → PartMade s r (-1) d → Paper s last rule ds → Paper s last (r :: rule) (d :: ds)
  | one {r : Row} {rule : List Row} {d : D} {x : Int} {l : List Int} : rowOrder s r last = x :: l → PartMade s r x d → Paper s last (r :: rule) [d]
theorem Paper.snoc {s : Sg} {last : Int} {r : Row} {d : D} : ∀ {pre : List Row} {ds : List D}, (∀ q ∈ pre, rowOrder s q last = []) → Paper s last pre ds → rowOrder s r last = [] → PartMade s r (-1) d → Paper s last (pre ++ [r]) (ds ++ [d])
  | [], _, _, .nil, h1, h2 => .nob h1 h2 .nil
  | q :: pre, _, hq, .nob h1 h2 h3, g1, g2 => .nob h1 h2 (Paper.snoc (fun z hz => hq z (List.mem_cons_of_mem _ hz)) h3 g1 g2)
  | q :: pre, _, hq, .one h1 _, _, _ => by
    rw [hq q List.mem_cons_self] at h1
    cases h1
theorem Paper.stop {s : Sg} {last : Int} {r : Row} {d : D} {x : Int} {l : List Int} {post : List Row} : ∀ {pre : List Row} {ds : List D}, (∀ q ∈ pre, rowOrder s q last = []) → Paper s last pre ds → rowOrder s r last = x :: l → PartMade s r x d → Paper s last (pre ++ r :: post) (ds ++ [d])
  | [], _, _, .nil, h1, h2 => .one h1 h2
  | q :: pre, _, hq, .nob h1 h2 h3, g1, g2 => .nob h1 h2 (Paper.stop (fun z hz => hq z (List.mem_cons_of_mem _ hz)) h3 g1 g2)
  | q :: pre, _, hq, .one h1 _, _, _ => by
    rw [hq q List.mem_cons_self] at h1
    cases h1
theorem Paper.len {s : Sg} {last : Int} : ∀ {rule : List Row} {ds : List D}, Paper s last rule ds → ds.length ≤ rule.length
  | _, _, .nil => Nat.le_refl _
  | _, _, .nob _ _ h => Nat.succ_le_succ (Paper.len h)
  | _, _, .one _ _ => by simp
abbrev ph_first_paper : Ph := fun rs p => ∃ (s : Sg) (rule : List Row) (last : Int), rs = [.d (houseD s.h), .d (bookD s.b), .d (ruleD rule), .d (.int s.day), .d (.int last)] ∧ WS' s ∧ RuleOk s rule ∧ ∀ ds, Paper s last rule ds → p (.d (.tup ds))
theorem ok_first_paper (M : Nm mg) (F : Fun K "first_paper" "first_paper" s_first_paper fa fd) (F1 : Callee P w K mg base "order_of_row" 9 ph_order_of_row) (F2 : Callee P w K mg base "part_of" 8 ph_part_of) : FnOk P w K mg base CX0 10 fa fd ["house", "book", "rule", "day", "last"] (spP K ph_first_paper) := by
  refine fn_mk F sc_first_paper _ (fun rs p ⟨_, _, _, e, _⟩ => by rw [e]; rfl) fun X c rs p eP ew eK eM eB B ⟨s, rule, last, er, ws, ro, hp⟩ => ?_
  subst er eP ew eK eM eB
  have B' := B.toBx
  have rl := ro.len
  refine s_cons ?_
  refine sset 5 ?_
  refine n_lst ?_
  refine a_nil ?_
  refine ⟨[], rfl, by simp, ?_⟩
  refine ⟨_, rfl, ?_⟩
  refine s_cons ?_
  refine sfor1 6 rowD ?_
  refine qtup ?_
  refine xv 2 ?_
  refine ⟨_, rfl, ?_⟩
  refine ⟨rule, fun pre g1 => ∃ ds x6 x7 x8, g1 = [some (.d (houseD s.h)), some (.d (bookD s.b)), some (.d (ruleD rule)), some (.d (.int s.day)), some (.d (.int last)), some (.own ds), x6, x7, x8] ∧ Paper s last pre ds ∧ ∀ q ∈ pre, rowOrder s q last = [], rfl, ⟨[], none, none, none, rfl, .nil, by simp⟩, ?_, ?_⟩
  · intro pre r post g1 el ⟨ds, x6, x7, x8, eg, pap, emp⟩ c' ec
    subst eg
    have hr : r ∈ rule := by rw [el]; simp
    have of := ro.fo r hr
    have dl := pap.len
    have pl : pre.length ≤ rule.length := by rw [el]; simp
    have hz : ds.length < 1000000 := by omega
    refine s_cons ?_
    refine sset 7 ?_
    refine xcall F1 ?_
    refine a_cons ?_
    refine xv 0 ?_
    refine a_cons ?_
    refine xv 1 ?_
    refine a_cons ?_
    refine xv 6 ?_
    refine a_cons ?_
    refine xv 3 ?_
    refine a_cons ?_
    refine xv 4 ?_
    refine a_nil ?_
    refine ⟨s, r, last, rfl, ws, of, ?_⟩
    refine ⟨_, rfl, ?_⟩
    refine s_cons ?_
    refine sset 8 ?_
    refine n_neg ?_
    refine xi ?_
    refine ⟨_, rfl, ?_⟩
    refine ⟨_, rfl, ?_⟩
    cases ho : rowOrder s r last with
    | nil =>
      refine s_cons ?_
      refine sif ?_
      refine tneN ?_
      refine xv 7 ?_
      refine ⟨_, rfl, ?_⟩
      refine n_lst ?_
      refine a_nil ?_
      refine ⟨[], rfl, by simp, _, rfl, rfl, fit_ints _, ?_⟩
      show WSs X c' _ _ _
      refine s_nil ?_
      refine s_cons ?_
      refine sapp 5 hz ?_
      refine xcall F2 ?_
      refine a_cons ?_
      refine xv 0 ?_
      refine a_cons ?_
      refine xv 1 ?_
      refine a_cons ?_
      refine xv 6 ?_
      refine a_cons ?_
      refine xv 3 ?_
      refine a_cons ?_
      refine xv 8 ?_
      refine a_nil ?_
      refine ⟨s, r, -1, rfl, ws, of, fun h => absurd rfl h, fun d hd => ?_⟩
      refine ⟨_, rfl, ?_⟩
      refine s_one ?_
      refine sif ?_
      refine tne ?_
      refine xv 8 ?_
      refine ⟨_, rfl, ?_⟩
      refine n_neg ?_
      refine xi ?_
      refine ⟨_, rfl, ?_⟩
      refine ⟨_, rfl, ?_⟩
      show WSs X c' _ _ _
      refine s_nil ?_
      refine ⟨ds ++ [d], _, _, _, rfl, pap.snoc emp ho hd, fun q hq => ?_⟩
      rcases List.mem_append.mp hq with z | z
      · exact emp q z
      · rw [List.mem_singleton.mp z]
        exact ho
    | cons x l =>
      have hx : x ∈ walkOf s r := (standing_mem.mp (rowOrder_mem.mp (by rw [ho]; exact List.mem_cons_self))).1
      have hx0 := (walk_okF ws.h of hx).1
      refine s_cons ?_
      refine sif ?_
      refine tneN ?_
      refine xv 7 ?_
      refine ⟨_, rfl, ?_⟩
      refine n_lst ?_
      refine a_nil ?_
      refine ⟨[], rfl, by simp, _, rfl, rfl, fit_ints _, ?_⟩
      show WSs X c' _ _ _
      refine s_one ?_
      refine sset 8 ?_
      refine xixL ?_
      refine xv 7 ?_
      refine ⟨_, rfl, ?_⟩
      refine xi ?_
      refine ⟨_, rfl, ?_⟩
      refine ⟨_, at_map (f := D.int) (l := x :: l) (n := 0) rfl, ?_⟩
      refine ⟨_, rfl, ?_⟩
      refine s_cons ?_
      refine sapp 5 hz ?_
      refine xcall F2 ?_
      refine a_cons ?_
      refine xv 0 ?_
      refine a_cons ?_
      refine xv 1 ?_
      refine a_cons ?_
      refine xv 6 ?_
      refine a_cons ?_
      refine xv 3 ?_
      refine a_cons ?_
      refine xv 8 ?_
      refine a_nil ?_
      refine ⟨s, r, x, rfl, ws, of, fun _ => hx, fun d hd => ?_⟩
      refine ⟨_, rfl, ?_⟩
      refine s_one ?_
      refine sif ?_
      refine tne ?_
      refine xv 8 ?_
      refine ⟨_, rfl, ?_⟩
      refine n_neg ?_
      refine xi ?_
      refine ⟨_, rfl, ?_⟩
      refine ⟨_, rfl, ?_⟩
      rw [decide_eq_false (by omega : ¬ x = -1)]
      show WSs X c' _ _ _
      refine s_one (s_brk ?_)
      refine s_one (s_ret ?_)
      refine xtuple ?_
      refine xv 5 ?_
      refine ⟨_, rfl, ?_⟩
      have := pap.stop (post := post) emp ho hd
      rw [← el] at this
      exact hp _ this
  · intro g1 ⟨ds, x6, x7, x8, eg, pap, emp⟩
    subst eg
    refine s_one (s_ret ?_)
    refine xtuple ?_
    refine xv 5 ?_
    refine ⟨_, rfl, ?_⟩
    exact hp _ pap
end
end TW

/-! TM8: the paper that is made is right; how great papers are. -/
namespace TW
open PySem PySem.Spec PyProof.Rows L2
theorem made_nobody {s : Sg} {r : Row} {last : Int} {d : D} (w : WH s.h) (o : okF s.h r.fo) (h : rowOrder s r last = []) (m : PartMade s r (-1) d) : Nobody s r d := by
  unfold PartMade at m
  rw [if_pos rfl] at m
  obtain ⟨ps, R, e⟩ := m
  refine ⟨ps, e, R, List.eq_nil_iff_forall_not_mem.mpr fun x hx => ?_⟩
  have := (rowOrder_mem (last := last)).mpr ((fits_standing w o R x).mp hx)
  rw [h] at this
  cases this
theorem made_part {s : Sg} {r : Row} {last x : Int} {l : List Int} {d : D} (w : WH s.h) (o : okF s.h r.fo) (hw : WayOk r) (h : rowOrder s r last = x :: l) (m : PartMade s r x d) : FirstPart s r last x d := by
  have hx : x ∈ standing s r := rowOrder_mem.mp (by rw [h]; exact List.mem_cons_self)
  obtain ⟨xw, xf⟩ := standing_mem.mp hx
  have x0 := (walk_okF w o xw).1
  unfold PartMade at m
  rw [if_neg (by omega)] at m
  unfold FirstPart
  rcases hw with e | e | e
  · rw [if_pos e] at m ⊢
    obtain ⟨R, b, eb⟩ := place_made w o xw
    refine ⟨_, _, m, R, xf, ?_⟩
    have es : standing s r = x :: l := by
      unfold rowOrder at h
      rw [if_neg (by rw [e]; decide), if_neg (by rw [e]; decide)] at h
      exact h
    have nd := walk_nodup w o
    have en : (before (walkOf s r) x).filter (isFit s r) = [] := by
      unfold standing at es
      rw [eb, List.filter_append] at es
      cases hb : (before (walkOf s r) x).filter (isFit s r) with
      | nil => rfl
      | cons y t =>
        rw [hb] at es
        have ey : y = x := (List.cons.inj es).1
        have my : y ∈ before (walkOf s r) x := (List.mem_filter.mp (by rw [hb]; exact List.mem_cons_self)).1
        rw [ey] at my
        rw [eb] at nd
        exact absurd rfl ((List.nodup_append.mp nd).2.2 x my x List.mem_cons_self)
    refine List.filter_eq_nil_iff.mpr fun y hy hf => ?_
    have : y ∈ (before (walkOf s r) x).filter (isFit s r) := List.mem_filter.mpr ⟨(srtI_perm _).mem_iff.mp hy, hf⟩
    rw [en] at this
    cases this
  · rw [if_neg (by rw [e]; decide)] at m ⊢
    rw [if_pos e]
    obtain ⟨ps, R, ed⟩ := m
    rw [e] at ed
    refine ⟨ps, ed, R, (fits_standing w o R x).mpr hx, fun y hy => ?_⟩
    unfold rowOrder at h
    rw [if_pos e] at h
    have pw := srtI_pw (standing s r)
    have my : y ∈ srtI (standing s r) := (srtI_perm _).mem_iff.mpr ((fits_standing w o R y).mp hy)
    rw [h] at pw my
    rcases List.mem_cons.mp my with q | q
    · rw [q]
      exact Int.le_refl _
    · exact (List.pairwise_cons.mp pw).1 y q
  · rw [if_neg (by rw [e]; decide)] at m ⊢
    rw [if_neg (by rw [e]; decide)]
    obtain ⟨ps, R, ed⟩ := m
    rw [e] at ed
    refine ⟨ps, ed, R, (fits_standing w o R x).mpr hx, fun y hy => ?_⟩
    unfold rowOrder at h
    rw [if_neg (by rw [e]; decide), if_pos e] at h
    obtain ⟨u, us, e1, e2, e3⟩ := List.map_eq_cons_iff.mp h
    have pw := srtP_pw ((standing s r).map (nearP s r last))
    have mu : u ∈ srtP ((standing s r).map (nearP s r last)) := by rw [e1]; exact List.mem_cons_self
    obtain ⟨z, hz, ez⟩ := List.mem_map.mp ((srtP_perm _).mem_iff.mp mu)
    have ezx : z = x := by
      rw [← e2, ← ez]
      rfl
    rw [ezx] at ez
    have my : nearP s r last y ∈ srtP ((standing s r).map (nearP s r last)) := (srtP_perm _).mem_iff.mpr (List.mem_map.mpr ⟨y, (fits_standing w o R y).mp hy, rfl⟩)
    rw [e1] at pw my
    rw [ez]
    rcases List.mem_cons.mp my with q | q
    · rw [q]
      unfold ltPr
      omega
    · exact (List.pairwise_cons.mp pw).1 _ q
theorem paper_ix {s : Sg} {last : Int} (w : WH s.h) : ∀ {rule : List Row} {ds : List D}, Paper s last rule ds → (∀ r ∈ rule, okF s.h r.fo ∧ WayOk r) → (rule ≠ [] → ds ≠ []) ∧
    (∀ (i : Nat) (r : Row) (q : D), i < ds.length - (if fstOf s last rule = -1 then 0 else 1) → rule[i]? = some r → ds[i]? = some q → Nobody s r q) ∧
    (if fstOf s last rule = -1 then ds.length = rule.length else ds ≠ [] ∧ ∃ r q, rule[ds.length - 1]? = some r ∧ ds[ds.length - 1]? = some q ∧ FirstPart s r last (fstOf s last rule) q)
  | _, _, .nil, _ => ⟨fun h => absurd rfl h, fun i r q hi => (by simp at hi), rfl⟩
  | _, _, .nob (r := r) (rule := rule) (d := d) (ds := ds) h1 h2 h3, hk => by
    obtain ⟨a, b, c⟩ := paper_ix w h3 fun q hq => hk q (List.mem_cons_of_mem _ hq)
    have o := (hk r List.mem_cons_self).1
    have ef : fstOf s last (r :: rule) = fstOf s last rule := by
      show (match rowOrder s r last with
        | [] => fstOf s last rule
        | x :: _ => x) = _
      rw [h1]
    rw [ef]
    refine ⟨fun _ => by simp, fun i q z hi hq hz => ?_, ?_⟩
    · cases i with
      | zero =>
        simp at hq hz
        rw [← hq, ← hz]
        exact made_nobody w o h1 h2
      | succ i =>
        refine b i q z ?_ (by simpa using hq) (by simpa using hz)
        rw [List.length_cons] at hi
        omega
    · by_cases e : fstOf s last rule = -1
      · rw [if_pos e] at c ⊢
        rw [List.length_cons, List.length_cons, c]
      · rw [if_neg e] at c ⊢
        obtain ⟨c0, q, z, c1, c2, c3⟩ := c
        have pos : 0 < ds.length := List.length_pos_iff.mpr c0
        have el : (d :: ds).length - 1 = (ds.length - 1) + 1 := by
          rw [List.length_cons]
          omega
        refine ⟨by simp, q, z, ?_, ?_, c3⟩
        · rw [el]
          simpa using c1
        · rw [el]
          simpa using c2
  | _, _, .one (r := r) (rule := rule) (d := d) (x := x) (l := l) h1 h2, hk => by
    obtain ⟨o, wy⟩ := hk r List.mem_cons_self
    have ef : fstOf s last (r :: rule) = x := by
      show (match rowOrder s r last with
        | [] => fstOf s last rule
        | x :: _ => x) = _
      rw [h1]
    have xw : x ∈ walkOf s r := (standing_mem.mp (rowOrder_mem.mp (by rw [h1]; exact List.mem_cons_self))).1
    have x0 := (walk_okF w o xw).1
    rw [ef, if_neg (by omega)]
    refine ⟨fun _ => by simp, fun i q z hi => by simp at hi, ?_⟩
    rw [if_neg (by omega)]
    exact ⟨by simp, r, d, rfl, rfl, made_part w o wy h1 h2⟩
/-- the first paper is right, for the first -/
theorem paper_right {s : Sg} {rule : List Row} {last : Int} {ds : List D} (w : WH s.h) (ro : RuleOk s rule) (hw : ∀ r ∈ rule, WayOk r) (hne : rule ≠ []) (h : Paper s last rule ds) : RFirst s rule last (firstIn (orderOf s rule last)) (.tup ds) := by
  rw [first_eq]
  obtain ⟨a, b, c⟩ := paper_ix w h fun r hr => ⟨ro.fo r hr, hw r hr⟩
  refine ⟨ds, rfl, a hne, h.len, b, ?_⟩
  by_cases e : fstOf s last rule = -1
  · rw [if_pos e] at c ⊢
    exact c
  · rw [if_neg e] at c ⊢
    exact c.2
/-! ### how great papers are -/
/-- not deeper than m, no tuple with more than n items -/
structure Gr (m n : Nat) (d : D) : Prop where
  fit : D.fit m d
  sm : Sm n d
theorem Sm.mono {n m : Nat} {d : D} (h : Sm n d) (l : n ≤ m) : Sm m d := by
  induction h with
  | non => exact .non
  | bl b => exact .bl b
  | int i => exact .int i
  | str x => exact .str x
  | tup ds h1 _ ih => exact .tup ds (by omega) ih
theorem Gr.mono {m n m' n' : Nat} {d : D} (h : Gr m n d) (l : m ≤ m') (l2 : n ≤ n') : Gr m' n' d := ⟨fit_mono h.fit l, h.sm.mono l2⟩
theorem Gr.ft {m n : Nat} {d : D} (h : Gr m n d) (l : m ≤ 60) (l2 : n ≤ 1000) : FT d := ⟨fit_mono h.fit l, h.sm.mono l2⟩
theorem Gr.int {m n : Nat} (i : Int) : Gr m n (.int i) := ⟨fit_int i, .int i⟩
theorem Gr.tup {m n : Nat} {ds : List D} (l : ds.length ≤ n) (h : ∀ d ∈ ds, Gr m n d) : Gr (m + 1) n (.tup ds) := ⟨fit_tup fun d hd => (h d hd).fit, .tup ds l fun d hd => (h d hd).sm⟩
theorem Gr.un {m n : Nat} {ds : List D} (h : Gr (m + 1) n (.tup ds)) : ds.length ≤ n ∧ ∀ d ∈ ds, Gr m n d := by
  obtain ⟨f, sm⟩ := h
  cases sm with
  | tup _ h1 h2 => exact ⟨h1, fun d hd => ⟨fit_untup f d hd, h2 d hd⟩⟩
theorem Gr.un0 {n : Nat} {ds : List D} (h : Gr 0 n (.tup ds)) : False := fit_untup0 h.fit
theorem Gr.str {m n : Nat} {x : Str} (h : (D.py (.str x)).canLay0 = true) : Gr m n (.str x) := ⟨⟨h, by simp [D.py, PyData.depth]⟩, .str x⟩
theorem gr_ints {l : List Int} {n : Nat} (h : l.length ≤ n) : Gr 1 n (intsD l) := Gr.tup (by rw [List.length_map]; exact h) fun d hd => by
  obtain ⟨i, _, rfl⟩ := List.mem_map.mp hd
  exact Gr.int i
theorem gr_prs {l : Kv} {n : Nat} (h : l.length ≤ n) (h2 : 2 ≤ n) : Gr 2 n (.tup (l.map prD)) := Gr.tup (by rw [List.length_map]; exact h) fun d hd => by
  obtain ⟨i, _, rfl⟩ := List.mem_map.mp hd
  exact Gr.tup h2 fun e he => by
    simp only [List.mem_cons, List.not_mem_nil, or_false] at he
    rcases he with q | q <;> (rw [q]; exact Gr.int _)
theorem lay_nobody : (D.py (.str "nobody")).canLay0 = true := by decide +kernel
theorem lay_lines : (D.py (.str "lines")).canLay0 = true := by decide +kernel
theorem lay_age : (D.py (.str "age")).canLay0 = true := by decide +kernel
theorem lay_near : (D.py (.str "near")).canLay0 = true := by decide +kernel
theorem lay_sits : (D.py (.str "sits")).canLay0 = true := by decide +kernel
theorem lay_waits : (D.py (.str "waits")).canLay0 = true := by decide +kernel
theorem lay_way {r : Row} (h : WayOk r) : (D.py (.str r.way)).canLay0 = true := by
  rcases h with e | e | e <;> rw [e]
  · exact lay_lines
  · exact lay_age
  · exact lay_near
theorem gr_part {s : Sg} {r : Row} {who : Int} {d : D} (w : WH s.h) (o : okF s.h r.fo) (hw : WayOk r) (hx : who ≠ -1 → who ∈ walkOf s r) (m : PartMade s r who d) : Gr 3 60 d := by
  have two : ∀ {a b : D}, Gr 2 60 a → Gr 2 60 b → Gr 3 60 (.tup [a, b]) := fun ha hb => Gr.tup (by simp) fun e he => by
    simp only [List.mem_cons, List.not_mem_nil, or_false] at he
    rcases he with q | q <;> rw [q]
    · exact ha
    · exact hb
  unfold PartMade at m
  split at m
  · obtain ⟨ps, R, e⟩ := m
    rw [e]
    exact two (Gr.str lay_nobody) (gr_prs (rr_len w R) (by omega))
  · rename_i hne
    split at m
    · rw [m]
      obtain ⟨R, _⟩ := place_made w o (hx hne)
      have l1 := R.isL.len w
      have l2 : (aheadOf s r who).length ≤ s.h.length := nodup_len (R.pw.imp fun h => Int.ne_of_lt h) R.ok
      have few := w.few
      refine Gr.tup (by simp) fun e he => ?_
      simp only [List.mem_cons, List.not_mem_nil, or_false] at he
      rcases he with q | q | q <;> rw [q]
      · exact Gr.str lay_lines
      · exact (gr_ints (by omega)).mono (by omega) (Nat.le_refl _)
      · exact (gr_ints (by omega)).mono (by omega) (Nat.le_refl _)
    · obtain ⟨ps, R, e⟩ := m
      rw [e]
      exact two (Gr.str (lay_way hw)) (gr_prs (rr_len w R) (by omega))
theorem gr_paper {s : Sg} {last : Int} (w : WH s.h) : ∀ {rule : List Row} {ds : List D}, Paper s last rule ds → (∀ r ∈ rule, okF s.h r.fo ∧ WayOk r) → ∀ d ∈ ds, Gr 3 60 d
  | _, _, .nil, _, d, h => by cases h
  | _, _, .nob (r := r) h1 h2 h3, hk, d, h => by
    obtain ⟨o, wy⟩ := hk r List.mem_cons_self
    rcases List.mem_cons.mp h with e | h
    · rw [e]
      exact gr_part w o wy (fun q => absurd rfl q) h2
    · exact gr_paper w h3 (fun q hq => hk q (List.mem_cons_of_mem _ hq)) d h
  | _, _, .one (r := r) h1 h2, hk, d, h => by
    obtain ⟨o, wy⟩ := hk r List.mem_cons_self
    rw [List.mem_singleton.mp h]
    exact gr_part w o wy (fun _ => (standing_mem.mp (rowOrder_mem.mp (by rw [h1]; exact List.mem_cons_self))).1) h2
end TW

/-! TWL: the law's own state, read and written. -/
namespace TW
open PySem PySem.Spec PyProof.Rows L2
section
variable {X : Cx} {c : Cf} {g : G} {sc : Scope} {N : List Str} {k : Nat} {e a b : Expr} {p : Rs → Prop} {N' : Ks} {pos pos2 npos p1 p2 p3 p4 p5 p6 p7 p8 p9 p10 p11 p12 p13 p14 p15 p16 p17 p18 : Pos} {x y : Str} {kk k1 k2 k3 k4 : Nat}
theorem st_read (i : Nat) {j : Int} (h : ∀ (sc' : Addr) (a b r : Int), 0 ≤ a → 0 ≤ b → 0 ≤ r → r < 2147483647 → ∃ v, atI [V.ref sc', .int a, .int b, .int r] j = some (.int v) ∧ p (.d (.int v)))
    (B : Bx X N sc k) (hN : N[i]? = some x) (hG : g[i]? = some (some .st)) (hv : visB sc x = true) (hd : (x == ("__debug__" : Str)) = false := by decide) (hcd : (x == ("__classdict__" : Str)) = false := by decide) : WE X c g (.Subscript (.Name x npos) (.Constant (.int j) kk pos2) pos) p := fun σ H E Q q => by
  refine we_of (pe_ix ix_list (pe_nm i B hN hv hd hcd) pe_int (by intro _ _; rfl)) ?_
  obtain ⟨v, e1, s, es, rfl⟩ := E.sl i .st hG
  obtain ⟨sc', ns, a, b, r, hs, scr, hl, h1, h2, h3, h4⟩ := E.stk s es
  obtain ⟨w, hw, hp⟩ := h sc' a b r h1 h2 h3 h4
  exact ⟨_, e1, s, _, j, .int w, rfl, rfl, SqL.of hs, hw, q _ H _ (Ext.refl H) (.dd (Is.int w)) hp⟩
theorem xst1 (i : Nat) (h : ∀ v : Int, 0 ≤ v → p (.d (.int v))) (B : Bx X N sc k := by assumption) (hN : N[i]? = some x := by rfl) (hG : g[i]? = some (some .st) := by rfl) (hv : visB sc x = true := by decide +kernel) (hd : (x == ("__debug__" : Str)) = false := by decide) (hcd : (x == ("__classdict__" : Str)) = false := by decide) : WE X c g (.Subscript (.Name x npos) (.Constant (.int 1) kk pos2) pos) p :=
  st_read i (fun _ a b r h1 _ _ _ => ⟨a, rfl, h a h1⟩) B hN hG hv hd hcd
theorem xst2 (i : Nat) (h : ∀ v : Int, 0 ≤ v → p (.d (.int v))) (B : Bx X N sc k := by assumption) (hN : N[i]? = some x := by rfl) (hG : g[i]? = some (some .st) := by rfl) (hv : visB sc x = true := by decide +kernel) (hd : (x == ("__debug__" : Str)) = false := by decide) (hcd : (x == ("__classdict__" : Str)) = false := by decide) : WE X c g (.Subscript (.Name x npos) (.Constant (.int 2) kk pos2) pos) p :=
  st_read i (fun _ a b r _ h1 _ _ => ⟨b, rfl, h b h1⟩) B hN hG hv hd hcd
theorem xst3 (i : Nat) (h : ∀ v : Int, 0 ≤ v → v < 2147483647 → p (.d (.int v))) (B : Bx X N sc k := by assumption) (hN : N[i]? = some x := by rfl) (hG : g[i]? = some (some .st) := by rfl) (hv : visB sc x = true := by decide +kernel) (hd : (x == ("__debug__" : Str)) = false := by decide) (hcd : (x == ("__classdict__" : Str)) = false := by decide) : WE X c g (.Subscript (.Name x npos) (.Constant (.int 3) kk pos2) pos) p :=
  st_read i (fun _ a b r _ _ h1 h2 => ⟨r, rfl, h r h1 h2⟩) B hN hG hv hd hcd
theorem En.stput {K : Fg} {σ : L2.St} {H : Hp} {s : Addr} {xs ys : List V} (E : En K c g σ H) (es : c.st = some s) (hs : H s = some (.lst xs)) (ok : StOk K (upd H s (.lst ys)) s) : En K c g σ (upd H s (.lst ys)) := by
  refine E.go ⟨fun a o n h => ?_, fun a zs h => ?_, fun s' e' _ => ?_⟩
  · rw [upd_ne (fun z => n (by rw [z, es]))]
    exact h
  · rw [upd_ne (fun z => by rw [z, hs] at h; cases h)]
    exact h
  · rw [es] at e'
    cases e'
    exact ok
theorem scr_upd {K : Fg} {H : Hp} {s sc' : Addr} {xs ys zs : List V} (hs : H s = some (.lst xs)) (h : ScrOk K H sc' zs) : ScrOk K (upd H s (.lst ys)) sc' zs := by
  rcases h with ⟨o, h⟩ | h
  · refine .inl ⟨o, ?_⟩
    rw [upd_ne (fun z => by rw [z, hs] at h; cases h)]
    exact h
  · exact .inr h
/-- what may stand at a place of the state -/
def StV (j : Nat) (v : Int) : Prop := (j = 1 ∧ 0 ≤ v) ∨ (j = 2 ∧ 0 ≤ v) ∨ (j = 3 ∧ 0 ≤ v ∧ v < 2147483647)
theorem sst (i j : Nat) {q : Int} (h : WE X c g e fun r => ∃ v, r = .d (.int v) ∧ StV j v ∧ N'.nx g)
    (B : Bx X N sc k := by assumption) (hq : q = (j : Int) := by rfl) (hN : N[i]? = some x := by rfl) (hG : g[i]? = some (some .st) := by rfl) (hv : visB sc x = true := by decide +kernel)
    (hd : (x == ("__debug__" : Str)) = false := by decide) (hcd : (x == ("__classdict__" : Str)) = false := by decide)
    (ha : ∀ v, assign (.Subscript (.Name x npos) (.Constant (.int q) kk p1) pos2) X.env v = (do
      let ov ← holding [v] (eval (.Name x npos) X.env)
      let iv ← holding [v, ov] (eval (.Constant (.int q) kk p1) X.env)
      standAt pos2
      holding [v, ov, iv] (setItem ov iv v)
      release [v, ov, iv] []) := by intro _; rfl)
    (hs : swapsWithSole [.Subscript (.Name x npos) (.Constant (.int q) kk p1) pos2] e pos.line X.env = pure false := by rfl) (hw : swappedStores [.Subscript (.Name x npos) (.Constant (.int q) kk p1) pos2] e X.env = pure none := by rfl)
    (h1 : (assignEach [.Subscript (.Name x npos) (.Constant (.int q) kk p1) pos2] X.env).map (·.2) = [assign (.Subscript (.Name x npos) (.Constant (.int q) kk p1) pos2) X.env] := by rfl) : WS X c g (.Assign [.Subscript (.Name x npos) (.Constant (.int q) kk p1) pos2] e pos) N' := fun σ H E D K => by
  subst hq
  refine ws_of (ps_asg pe_w (pg_sub (pe_nm i B hN hv hd hcd) pe_int set_list ha) hs hw h1) ?_
  refine h σ H E _ fun u H1 r e1 r1 ⟨v, er, hv2, n⟩ => ?_
  subst er
  cases is_int r1
  have E1 := E.go e1
  obtain ⟨w, q1, s, es, rfl⟩ := E1.sl i .st hG
  obtain ⟨sc', ns, a, b, r, hst, scr, hl, a1, a2, a3, a4⟩ := E1.stk s es
  refine ⟨_, q1, s, _, (j : Int), j, rfl, rfl, hst, ?_, ?_⟩
  · unfold ixN
    rcases hv2 with ⟨rfl, _⟩ | ⟨rfl, _⟩ | ⟨rfl, _⟩ <;> rfl
  · refine K.nx g σ _ (E1.stput es hst ?_) n
    rcases hv2 with ⟨rfl, b1⟩ | ⟨rfl, b1⟩ | ⟨rfl, b1, b2⟩
    · exact ⟨sc', ns, v, b, r, upd_same, scr_upd hst scr, hl, b1, a2, a3, a4⟩
    · exact ⟨sc', ns, a, v, r, upd_same, scr_upd hst scr, hl, a1, b1, a3, a4⟩
    · exact ⟨sc', ns, a, b, v, upd_same, scr_upd hst scr, hl, a1, a2, b1, b2⟩
/-- if st[1] < len(st[0]): y = st[0][st[1]] -/
theorem s_scr (i m : Nat) (h0 : N'.nx g) (h : ∀ v, N'.nx (g.set m (some (.d (.int v)))))
    (B : Bd X N sc k := by assumption) (M : Nm X.mg := by assumption) (hN : N[i]? = some x := by rfl) (hG : g[i]? = some (some .st) := by rfl) (hv : visB sc x = true := by decide +kernel) (hNy : N[m]? = some y := by rfl) (hl : locB sc y = true := by decide +kernel) (hgl : glB sc "len" = true := by decide +kernel)
    (hd : (x == ("__debug__" : Str)) = false := by decide) (hcd : (x == ("__classdict__" : Str)) = false := by decide)
    (he : starEach [.Subscript (.Name x p5) (.Constant (.int 0) k2 p6) p7] X.env = (false, eval (.Subscript (.Name x p5) (.Constant (.int 0) k2 p6) p7) X.env) :: starEach [] X.env := by rfl)
    (hs : swapsWith (.Subscript (.Subscript (.Name x p11) (.Constant (.int 0) k3 p12) p13) (.Subscript (.Name x p14) (.Constant (.int 1) k4 p15) p16) p17) (some (.Name y p10)) p18.line X.env = pure false := by rfl) :
    WS X c g (.If (.Compare (.Subscript (.Name x p1) (.Constant (.int 1) k1 p2) p3) [.Lt] [.Call (.Name "len" p4) [.Subscript (.Name x p5) (.Constant (.int 0) k2 p6) p7] [] p8] p9)
      [.Assign [.Name y p10] (.Subscript (.Subscript (.Name x p11) (.Constant (.int 0) k3 p12) p13) (.Subscript (.Name x p14) (.Constant (.int 1) k4 p15) p16) p17) p18] [] pos) N' := fun σ H E D K => by
  have nm : ∀ {q : Pos}, PE X (.Name x q) (tVar i) := fun {q} => pe_nm i B.toBx hN hv hd hcd
  have len : PE X (.Call (.Name "len" p4) [.Subscript (.Name x p5) (.Constant (.int 0) k2 p6) p7] [] p8) _ :=
    pe_callB call_len_seq (B.gl hgl) M.len PySem.boot_len (pa_cons (pe_ix ix_list nm pe_int (by intro _ _; rfl)) pa_nil he) (by decide) (by decide) he rfl
  refine ws_of (ps_if (pt_cmpR op_lt (pe_ix ix_list nm pe_int (by intro _ _; rfl)) len (nomark _))
    (pss_one (ps_set B.nd (by rw [B.N]; exact hNy) (by rw [B.sc]; exact loc_of hl) (pe_ix ix_list (pe_ix ix_list nm pe_int (by intro _ _; rfl)) (pe_ix ix_list nm pe_int (by intro _ _; rfl)) (by intro _ _; rfl)) hs (.inl (B.fn y)))) pss_nil) ?_
  obtain ⟨w, q1, s, es, rfl⟩ := E.sl i .st hG
  obtain ⟨sc', ns, a, b, r, hst, scr, hl2, a1, a2, a3, a4⟩ := E.stk s es
  have rd : ∀ (j : Int) (v : V), atI [V.ref sc', .int a, .int b, .int r] j = some v → ∀ Q : VK, Q v H → rIxL X.K (V.ref s) (V.int j) H Q := fun j v e Q q => ⟨s, _, j, v, rfl, rfl, SqL.of hst, e, q⟩
  refine ⟨_, q1, ?_⟩
  dsimp only [tC]
  refine rd 1 (.int a) rfl _ ?_
  refine ⟨_, q1, ?_⟩
  dsimp only [tC]
  refine rd 0 (.ref sc') rfl _ ?_
  refine ⟨sc', ns.map V.int, rfl, .inl scr.seq, ?_⟩
  refine ⟨a, ((ns.map V.int).length : Nat), rfl, rfl, _, rfl, ?_⟩
  rw [List.length_map]
  by_cases hlt : a < (ns.length : Nat)
  · rw [if_pos (decide_eq_true hlt)]
    have hn : a.toNat < ns.length := by omega
    refine ⟨_, q1, ?_⟩
    dsimp only [tC]
    refine rd 0 (.ref sc') rfl _ ?_
    refine ⟨_, q1, ?_⟩
    dsimp only [tC]
    refine rd 1 (.int a) rfl _ ?_
    refine ⟨sc', ns.map V.int, a, .int (ns[a.toNat]), rfl, rfl, scr.seq, ?_, ?_⟩
    · unfold atI ixN
      rw [List.length_map, if_pos a1, if_pos hlt]
      simp [hn]
    · exact K.nx _ _ _ (E.put (Ext.refl H) (RsOk.dd (H1 := H) (Is.int _)) rfl) (h _)
  · rw [if_neg (by simpa using hlt)]
    exact K.nx _ _ _ E h0
end
end TW

namespace TW
open PySem PySem.Spec PyProof.Rows L2
section
variable {P : Program} {w : World} {K : Fg} {mg : Str → Option Value} {base : Heap} {fa : Addr} {fd : FuncData}
abbrev ph_take : Ph := fun rs p => ∃ (below : Int), rs = [.st, .d (.int below)] ∧ 1 ≤ below ∧ below < 1000 ∧ ∀ v : Int, 0 ≤ v → v < below → p (.d (.int v))
theorem ok_take (M : Nm mg) (F : Fun K "_law_take" "_law_take" s_law_take fa fd) : FnOk P w K mg base CX0 1 fa fd ["_law_state", "_law_below"] (spP K ph_take) := by
  refine fn_mk F sc_law_take _ (fun rs p ⟨_, e, _⟩ => by rw [e]; rfl) fun X c rs p eP ew eK eM eB B ⟨below, er, b1, b2, hp⟩ => ?_
  subst er eP ew eK eM eB
  have B' := B.toBx
  have bp : 0 < below := by omega
  have md : ∀ v : Int, p (.d (.int (v % below))) := fun v => hp _ (Int.emod_nonneg _ (by omega)) (Int.emod_lt_of_pos _ bp)
  have cd : CDiv 0 below → True := fun _ => True.intro
  have rest : ∀ (x2 : Option Sl) (cell : Int), WSs X c [some .st, some (.d (.int below)), x2, some (.d (.int cell))] ((defBody s_law_take).drop 3) ⟨fun _ => p (.d .non), p, fun _ => False, fun _ => False⟩ := fun x2 cell => by
    refine s_cons ?_
    refine sst 0 1 ?_
    refine n_add ?_
    refine xst1 0 (fun a ha => ?_)
    refine ⟨_, rfl, ?_⟩
    refine xi ?_
    refine ⟨_, rfl, ?_⟩
    refine ⟨_, rfl, .inl ⟨rfl, by omega⟩, ?_⟩
    refine s_cons ?_
    refine sif ?_
    refine tge ?_
    refine xv 3 ?_
    refine ⟨_, rfl, ?_⟩
    refine n_opI op_pow ?_
    refine xi ?_
    refine ⟨_, rfl, ?_⟩
    refine xi ?_
    refine ⟨_, rfl, ⟨by omega, by omega, by decide⟩, ?_⟩
    refine ⟨_, rfl, ?_⟩
    refine ite_b (fun e1 => ?_) (fun e1 => ?_)
    · have h1 := of_decide_eq_true e1
      have h0 : 0 ≤ cell := Int.le_trans (by decide) h1
      refine s_cons ?_
      refine sst 0 2 ?_
      refine n_opI op_fdiv ?_
      refine xv 3 ?_
      refine ⟨_, rfl, ?_⟩
      refine xv 1 ?_
      refine ⟨_, rfl, ⟨bp, by omega⟩, ?_⟩
      refine ⟨_, rfl, .inr (.inl ⟨rfl, Int.ediv_nonneg h0 (by omega)⟩), ?_⟩
      refine s_one (s_ret ?_)
      refine n_opI op_mod ?_
      refine xv 3 ?_
      refine ⟨_, rfl, ?_⟩
      refine xv 1 ?_
      refine ⟨_, rfl, bp, ?_⟩
      exact md _
    · refine s_nil ?_
      refine s_cons ?_
      refine sst 0 3 ?_
      refine n_opI op_mod ?_
      refine n_add ?_
      refine n_add ?_
      refine n_mul ?_
      refine xst3 0 (fun a ha ha2 => ?_)
      refine ⟨_, rfl, ?_⟩
      refine xi ?_
      refine ⟨_, rfl, .inr ⟨by decide, by decide⟩, ?_⟩
      refine ⟨_, rfl, ?_⟩
      refine n_opI op_mod ?_
      refine xv 3 ?_
      refine ⟨_, rfl, ?_⟩
      refine xi ?_
      refine ⟨_, rfl, by decide, ?_⟩
      refine ⟨_, rfl, ?_⟩
      refine ⟨_, rfl, ?_⟩
      refine n_mul ?_
      refine xi ?_
      refine ⟨_, rfl, ?_⟩
      refine xst1 0 (fun b hb => ?_)
      refine ⟨_, rfl, .inl ⟨by decide, by decide⟩, ?_⟩
      refine ⟨_, rfl, ?_⟩
      refine ⟨_, rfl, ?_⟩
      refine xi ?_
      refine ⟨_, rfl, by decide, ?_⟩
      refine ⟨_, rfl, .inr (.inr ⟨rfl, Int.emod_nonneg _ (by decide), Int.emod_lt_of_pos _ (by decide)⟩), ?_⟩
      refine s_one (s_ret ?_)
      refine n_opI op_mod ?_
      refine n_opI op_fdiv ?_
      refine n_opI op_mod ?_
      refine n_opI op_pow ?_
      refine xst3 0 (fun a ha ha2 => ?_)
      refine ⟨_, rfl, ?_⟩
      refine xi ?_
      refine ⟨_, rfl, ⟨by omega, by omega, by omega⟩, ?_⟩
      refine ⟨_, rfl, ?_⟩
      refine xi ?_
      refine ⟨_, rfl, by decide, ?_⟩
      refine ⟨_, rfl, ?_⟩
      refine xi ?_
      refine ⟨_, rfl, ⟨by decide, by decide⟩, ?_⟩
      refine ⟨_, rfl, ?_⟩
      refine xv 1 ?_
      refine ⟨_, rfl, bp, ?_⟩
      exact md _
  refine s_cons ?_
  refine sif ?_
  refine tgt ?_
  refine xst2 0 (fun a ha => ?_)
  refine ⟨_, rfl, ?_⟩
  refine xi ?_
  refine ⟨_, rfl, ?_⟩
  refine ite_b (fun e1 => ?_) (fun e1 => ?_)
  · refine s_cons ?_
    refine sset 2 ?_
    refine n_opI op_mod ?_
    refine xst2 0 (fun a ha => ?_)
    refine ⟨_, rfl, ?_⟩
    refine xv 1 ?_
    refine ⟨_, rfl, bp, ?_⟩
    refine ⟨_, rfl, ?_⟩
    refine s_cons ?_
    refine sst 0 2 ?_
    refine n_opI op_fdiv ?_
    refine xst2 0 (fun a ha => ?_)
    refine ⟨_, rfl, ?_⟩
    refine xv 1 ?_
    refine ⟨_, rfl, ⟨bp, by omega⟩, ?_⟩
    refine ⟨_, rfl, .inr (.inl ⟨rfl, Int.ediv_nonneg ha (by omega)⟩), ?_⟩
    refine s_one (s_ret ?_)
    refine xv 2 ?_
    exact md _
  · refine s_nil ?_
    refine s_cons ?_
    refine sset 3 ?_
    refine xi ?_
    refine ⟨_, rfl, ?_⟩
    refine s_cons ?_
    refine s_scr 0 3 ?_ fun v => ?_
    · exact rest _ _
    · exact rest _ _
theorem gI_map {l : List Int} {v : Int} (h0 : 0 ≤ v) (h : v < l.length) : atI (l.map D.int) v = some (.int (gI l v)) ∧ gI l v ∈ l := ⟨at_ints h0 h, gI_mem h0 h⟩
theorem lit_ints {xs : List D} {l : List Int} (h : xs = l.map D.int) {v : Int} (h0 : 0 ≤ v) (h1 : v < l.length) : ∃ z, z ∈ l ∧ atI xs v = some (.int z) := ⟨gI l v, gI_mem h0 h1, by rw [h]; exact at_ints h0 h1⟩
def strD (l : List Str) : List D := l.map D.str
theorem lit_strs {xs : List D} {l : List Str} (h : xs = strD l) {v : Int} (h0 : 0 ≤ v) (h1 : v < l.length) : ∃ z, z ∈ l ∧ atI xs v = some (.str z) := by
  have hn : v.toNat < l.length := by omega
  refine ⟨l[v.toNat], List.getElem_mem hn, ?_⟩
  rw [h]
  exact at_mapI h0 (List.getElem?_eq_getElem hn)
abbrev ph_parent : Ph := fun rs p => ∃ (fs : List Folk) (day man : Int), rs = [.st, .lst false (fs.map folkD), .d (.int day), .d (.int man)] ∧ fs.length ≤ 60 ∧ ∀ v : Int, (v = -1 ∨ (0 ≤ v ∧ v < fs.length)) → p (.d (.int v))
theorem cut_m3 {l : List Int} (h : l ≠ []) : ∃ l', cut (l.map D.int) (some (-3)) none = l'.map D.int ∧ l' ≠ [] ∧ ∀ x ∈ l', x ∈ l := by
  unfold cut
  rw [HT.sIx_none, ← List.map_drop, ← List.map_take]
  refine ⟨_, rfl, fun z => ?_, fun x hx => List.mem_of_mem_drop (List.mem_of_mem_take hx)⟩
  have hl : 0 < l.length := List.length_pos_iff.mpr h
  have e : HT.sIx (l.map D.int).length 0 (some (-3)) = (l.length : Nat) - 3 := by
    show (if (-3 : Int) < 0 then ((-3 : Int) + (((l.map D.int).length : Nat) : Int)).toNat else min (-3 : Int).toNat (l.map D.int).length) = _
    rw [if_pos (by decide), List.length_map]
    omega
  have := congrArg List.length z
  rw [List.length_take, List.length_drop, e, List.length_map, List.length_nil] at this
  omega
theorem ok_parent (M : Nm mg) (F : Fun K "_law_parent" "_law_parent" s_law_parent fa fd) (F1 : Callee P w K mg base "_law_take" 1 ph_take) : FnOk P w K mg base CX0 2 fa fd ["_law_state", "_law_folk", "_law_day_here", "_law_man"] (spP K ph_parent) := by
  refine fn_mk F sc_law_parent _ (fun rs p ⟨_, _, _, e, _⟩ => by rw [e]; rfl) fun X c rs p eP ew eK eM eB B ⟨fs, day, man, er, fl, hp⟩ => ?_
  subst er eP ew eK eM eB
  have B' := B.toBx
  have atf : ∀ {a : Int}, okF fs a → atI (fs.map folkD) a = some (folkD (hAt fs a)) := fun o => at_h o
  -- one of a list
  have pick : ∀ (x5 : Option Sl) (l : List Int), l ≠ [] → l.length ≤ 60 → (∀ x ∈ l, 0 ≤ x ∧ x < fs.length) → WSs X c [some .st, some (.ro (fs.map folkD)), some (.d (.int day)), some (.d (.int man)), some (.own (l.map D.int)), x5] ((defBody s_law_parent).drop 3) ⟨fun _ => p (.d .non), p, fun _ => False, fun _ => False⟩ := fun x5 l hne hl hm => by
    have pos : 0 < l.length := List.length_pos_iff.mpr hne
    refine s_one (s_ret ?_)
    refine xixL ?_
    refine xv 4 ?_
    refine ⟨_, rfl, ?_⟩
    refine xcall F1 ?_
    refine a_cons ?_
    refine xv 0 ?_
    refine a_cons ?_
    refine xlen ?_
    refine xv 4 ?_
    refine ⟨_, rfl, ?_⟩
    refine a_nil ?_
    refine ⟨_, rfl, by rw [List.length_map]; omega, by rw [List.length_map]; omega, fun v v0 v1 => ?_⟩
    rw [List.length_map] at v1
    refine ⟨_, rfl, _, at_ints v0 v1, ?_⟩
    exact hp _ (.inr (hm _ (gI_mem v0 v1)))
  refine s_cons ?_
  refine slc1 4 5 D.int (fun a => decide ((hAt fs a).man = man) && decide ((hAt fs a).d < day)) D.int ?_
  refine qrange ?_
  refine xlen ?_
  refine xv 1 ?_
  refine ⟨_, rfl, ?_⟩
  rw [List.length_map]
  refine ⟨fs.length, rfl, by omega, ?_⟩
  refine ⟨idx fs.length, rng0 _, by rw [idx_len]; omega, fun a ha => ⟨_, rfl, fun X' hb B1 => ?_, fun _ X' hb B1 => ?_⟩, ?_⟩
  · have oa := okF_idx.mp ha
    show WT _ _ _ _ _
    refine t_bop ?_
    refine w_and ?_
    refine teq ?_
    refine xix ?_
    refine xixL ?_
    refine xv 1 ?_
    refine ⟨_, rfl, ?_⟩
    refine xv 5 ?_
    refine ⟨_, rfl, ?_⟩
    refine ⟨_, atf oa, ?_⟩
    refine ⟨_, rfl, ?_⟩
    refine xi ?_
    refine ⟨_, rfl, ?_⟩
    refine ⟨_, rfl, ?_⟩
    refine ⟨_, rfl, ?_⟩
    refine xv 3 ?_
    refine ⟨_, rfl, ?_⟩
    refine ite_b (fun e1 => ?_) (fun e1 => ?_)
    · refine w_and1 ?_
      refine tlt ?_
      refine xix ?_
      refine xixL ?_
      refine xv 1 ?_
      refine ⟨_, rfl, ?_⟩
      refine xv 5 ?_
      refine ⟨_, rfl, ?_⟩
      refine ⟨_, atf oa, ?_⟩
      refine ⟨_, rfl, ?_⟩
      refine xi ?_
      refine ⟨_, rfl, ?_⟩
      refine ⟨_, rfl, ?_⟩
      refine ⟨_, rfl, ?_⟩
      refine xv 2 ?_
      refine ⟨_, rfl, ?_⟩
      rw [e1]
      rfl
    · rw [e1]
      rfl
  · refine xv 5 ?_
    rfl
  show WSs X c _ _ _
  generalize hl : ((idx fs.length).filter fun a => decide ((hAt fs a).man = man) && decide ((hAt fs a).d < day)) = l
  have ll : l.length ≤ 60 := by
    rw [← hl]
    have := List.length_filter_le (fun a => decide ((hAt fs a).man = man) && decide ((hAt fs a).d < day)) (idx fs.length)
    rw [idx_len] at this
    omega
  have lm : ∀ x ∈ l, 0 ≤ x ∧ x < fs.length := fun x hx => by
    rw [← hl] at hx
    exact mem_idx.mp (List.mem_filter.mp hx).1
  refine s_cons ?_
  refine sif ?_
  refine t_bop ?_
  refine w_or ?_
  refine teqN ?_
  refine xv 4 ?_
  refine ⟨_, rfl, ?_⟩
  refine n_lst ?_
  refine a_nil ?_
  refine ⟨[], rfl, by simp, _, rfl, rfl, fit_ints _, ?_⟩
  rw [isEmpty_map]
  refine ite_b (fun e1 => ?_) (fun e1 => ?_)
  · refine s_one ?_
    refine s_ret ?_
    refine n_neg ?_
    refine xi ?_
    refine ⟨_, rfl, ?_⟩
    exact hp _ (.inl rfl)
  have hne : l ≠ [] := fun z => by
    rw [z] at e1
    cases e1
  refine w_or1 ?_
  refine teq ?_
  refine xcall F1 ?_
  refine a_cons ?_
  refine xv 0 ?_
  refine a_cons ?_
  refine xi ?_
  refine a_nil ?_
  refine ⟨_, rfl, by omega, by omega, fun v v0 v1 => ?_⟩
  refine ⟨_, rfl, ?_⟩
  refine xi ?_
  refine ⟨_, rfl, ?_⟩
  refine ite_b (fun e2 => ?_) (fun e2 => ?_)
  · refine s_one ?_
    refine s_ret ?_
    refine n_neg ?_
    refine xi ?_
    refine ⟨_, rfl, ?_⟩
    exact hp _ (.inl rfl)
  refine s_nil ?_
  refine s_cons ?_
  refine sif ?_
  refine teq ?_
  refine xcall F1 ?_
  refine a_cons ?_
  refine xv 0 ?_
  refine a_cons ?_
  refine xi ?_
  refine a_nil ?_
  refine ⟨_, rfl, by omega, by omega, fun v v0 v1 => ?_⟩
  refine ⟨_, rfl, ?_⟩
  refine xi ?_
  refine ⟨_, rfl, ?_⟩
  refine ite_b (fun e3 => ?_) (fun e3 => ?_)
  · obtain ⟨l', el, hne', sub⟩ := cut_m3 hne
    refine s_one ?_
    refine sset 4 ?_
    refine xslL ?_
    refine xv 4 ?_
    refine ⟨_, rfl, ?_⟩
    refine po1 ?_
    refine n_neg ?_
    refine xi ?_
    refine ⟨_, rfl, ?_⟩
    refine ⟨_, rfl, ?_⟩
    refine po0 ?_
    refine ⟨_, rfl, ?_⟩
    have el2 : cut (l.map D.int) (some (-3)) none = l'.map D.int := el
    rw [el2]
    refine pick _ l' hne' ?_ fun x hx => lm x (sub x hx)
    have := congrArg List.length el
    unfold cut at this
    rw [List.length_take, List.length_drop, List.length_map, List.length_map] at this
    omega
  · refine s_nil ?_
    exact pick _ l hne ll lm
end
end TW

namespace TW
open PySem PySem.Spec PyProof.Rows L2
section
variable {X : Cx} {c : Cf} {g : G} {sc scope : Scope} {N : List Str} {k : Nat} {elt iter e a b : Expr} {p : Rs → Prop} {pos px pos2 : Pos} {x : Str}
/-- a comprehension by a word on what it has made -/
theorem xlcI (i : Nat) (h : WI X c g false (.Name x px) iter fun ds => ∃ Pv : Nat → List D → Prop, Pv 0 [] ∧ (∀ n d acc, ds[n]? = some d → Pv n acc → Blks X scope sc N k fun X' => WE X' c ((g.set i none).set i (some (.d d))) elt fun r => ∃ y, r = .d y ∧ Pv (n + 1) (acc ++ [y])) ∧ ds.length ≤ 1000000 ∧ ∀ acc, Pv ds.length acc → p (.lst true acc))
    (B : Bx X N sc k := by assumption) (hN : N[i]? = some x := by rfl) (hblk : blkC N sc scope [(x, i)] = true := by decide +kernel) (hl : lclB (relS scope sc) x = true := by decide +kernel)
    (hs : ∀ x, foldedSetIterable iter X.env x = pure x := by intro _; rfl) : WE X c g (.ListComp elt [⟨.Name x px, iter, [], 0⟩] scope pos) p := by
  refine n_lc (f := fN i) (is := [i]) B hblk (fun X' hb => pg_nmC i (hb.bx B) hN hl) (tgs_name i) (by simp) ?_ hs
  intro σ H E R kk
  refine h σ H E R fun J H' ds e1 src ⟨Pv, p0, turn, hlen, fin⟩ => kk J H' ds e1 src ⟨Pv, p0, fun n d acc hd pv _ => ⟨_, rfl, fun X' hb => ?_⟩, hlen, fun acc _ pv => fin acc pv⟩
  unfold WF
  simp only [if_true]
  intro X2 hb2
  exact turn n d acc hd pv X2 hb2 (hb2.bx B)
end
section
variable {P : Program} {w : World} {K : Fg} {mg : Str → Option Value} {base : Heap} {fa : Addr} {fd : FuncData}
structure Hs (fs : List Folk) (day : Int) : Prop where
  rise : ∀ i j : Int, okF fs i → okF fs j → i ≤ j → (hAt fs i).d ≤ (hAt fs j).d
  cap : ∀ i : Int, okF fs i → (hAt fs i).d ≤ day
  day : day ≤ 99990
  fa : ∀ j : Int, okF fs j → (hAt fs j).fa < j
  mo : ∀ j : Int, okF fs j → (hAt fs j).mo < j
theorem hAt_snoc {fs : List Folk} {f : Folk} {i : Int} (o : okF (fs ++ [f]) i) : (okF fs i ∧ hAt (fs ++ [f]) i = hAt fs i) ∨ (i = (fs.length : Nat) ∧ hAt (fs ++ [f]) i = f) := by
  obtain ⟨h1, h2⟩ := o
  rw [List.length_append, List.length_singleton] at h2
  unfold hAt
  by_cases h : i < (fs.length : Nat)
  · refine .inl ⟨⟨h1, h⟩, ?_⟩
    rw [List.getD_eq_getElem?_getD, List.getD_eq_getElem?_getD, List.getElem?_append_left (by omega)]
  · have e : i = (fs.length : Nat) := by omega
    refine .inr ⟨e, ?_⟩
    rw [e, List.getD_eq_getElem?_getD, List.getElem?_append_right (by omega)]
    simp
theorem hs_snoc {fs : List Folk} {day day' fa mo man wed : Int} (I : Hs fs day) (h1 : day ≤ day') (h2 : day' ≤ 99990) (ha : fa = -1 ∨ (0 ≤ fa ∧ fa < fs.length)) (hm : mo = -1 ∨ (0 ≤ mo ∧ mo < fs.length)) : Hs (fs ++ [⟨day', fa, mo, man, wed⟩]) day' := by
  refine ⟨fun i j oi oj hij => ?_, fun i oi => ?_, h2, fun j oj => ?_, fun j oj => ?_⟩
  · rcases hAt_snoc oi with ⟨a1, a2⟩ | ⟨a1, a2⟩ <;> rcases hAt_snoc oj with ⟨b1, b2⟩ | ⟨b1, b2⟩ <;> rw [a2, b2]
    · exact I.rise i j a1 b1 hij
    · have := I.cap i a1
      show _ ≤ day'
      omega
    · have := b1.2
      omega
    · exact Int.le_refl _
  · rcases hAt_snoc oi with ⟨a1, a2⟩ | ⟨a1, a2⟩ <;> rw [a2]
    · have := I.cap i a1
      omega
    · exact Int.le_refl _
  · rcases hAt_snoc oj with ⟨a1, a2⟩ | ⟨a1, a2⟩ <;> rw [a2]
    · exact I.fa j a1
    · show fa < j
      omega
  · rcases hAt_snoc oj with ⟨a1, a2⟩ | ⟨a1, a2⟩ <;> rw [a2]
    · exact I.mo j a1
    · show mo < j
      omega
def HD (h : List Folk) : Prop := ∀ i : Int, okF h i → (hAt h i).d ≤ 99990
abbrev ph_house : Ph := fun rs p => ∃ (most : Int), rs = [.st, .d (.int most)] ∧ 1 ≤ most ∧ most ≤ 60 ∧ ∀ h : List Folk, WH h → HD h → p (.d (houseD h))
theorem ok_house (M : Nm mg) (F : Fun K "_law_house" "_law_house" s_law_house fa fd) (F1 : Callee P w K mg base "_law_take" 1 ph_take) (F2 : Callee P w K mg base "_law_parent" 2 ph_parent) : FnOk P w K mg base CX0 3 fa fd ["_law_state", "_law_most"] (spP K ph_house) := by
  refine fn_mk F sc_law_house _ (fun rs p ⟨_, e, _⟩ => by rw [e]; rfl) fun X c rs p eP ew eK eM eB B ⟨most, er, b1, b2, hp⟩ => ?_
  subst er eP ew eK eM eB
  have B' := B.toBx
  refine s_cons ?_
  refine sset 2 ?_
  refine n_add ?_
  refine xi ?_
  refine ⟨_, rfl, ?_⟩
  refine xcall F1 ?_
  refine a_cons ?_
  refine xv 0 ?_
  refine a_cons ?_
  refine xv 1 ?_
  refine a_nil ?_
  refine ⟨_, rfl, by omega, by omega, fun m0 m1 m2 => ?_⟩
  refine ⟨_, rfl, ?_⟩
  refine ⟨_, rfl, ?_⟩
  obtain ⟨m, hm⟩ : ∃ m : Nat, (1 : Int) + m0 = (m : Nat) := ⟨(1 + m0).toNat, by omega⟩
  rw [hm]
  have ml : 1 ≤ m ∧ m ≤ 60 := by omega
  refine s_cons ?_
  refine sset 3 ?_
  refine xixL ?_
  refine n_lst ?_
  refine a_cons ?_
  refine xi ?_
  refine a_cons ?_
  refine xi ?_
  refine a_cons ?_
  refine xi ?_
  refine a_nil ?_
  refine ⟨[.int 0, .int 7, .int 30000], rfl, by simp, ?_⟩
  refine ⟨_, rfl, ?_⟩
  refine xcall F1 ?_
  refine a_cons ?_
  refine xv 0 ?_
  refine a_cons ?_
  refine xi ?_
  refine a_nil ?_
  refine ⟨_, rfl, by omega, by omega, fun v v0 v1 => ?_⟩
  obtain ⟨z, hz, ez⟩ := lit_ints (l := [0, 7, 30000]) rfl v0 (by simpa using v1)
  refine ⟨_, rfl, _, ez, ?_⟩
  refine ⟨_, rfl, ?_⟩
  have hz2 : z ≤ 99990 := by
    simp only [List.mem_cons, List.not_mem_nil, or_false] at hz
    omega
  refine s_cons ?_
  refine sset 4 ?_
  refine n_lst ?_
  refine a_nil ?_
  refine ⟨[], rfl, by simp, ?_⟩
  refine ⟨_, rfl, ?_⟩
  refine s_cons ?_
  refine sfor1 5 D.int ?_
  refine qrange ?_
  refine xv 2 ?_
  refine ⟨m, rfl, by omega, ?_⟩
  refine ⟨idx m, fun pre g1 => ∃ fs day x5 x6 x7 x8, g1 = [some .st, some (.d (.int most)), some (.d (.int (m : Nat))), some (.d (.int day)), some (.own (fs.map folkD)), x5, x6, x7, x8] ∧ fs.length = pre.length ∧ Hs fs day, rng0 _, ⟨[], z, none, none, none, none, rfl, rfl, ?_⟩, ?_, ?_⟩
  · refine ⟨?_, ?_, hz2, ?_, ?_⟩
    · intro i j oi
      have := oi.1
      have := oi.2
      simp at *
      omega
    · intro i oi
      have := oi.1
      have := oi.2
      simp at *
      omega
    · intro i oi
      have := oi.1
      have := oi.2
      simp at *
      omega
    · intro i oi
      have := oi.1
      have := oi.2
      simp at *
      omega
  · intro pre a post g1 el ⟨fs, day, x5, x6, x7, x8, eg, efl, I⟩ c' ec
    subst eg
    have pl : pre.length < m := by
      have := congrArg List.length el
      rw [idx_len, List.length_append, List.length_cons] at this
      omega
    refine s_cons ?_
    refine sset 3 ?_
    refine xmin2 ?_
    refine xi ?_
    refine ⟨_, rfl, ?_⟩
    refine n_add ?_
    refine xv 3 ?_
    refine ⟨_, rfl, ?_⟩
    refine xixL ?_
    refine n_lst ?_
    refine a_cons ?_
    refine xi ?_
    refine a_cons ?_
    refine xi ?_
    refine a_cons ?_
    refine xi ?_
    refine a_cons ?_
    refine xi ?_
    refine a_cons ?_
    refine xi ?_
    refine a_cons ?_
    refine xi ?_
    refine a_cons ?_
    refine xi ?_
    refine a_cons ?_
    refine xi ?_
    refine a_cons ?_
    refine xi ?_
    refine a_cons ?_
    refine xi ?_
    refine a_nil ?_
    refine ⟨[.int 1, .int 0, .int 1, .int 30, .int 299, .int 300, .int 301, .int 6570, .int 2, .int 1], rfl, by simp, ?_⟩
    refine ⟨_, rfl, ?_⟩
    refine xcall F1 ?_
    refine a_cons ?_
    refine xv 0 ?_
    refine a_cons ?_
    refine xi ?_
    refine a_nil ?_
    refine ⟨_, rfl, by omega, by omega, fun v v0 v1 => ?_⟩
    obtain ⟨z, hz, ez⟩ := lit_ints (l := [1, 0, 1, 30, 299, 300, 301, 6570, 2, 1]) rfl v0 (by simpa using v1)
    have hz3 : 0 ≤ z := by
      simp only [List.mem_cons, List.not_mem_nil, or_false] at hz
      omega
    refine ⟨_, rfl, _, ez, ?_⟩
    refine ⟨_, rfl, ?_⟩
    refine ⟨_, rfl, ?_⟩
    refine ⟨_, rfl, ?_⟩
    have d1 : day ≤ (if day + z < 99990 then day + z else 99990) := by
      have := I.day
      split <;> omega
    have d2 : (if day + z < 99990 then day + z else 99990) ≤ 99990 := by
      split <;> omega
    generalize (if day + z < 99990 then day + z else 99990) = day' at d1 d2
    refine s_cons ?_
    refine sset 6 ?_
    refine xcall F2 ?_
    refine a_cons ?_
    refine xv 0 ?_
    refine a_cons ?_
    refine xv 4 ?_
    refine a_cons ?_
    refine xv 3 ?_
    refine a_cons ?_
    refine xi ?_
    refine a_nil ?_
    refine ⟨fs, _, _, rfl, by omega, fun fa hfa => ?_⟩
    refine ⟨_, rfl, ?_⟩
    refine s_cons ?_
    refine sset 7 ?_
    refine xcall F2 ?_
    refine a_cons ?_
    refine xv 0 ?_
    refine a_cons ?_
    refine xv 4 ?_
    refine a_cons ?_
    refine xv 3 ?_
    refine a_cons ?_
    refine xi ?_
    refine a_nil ?_
    refine ⟨fs, _, _, rfl, by omega, fun mo hmo => ?_⟩
    refine ⟨_, rfl, ?_⟩
    refine s_cons ?_
    refine sset 8 ?_
    refine xcall F1 ?_
    refine a_cons ?_
    refine xv 0 ?_
    refine a_cons ?_
    refine xi ?_
    refine a_nil ?_
    refine ⟨_, rfl, by omega, by omega, fun man man0 man1 => ?_⟩
    refine ⟨_, rfl, ?_⟩
    have hz : (fs.map folkD).length < 1000000 := by
      rw [List.length_map]
      omega
    refine s_one ?_
    refine sapp 4 hz ?_
    refine n_tup ?_
    refine a_cons ?_
    refine xv 3 ?_
    refine a_cons ?_
    refine xv 6 ?_
    refine a_cons ?_
    refine xv 7 ?_
    refine a_cons ?_
    refine xv 8 ?_
    refine a_cons ?_
    refine xint ?_
    refine xgt ?_
    refine xcall F1 ?_
    refine a_cons ?_
    refine xv 0 ?_
    refine a_cons ?_
    refine xi ?_
    refine a_nil ?_
    refine ⟨_, rfl, by omega, by omega, fun wed wed0 wed1 => ?_⟩
    refine ⟨_, rfl, ?_⟩
    refine xi ?_
    refine ⟨_, rfl, ?_⟩
    refine ⟨_, rfl, ?_⟩
    refine a_nil ?_
    refine ⟨[.int day', .int fa, .int mo, .int man, .int (if decide (0 < wed) = true then 1 else 0)], rfl, by simp, _, rfl, fs ++ [⟨day', fa, mo, man, if decide (0 < wed) = true then 1 else 0⟩], day', some (.d (.int a)), some (.d (.int fa)), some (.d (.int mo)), some (.d (.int man)), ?_, ?_, hs_snoc I d1 d2 hfa hmo⟩
    · rw [List.map_append]
      rfl
    · rw [List.length_append, List.length_append, efl]
      rfl
  · intro g1 ⟨fs, day, x5, x6, x7, x8, eg, efl, I⟩
    subst eg
    rw [idx_len] at efl
    refine s_one (s_ret ?_)
    refine xtuple ?_
    refine xv 4 ?_
    refine ⟨_, rfl, ?_⟩
    exact hp fs ⟨by omega, by omega, I.rise, I.fa, I.mo⟩ fun i oi => Int.le_trans (I.cap i oi) I.day
def wordsL : List Str := ["dies", "leaves", "cuts", "returns", "awaits", "cuts"]
abbrev ph_news : Ph := fun rs p => ∃ (h : List Folk), rs = [.st, .d (houseD h)] ∧ WH h ∧ ∀ n : News, n.word ∈ wordsL → p (.d (newsD n))
theorem ok_news (M : Nm mg) (F : Fun K "_law_news" "_law_news" s_law_news fa fd) (F1 : Callee P w K mg base "_law_take" 1 ph_take) : FnOk P w K mg base CX0 2 fa fd ["_law_state", "_law_house_here"] (spP K ph_news) := by
  refine fn_mk F sc_law_news _ (fun rs p ⟨_, e, _⟩ => by rw [e]; rfl) fun X c rs p eP ew eK eM eB B ⟨h, er, wh, hp⟩ => ?_
  subst er eP ew eK eM eB
  have B' := B.toBx
  have few := wh.few
  have pos := wh.pos
  refine s_cons ?_
  refine sset 2 ?_
  refine xixL ?_
  refine n_lst ?_
  refine a_cons ?_
  refine xs ?_
  refine a_cons ?_
  refine xs ?_
  refine a_cons ?_
  refine xs ?_
  refine a_cons ?_
  refine xs ?_
  refine a_cons ?_
  refine xs ?_
  refine a_cons ?_
  refine xs ?_
  refine a_nil ?_
  refine ⟨[.str "dies", .str "leaves", .str "cuts", .str "returns", .str "awaits", .str "cuts"], rfl, by simp, ?_⟩
  refine ⟨_, rfl, ?_⟩
  refine xcall F1 ?_
  refine a_cons ?_
  refine xv 0 ?_
  refine a_cons ?_
  refine xi ?_
  refine a_nil ?_
  refine ⟨_, rfl, by omega, by omega, fun v v0 v1 => ?_⟩
  obtain ⟨word, hword, ez⟩ := lit_strs (l := wordsL) rfl v0 (by simpa [wordsL] using v1)
  refine ⟨_, rfl, _, ez, ?_⟩
  refine ⟨_, rfl, ?_⟩
  refine s_cons ?_
  refine sset 3 ?_
  refine xcall F1 ?_
  refine a_cons ?_
  refine xv 0 ?_
  refine a_cons ?_
  refine xlen ?_
  refine xv 1 ?_
  refine ⟨_, rfl, ?_⟩
  refine a_nil ?_
  refine ⟨_, rfl, by rw [List.length_map]; omega, by rw [List.length_map]; omega, fun who who0 who1 => ?_⟩
  refine ⟨_, rfl, ?_⟩
  rw [List.length_map] at who1
  have ow : okF h who := ⟨who0, who1⟩
  refine s_cons ?_
  refine sset 4 ?_
  refine n_sub ?_
  refine n_add ?_
  refine xix ?_
  refine xix ?_
  refine xv 1 ?_
  refine ⟨_, rfl, ?_⟩
  refine xcall F1 ?_
  refine a_cons ?_
  refine xv 0 ?_
  refine a_cons ?_
  refine xlen ?_
  refine xv 1 ?_
  refine ⟨_, rfl, ?_⟩
  refine a_nil ?_
  refine ⟨_, rfl, by rw [List.length_map]; omega, by rw [List.length_map]; omega, fun z z0 z1 => ?_⟩
  rw [List.length_map] at z1
  have oz : okF h z := ⟨z0, z1⟩
  refine ⟨_, rfl, _, at_h oz, ?_⟩
  refine ⟨_, rfl, ?_⟩
  refine xi ?_
  refine ⟨_, rfl, ?_⟩
  refine ⟨_, rfl, ?_⟩
  refine ⟨_, rfl, ?_⟩
  refine xcall F1 ?_
  refine a_cons ?_
  refine xv 0 ?_
  refine a_cons ?_
  refine xi ?_
  refine a_nil ?_
  refine ⟨_, rfl, by omega, by omega, fun t t0 t1 => ?_⟩
  refine ⟨_, rfl, ?_⟩
  refine ⟨_, rfl, ?_⟩
  refine xi ?_
  refine ⟨_, rfl, ?_⟩
  refine ⟨_, rfl, ?_⟩
  refine s_cons ?_
  refine sset 5 ?_
  refine xmax2 ?_
  refine xix ?_
  refine xix ?_
  refine xv 1 ?_
  refine ⟨_, rfl, ?_⟩
  refine xv 3 ?_
  refine ⟨_, rfl, ?_⟩
  refine ⟨_, at_h ow, ?_⟩
  refine ⟨_, rfl, ?_⟩
  refine xi ?_
  refine ⟨_, rfl, ?_⟩
  refine ⟨_, rfl, ?_⟩
  refine ⟨_, rfl, ?_⟩
  refine xv 4 ?_
  refine ⟨_, rfl, ?_⟩
  refine ⟨_, rfl, ?_⟩
  refine s_cons ?_
  refine sif ?_
  refine t_bop ?_
  refine w_and ?_
  refine teqS ?_
  refine xv 2 ?_
  refine ⟨_, rfl, ?_⟩
  refine xs ?_
  refine ⟨_, rfl, ?_⟩
  refine ite_b (fun e1 => ?_) (fun e1 => ?_)
  · refine w_and1 ?_
    refine teq ?_
    refine xix ?_
    refine xix ?_
    refine xv 1 ?_
    refine ⟨_, rfl, ?_⟩
    refine xv 3 ?_
    refine ⟨_, rfl, ?_⟩
    refine ⟨_, at_h ow, ?_⟩
    refine ⟨_, rfl, ?_⟩
    refine xi ?_
    refine ⟨_, rfl, ?_⟩
    refine ⟨_, rfl, ?_⟩
    refine ⟨_, rfl, ?_⟩
    refine xi ?_
    refine ⟨_, rfl, ?_⟩
    refine ite_b (fun e2 => ?_) (fun e2 => ?_)
    · refine s_cons ?_
      refine sset 5 ?_
      refine xmax2 ?_
      refine n_add ?_
      refine xix ?_
      refine xix ?_
      refine xv 1 ?_
      refine ⟨_, rfl, ?_⟩
      refine xv 3 ?_
      refine ⟨_, rfl, ?_⟩
      refine ⟨_, at_h ow, ?_⟩
      refine ⟨_, rfl, ?_⟩
      refine xi ?_
      refine ⟨_, rfl, ?_⟩
      refine ⟨_, rfl, ?_⟩
      refine ⟨_, rfl, ?_⟩
      refine xi ?_
      refine ⟨_, rfl, ?_⟩
      refine ⟨_, rfl, ?_⟩
      refine xv 4 ?_
      refine ⟨_, rfl, ?_⟩
      refine ⟨_, rfl, ?_⟩
      generalize (if (hAt h z).d + t - 1 > (hAt h who).d + 1 then (hAt h z).d + t - 1 else (hAt h who).d + 1) = day'
      refine s_cons ?_
      refine sset 6 ?_
      refine xcat ?_
      refine n_lst ?_
      refine a_cons ?_
      refine n_neg ?_
      refine xi ?_
      refine ⟨_, rfl, ?_⟩
      refine a_nil ?_
      refine ⟨[.int (-1)], rfl, by simp, ?_⟩
      refine ⟨_, rfl, ?_⟩
      refine xlc1 7 D.int (fun a => decide ((hAt h a).man = 1) && decide ((hAt h a).d < day')) D.int ?_
      refine qrange ?_
      refine xlen ?_
      refine xv 1 ?_
      refine ⟨_, rfl, ?_⟩
      rw [List.length_map]
      refine ⟨h.length, rfl, by omega, ?_⟩
      refine ⟨idx h.length, rng0 _, by rw [idx_len]; omega, fun a ha => ⟨_, rfl, fun X' hb B1 => ?_, fun _ X' hb B1 => ?_⟩, ?_⟩
      · have oa := okF_idx.mp ha
        show WT _ _ _ _ _
        refine t_bop ?_
        refine w_and ?_
        refine teq ?_
        refine xix ?_
        refine xix ?_
        refine xv 1 ?_
        refine ⟨_, rfl, ?_⟩
        refine xv 7 ?_
        refine ⟨_, rfl, ?_⟩
        refine ⟨_, at_h oa, ?_⟩
        refine ⟨_, rfl, ?_⟩
        refine xi ?_
        refine ⟨_, rfl, ?_⟩
        refine ⟨_, rfl, ?_⟩
        refine ⟨_, rfl, ?_⟩
        refine xi ?_
        refine ⟨_, rfl, ?_⟩
        refine ite_b (fun e3 => ?_) (fun e3 => ?_)
        · refine w_and1 ?_
          refine tlt ?_
          refine xix ?_
          refine xix ?_
          refine xv 1 ?_
          refine ⟨_, rfl, ?_⟩
          refine xv 7 ?_
          refine ⟨_, rfl, ?_⟩
          refine ⟨_, at_h oa, ?_⟩
          refine ⟨_, rfl, ?_⟩
          refine xi ?_
          refine ⟨_, rfl, ?_⟩
          refine ⟨_, rfl, ?_⟩
          refine ⟨_, rfl, ?_⟩
          refine xv 5 ?_
          refine ⟨_, rfl, ?_⟩
          rw [e3]
          rfl
        · rw [e3]
          rfl
      · refine xv 7 ?_
        rfl
      generalize hl : ((idx h.length).filter fun a => decide ((hAt h a).man = 1) && decide ((hAt h a).d < day')) = l
      have ll : l.length ≤ 60 := by
        rw [← hl]
        have := List.length_filter_le (fun a => decide ((hAt h a).man = 1) && decide ((hAt h a).d < day')) (idx h.length)
        rw [idx_len] at this
        omega
      refine ⟨_, rfl, by simp; omega, _, rfl, ?_⟩
      have e4 : [D.int (-1)] ++ l.map D.int = ((-1) :: l).map D.int := rfl
      rw [e4]
      refine s_one ?_
      refine s_ret ?_
      refine n_tup ?_
      refine a_cons ?_
      refine xv 2 ?_
      refine a_cons ?_
      refine xv 5 ?_
      refine a_cons ?_
      refine xv 3 ?_
      refine a_cons ?_
      refine xixL ?_
      refine xv 6 ?_
      refine ⟨_, rfl, ?_⟩
      refine xcall F1 ?_
      refine a_cons ?_
      refine xv 0 ?_
      refine a_cons ?_
      refine xlen ?_
      refine xv 6 ?_
      refine ⟨_, rfl, ?_⟩
      refine a_nil ?_
      refine ⟨_, rfl, by rw [List.length_map, List.length_cons]; omega, by rw [List.length_map, List.length_cons]; omega, fun q q0 q1 => ?_⟩
      rw [List.length_map] at q1
      refine ⟨_, rfl, _, at_ints q0 q1, ?_⟩
      refine a_nil ?_
      exact ⟨[_, _, _, _], rfl, by simp, hp ⟨word, day', who, _⟩ hword⟩
    · simp only [Bool.false_eq_true, if_false]
      refine s_nil ?_
      refine s_one (s_ret ?_)
      refine n_tup ?_
      refine a_cons ?_
      refine xixL ?_
      refine n_lst ?_
      refine a_cons ?_
      refine xv 2 ?_
      refine a_cons ?_
      refine xs ?_
      refine a_nil ?_
      refine ⟨[.str word, .str "leaves"], rfl, by simp, ?_⟩
      refine ⟨_, rfl, ?_⟩
      refine xint ?_
      refine xeqS ?_
      refine xv 2 ?_
      refine ⟨_, rfl, ?_⟩
      refine xs ?_
      refine ⟨_, rfl, ?_⟩
      refine ⟨_, rfl, ?_⟩
      refine ⟨_, rfl, ?_⟩
      rw [e1]
      refine ⟨.str "leaves", rfl, ?_⟩
      refine a_cons ?_
      refine xv 5 ?_
      refine a_cons ?_
      refine xv 3 ?_
      refine a_cons ?_
      refine n_neg ?_
      refine xi ?_
      refine ⟨_, rfl, ?_⟩
      refine a_nil ?_
      exact ⟨[_, _, _, _], rfl, by simp, hp ⟨"leaves", _, who, -1⟩ (by simp [wordsL])⟩
  · simp only [Bool.false_eq_true, if_false]
    refine s_nil ?_
    refine s_one (s_ret ?_)
    refine n_tup ?_
    refine a_cons ?_
    refine xixL ?_
    refine n_lst ?_
    refine a_cons ?_
    refine xv 2 ?_
    refine a_cons ?_
    refine xs ?_
    refine a_nil ?_
    refine ⟨[.str word, .str "leaves"], rfl, by simp, ?_⟩
    refine ⟨_, rfl, ?_⟩
    refine xint ?_
    refine xeqS ?_
    refine xv 2 ?_
    refine ⟨_, rfl, ?_⟩
    refine xs ?_
    refine ⟨_, rfl, ?_⟩
    refine ⟨_, rfl, ?_⟩
    refine ⟨_, rfl, ?_⟩
    rw [e1]
    refine ⟨.str word, rfl, ?_⟩
    refine a_cons ?_
    refine xv 5 ?_
    refine a_cons ?_
    refine xv 3 ?_
    refine a_cons ?_
    refine n_neg ?_
    refine xi ?_
    refine ⟨_, rfl, ?_⟩
    refine a_nil ?_
    exact ⟨[_, _, _, _], rfl, by simp, hp ⟨word, _, who, -1⟩ hword⟩
abbrev ph_row : Ph := fun rs p => ∃ (h : List Folk), rs = [.st, .d (houseD h)] ∧ WH h ∧ ∀ r : Row, okF h r.fo → WayOk r → p (.d (rowD r))
def waysL : List Str := ["lines", "lines", "age", "near"]
def mensL : List Str := ["alike", "first", "first", "only"]
theorem ok_row (M : Nm mg) (F : Fun K "_law_row" "_law_row" s_law_row fa fd) (F1 : Callee P w K mg base "_law_take" 1 ph_take) : FnOk P w K mg base CX0 2 fa fd ["_law_state", "_law_house_here"] (spP K ph_row) := by
  refine fn_mk F sc_law_row _ (fun rs p ⟨_, e, _⟩ => by rw [e]; rfl) fun X c rs p eP ew eK eM eB B ⟨h, er, wh, hp⟩ => ?_
  subst er eP ew eK eM eB
  have B' := B.toBx
  have few := wh.few
  have pos := wh.pos
  refine s_cons ?_
  refine sset 2 ?_
  refine xixL ?_
  refine n_lst ?_
  refine a_cons ?_
  refine xs ?_
  refine a_cons ?_
  refine xs ?_
  refine a_cons ?_
  refine xs ?_
  refine a_cons ?_
  refine xs ?_
  refine a_nil ?_
  refine ⟨[.str "lines", .str "lines", .str "age", .str "near"], rfl, by simp, ?_⟩
  refine ⟨_, rfl, ?_⟩
  refine xcall F1 ?_
  refine a_cons ?_
  refine xv 0 ?_
  refine a_cons ?_
  refine xi ?_
  refine a_nil ?_
  refine ⟨_, rfl, by omega, by omega, fun v v0 v1 => ?_⟩
  obtain ⟨way, hway, ez⟩ := lit_strs (l := waysL) rfl v0 (by simpa [waysL] using v1)
  refine ⟨_, rfl, _, ez, ?_⟩
  refine ⟨_, rfl, ?_⟩
  refine s_cons ?_
  refine sset 3 ?_
  refine xixL ?_
  refine n_lst ?_
  refine a_cons ?_
  refine xs ?_
  refine a_cons ?_
  refine xs ?_
  refine a_cons ?_
  refine xs ?_
  refine a_cons ?_
  refine xs ?_
  refine a_nil ?_
  refine ⟨[.str "alike", .str "first", .str "first", .str "only"], rfl, by simp, ?_⟩
  refine ⟨_, rfl, ?_⟩
  refine xcall F1 ?_
  refine a_cons ?_
  refine xv 0 ?_
  refine a_cons ?_
  refine xi ?_
  refine a_nil ?_
  refine ⟨_, rfl, by omega, by omega, fun v v0 v1 => ?_⟩
  obtain ⟨men, hmen, ez⟩ := lit_strs (l := mensL) rfl v0 (by simpa [mensL] using v1)
  refine ⟨_, rfl, _, ez, ?_⟩
  refine ⟨_, rfl, ?_⟩
  refine s_cons ?_
  refine sset 4 ?_
  refine n_mul ?_
  refine xcall F1 ?_
  refine a_cons ?_
  refine xv 0 ?_
  refine a_cons ?_
  refine xlen ?_
  refine xv 1 ?_
  refine ⟨_, rfl, ?_⟩
  refine a_nil ?_
  refine ⟨_, rfl, by rw [List.length_map]; omega, by rw [List.length_map]; omega, fun f f0 f1 => ?_⟩
  refine ⟨_, rfl, ?_⟩
  refine xint ?_
  refine xeq ?_
  refine xcall F1 ?_
  refine a_cons ?_
  refine xv 0 ?_
  refine a_cons ?_
  refine xi ?_
  refine a_nil ?_
  refine ⟨_, rfl, by omega, by omega, fun t t0 t1 => ?_⟩
  refine ⟨_, rfl, ?_⟩
  refine xi ?_
  refine ⟨_, rfl, ?_⟩
  refine ⟨_, rfl, ?_⟩
  rw [List.length_map] at f1
  have ofo : okF h (f * if decide (t = 0) = true then 1 else 0) := by
    unfold okF
    split <;> omega
  refine ⟨_, rfl, .inl ⟨by omega, by omega⟩, ?_⟩
  refine ⟨_, rfl, ?_⟩
  refine s_one (s_ret ?_)
  refine n_tup ?_
  refine a_cons ?_
  refine xv 4 ?_
  refine a_cons ?_
  refine xv 3 ?_
  refine a_cons ?_
  refine xint ?_
  refine xeq ?_
  refine xcall F1 ?_
  refine a_cons ?_
  refine xv 0 ?_
  refine a_cons ?_
  refine xi ?_
  refine a_nil ?_
  refine ⟨_, rfl, by omega, by omega, fun q q0 q1 => ?_⟩
  refine ⟨_, rfl, ?_⟩
  refine xi ?_
  refine ⟨_, rfl, ?_⟩
  refine ⟨_, rfl, ?_⟩
  refine a_cons ?_
  refine xv 2 ?_
  refine a_nil ?_
  refine ⟨[_, _, _, _], rfl, by simp, hp ⟨_, men, _, way⟩ ofo ?_⟩
  unfold WayOk
  simp only [waysL, List.mem_cons, List.not_mem_nil, or_false] at hway
  rcases hway with e | e | e | e
  · exact .inl e
  · exact .inl e
  · exact .inr (.inl e)
  · exact .inr (.inr e)
abbrev ph_day : Ph := fun rs p => ∃ (h : List Folk), rs = [.st, .d (houseD h)] ∧ WH h ∧ HD h ∧ ∀ day : Int, (hAt h 0).d ≤ day → day ≤ 99998 → p (.d (.int day))
theorem ok_day (M : Nm mg) (F : Fun K "_law_day" "_law_day" s_law_day fa fd) (F1 : Callee P w K mg base "_law_take" 1 ph_take) : FnOk P w K mg base CX0 2 fa fd ["_law_state", "_law_house_here"] (spP K ph_day) := by
  refine fn_mk F sc_law_day _ (fun rs p ⟨_, e, _⟩ => by rw [e]; rfl) fun X c rs p eP ew eK eM eB B ⟨h, er, wh, hd, hp⟩ => ?_
  subst er eP ew eK eM eB
  have B' := B.toBx
  have few := wh.few
  have pos := wh.pos
  have o0 : okF h 0 := ⟨by omega, by omega⟩
  have ol : okF h ((h.length : Nat) - 1) := ⟨by omega, by omega⟩
  have elast : atI (h.map folkD) (-1) = some (folkD (hAt h ((h.length : Nat) - 1))) := at_last (by
    rw [List.getLast?_eq_getElem?]
    have := hAt_get ol
    rw [show (((h.length : Nat) : Int) - 1).toNat = h.length - 1 by omega] at this
    exact this)
  refine s_cons ?_
  refine sset 2 ?_
  refine xix ?_
  refine xix ?_
  refine xv 1 ?_
  refine ⟨_, rfl, ?_⟩
  refine xcall F1 ?_
  refine a_cons ?_
  refine xv 0 ?_
  refine a_cons ?_
  refine xlen ?_
  refine xv 1 ?_
  refine ⟨_, rfl, ?_⟩
  refine a_nil ?_
  refine ⟨_, rfl, by rw [List.length_map]; omega, by rw [List.length_map]; omega, fun z z0 z1 => ?_⟩
  rw [List.length_map] at z1
  have oz : okF h z := ⟨z0, z1⟩
  refine ⟨_, rfl, _, at_h oz, ?_⟩
  refine ⟨_, rfl, ?_⟩
  refine xi ?_
  refine ⟨_, rfl, ?_⟩
  refine ⟨_, rfl, ?_⟩
  refine ⟨_, rfl, ?_⟩
  have l1 := wh.rise 0 z o0 oz z0
  have l2 := wh.rise 0 _ o0 ol ol.1
  have l3 := hd z oz
  have l4 := hd _ ol
  refine s_one (s_ret ?_)
  refine xmin2 ?_
  refine xi ?_
  refine ⟨_, rfl, ?_⟩
  refine xixL ?_
  refine n_lst ?_
  refine a_cons ?_
  refine xv 2 ?_
  refine a_cons ?_
  refine n_add ?_
  refine xv 2 ?_
  refine ⟨_, rfl, ?_⟩
  refine xi ?_
  refine ⟨_, rfl, ?_⟩
  refine a_cons ?_
  refine n_add ?_
  refine xix ?_
  refine xix ?_
  refine xv 1 ?_
  refine ⟨_, rfl, ?_⟩
  refine n_neg ?_
  refine xi ?_
  refine ⟨_, rfl, ?_⟩
  refine ⟨_, rfl, ?_⟩
  refine ⟨_, elast, ?_⟩
  refine ⟨_, rfl, ?_⟩
  refine xi ?_
  refine ⟨_, rfl, ?_⟩
  refine ⟨_, rfl, ?_⟩
  refine ⟨_, rfl, ?_⟩
  refine xi ?_
  refine ⟨_, rfl, ?_⟩
  refine a_cons ?_
  refine xix ?_
  refine xix ?_
  refine xv 1 ?_
  refine ⟨_, rfl, ?_⟩
  refine n_neg ?_
  refine xi ?_
  refine ⟨_, rfl, ?_⟩
  refine ⟨_, rfl, ?_⟩
  refine ⟨_, elast, ?_⟩
  refine ⟨_, rfl, ?_⟩
  refine xi ?_
  refine ⟨_, rfl, ?_⟩
  refine ⟨_, rfl, ?_⟩
  refine a_nil ?_
  refine ⟨[.int (hAt h z).d, .int ((hAt h z).d + 1), .int ((hAt h ((h.length : Nat) - 1)).d + 400), .int (hAt h ((h.length : Nat) - 1)).d], rfl, by simp, ?_⟩
  refine ⟨_, rfl, ?_⟩
  refine xcall F1 ?_
  refine a_cons ?_
  refine xv 0 ?_
  refine a_cons ?_
  refine xi ?_
  refine a_nil ?_
  refine ⟨_, rfl, by omega, by omega, fun v v0 v1 => ?_⟩
  obtain ⟨q, hq, ez⟩ := lit_ints (l := [(hAt h z).d, (hAt h z).d + 1, (hAt h ((h.length : Nat) - 1)).d + 400, (hAt h ((h.length : Nat) - 1)).d]) rfl v0 (by simpa using v1)
  refine ⟨_, rfl, _, ez, ?_⟩
  refine ⟨_, rfl, ?_⟩
  have hq2 : (hAt h 0).d ≤ q := by
    simp only [List.mem_cons, List.not_mem_nil, or_false] at hq
    omega
  have l5 := hd 0 o0
  exact hp _ (by split <;> omega) (by split <;> omega)
abbrev ph_born : Ph := fun rs p => ∃ (s : Sg), rs = [.d (houseD s.h), .d (.int s.day)] ∧ s.h.length ≤ 60 ∧ p (.d (.int (bornOf s : Nat)))
theorem ok_born (M : Nm mg) (F : Fun K "_law_born" "_law_born" s_law_born fa fd) : FnOk P w K mg base CX0 1 fa fd ["_law_house_here", "_law_day_here"] (spP K ph_born) := by
  refine fn_mk F sc_law_born _ (fun rs p ⟨_, e, _⟩ => by rw [e]; rfl) fun X c rs p eP ew eK eM eB B ⟨s, er, hl, hp⟩ => ?_
  subst er eP ew eK eM eB
  have B' := B.toBx
  refine s_one (s_ret ?_)
  refine xlen ?_
  refine xlc1 2 folkD (fun f => decide (f.d ≤ s.day)) folkD ?_
  refine qtup ?_
  refine xv 0 ?_
  refine ⟨_, rfl, ?_⟩
  refine ⟨s.h, rfl, by omega, fun a ha => ⟨_, rfl, fun X' hb B1 => ?_, fun _ X' hb B1 => ?_⟩, ?_⟩
  · show WT _ _ _ _ _
    refine tle ?_
    refine xix ?_
    refine xv 2 ?_
    refine ⟨_, rfl, ?_⟩
    refine xi ?_
    refine ⟨_, rfl, ?_⟩
    refine ⟨_, rfl, ?_⟩
    refine ⟨_, rfl, ?_⟩
    refine xv 1 ?_
    refine ⟨_, rfl, ?_⟩
    rfl
  · refine xv 2 ?_
    rfl
  refine ⟨_, rfl, ?_⟩
  rw [List.length_map]
  exact hp
end
end TW

namespace TW
open PySem PySem.Spec PyProof.Rows L2
section
variable {X : Cx} {c : Cf} {g : G} {sc scope : Scope} {N : List Str} {k : Nat} {elt iter e a b : Expr} {p : Rs → Prop} {pos px py spos pos2 apos cpos : Pos} {x y : Str} {N' : Ks}
/-- y = [..] on one line, by a word on what has been made -/
theorem slcI (m i : Nat) (h : WI X c g false (.Name x px) iter fun ds => ∃ Pv : Nat → List D → Prop, Pv 0 [] ∧ (∀ n d acc, ds[n]? = some d → Pv n acc → Blks X scope sc N k fun X' => WE X' c ((g.set i none).set i (some (.d d))) elt fun r => ∃ y, r = .d y ∧ Pv (n + 1) (acc ++ [y])) ∧ ds.length ≤ 1000000 ∧ ∀ acc, Pv ds.length acc → N'.nx (g.set m (some (.own acc))))
    (B : Bd X N sc k := by assumption) (hNy : N[m]? = some y := by rfl) (hyl : sc.names.lookup y = some .local := by decide +kernel) (hln : (py.line == pos.line) = true := by decide +kernel) (hany : (scope.names.any fun (n, k) => n == y && (k == .local || k == .cell)) = false := by decide +kernel)
    (hN : N[i]? = some x := by rfl) (hblk : blkC N sc scope [(x, i)] = true := by decide +kernel) (hl : lclB (relS scope sc) x = true := by decide +kernel) (hkd : sc.kind = .function := by rfl)
    (hs : ∀ x, foldedSetIterable iter X.env x = pure x := by intro _; rfl) : WS X c g (.Assign [.Name y py] (.ListComp elt [⟨.Name x px, iter, [], 0⟩] scope pos) spos) N' := by
  refine s_setLc (f := fN i) (is := [i]) B hNy hyl hln hany hblk (fun X' hb => pg_nmC i (hb.bx B.toBx) hN hl) (tgs_name i) (by simp) ?_ hkd hs
  intro σ H E R kk
  refine h σ H E R fun J H' ds e1 src ⟨Pv, p0, turn, hlen, fin⟩ => kk J H' ds e1 src ⟨Pv, p0, fun n d acc hd pv _ => ⟨_, rfl, fun X' hb => ?_⟩, hlen, fun acc _ pv => fin acc pv⟩
  unfold WF
  simp only [if_true]
  intro X2 hb2
  exact turn n d acc hd pv X2 hb2 (hb2.bx B.toBx)
theorem eqV_int (i j : Int) : eqV (V.int i) (V.int j) = decide (i = j) := by
  show (i == j) = decide (i = j)
  by_cases h : i = j <;> simp [h]
/-- xs.index(i) of a list of numbers -/
theorem xindexL (h : WE X c g a fun x => ∃ ns : List Int, x.lds = some (ns.map D.int) ∧ WE X c g e fun y => ∃ z, y = .d (.int z) ∧ ∃ j : Nat, ns[j]? = some z ∧ (∀ m, m < j → ns[m]? ≠ some z) ∧ p (.d (.int (j : Nat))))
    (hbase : attributeBase a "index" X.env (eval a X.env) = eval a X.env := by rfl)
    (hfew : ((backTo cpos (starEach [e] X.env)).all (fun x => !x.1) && (backToKw cpos (keywordEach [] X.env)).all (fun x => x.1.isSome) && decide (([e] : List Expr).length + ([] : List Keyword).length + (if ([] : List Keyword).isEmpty then 0 else 1) < 30)) = true := by rfl)
    (hline : (apos.endLine == cpos.line) = true := by rfl) (hs : starEach [e] X.env = (false, eval e X.env) :: starEach [] X.env := by rfl) :
    WE X c g (.Call (.Attribute a "index" apos) [e] [] cpos) p := fun σ H E Q kk => by
  refine we_of (pe_bm PySem.F.plainAttrs_list PySem.F.slot_list_index PySem.F.type_list_index mt_index pe_w (pa_cons pe_w pa_nil hs) hbase hfew hline hs rfl) ?_
  refine h σ H E _ fun v H1 r e1 r1 ⟨ns, er, h2⟩ => ?_
  obtain ⟨fr, er⟩ := lds_lst er
  subst er
  obtain ⟨l, vs, rfl, q1, q2, na, _⟩ := r1
  have e := q2.ints
  subst e
  refine ⟨.inl ⟨rfl, _, SqL.of q1⟩, ?_⟩
  refine h2 σ H1 (E.go e1) _ fun u H2 r' e2 r2 ⟨z, er', j, hj, hno, q⟩ => ?_
  subst er'
  cases is_int r2
  refine ⟨l, ns.map V.int, .int z, j, .int z, rfl, rfl, SqL.of (e2.keep _ _ na q1), rfl, ints_flat ns, by rw [List.getElem?_map, hj]; rfl, by rw [eqV_int]; simp, fun m z' hm hz' => ?_, kk _ H2 _ (e1.trans e2) (.dd (Is.int _)) q⟩
  rw [List.getElem?_map, Option.map_eq_some_iff] at hz'
  obtain ⟨i, hi, rfl⟩ := hz'
  rw [eqV_int]
  exact decide_eq_false fun z0 => hno m hm (by rw [hi, z0])
end
section
variable {P : Program} {w : World} {K : Fg} {mg : Str → Option Value} {base : Heap} {fa : Addr} {fd : FuncData}
theorem fst_ix : ∀ {l : List Int} {z : Int}, z ∈ l → ∃ j : Nat, l[j]? = some z ∧ (∀ m, m < j → l[m]? ≠ some z) := fun h => by
  obtain ⟨j, h1, h2, _⟩ := before_ix h
  exact ⟨j, h1, h2⟩
abbrev ph_rows : Ph := fun rs p => ∃ (h : List Folk), rs = [.st, .d (houseD h)] ∧ WH h ∧ ∀ rule : List Row, rule ≠ [] → rule.length ≤ 10 → (∀ r ∈ rule, okF h r.fo ∧ WayOk r) → p (.d (ruleD rule))
theorem ok_rows (M : Nm mg) (F : Fun K "_law_rows" "_law_rows" s_law_rows fa fd) (F1 : Callee P w K mg base "_law_take" 1 ph_take) (F2 : Callee P w K mg base "_law_row" 2 ph_row) : FnOk P w K mg base CX0 3 fa fd ["_law_state", "_law_house_here"] (spP K ph_rows) := by
  refine fn_mk F sc_law_rows _ (fun rs p ⟨_, e, _⟩ => by rw [e]; rfl) fun X c rs p eP ew eK eM eB B ⟨h, er, wh, hp⟩ => ?_
  subst er eP ew eK eM eB
  have B' := B.toBx
  refine s_cons ?_
  refine slcI 2 5 ?_
  refine qrange ?_
  refine n_add ?_
  refine xi ?_
  refine ⟨_, rfl, ?_⟩
  refine xcall F1 ?_
  refine a_cons ?_
  refine xv 0 ?_
  refine a_cons ?_
  refine xi ?_
  refine a_nil ?_
  refine ⟨_, rfl, by omega, by omega, fun t t0 t1 => ?_⟩
  refine ⟨_, rfl, ?_⟩
  obtain ⟨n, hn⟩ : ∃ n : Nat, (1 : Int) + t = (n : Nat) := ⟨(1 + t).toNat, by omega⟩
  rw [hn]
  have nl : 1 ≤ n ∧ n ≤ 3 := by omega
  refine ⟨n, rfl, by omega, fun m acc => ∃ rs : List Row, acc = rs.map rowD ∧ rs.length = m ∧ ∀ r ∈ rs, okF h r.fo ∧ WayOk r, ⟨[], rfl, rfl, by simp⟩, fun m d acc hd ⟨rs, ea, el, ok⟩ => fun X' hb B1 => ?_, by rw [rngD_len]; omega, fun acc ⟨rs, ea, el, ok⟩ => ?_⟩
  · refine xcall (hb.callee F2) ?_
    refine a_cons ?_
    refine xv 0 ?_
    refine a_cons ?_
    refine xv 1 ?_
    refine a_nil ?_
    refine ⟨h, rfl, wh, fun r o wy => ?_⟩
    refine ⟨_, rfl, rs ++ [r], by rw [ea, List.map_append]; rfl, by rw [List.length_append, el]; rfl, fun q hq => ?_⟩
    rcases List.mem_append.mp hq with z | z
    · exact ok q z
    · rw [List.mem_singleton.mp z]
      exact ⟨o, wy⟩
  rw [rngD_len] at el
  subst ea
  show WSs X c _ _ _
  have rne : rs ≠ [] := fun z => by
    rw [z] at el
    simp at el
    omega
  let ds : List Int := rs.map fun r => (hAt h r.fo).d
  refine s_cons ?_
  refine sset 3 ?_
  refine xmaxL ?_
  refine xlc1m 6 rowD (fun r => .int (hAt h r.fo).d) ?_
  refine qlst ?_
  refine xv 2 ?_
  refine ⟨_, rfl, ?_⟩
  refine ⟨rs, rfl, by omega, fun r hr => ⟨_, rfl, fun X' hb B1 => ?_⟩, ds, by show some (rs.map _) = some ((rs.map _).map _); rw [List.map_map]; rfl, by rw [List.length_map]; omega, fun m m1 _ => ?_⟩
  · refine xix ?_
    refine xix ?_
    refine xv 1 ?_
    refine ⟨_, rfl, ?_⟩
    refine xix ?_
    refine xv 6 ?_
    refine ⟨_, rfl, ?_⟩
    refine xi ?_
    refine ⟨_, rfl, ?_⟩
    refine ⟨_, rfl, ?_⟩
    refine ⟨_, rfl, _, at_h (ok r hr).1, ?_⟩
    refine ⟨_, rfl, ?_⟩
    refine xi ?_
    refine ⟨_, rfl, ?_⟩
    refine ⟨_, rfl, ?_⟩
    rfl
  obtain ⟨j, j1, j2⟩ := fst_ix m1
  have jl : j < rs.length := by
    have := (List.getElem?_eq_some_iff.mp j1).1
    rw [List.length_map] at this
    exact this
  refine ⟨_, rfl, ?_⟩
  refine s_cons ?_
  refine sset 4 ?_
  refine xindexL ?_
  refine xlc1m 6 rowD (fun r => .int (hAt h r.fo).d) ?_
  refine qlst ?_
  refine xv 2 ?_
  refine ⟨_, rfl, ?_⟩
  refine ⟨rs, rfl, by omega, fun r hr => ⟨_, rfl, fun X' hb B1 => ?_⟩, ds, by show some (rs.map _) = some ((rs.map _).map _); rw [List.map_map]; rfl, ?_⟩
  · refine xix ?_
    refine xix ?_
    refine xv 1 ?_
    refine ⟨_, rfl, ?_⟩
    refine xix ?_
    refine xv 6 ?_
    refine ⟨_, rfl, ?_⟩
    refine xi ?_
    refine ⟨_, rfl, ?_⟩
    refine ⟨_, rfl, ?_⟩
    refine ⟨_, rfl, _, at_h (ok r hr).1, ?_⟩
    refine ⟨_, rfl, ?_⟩
    refine xi ?_
    refine ⟨_, rfl, ?_⟩
    refine ⟨_, rfl, ?_⟩
    rfl
  refine xv 3 ?_
  refine ⟨_, rfl, j, j1, j2, ?_⟩
  refine ⟨_, rfl, ?_⟩
  refine s_one (s_ret ?_)
  refine xtuple ?_
  refine xcat ?_
  refine xslL ?_
  refine xv 2 ?_
  refine ⟨_, rfl, ?_⟩
  refine po1 ?_
  refine xv 4 ?_
  refine ⟨_, rfl, ?_⟩
  refine po0 ?_
  refine ⟨_, rfl, ?_⟩
  refine xslL ?_
  refine xv 2 ?_
  refine ⟨_, rfl, ?_⟩
  refine po0 ?_
  refine po1 ?_
  refine xv 4 ?_
  refine ⟨_, rfl, ?_⟩
  rw [cut_from (by rw [List.length_map]; omega), cut_to (by rw [List.length_map]; omega), ← List.map_drop, ← List.map_take]
  refine ⟨_, rfl, ?_, _, rfl, ?_⟩
  · rw [List.length_map, List.length_map, List.length_drop, List.length_take]
    omega
  rw [← List.map_append]
  refine hp _ (fun z => ?_) ?_ fun r hr => ?_
  · have := congrArg List.length z
    rw [List.length_append, List.length_drop, List.length_take, List.length_nil] at this
    omega
  · rw [List.length_append, List.length_drop, List.length_take]
    omega
  · rcases List.mem_append.mp hr with z | z
    · exact ok r (List.mem_of_mem_drop z)
    · exact ok r (List.mem_of_mem_take z)
abbrev ph_book : Ph := fun rs p => ∃ (h : List Folk) (most : Int), rs = [.st, .d (houseD h), .d (.int most)] ∧ WH h ∧ 0 ≤ most ∧ most ≤ 40 ∧ ∀ b : List News, b.length ≤ 40 → p (.d (bookD b))
abbrev ph_some : Ph := fun rs p => ∃ (few : Int), rs = [.st, .d (.int few)] ∧ 1 ≤ few ∧ few ≤ 60 ∧ ∀ s : Sg, WS' s → (hAt s.h 0).d ≤ s.day → p (.lst true [houseD s.h, bookD s.b, .int s.day])
theorem ok_some (M : Nm mg) (F : Fun K "_law_some" "_law_some" s_law_some fa fd) (F1 : Callee P w K mg base "_law_take" 1 ph_take) (F2 : Callee P w K mg base "_law_house" 3 ph_house) (F3 : Callee P w K mg base "_law_book" 3 ph_book) (F4 : Callee P w K mg base "_law_day" 2 ph_day) : FnOk P w K mg base CX0 4 fa fd ["_law_state", "_law_few"] (spP K ph_some) := by
  refine fn_mk F sc_law_some _ (fun rs p ⟨_, e, _⟩ => by rw [e]; rfl) fun X c rs p eP ew eK eM eB B ⟨few, er, b1, b2, hp⟩ => ?_
  subst er eP ew eK eM eB
  have B' := B.toBx
  refine s_cons ?_
  refine sset 2 ?_
  refine xeq ?_
  refine xcall F1 ?_
  refine a_cons ?_
  refine xv 0 ?_
  refine a_cons ?_
  refine xi ?_
  refine a_nil ?_
  refine ⟨_, rfl, by omega, by omega, fun t t0 t1 => ?_⟩
  refine ⟨_, rfl, ?_⟩
  refine xi ?_
  refine ⟨_, rfl, ?_⟩
  refine ⟨_, rfl, ?_⟩
  generalize decide (t = 0) = great
  have pick : ∀ x y : Int, ∃ z, (z = x ∨ z = y) ∧ atI [D.int x, .int y] (if great = true then 1 else 0) = some (.int z) := fun x y => by
    cases great
    · exact ⟨x, .inl rfl, rfl⟩
    · exact ⟨y, .inr rfl, rfl⟩
  obtain ⟨z, hz, ez⟩ := pick few 60
  obtain ⟨z2, hz2, ez2⟩ := pick 8 40
  refine s_cons ?_
  refine sset 3 ?_
  refine xcall F2 ?_
  refine a_cons ?_
  refine xv 0 ?_
  refine a_cons ?_
  refine xixL ?_
  refine n_lst ?_
  refine a_cons ?_
  refine xv 1 ?_
  refine a_cons ?_
  refine xi ?_
  refine a_nil ?_
  refine ⟨[.int few, .int 60], rfl, by simp, ?_⟩
  refine ⟨_, rfl, ?_⟩
  refine xint ?_
  refine xv 2 ?_
  refine ⟨_, rfl, ?_⟩
  refine ⟨_, rfl, _, ez, ?_⟩
  refine a_nil ?_
  refine ⟨_, rfl, by omega, by omega, fun h wh hd => ?_⟩
  refine ⟨_, rfl, ?_⟩
  refine s_cons ?_
  refine sset 4 ?_
  refine xcall F3 ?_
  refine a_cons ?_
  refine xv 0 ?_
  refine a_cons ?_
  refine xv 3 ?_
  refine a_cons ?_
  refine xixL ?_
  refine n_lst ?_
  refine a_cons ?_
  refine xi ?_
  refine a_cons ?_
  refine xi ?_
  refine a_nil ?_
  refine ⟨[.int 8, .int 40], rfl, by simp, ?_⟩
  refine ⟨_, rfl, ?_⟩
  refine xint ?_
  refine xv 2 ?_
  refine ⟨_, rfl, ?_⟩
  refine ⟨_, rfl, _, ez2, ?_⟩
  refine a_nil ?_
  refine ⟨h, _, rfl, wh, by omega, by omega, fun b bl => ?_⟩
  refine ⟨_, rfl, ?_⟩
  refine s_one (s_ret ?_)
  refine n_lst ?_
  refine a_cons ?_
  refine xv 3 ?_
  refine a_cons ?_
  refine xv 4 ?_
  refine a_cons ?_
  refine xcall F4 ?_
  refine a_cons ?_
  refine xv 0 ?_
  refine a_cons ?_
  refine xv 3 ?_
  refine a_nil ?_
  refine ⟨h, rfl, wh, hd, fun day d1 d2 => ?_⟩
  refine a_nil ?_
  exact ⟨[_, _, _], rfl, by simp, hp ⟨h, b, day⟩ ⟨wh, bl⟩ d1⟩
abbrev ph_bent (k : Nat) : Ph := fun rs p => ∃ (ds : List D) (many : Int) (n : Nat), rs = [.st, .d (.tup ds), .d (.int many)] ∧ Gr (k + 1) n (.tup ds) ∧ 60 ≤ n ∧ n ≤ 100 ∧ 0 ≤ many ∧ many ≤ 60 ∧ ∀ ds' : List D, Gr (k + 1) (n + 1) (.tup ds') → p (.d (.tup ds'))
theorem cut_to1 {ds : List D} {j : Nat} (h : j + 1 ≤ ds.length) : cut ds none (some ((j : Int) + 1)) = ds.take (j + 1) := by
  have := cut_to h
  rw [show ((j + 1 : Nat) : Int) = (j : Int) + 1 by omega] at this
  exact this
theorem cut_fr1 {ds : List D} {j : Nat} (h : j + 1 ≤ ds.length) : cut ds (some ((j : Int) + 1)) none = ds.drop (j + 1) := by
  have := cut_from h
  rw [show ((j + 1 : Nat) : Int) = (j : Int) + 1 by omega] at this
  exact this
def wordsB : List Str := ["nobody", "lines", "age", "near", "sits", "waits"]
theorem lay_words : ∀ z ∈ wordsB, (D.py (.str z)).canLay0 = true := fun z hz => by
  simp only [wordsB, List.mem_cons, List.not_mem_nil, or_false] at hz
  rcases hz with e | e | e | e | e | e <;> rw [e]
  · exact lay_nobody
  · exact lay_lines
  · exact lay_age
  · exact lay_near
  · exact lay_sits
  · exact lay_waits
theorem ok_bent (k : Nat) (hk : k ≤ 10) (M : Nm mg) (F : Fun K "_law_bent" "_law_bent" s_law_bent fa fd) (F1 : Callee P w K mg base "_law_take" 1 ph_take) (F2 : ∀ j, k = j + 1 → Callee P w K mg base "_law_bent" (j + 2) (ph_bent j)) : FnOk P w K mg base CX0 (k + 2) fa fd ["_law_state", "_law_thing", "_law_many"] (spP K (ph_bent k)) := by
  refine fn_mk F sc_law_bent _ (fun rs p ⟨_, _, _, e, _⟩ => by rw [e]; rfl) fun X c rs p eP ew eK eM eB B ⟨ds, many, n, er, gr, n60, n100, m0, m60, hp⟩ => ?_
  subst er eP ew eK eM eB
  have B' := B.toBx
  obtain ⟨dl, dg⟩ := gr.un
  have one : 1 ≤ k + 1 := by omega
  have mk : ∀ ds' : List D, ds'.length ≤ ds.length + 1 → (∀ d ∈ ds', d ∈ ds ∨ Gr k (n + 1) d) → p (.d (.tup ds')) := fun ds' hl hm => hp ds' (Gr.tup (by omega) fun d hd => (hm d hd).elim (fun h => (dg d h).mono (Nat.le_refl _) (by omega)) id)
  refine s_cons ?_
  refine sset 3 ?_
  refine xcall F1 ?_ B' one
  refine a_cons ?_
  refine xv 0 ?_
  refine a_cons ?_
  refine xmax2 ?_
  refine xi ?_
  refine ⟨_, rfl, ?_⟩
  refine xlen ?_
  refine xv 1 ?_
  refine ⟨_, rfl, ?_⟩
  refine ⟨_, rfl, ?_⟩
  refine a_nil ?_
  refine ⟨_, rfl, by split <;> omega, by split <;> omega, fun at0 a0 a1 => ?_⟩
  refine ⟨_, rfl, ?_⟩
  obtain ⟨j, hj⟩ : ∃ j : Nat, at0 = (j : Nat) := ⟨at0.toNat, by omega⟩
  subst hj
  have jl : j ≤ ds.length ∧ (ds ≠ [] → j < ds.length) := by
    refine ⟨by split at a1 <;> omega, fun h => ?_⟩
    have := List.length_pos_iff.mpr h
    split at a1 <;> omega
  refine s_cons ?_
  refine sset 4 ?_
  refine xcall F1 ?_ B' one
  refine a_cons ?_
  refine xv 0 ?_
  refine a_cons ?_
  refine xi ?_
  refine a_nil ?_
  refine ⟨_, rfl, by omega, by omega, fun way w0 w1 => ?_⟩
  refine ⟨_, rfl, ?_⟩
  have dt : ∀ {d : D} {i : Nat}, d ∈ ds.take i → d ∈ ds := fun h => List.mem_of_mem_take h
  have dd : ∀ {d : D} {i : Nat}, d ∈ ds.drop i → d ∈ ds := fun h => List.mem_of_mem_drop h
  refine s_cons ?_
  refine sif ?_
  refine t_bop ?_
  refine w_or ?_
  refine teqT0 ?_
  refine xv 1 ?_
  refine ⟨_, rfl, ?_⟩
  refine n_tup ?_
  refine a_nil ?_
  refine ⟨[], rfl, by simp, rfl, fit_mono gr.fit (by omega), ?_⟩
  have first : ∀ nx bk ct, WSs X c [some .st, some (.d (.tup ds)), some (.d (.int many)), some (.d (.int (j : Nat))), some (.d (.int way)), none] [((defBody s_law_bent).drop 2).headD (.Pass ⟨0, 0, 0, 0⟩) |> fun st => (match st with | .If _ ss _ _ => ss.headD (.Pass ⟨0, 0, 0, 0⟩) | _ => .Pass ⟨0, 0, 0, 0⟩)] ⟨nx, p, bk, ct⟩ := fun nx bk ct => by
    refine s_one (s_ret ?_)
    refine n_catT ?_
    refine n_catT ?_
    refine xsl ?_
    refine xv 1 ?_
    refine ⟨_, rfl, ?_⟩
    refine po0 ?_
    refine po1 ?_
    refine xv 3 ?_
    refine ⟨_, rfl, ?_⟩
    rw [cut_to jl.1]
    refine ⟨_, rfl, ?_⟩
    refine n_tup ?_
    refine a_cons ?_
    refine n_sub ?_
    refine xcall F1 ?_ B' one
    refine a_cons ?_
    refine xv 0 ?_
    refine a_cons ?_
    refine n_add ?_
    refine xv 2 ?_
    refine ⟨_, rfl, ?_⟩
    refine xi ?_
    refine ⟨_, rfl, ?_⟩
    refine a_nil ?_
    refine ⟨_, rfl, by omega, by omega, fun q q0 q1 => ?_⟩
    refine ⟨_, rfl, ?_⟩
    refine xi ?_
    refine ⟨_, rfl, ?_⟩
    refine a_nil ?_
    refine ⟨[_], rfl, by simp, ?_⟩
    refine ⟨_, rfl, by rw [List.length_take]; simp; omega, ?_⟩
    refine ⟨_, rfl, ?_⟩
    refine xsl ?_
    refine xv 1 ?_
    refine ⟨_, rfl, ?_⟩
    refine po1 ?_
    refine xv 3 ?_
    refine ⟨_, rfl, ?_⟩
    refine po0 ?_
    rw [cut_from jl.1]
    refine ⟨_, rfl, by simp only [List.length_append, List.length_take, List.length_drop, List.length_singleton]; omega, ?_⟩
    refine mk _ (by simp only [List.length_append, List.length_take, List.length_drop, List.length_singleton]; omega) fun d hd => ?_
    rcases List.mem_append.mp hd with h | h
    · rcases List.mem_append.mp h with h | h
      · exact .inl (dt h)
      · rw [List.mem_singleton.mp h]
        exact .inr (Gr.int _)
    · exact .inl (dd h)
  refine ite_b (fun e1 => first _ _ _) (fun e1 => ?_)
  have hne : ds ≠ [] := fun z => by
    rw [z] at e1
    cases e1
  have j1 : j + 1 ≤ ds.length := jl.2 hne
  refine w_or1 ?_
  refine teq ?_
  refine xv 4 ?_
  refine ⟨_, rfl, ?_⟩
  refine xi ?_
  refine ⟨_, rfl, ?_⟩
  refine ite_b (fun e2 => ?_) (fun e2 => ?_)
  · exact first _ _ _
  refine s_nil ?_
  refine s_cons ?_
  refine sif ?_
  refine teq ?_
  refine xv 4 ?_
  refine ⟨_, rfl, ?_⟩
  refine xi ?_
  refine ⟨_, rfl, ?_⟩
  refine ite_b (fun e3 => ?_) (fun e3 => ?_)
  · refine s_one (s_ret ?_)
    refine n_catT ?_
    refine xsl ?_
    refine xv 1 ?_
    refine ⟨_, rfl, ?_⟩
    refine po0 ?_
    refine po1 ?_
    refine xv 3 ?_
    refine ⟨_, rfl, ?_⟩
    rw [cut_to jl.1]
    refine ⟨_, rfl, ?_⟩
    refine xsl ?_
    refine xv 1 ?_
    refine ⟨_, rfl, ?_⟩
    refine po1 ?_
    refine n_add ?_
    refine xv 3 ?_
    refine ⟨_, rfl, ?_⟩
    refine xi ?_
    refine ⟨_, rfl, ?_⟩
    refine ⟨_, rfl, ?_⟩
    refine po0 ?_
    rw [cut_fr1 j1]
    refine ⟨_, rfl, by simp only [List.length_take, List.length_drop]; omega, ?_⟩
    refine mk _ (by simp only [List.length_append, List.length_take, List.length_drop]; omega) fun d hd => ?_
    rcases List.mem_append.mp hd with h | h
    · exact .inl (dt h)
    · exact .inl (dd h)
  refine s_nil ?_
  refine s_cons ?_
  refine sif ?_
  refine teq ?_
  refine xv 4 ?_
  refine ⟨_, rfl, ?_⟩
  refine xi ?_
  refine ⟨_, rfl, ?_⟩
  refine ite_b (fun e4 => ?_) (fun e4 => ?_)
  · refine s_one (s_ret ?_)
    refine n_catT ?_
    refine xsl ?_
    refine xv 1 ?_
    refine ⟨_, rfl, ?_⟩
    refine po0 ?_
    refine po1 ?_
    refine n_add ?_
    refine xv 3 ?_
    refine ⟨_, rfl, ?_⟩
    refine xi ?_
    refine ⟨_, rfl, ?_⟩
    refine ⟨_, rfl, ?_⟩
    rw [cut_to1 j1]
    refine ⟨_, rfl, ?_⟩
    refine xsl ?_
    refine xv 1 ?_
    refine ⟨_, rfl, ?_⟩
    refine po1 ?_
    refine xv 3 ?_
    refine ⟨_, rfl, ?_⟩
    refine po0 ?_
    rw [cut_from jl.1]
    refine ⟨_, rfl, by simp only [List.length_take, List.length_drop]; omega, ?_⟩
    refine mk _ (by simp only [List.length_append, List.length_take, List.length_drop]; omega) fun d hd => ?_
    rcases List.mem_append.mp hd with h | h
    · exact .inl (dt h)
    · exact .inl (dd h)
  obtain ⟨d0, hd0⟩ : ∃ d0, ds[j]? = some d0 := ⟨_, List.getElem?_eq_getElem j1⟩
  have md0 := List.mem_of_getElem? hd0
  have at0 : atI ds (j : Int) = some d0 := by
    have := at_map (f := fun x : D => x) hd0
    simpa using this
  -- d0's place taken by another
  have fin : ∀ d1 : D, Gr k (n + 1) d1 → p (.d (.tup (ds.take j ++ [d1] ++ ds.drop (j + 1)))) := fun d1 h1 => mk _ (by simp only [List.length_append, List.length_take, List.length_drop, List.length_singleton]; omega) fun d hd => by
    rcases List.mem_append.mp hd with h | h
    · rcases List.mem_append.mp h with h | h
      · exact .inl (dt h)
      · rw [List.mem_singleton.mp h]
        exact .inr h1
    · exact .inl (dd h)
  refine s_nil ?_
  refine s_cons ?_
  refine sif ?_
  refine t_val ?_
  refine xisTup ?_
  refine xix ?_
  refine xv 1 ?_
  refine ⟨_, rfl, ?_⟩
  refine xv 3 ?_
  refine ⟨_, rfl, ?_⟩
  refine ⟨_, at0, ?_⟩
  refine ⟨_, rfl, ?_⟩
  refine ⟨_, rfl, ?_⟩
  refine ite_b (fun e5 => ?_) (fun e5 => ?_)
  · obtain ⟨es, rfl⟩ := isTup_cases e5
    have g0 := dg _ md0
    cases k with
    | zero => exact g0.un0.elim
    | succ k =>
      refine s_one (s_ret ?_)
      refine n_catT ?_
      refine n_catT ?_
      refine xsl ?_
      refine xv 1 ?_
      refine ⟨_, rfl, ?_⟩
      refine po0 ?_
      refine po1 ?_
      refine xv 3 ?_
      refine ⟨_, rfl, ?_⟩
      rw [cut_to jl.1]
      refine ⟨_, rfl, ?_⟩
      refine n_tup ?_
      refine a_cons ?_
      refine xcall (F2 k rfl) ?_ B' (Nat.le_refl _)
      refine a_cons ?_
      refine xv 0 ?_
      refine a_cons ?_
      refine xix ?_
      refine xv 1 ?_
      refine ⟨_, rfl, ?_⟩
      refine xv 3 ?_
      refine ⟨_, rfl, ?_⟩
      refine ⟨_, at0, ?_⟩
      refine a_cons ?_
      refine xv 2 ?_
      refine a_nil ?_
      refine ⟨es, many, n, rfl, g0, n60, n100, m0, m60, fun es' ge => ?_⟩
      refine a_nil ?_
      refine ⟨[_], rfl, by simp, ?_⟩
      refine ⟨_, rfl, by rw [List.length_take]; simp; omega, ?_⟩
      refine ⟨_, rfl, ?_⟩
      refine xsl ?_
      refine xv 1 ?_
      refine ⟨_, rfl, ?_⟩
      refine po1 ?_
      refine n_add ?_
      refine xv 3 ?_
      refine ⟨_, rfl, ?_⟩
      refine xi ?_
      refine ⟨_, rfl, ?_⟩
      refine ⟨_, rfl, ?_⟩
      refine po0 ?_
      rw [cut_fr1 j1]
      refine ⟨_, rfl, by simp only [List.length_append, List.length_take, List.length_drop, List.length_singleton]; omega, ?_⟩
      exact fin _ ge
  refine s_nil ?_
  refine s_cons ?_
  refine sif ?_
  refine t_val ?_
  refine xisStr ?_
  refine xix ?_
  refine xv 1 ?_
  refine ⟨_, rfl, ?_⟩
  refine xv 3 ?_
  refine ⟨_, rfl, ?_⟩
  refine ⟨_, at0, ?_⟩
  refine ⟨_, rfl, ?_⟩
  refine ⟨_, rfl, ?_⟩
  refine ite_b (fun e6 => ?_) (fun e6 => ?_)
  · refine s_cons ?_
    refine sset 5 ?_
    refine xixL ?_
    refine n_lst ?_
    refine a_cons ?_
    refine xs ?_
    refine a_cons ?_
    refine xs ?_
    refine a_cons ?_
    refine xs ?_
    refine a_cons ?_
    refine xs ?_
    refine a_cons ?_
    refine xs ?_
    refine a_cons ?_
    refine xs ?_
    refine a_nil ?_
    refine ⟨[.str "nobody", .str "lines", .str "age", .str "near", .str "sits", .str "waits"], rfl, by simp, ?_⟩
    refine ⟨_, rfl, ?_⟩
    refine xcall F1 ?_ B' one
    refine a_cons ?_
    refine xv 0 ?_
    refine a_cons ?_
    refine xi ?_
    refine a_nil ?_
    refine ⟨_, rfl, by omega, by omega, fun v v0 v1 => ?_⟩
    obtain ⟨word, hword, ez⟩ := lit_strs (l := wordsB) rfl v0 (by simpa [wordsB] using v1)
    refine ⟨_, rfl, _, ez, ?_⟩
    refine ⟨_, rfl, ?_⟩
    refine s_one (s_ret ?_)
    refine n_catT ?_
    refine n_catT ?_
    refine xsl ?_
    refine xv 1 ?_
    refine ⟨_, rfl, ?_⟩
    refine po0 ?_
    refine po1 ?_
    refine xv 3 ?_
    refine ⟨_, rfl, ?_⟩
    rw [cut_to jl.1]
    refine ⟨_, rfl, ?_⟩
    refine n_tup ?_
    refine a_cons ?_
    refine xv 5 ?_
    refine a_nil ?_
    refine ⟨[_], rfl, by simp, ?_⟩
    refine ⟨_, rfl, by rw [List.length_take]; simp; omega, ?_⟩
    refine ⟨_, rfl, ?_⟩
    refine xsl ?_
    refine xv 1 ?_
    refine ⟨_, rfl, ?_⟩
    refine po1 ?_
    refine n_add ?_
    refine xv 3 ?_
    refine ⟨_, rfl, ?_⟩
    refine xi ?_
    refine ⟨_, rfl, ?_⟩
    refine ⟨_, rfl, ?_⟩
    refine po0 ?_
    rw [cut_fr1 j1]
    refine ⟨_, rfl, by simp only [List.length_append, List.length_take, List.length_drop, List.length_singleton]; omega, ?_⟩
    exact fin _ (Gr.str (lay_words _ hword))
  · refine s_nil ?_
    refine s_one (s_ret ?_)
    refine n_catT ?_
    refine n_catT ?_
    refine xsl ?_
    refine xv 1 ?_
    refine ⟨_, rfl, ?_⟩
    refine po0 ?_
    refine po1 ?_
    refine xv 3 ?_
    refine ⟨_, rfl, ?_⟩
    rw [cut_to jl.1]
    refine ⟨_, rfl, ?_⟩
    refine n_tup ?_
    refine a_cons ?_
    refine n_sub ?_
    refine xcall F1 ?_ B' one
    refine a_cons ?_
    refine xv 0 ?_
    refine a_cons ?_
    refine n_add ?_
    refine xv 2 ?_
    refine ⟨_, rfl, ?_⟩
    refine xi ?_
    refine ⟨_, rfl, ?_⟩
    refine a_nil ?_
    refine ⟨_, rfl, by omega, by omega, fun q q0 q1 => ?_⟩
    refine ⟨_, rfl, ?_⟩
    refine xi ?_
    refine ⟨_, rfl, ?_⟩
    refine a_nil ?_
    refine ⟨[_], rfl, by simp, ?_⟩
    refine ⟨_, rfl, by rw [List.length_take]; simp; omega, ?_⟩
    refine ⟨_, rfl, ?_⟩
    refine xsl ?_
    refine xv 1 ?_
    refine ⟨_, rfl, ?_⟩
    refine po1 ?_
    refine n_add ?_
    refine xv 3 ?_
    refine ⟨_, rfl, ?_⟩
    refine xi ?_
    refine ⟨_, rfl, ?_⟩
    refine ⟨_, rfl, ?_⟩
    refine po0 ?_
    rw [cut_fr1 j1]
    refine ⟨_, rfl, by simp only [List.length_append, List.length_take, List.length_drop, List.length_singleton]; omega, ?_⟩
    exact fin _ (Gr.int _)
end
end TW

namespace TW
open PySem PySem.Spec PyProof.Rows L2
section
variable {X : Cx} {c : Cf} {g : G} {sc : Scope} {N : List Str} {k : Nat} {e : Expr} {pos pos2 : Pos} {x y z : Str} {N' : Ks}
theorem ssetL3 (i j l : Nat) {kk : Nat} {p1 p2 p3 : Pos} (h : WE X c g e fun r => ∃ fr d1 d2 d3, r = .lst fr [d1, d2, d3] ∧ N'.nx (((g.set i (some (.d d1))).set j (some (.d d2))).set l (some (.d d3))))
    (B : Bd X N sc k := by assumption) (hNx : N[i]? = some x := by rfl) (hlx : locB sc x = true := by decide +kernel) (hNy : N[j]? = some y := by rfl) (hly : locB sc y = true := by decide +kernel) (hNz : N[l]? = some z := by rfl) (hlz : locB sc z = true := by decide +kernel)
    (hs : swapsWithSole [.Tuple [.Name x p1, .Name y p2, .Name z p3] kk pos2] e pos.line X.env = pure false := by rfl) (hw : swappedStores [.Tuple [.Name x p1, .Name y p2, .Name z p3] kk pos2] e X.env = pure none := by rfl)
    (h1 : (assignEach [.Tuple [.Name x p1, .Name y p2, .Name z p3] kk pos2] X.env).map (·.2) = [assign (.Tuple [.Name x p1, .Name y p2, .Name z p3] kk pos2) X.env] := by rfl) :
    WS X c g (.Assign [.Tuple [.Name x p1, .Name y p2, .Name z p3] kk pos2] e pos) N' := s_setL3 i j l B hNx hlx hNy hly hNz hlz h hs hw h1
end
theorem at_tups {ps : List (List D)} {v : Int} (h0 : 0 ≤ v) (h1 : v < ps.length) : ∃ q, q ∈ ps ∧ atI (ps.map D.tup) v = some (.tup q) := by
  have hn : v.toNat < ps.length := by omega
  exact ⟨ps[v.toNat], List.getElem_mem hn, at_mapI h0 (List.getElem?_eq_getElem hn)⟩
/-- what the law's body keeps from turn to turn -/
abbrev G_law (x2 x3 x4 x5 x6 x7 x8 x9 x10 x11 x12 x13 x14 x15 : Option Sl) : G := [none, some .st, x2, x3, x4, x5, x6, x7, x8, x9, x10, x11, x12, x13, x14, x15]
abbrev G_turn (s : Sg) (rule : List Row) (last : Int) (x2 x10 x11 x12 x13 x14 x15 : Option Sl) : G := G_law x2 (some (.d (houseD s.h))) (some (.d (bookD s.b))) (some (.d (.int s.day))) (some (.d (ruleD rule))) (some (.d (.int (bornOf s : Nat)))) (some (.d (.int last))) (some (.d (.int (firstIn (orderOf s rule last))))) x10 x11 x12 x13 x14 x15
theorem law_rest {X : Cx} {c : Cf} (M : Nm X.mg) (B : Bd X N_law (defScope s_law) 11) (F1 : Callee X.prog X.w X.K X.mg X.base "_law_some" 4 ph_some) (F2 : Callee X.prog X.w X.K X.mg X.base "_law_rows" 3 ph_rows) (F3 : Callee X.prog X.w X.K X.mg X.base "_law_born" 1 ph_born) (F4 : Callee X.prog X.w X.K X.mg X.base "_law_take" 1 ph_take)
    (F5 : Callee X.prog X.w X.K X.mg X.base "first_of" 11 ph_first_of) (F6 : Callee X.prog X.w X.K X.mg X.base "order_of" 10 ph_order_of) (F7 : Callee X.prog X.w X.K X.mg X.base "first_paper" 10 ph_first_paper) (F8 : Callee X.prog X.w X.K X.mg X.base "right_first" 11 ph_right_first) (F9 : Callee X.prog X.w X.K X.mg X.base "_law_bent" 5 (ph_bent 3)) :
    WSs X c (G_law none none none none none none none none none none none none none none) ((defBody s_law).drop 1) ⟨fun _ => False, fun r => r = .d (.bl true), fun _ => False, fun _ => False⟩ := by
  have B' := B.toBx
  refine s_cons ?_
  refine sfor1 2 D.int ?_
  refine qrange ?_
  refine xi ?_
  refine ⟨2, rfl, by omega, ?_⟩
  refine ⟨idx 2, fun pre g1 => ∃ x2 x3 x4 x5 x6 x7 x8 x9 x10 x11 x12 x13 x14 x15, g1 = G_law x2 x3 x4 x5 x6 x7 x8 x9 x10 x11 x12 x13 x14 x15, rng0 _, ⟨_, _, _, _, _, _, _, _, _, _, _, _, _, _, rfl⟩, ?_, ?_⟩
  · intro pre turn post g1 el ⟨x2, x3, x4, x5, x6, x7, x8, x9, x10, x11, x12, x13, x14, x15, eg⟩ c1 ec1
    subst eg
    refine s_cons ?_
    refine ssetL3 3 4 5 ?_
    refine xcall F1 ?_
    refine a_cons ?_
    refine xv 1 ?_
    refine a_cons ?_
    refine xi ?_
    refine a_nil ?_
    refine ⟨_, rfl, by omega, by omega, fun s ws d0 => ?_⟩
    refine ⟨_, _, _, _, rfl, ?_⟩
    have few := ws.h.few
    have pos := ws.h.pos
    have o0 : okF s.h 0 := ⟨by omega, by omega⟩
    have bpos : 0 < bornOf s := by
      have := born_lt ws.h o0 d0
      omega
    have bl := born_le s
    refine s_cons ?_
    refine sset 6 ?_
    refine xcall F2 ?_
    refine a_cons ?_
    refine xv 1 ?_
    refine a_cons ?_
    refine xv 3 ?_
    refine a_nil ?_
    refine ⟨s.h, rfl, ws.h, fun rule rne rl rk => ?_⟩
    refine ⟨_, rfl, ?_⟩
    have ro : RuleOk s rule := ⟨rl, fun r hr => (rk r hr).1⟩
    have rw' : ∀ r ∈ rule, WayOk r := fun r hr => (rk r hr).2
    refine s_cons ?_
    refine sset 7 ?_
    refine xcall F3 ?_
    refine a_cons ?_
    refine xv 3 ?_
    refine a_cons ?_
    refine xv 5 ?_
    refine a_nil ?_
    refine ⟨s, rfl, few, ?_⟩
    refine ⟨_, rfl, ?_⟩
    refine s_cons ?_
    refine sset 8 ?_
    refine xcall F4 ?_
    refine a_cons ?_
    refine xv 1 ?_
    refine a_cons ?_
    refine xv 7 ?_
    refine a_nil ?_
    refine ⟨_, rfl, by omega, by omega, fun last l0 l1 => ?_⟩
    refine ⟨_, rfl, ?_⟩
    refine s_cons ?_
    refine sset 9 ?_
    refine xcall F5 ?_
    refine a_cons ?_
    refine xv 3 ?_
    refine a_cons ?_
    refine xv 4 ?_
    refine a_cons ?_
    refine xv 6 ?_
    refine a_cons ?_
    refine xv 5 ?_
    refine a_cons ?_
    refine xv 8 ?_
    refine a_nil ?_
    refine ⟨s, rule, last, rfl, ws, ro, ?_⟩
    refine ⟨_, rfl, ?_⟩
    have ol := order_len ws.h last rule [] ro.fo
    rw [List.length_nil] at ol
    have olen : (orderOf s rule last).length ≤ 600 := by
      unfold orderOf
      omega
    have ord : atI ((orderOf s rule last).map D.int ++ [.int (-1)]) 0 = some (.int (firstIn (orderOf s rule last))) := by
      unfold firstIn
      cases orderOf s rule last with
      | nil => rfl
      | cons x l =>
        rw [← List.map_singleton (f := D.int), ← List.map_append]
        exact at_map (f := D.int) (l := x :: l ++ [-1]) (n := 0) rfl
    refine s_cons ?_
    refine sif ?_
    refine tne ?_
    refine xix ?_
    refine n_catT ?_
    refine xcall F6 ?_
    refine a_cons ?_
    refine xv 3 ?_
    refine a_cons ?_
    refine xv 4 ?_
    refine a_cons ?_
    refine xv 6 ?_
    refine a_cons ?_
    refine xv 5 ?_
    refine a_cons ?_
    refine xv 8 ?_
    refine a_nil ?_
    refine ⟨s, rule, last, rfl, ws, ro, ?_⟩
    refine ⟨_, rfl, ?_⟩
    refine n_tup ?_
    refine a_cons ?_
    refine n_neg ?_
    refine xi ?_
    refine ⟨_, rfl, ?_⟩
    refine a_nil ?_
    refine ⟨[.int (-1)], rfl, by simp, ?_⟩
    refine ⟨_, rfl, by rw [List.length_map]; simp; omega, ?_⟩
    refine ⟨_, rfl, ?_⟩
    refine xi ?_
    refine ⟨_, rfl, ?_⟩
    refine ⟨_, ord, ?_⟩
    refine ⟨_, rfl, ?_⟩
    refine xv 9 ?_
    refine ⟨_, rfl, ?_⟩
    rw [decide_eq_true rfl]
    show WSs X c1 _ _ _
    have gp : ∀ {s' : Sg} {rule' : List Row} {last' : Int} {ds : List D}, WH s'.h → rule'.length ≤ 10 → (∀ r ∈ rule', okF s'.h r.fo ∧ WayOk r) → Paper s' last' rule' ds → ds.length ≤ 10 ∧ ∀ d ∈ ds, Gr 3 60 d := fun w' hl' hk' pap => ⟨by have := pap.len; omega, gr_paper w' pap hk'⟩
    have gt : ∀ {ds : List D}, (ds.length ≤ 20 ∧ ∀ d ∈ ds, Gr 3 60 d) → Gr 4 60 (.tup ds) := fun h => Gr.tup (by omega) h.2
    refine s_nil ?_
    refine s_cons ?_
    refine sset 10 ?_
    refine n_lst ?_
    refine a_cons ?_
    refine xcall F7 ?_
    refine a_cons ?_
    refine xv 3 ?_
    refine a_cons ?_
    refine xv 4 ?_
    refine a_cons ?_
    refine xv 6 ?_
    refine a_cons ?_
    refine xv 5 ?_
    refine a_cons ?_
    refine xv 8 ?_
    refine a_nil ?_
    refine ⟨s, rule, last, rfl, ws, ro, fun ds pap => ?_⟩
    refine a_nil ?_
    refine ⟨[.tup ds], rfl, by simp, ?_⟩
    refine ⟨_, rfl, ?_⟩
    have g0 := gp ws.h rl rk pap
    have ft0 : FT (.tup ds) := (gt ⟨by omega, g0.2⟩).ft (by omega) (by omega)
    refine s_cons ?_
    refine sif ?_
    refine tnotB ?_
    refine xcall F8 ?_
    refine a_cons ?_
    refine xv 3 ?_
    refine a_cons ?_
    refine xv 4 ?_
    refine a_cons ?_
    refine xv 6 ?_
    refine a_cons ?_
    refine xv 5 ?_
    refine a_cons ?_
    refine xv 8 ?_
    refine a_cons ?_
    refine xv 9 ?_
    refine a_cons ?_
    refine xixL ?_
    refine xv 10 ?_
    refine ⟨_, rfl, ?_⟩
    refine xi ?_
    refine ⟨_, rfl, ?_⟩
    refine ⟨.tup ds, rfl, ?_⟩
    refine a_nil ?_
    refine ⟨s, rule, last, _, _, rfl, ws, ro, ft0, fun b hb => ?_⟩
    refine ⟨_, rfl, ?_⟩
    refine xb ?_
    refine ⟨_, rfl, ?_⟩
    have hbt : b = true := hb.mpr (paper_right ws.h ro rw' rne pap)
    subst hbt
    show WSs X c1 _ _ _
    have hz1 : ([D.tup ds] : List D).length < 1000000 := by simp
    refine s_nil ?_
    refine s_cons ?_
    refine sapp 10 hz1 ?_
    refine xcall F7 ?_
    refine a_cons ?_
    refine xv 3 ?_
    refine a_cons ?_
    refine xv 4 ?_
    refine a_cons ?_
    refine xv 6 ?_
    refine a_cons ?_
    refine xv 5 ?_
    refine a_cons ?_
    refine xcall F4 ?_
    refine a_cons ?_
    refine xv 1 ?_
    refine a_cons ?_
    refine xv 7 ?_
    refine a_nil ?_
    refine ⟨_, rfl, by omega, by omega, fun l2 l20 l21 => ?_⟩
    refine a_nil ?_
    refine ⟨s, rule, l2, rfl, ws, ro, fun ds2 pap2 => ?_⟩
    refine ⟨_, rfl, ?_⟩
    have g2 := gp ws.h rl rk pap2
    have hz2 : ([D.tup ds] ++ [D.tup ds2] : List D).length < 1000000 := by simp
    refine s_cons ?_
    refine sapp 10 hz2 ?_
    refine xcall F7 ?_
    refine a_cons ?_
    refine xv 3 ?_
    refine a_cons ?_
    refine xv 4 ?_
    refine a_cons ?_
    refine xv 6 ?_
    refine a_cons ?_
    refine xmin2 ?_
    refine n_add ?_
    refine xv 5 ?_
    refine ⟨_, rfl, ?_⟩
    refine xi ?_
    refine ⟨_, rfl, ?_⟩
    refine ⟨_, rfl, ?_⟩
    refine xi ?_
    refine ⟨_, rfl, ?_⟩
    refine a_cons ?_
    refine xv 8 ?_
    refine a_nil ?_
    generalize (if (99999 : Int) < s.day + 300 then 99999 else s.day + 300) = day2
    refine ⟨⟨s.h, s.b, day2⟩, rule, last, rfl, ⟨ws.h, ws.b⟩, ⟨ro.len, ro.fo⟩, fun ds3 pap3 => ?_⟩
    refine ⟨_, rfl, ?_⟩
    have g3 := gp (s' := ⟨s.h, s.b, day2⟩) ws.h rl rk pap3
    refine s_cons ?_
    refine sfor1 11 rowD ?_
    refine qtup ?_
    refine xv 6 ?_
    refine ⟨_, rfl, ?_⟩
    refine ⟨rule, fun pre g1 => ∃ ps x11, g1 = G_turn s rule last (some (.d (.int turn))) (some (.own ((ds :: ps).map D.tup))) x11 x12 x13 x14 x15 ∧ ps.length = 2 + pre.length ∧ ∀ q ∈ ps, q.length ≤ 10 ∧ ∀ d ∈ q, Gr 3 60 d, rfl, ⟨[ds2, ds3], _, rfl, rfl, fun q hq => ?_⟩, ?_, ?_⟩
    · simp only [List.mem_cons, List.not_mem_nil, or_false] at hq
      rcases hq with e | e <;> rw [e]
      · exact g2
      · exact g3
    · intro pre2 r post2 g1 el2 ⟨ps, x11, eg, pl, pk⟩ c2 ec2
      subst eg
      have hr : r ∈ rule := by rw [el2]; simp
      have rpl : pre2.length ≤ rule.length := by rw [el2]; simp
      have hz3 : ((ds :: ps).map D.tup).length < 1000000 := by
        rw [List.length_map, List.length_cons]
        omega
      refine s_one ?_
      refine sapp 10 hz3 ?_
      refine xcall F7 ?_
      refine a_cons ?_
      refine xv 3 ?_
      refine a_cons ?_
      refine xv 4 ?_
      refine a_cons ?_
      refine n_tup ?_
      refine a_cons ?_
      refine xv 11 ?_
      refine a_nil ?_
      refine ⟨[rowD r], rfl, by simp, ?_⟩
      refine a_cons ?_
      refine xv 5 ?_
      refine a_cons ?_
      refine xv 8 ?_
      refine a_nil ?_
      refine ⟨s, [r], last, rfl, ws, ⟨by simp, fun q hq => by rw [List.mem_singleton.mp hq]; exact (rk r hr).1⟩, fun ds4 pap4 => ?_⟩
      refine ⟨_, rfl, ?_⟩
      have g4 := gp ws.h (by simp) (fun q hq => by rw [List.mem_singleton.mp hq]; exact rk r hr) pap4
      refine ⟨ps ++ [ds4], some (.d (rowD r)), ?_, by rw [List.length_append, List.length_append, pl]; rfl, fun q hq => ?_⟩
      · rw [← List.cons_append, List.map_append]
        rfl
      · rcases List.mem_append.mp hq with z | z
        · exact pk q z
        · rw [List.mem_singleton.mp z]
          exact g4
    intro g1 ⟨ps, x11, eg, pl, pk⟩
    subst eg
    obtain ⟨ql, hql, hqm⟩ : ∃ ql, (ds :: ps).getLast? = some ql ∧ ql ∈ ds :: ps := by
      cases h : (ds :: ps).getLast? with
      | none => exact absurd (List.getLast?_eq_none_iff.mp h) (by simp)
      | some x => exact ⟨x, rfl, List.mem_of_getLast? h⟩
    have gql : ql.length ≤ 10 ∧ ∀ d ∈ ql, Gr 3 60 d := by
      rcases List.mem_cons.mp hqm with e | e
      · rw [e]
        exact g0
      · exact pk ql e
    have p0 : atI ((ds :: ps).map D.tup) 0 = some (.tup ds) := at_map (f := D.tup) (l := ds :: ps) (n := 0) rfl
    refine s_cons ?_
    refine sset 10 ?_
    refine xcat ?_
    refine xv 10 ?_
    refine ⟨_, rfl, ?_⟩
    refine xlc1m 12 D.int (fun i => .tup (ds.take i.toNat ++ ql)) ?_
    refine qrange ?_
    refine xlen ?_
    refine xv 6 ?_
    refine ⟨_, rfl, ?_⟩
    rw [List.length_map]
    refine ⟨rule.length, rfl, by omega, ?_⟩
    have tk : ∀ i : Int, 0 ≤ i → cut ds none (some i) = ds.take i.toNat := fun i h0 => by
      unfold cut
      have e : HT.sIx ds.length ds.length (some i) = min i.toNat ds.length := by
        have := HT.sIx_nat ds.length ds.length i.toNat
        rw [Int.toNat_of_nonneg h0] at this
        exact this
      rw [e, HT.sIx_none, List.drop_zero, Nat.sub_zero, ← List.take_take, List.take_length]
    refine ⟨idx rule.length, rng0 _, by rw [idx_len]; omega, fun i hi => ⟨_, rfl, fun X' hb1 B1 => ?_⟩, ?_⟩
    · have h0 := (mem_idx.mp hi).1
      refine n_catT ?_
      refine xsl ?_
      refine xixL ?_
      refine xv 10 ?_
      refine ⟨_, rfl, ?_⟩
      refine xi ?_
      refine ⟨_, rfl, ?_⟩
      refine ⟨_, p0, ?_⟩
      refine ⟨_, rfl, ?_⟩
      refine po0 ?_
      refine po1 ?_
      refine xv 12 ?_
      refine ⟨_, rfl, ?_⟩
      rw [tk i h0]
      refine ⟨_, rfl, ?_⟩
      refine xixL ?_
      refine xv 10 ?_
      refine ⟨_, rfl, ?_⟩
      refine n_neg ?_
      refine xi ?_
      refine ⟨_, rfl, ?_⟩
      refine ⟨_, rfl, ?_⟩
      refine ⟨_, at_last hql, ?_⟩
      refine ⟨_, rfl, ?_, ?_⟩
      · have := gql.1
        have := g0.1
        rw [List.length_take]
        omega
      rfl
    refine ⟨_, rfl, by simp only [List.length_map, idx_len, List.length_cons]; omega, ?_⟩
    let qs : List (List D) := (ds :: ps) ++ (idx rule.length).map fun i => ds.take i.toNat ++ ql
    have eqs : (ds :: ps).map D.tup ++ (idx rule.length).map (fun i => D.tup (ds.take i.toNat ++ ql)) = qs.map D.tup := by
      show _ = List.map D.tup ((ds :: ps) ++ _)
      rw [List.map_append, List.map_map]
      rfl
    rw [eqs]
    have qsl : 1 ≤ qs.length ∧ qs.length ≤ 30 := by
      show 1 ≤ ((ds :: ps) ++ _).length ∧ ((ds :: ps) ++ _).length ≤ 30
      rw [List.length_append, List.length_map, idx_len, List.length_cons]
      omega
    have qsg : ∀ q ∈ qs, Gr 4 60 (.tup q) := fun q hq => by
      rcases List.mem_append.mp hq with z | z
      · rcases List.mem_cons.mp z with e | e
        · rw [e]
          exact gt ⟨by omega, g0.2⟩
        · exact gt ⟨by have := (pk q e).1; omega, (pk q e).2⟩
      · obtain ⟨i, _, e⟩ := List.mem_map.mp z
        rw [← e]
        refine gt ⟨?_, fun d hd => ?_⟩
        · have := gql.1
          have := g0.1
          rw [List.length_append, List.length_take]
          omega
        · rcases List.mem_append.mp hd with z | z
          · exact g0.2 d (List.mem_of_mem_take z)
          · exact gql.2 d z
    clear_value qs
    refine ⟨.own (qs.map D.tup), rfl, ?_⟩
    refine s_cons ?_
    refine sfor1 12 D.int ?_
    refine qrange ?_
    refine xi ?_
    refine ⟨8, rfl, by omega, ?_⟩
    refine ⟨idx 8, fun pre g1 => ∃ qs x12, g1 = G_turn s rule last (some (.d (.int turn))) (some (.own (qs.map D.tup))) x11 x12 x13 x14 x15 ∧ 1 ≤ qs.length ∧ qs.length ≤ 30 + pre.length ∧ ∀ q ∈ qs, Gr 4 (60 + pre.length) (.tup q), rng0 _, ⟨qs, _, rfl, qsl.1, qsl.2, qsg⟩, ?_, ?_⟩
    · intro pre3 i3 post3 g1 el3 ⟨qs, x12, eg, q1, q2, q3⟩ c3 ec3
      subst eg
      have pl3 : pre3.length < 8 := by
        have := congrArg List.length el3
        rw [idx_len, List.length_append, List.length_cons] at this
        omega
      have hz4 : (qs.map D.tup).length < 1000000 := by
        rw [List.length_map]
        omega
      refine s_one ?_
      refine sapp 10 hz4 ?_
      refine xcall F9 ?_
      refine a_cons ?_
      refine xv 1 ?_
      refine a_cons ?_
      refine xixL ?_
      refine xv 10 ?_
      refine ⟨_, rfl, ?_⟩
      refine xcall F4 ?_
      refine a_cons ?_
      refine xv 1 ?_
      refine a_cons ?_
      refine xlen ?_
      refine xv 10 ?_
      refine ⟨_, rfl, ?_⟩
      refine a_nil ?_
      refine ⟨_, rfl, by rw [List.length_map]; omega, by rw [List.length_map]; omega, fun t t0 t1 => ?_⟩
      rw [List.length_map] at t1
      obtain ⟨q, hq, eq⟩ := at_tups t0 t1
      refine ⟨_, rfl, _, eq, ?_⟩
      refine a_cons ?_
      refine xlen ?_
      refine xv 3 ?_
      refine ⟨_, rfl, ?_⟩
      refine a_nil ?_
      refine ⟨q, _, 60 + pre3.length, rfl, q3 q hq, by omega, by omega, by omega, by rw [List.length_map]; omega, fun q' g' => ?_⟩
      refine ⟨_, rfl, ?_⟩
      refine ⟨qs ++ [q'], some (.d (.int i3)), ?_, ?_, ?_, fun z hz => ?_⟩
      · rw [List.map_append]
        rfl
      · rw [List.length_append]
        omega
      · rw [List.length_append, List.length_append, List.length_singleton, List.length_singleton]
        omega
      · rw [List.length_append, List.length_singleton]
        rcases List.mem_append.mp hz with h | h
        · exact (q3 z h).mono (Nat.le_refl _) (by omega)
        · rw [List.mem_singleton.mp h]
          exact g'.mono (Nat.le_refl _) (by omega)
    intro g1 ⟨qs, x12, eg, q1, q2, q3⟩
    subst eg
    rw [idx_len] at q3
    refine sstill 10 ?_
    refine s_one (sfor1 13 D.tup ?_)
    refine qro 10 ?_
    refine ⟨qs, fun pre g1 => ∃ x13 x14 x15, g1 = G_turn s rule last (some (.d (.int turn))) (some (.ro (qs.map D.tup))) x11 x12 x13 x14 x15, rfl, ⟨_, _, _, rfl⟩, ?_, fun g1 ⟨x13, x14, x15, eg⟩ => ⟨_, _, _, _, _, _, _, _, _, _, _, _, _, _, eg⟩⟩
    intro pre4 q post4 g1 el4 ⟨x13, x14, x15, eg⟩ c4 ec4
    subst eg
    have hq : q ∈ qs := by rw [el4]; simp
    have ftq : FT (.tup q) := (q3 q hq).ft (by omega) (by omega)
    refine s_one ?_
    refine sfor1 14 D.int ?_
    refine qtup ?_
    refine n_tup ?_
    refine a_cons ?_
    refine xv 9 ?_
    refine a_cons ?_
    refine n_neg ?_
    refine xi ?_
    refine ⟨_, rfl, ?_⟩
    refine a_cons ?_
    refine xcall F4 ?_
    refine a_cons ?_
    refine xv 1 ?_
    refine a_cons ?_
    refine xv 7 ?_
    refine a_nil ?_
    refine ⟨_, rfl, by omega, by omega, fun w1 _ _ => ?_⟩
    refine a_cons ?_
    refine xcall F4 ?_
    refine a_cons ?_
    refine xv 1 ?_
    refine a_cons ?_
    refine xv 7 ?_
    refine a_nil ?_
    refine ⟨_, rfl, by omega, by omega, fun w2 _ _ => ?_⟩
    refine a_nil ?_
    refine ⟨[.int (firstIn (orderOf s rule last)), .int (-1), .int w1, .int w2], rfl, by simp, ?_⟩
    refine ⟨_, rfl, ?_⟩
    refine ⟨[firstIn (orderOf s rule last), -1, w1, w2], fun pre g1 => ∃ x14 x15, g1 = G_turn s rule last (some (.d (.int turn))) (some (.ro (qs.map D.tup))) x11 x12 (some (.d (.tup q))) x14 x15, rfl, ⟨_, _, rfl⟩, ?_, fun g1 ⟨x14, x15, eg⟩ => ⟨_, _, _, eg⟩⟩
    intro pre5 who post5 g1 el5 ⟨x14, x15, eg⟩ c5 ec5
    subst eg
    refine s_cons ?_
    refine sset 15 ?_
    refine xcall F8 ?_
    refine a_cons ?_
    refine xv 3 ?_
    refine a_cons ?_
    refine xv 4 ?_
    refine a_cons ?_
    refine xv 6 ?_
    refine a_cons ?_
    refine xv 5 ?_
    refine a_cons ?_
    refine xv 8 ?_
    refine a_cons ?_
    refine xv 14 ?_
    refine a_cons ?_
    refine xv 13 ?_
    refine a_nil ?_
    refine ⟨s, rule, last, who, _, rfl, ws, ro, ftq, fun b hb => ?_⟩
    refine ⟨_, rfl, ?_⟩
    refine s_one ?_
    refine sif ?_
    refine t_bop ?_
    refine w_and ?_
    refine tisB ?_
    refine xv 15 ?_
    refine ⟨_, rfl, ?_⟩
    refine xb ?_
    refine ⟨_, rfl, ?_⟩
    refine ite_b (fun e1 => ?_) (fun e1 => ?_)
    · refine w_and1 ?_
      refine tne ?_
      refine xv 14 ?_
      refine ⟨_, rfl, ?_⟩
      refine xv 9 ?_
      refine ⟨_, rfl, ?_⟩
      refine ite_b (fun e2 => ?_) (fun e2 => ?_)
      · exfalso
        have hbt : b = true := of_decide_eq_true e1
        have := right_who ws.h ro rw' (hb.mp hbt)
        rw [decide_eq_true this] at e2
        cases e2
      · refine s_nil ?_
        exact ⟨_, _, rfl⟩
    · simp only [Bool.false_eq_true, if_false]
      refine s_nil ?_
      exact ⟨_, _, rfl⟩
  · intro g1 ⟨x2, x3, x4, x5, x6, x7, x8, x9, x10, x11, x12, x13, x14, x15, eg⟩
    subst eg
    refine s_one (s_ret ?_)
    refine xb ?_
    rfl
end TW

namespace TW
open PySem PySem.Spec PyProof.Rows L2
def spLaw (K : Fg) : Sp := fun vs H Q _ => ∃ (a : Addr) (ns : List Int), vs = [V.ref a] ∧ ns.length ≤ 63 ∧ ScrOk K H a (ns.map V.int) ∧ ∀ H', Q (.bl true) H'
theorem g_law_st {i : Nat} {S : Sl} (h : (G_law none none none none none none none none none none none none none none)[i]? = some (some S)) : i = 1 ∧ S = .st := by
  match i, h with
  | 0, h => cases h
  | 1, h =>
    cases h
    exact ⟨rfl, rfl⟩
  | j + 2, h =>
    have h2 : (List.replicate 14 (none : Option Sl))[j]? = some (some S) := h
    rw [List.getElem?_replicate] at h2
    split at h2 <;> cases h2
theorem law_all {X : Cx} (M : Nm X.mg) (B : Bd X N_law (defScope s_law) 11) (F1 : Callee X.prog X.w X.K X.mg X.base "_law_some" 4 ph_some) (F2 : Callee X.prog X.w X.K X.mg X.base "_law_rows" 3 ph_rows) (F3 : Callee X.prog X.w X.K X.mg X.base "_law_born" 1 ph_born) (F4 : Callee X.prog X.w X.K X.mg X.base "_law_take" 1 ph_take)
    (F5 : Callee X.prog X.w X.K X.mg X.base "first_of" 11 ph_first_of) (F6 : Callee X.prog X.w X.K X.mg X.base "order_of" 10 ph_order_of) (F7 : Callee X.prog X.w X.K X.mg X.base "first_paper" 10 ph_first_paper) (F8 : Callee X.prog X.w X.K X.mg X.base "right_first" 11 ph_right_first) (F9 : Callee X.prog X.w X.K X.mg X.base "_law_bent" 5 (ph_bent 3))
    {a : Addr} {ns : List Int} {H : Hp} (hl : ns.length ≤ 63) (hs : ScrOk X.K H a (ns.map V.int)) (D : Ends) (hD : ∀ H', D.rt (.bl true) H') : tWSs X (defBody s_law) D (L2.start N_law [V.ref a]) H := by
  have rest := fun c => law_rest (c := c) M B F1 F2 F3 F4 F5 F6 F7 F8 F9
  refine wss_of (pss_cons ps_w pss_w) ?_
  refine ws_of (ps_set (i := 1) B.nd (by rw [B.N]; rfl) (by rw [B.sc]; exact loc_of (by decide +kernel)) (pe_lst (pa_cons (pe_nm 0 B.toBx rfl (by decide +kernel)) (pa_cons pe_int (pa_cons pe_int (pa_cons pe_int pa_nil))))) rfl (.inl (B.fn _))) ?_
  refine ⟨_, rfl, ?_⟩
  refine ⟨?_, fun pp hp => ?_⟩
  · show 4 ≤ sizeLine
    decide
  have hsame : Same H (upd H pp (.lst [V.ref a, .int 0, .int 0, .int 39])) := same_new hp
  have scr : ScrOk X.K (upd H pp (.lst [V.ref a, .int 0, .int 0, .int 39])) a (ns.map V.int) := by
    rcases hs with ⟨o, h⟩ | h
    · exact .inl ⟨o, hsame _ _ h⟩
    · exact .inr h
  refine rest ⟨upd H pp (.lst [V.ref a, .int 0, .int 0, .int 39]), some pp⟩ _ _ ⟨Ext.refl _, fun s es => ?_, rfl, fun i S h => ?_, fun i j S T b n h1 h2 m1 m2 _ _ => ?_⟩ D ⟨fun _ _ _ _ n => n.elim, fun v H' r _ hr er => ?_, fun _ _ _ _ n => n.elim, fun _ _ _ _ n => n.elim⟩
  · cases es
    exact ⟨a, ns, 0, 0, 39, upd_same, scr, hl, by decide, by decide, by decide, by decide⟩
  · obtain ⟨rfl, rfl⟩ := g_law_st h
    exact ⟨.ref pp, rfl, pp, rfl, rfl⟩
  · obtain ⟨rfl, rfl⟩ := g_law_st h1
    cases m1
  · subst er
    have : v = .bl true := is_bl hr
    rw [this]
    exact hD H'
theorem ok_law {P : Program} {w : World} {K : Fg} {mg : Str → Option Value} {base : Heap} {fa : Addr} {fd : FuncData} (M : Nm mg) (F : Fun K "law" "law" s_law fa fd) (F1 : Callee P w K mg base "_law_some" 4 ph_some) (F2 : Callee P w K mg base "_law_rows" 3 ph_rows) (F3 : Callee P w K mg base "_law_born" 1 ph_born) (F4 : Callee P w K mg base "_law_take" 1 ph_take)
    (F5 : Callee P w K mg base "first_of" 11 ph_first_of) (F6 : Callee P w K mg base "order_of" 10 ph_order_of) (F7 : Callee P w K mg base "first_paper" 10 ph_first_paper) (F8 : Callee P w K mg base "right_first" 11 ph_right_first) (F9 : Callee P w K mg base "_law_bent" 5 (ph_bent 3)) : FnOk P w K mg base CX0 12 fa fd ["_law_script"] (spLaw K) := by
  refine F.ok sc_law (fun vs H Q E h => ?_) (fun cdv A outer s H vs Q E hr h => ?_)
  · obtain ⟨a, ns, rfl, _⟩ := h
    rfl
  · obtain ⟨a, ns, rfl, hl, hs, hQ⟩ := h
    exact ⟨_, pss_w, law_all (X := (cxOf CX0 P w K mg base N_law "law" (defScope s_law) fa cdv A outer s H E).nox) M ⟨⟨rfl, sc_law.nd, rfl, rfl, hr, PassesOwn.never⟩, fun _ => rfl⟩ F1 F2 F3 F4 F5 F6 F7 F8 F9 hl hs _ hQ⟩
end TW

/-! TK5: a set of tuples of numbers and texts, asked only for where its items come from; sorted of it. The road is that of the library's sets of tuples of numbers. -/
namespace MS
open PySem PySem.Spec PyProof.Rows L2
section
variable {P : Program} {w : World} {A : Around} {E : Value → Shared → Prop} {s : Shared}
abbrev mh (P : Program) (w : World) (k : List Key) : Int := tupleKeyHash (mixKind P w) k
abbrev IsM (P : Program) (w : World) (h : Heap) (k : List Key) (a : Addr) : Prop := IsTupleKey (mixKind P w) h k a
def Pl (v : Value) : Prop := (∃ i t, v = Value.int i t) ∨ ∃ x t, v = Value.str x t
theorem items_pl {k : List Key} {vs : List Value} (h : ItemsAre (mixKind P w) k vs) : ∀ v ∈ vs, Pl v := by
  induction h with
  | nil => intro v hv; cases hv
  | cons h1 _ ih =>
    intro v hv
    cases hv with
    | head => rcases keyIs_shape h1 with ⟨i, t, _, e⟩ | ⟨x, t, _, e⟩; exact .inl ⟨i, t, e⟩; exact .inr ⟨x, t, e⟩
    | tail _ hv => exact ih v hv
theorem pl_cls (n : Nat) {v : Value} (h : Pl v) : ofAClassStatement n v = pure false := by
  rcases h with ⟨i, t, rfl⟩ | ⟨x, t, rfl⟩ <;> cases n <;> rfl
theorem pl_hash (n : Nat) {v : Value} (h : Pl v) : ∃ b, hashByValue n v = pure b := by
  rcases h with ⟨i, t, rfl⟩ | ⟨x, t, rfl⟩ <;> exact ⟨_, hashByValue_scannable n rfl⟩
theorem cls_tup {k : List Key} {b : Addr} {Q : Bool → Shared → Prop} (hk : IsM P w s.heap k b) (h : Q false s) : wpAny (model P w) A (ofAClassStatement 8 (.ref b)) Q E s := by
  have hT := hk.typeIs
  obtain ⟨o, items, n, ho, _, hd, hi⟩ := hk
  unfold ofAClassStatement
  refine wpAny_bind (wpAny_typeOf hT ?_)
  dsimp only
  have e : (("tuple" : String) == "tuple") = true := by decide
  simp only [e, if_true, Bool.not_true, Bool.false_eq_true, if_false]
  try refine wpAny_bind (wpAny_pure ?_)
  try simp only [Bool.not_true, Bool.false_eq_true, if_false]
  show wpAny _ _ (seqItems? (.ref b) >>= _) _ _ s
  refine wpAny_bind (wpAny_seqItems ho hd ?_)
  dsimp only
  refine wpAny_bind ?_
  show wpAny _ _ (forIn items _ _) _ _ s
  rw [← Array.forIn_toList]
  refine wpAny_forIn_list _ (fun rest r s' => r.1 = none ∧ s' = s ∧ ∀ v ∈ rest, Pl v) _ ?_ ?_ _ _ ⟨rfl, rfl, items_pl hi⟩
  · rintro v rest r s' ⟨hr, rfl, hall⟩
    rw [pl_cls _ (hall v List.mem_cons_self)]
    refine wpAny_bind (wpAny_pure ?_)
    simp only [Bool.false_eq_true, if_false]
    exact wpAny_pure ⟨rfl, rfl, fun u hu' => hall u (List.mem_cons_of_mem _ hu')⟩
  · rintro ⟨r1, r2⟩ s' ⟨hr, rfl, _⟩
    simp only at hr
    subst hr
    exact wpAny_pure h
theorem hash_tup {k : List Key} {b : Addr} {Q : Bool → Shared → Prop} (hk : IsM P w s.heap k b) (h : ∀ v, Q v s) : wpAny (model P w) A (hashByValue 8 (.ref b)) Q E s := by
  have hT := hk.typeIs
  obtain ⟨o, items, n, ho, _, hd, hi⟩ := hk
  unfold hashByValue
  refine wpAny_bind (wpAny_specialOf hT F.slot_tuple_hash.lookup ?_)
  show wpAny _ _ (seqItems? (.ref b) >>= _) _ _ s
  refine wpAny_bind (wpAny_seqItems ho hd ?_)
  refine wpAny_bind ?_
  show wpAny _ _ (forIn items _ _) _ _ s
  rw [← Array.forIn_toList]
  refine wpAny_forIn_list _ (fun rest r s' => s' = s ∧ ∀ v ∈ rest, Pl v) _ ?_ ?_ _ _ ⟨rfl, items_pl hi⟩
  · rintro v rest r s' ⟨rfl, hall⟩
    obtain ⟨b, eb⟩ := pl_hash 7 (hall v List.mem_cons_self)
    rw [eb]
    refine wpAny_bind (wpAny_pure ?_)
    cases b
    · simp only [Bool.not_false, if_true]
      exact wpAny_pure (wpAny_pure (h _))
    · simp only [Bool.not_true, Bool.false_eq_true, if_false]
      exact wpAny_pure ⟨rfl, fun u hu' => hall u (List.mem_cons_of_mem _ hu')⟩
  · rintro ⟨r1, r2⟩ s' ⟨rfl, _⟩
    cases r1 with
    | none => exact wpAny_pure (h _)
    | some v => exact wpAny_pure (h _)
theorem seen_tups {k : List Key} {b : Addr} {Q : Bool → Shared → Prop} (hk : IsM P w s.heap k b) {ys : List Value} (hy : ∀ y ∈ ys, ∃ k' c, y = Value.ref c ∧ IsM P w s.heap k' c) (h : Q false s) :
    wpAny (model P w) A (searchCouldBeSeen (.ref b) ys) Q E s := by
  unfold searchCouldBeSeen
  refine wpAny_bind ?_
  refine wpAny_forIn_list _ (fun rest r s' => r.1 = none ∧ s' = s ∧ ∀ y ∈ rest, ∃ k' c, y = Value.ref c ∧ IsM P w s.heap k' c) _ ?_ ?_ _ _ ⟨rfl, rfl, hy⟩
  · rintro v rest r s' ⟨hr, rfl, hall⟩
    obtain ⟨k', c, rfl, hc⟩ := hall v List.mem_cons_self
    have rest' : ∀ y ∈ rest, ∃ k' c, y = Value.ref c ∧ IsM P w s'.heap k' c := fun u hu' => hall u (List.mem_cons_of_mem _ hu')
    dsimp only
    by_cases hv : (b == c || (carriedByValue (.ref b) && carriedByValue (.ref c))) = true
    · refine wp_if_pos hv ?_
      exact wpAny_pure ⟨rfl, rfl, rest'⟩
    · refine wp_if_neg hv ?_
      refine wpAny_bind (wpAny_eqIsQuiet_tuple hk ?_)
      simp only [Bool.not_true, Bool.false_eq_true, if_false]
      refine wpAny_bind (wpAny_eqIsQuiet_tuple hc ?_)
      simp only [Bool.not_true, Bool.false_eq_true, if_false]
      refine wpAny_bind (cls_tup hk ?_)
      simp only [Bool.false_eq_true, if_false]
      refine wpAny_bind (cls_tup hc ?_)
      simp only [Bool.false_eq_true, if_false]
      exact wpAny_pure ⟨rfl, rfl, rest'⟩
  · rintro ⟨r1, r2⟩ s' ⟨hr, rfl, _⟩
    simp only at hr
    subst hr
    exact wpAny_pure h

/-- an item of the set: one of the addresses as, with the hash of what stands there -/
def Good (P : Program) (w : World) (h : Heap) (as : List Addr) (e : Int × Value) : Prop := ∃ b k, e = (mh P w k, Value.ref b) ∧ IsM P w h k b ∧ b ∈ as
theorem Good.keep {h h' : Heap} {as : List Addr} {e : Int × Value} (g : Good P w h as e) (k : ∀ b ∈ as, ∀ o, h.get? b = some o → h'.get? b = some o) : Good P w h' as e := by
  obtain ⟨b, x, e1, ⟨o, items, n, ho, r⟩, hb⟩ := g
  exact ⟨b, x, e1, ⟨o, items, n, k b hb o ho, r⟩, hb⟩
structure Sm (P : Program) (w : World) (h : Heap) (a : Addr) (as : List Addr) (es : Array (Int × Value)) (ep : Nat) (t : SetTable) : Prop where
  ob : ∃ o, h.get? a = some o ∧ o.ExactSet ∧ o.data = .set es ep t
  rows : ∀ e ∈ es.toList, Good P w h as e
  tab : TabOk t (es.toList.map (·.1))
  led : w.params.followText "set-order" = true ∨ t.led = true
  room : es.size * 5 < t.mask * 3
variable {a : Addr} {as : List Addr} {es : Array (Int × Value)} {ep : Nat} {t : SetTable}
theorem hs_len (es : Array (Int × Value)) : (es.toList.map (·.1)).length = es.size := by rw [List.length_map, Array.length_toList]
theorem fits_of (hs : t.place.size = es.size) (hd : t.dummies = #[]) (hl : es.size ≤ t.mask) : t.fits es.size = true := by
  unfold SetTable.fits SetTable.fill
  rw [hd, Bool.and_eq_true, beq_iff_eq, decide_eq_true_eq]
  show t.place.size = es.size ∧ t.place.size + 0 ≤ t.mask
  omega
theorem Sm.sz (R : Sm P w s.heap a as es ep t) : t.place.size = es.size := R.tab.sz.trans (hs_len es)
theorem Sm.fits (R : Sm P w s.heap a as es ep t) : t.fits es.size = true := fits_of R.sz R.tab.dm (by have := R.room; omega)
theorem gw_of (T : MaskOk t.mask) : ¬ t.gaveWay = true := by
  unfold SetTable.gaveWay
  rw [mask_odd T]
  decide
theorem nth_dm (m : Nat) : ∀ (n : Nat) (p : SetTable.Probe), p.dummy = none → (nth m p n).dummy = none
  | 0, _, h => h
  | n + 1, p, h => nth_dm m n (adv m p) (by
    unfold adv
    split <;> exact h)
/-- the search: found, or the first free slot of the way -/
theorem search (R : Sm P w s.heap a as es ep t) {x : Addr} {k : List Key} (hx : IsM P w s.heap k x) (hu : A.units < cLine) {K : Nat} (hKf : K < 10 * SetTable.turns t.mask)
    (hK : way t.mask (mh P w k) K ∉ t.place.toList) (hKb : ∀ c, c < K → way t.mask (mh P w k) c ∈ t.place.toList) {Q : SetFound → Shared → Prop}
    (h1 : Q (.there none) s) (h2 : Q (.free (way t.mask (mh P w k) K) false) s) :
    ∀ (f c : Nat) (stand : Option SetTable.Probe), stand.getD (t.probeStart (mh P w k)) = nth t.mask (runAt t.mask (SetTable.bits (mh P w k) % (t.mask + 1)) (SetTable.bits (mh P w k))) c → c ≤ K → K - c < f →
      wpAny (model P w) A (setSearchFrom a (.ref x) (mh P w k) true f stand) Q E s
  | 0, _, _, _, _, hf => absurd hf (Nat.not_lt_zero _)
  | f + 1, c, stand, hst, hc, hf => by
    obtain ⟨o, ho, hex, hd⟩ := R.ob
    rw [setSearchFrom_succ]
    refine wpAny_bind (wpAny_setState_of ho hd R.fits ?_)
    dsimp only
    refine wp_if_neg (gw_of R.tab.mok) ?_
    try refine wpAny_bind (wpAny_pure ?_)
    have e1 : ∀ q, (nth t.mask (nth t.mask (runAt t.mask (SetTable.bits (mh P w k) % (t.mask + 1)) (SetTable.bits (mh P w k))) c) q).j = way t.mask (mh P w k) (c + q) := fun q => congrArg SetTable.Probe.j (nth_add t.mask c _ q).symm
    have eK : c + (K - c) = K := by omega
    have spec := go_spec t R.tab.ris R.tab.dm (fun i => (es[i]?.map (·.1)).getD 0) (mh P w k) (10 * SetTable.turns t.mask) (K - c) _ (nth_dm t.mask c (runAt t.mask (SetTable.bits (mh P w k) % (t.mask + 1)) (SetTable.bits (mh P w k))) rfl) (by omega)
      (fun q hq => by rw [e1]; exact hKb (c + q) (by omega)) (by rw [e1, eK]; exact hK)
    rcases spec with ⟨q, i, hq, hi, _, _, hpr⟩ | ⟨_, hpr⟩
    · have hpr' : t.probe (fun i => (es[i]?.map (·.1)).getD 0) (mh P w k) (stand.getD (t.probeStart (mh P w k))) = some (.candidate (way t.mask (mh P w k) (c + q)) i (nth t.mask (runAt t.mask (SetTable.bits (mh P w k) % (t.mask + 1)) (SetTable.bits (mh P w k))) (c + (q + 1)))) := by
        rw [hst, ← e1, nth_add t.mask c _ (q + 1)]
        exact hpr
      rw [hpr']
      dsimp only
      rw [e1] at hi
      have hil : i < es.size := by
        have g := (List.getElem?_eq_some_iff.mp hi).1
        rw [Array.length_toList, R.sz] at g
        exact g
      have hes : es[i]? = some es[i] := Array.getElem?_eq_getElem hil
      obtain ⟨b, kb, eb, hb, _⟩ := R.rows es[i] (by simp)
      rw [eb] at hes
      have rest : wpAny (model P w) A (searchRest a (.ref x) (mh P w k) true f es t (way t.mask (mh P w k) (c + q)) i (nth t.mask (runAt t.mask (SetTable.bits (mh P w k) % (t.mask + 1)) (SetTable.bits (mh P w k))) (c + (q + 1)))) Q E s := by
        unfold searchRest
        rw [hes]
        dsimp only
        refine wpAny_bind (wpAny_holding (wpAny_eqBool_tuple hu hb hx ?_))
        refine wpAny_bind (wpAny_setState_of ho hd R.fits ?_)
        dsimp only
        by_cases hkk : kb = k
        · exact wp_if_pos (by simp [hkk]) (wpAny_pure h1)
        · refine wp_if_neg (by simp [hkk]) ?_
          try refine wpAny_bind (wpAny_pure ?_)
          rw [sameMem]
          dsimp only
          have hsl : t.slot (way t.mask (mh P w k) (c + q)) = .live i := slot_live R.tab.ris hi
          simp only [if_true, hsl, hes]
          refine wpAny_bind (wpAny_isSame_ref_self (wpAny_bind (wpAny_pure ?_)))
          simp only [if_true]
          refine wp_if_neg (by simp [hkk]) ?_
          exact search R hx hu hKf hK hKb h1 h2 f (c + (q + 1)) _ rfl (by omega) (by omega)
      by_cases hl : t.led = true
      · refine wp_if_neg (by simp [hl]) ?_
        try refine wpAny_bind (wpAny_pure ?_)
        exact rest
      · refine wp_if_pos (by simp [hl]) ?_
        refine wpAny_bind (seen_tups hx (fun y hy => ?_) ?_)
        · obtain ⟨e, he, ee⟩ := List.mem_map.mp hy
          have he1 : e ∈ es ∧ e.1 = mh P w k := by simpa using he
          obtain ⟨b', k', e2, hb', _⟩ := R.rows e (by simpa using he1.1)
          exact ⟨k', b', by rw [← ee, e2], hb'⟩
        · refine wp_if_neg (by decide) ?_
          try refine wpAny_bind (wpAny_pure ?_)
          exact rest
    · have hpr' : t.probe (fun i => (es[i]?.map (·.1)).getD 0) (mh P w k) (stand.getD (t.probeStart (mh P w k))) = some (.empty (way t.mask (mh P w k) K) none) := by
        have e2 : way t.mask (mh P w k) K = (nth t.mask (nth t.mask (runAt t.mask (SetTable.bits (mh P w k) % (t.mask + 1)) (SetTable.bits (mh P w k))) c) (K - c)).j := by
          rw [e1, eK]
        rw [hst, e2]
        exact hpr
      rw [hpr']
      dsimp only
      exact wpAny_pure h2
theorem search_all (R : Sm P w s.heap a as es ep t) {x : Addr} {k : List Key} (hx : IsM P w s.heap k x) (hu : A.units < cLine) {Q : SetFound → Shared → Prop} (h1 : Q (.there none) s)
    (h2 : ∀ K, way t.mask (mh P w k) K ∉ t.place.toList → (∀ c, c < K → way t.mask (mh P w k) c ∈ t.place.toList) → Q (.free (way t.mask (mh P w k) K) false) s) :
    wpAny (model P w) A (setSearch a (.ref x) (mh P w k) true) Q E s := by
  have hroom := R.room
  obtain ⟨K, hKf, hK, hKb⟩ := R.tab.first (by rw [hs_len]; omega) (mh P w k)
  have hbig : 10 * SetTable.turns t.mask ≤ 1420 := by
    unfold SetTable.turns
    rcases R.tab.mok with e | e | e <;> omega
  unfold setSearch
  exact search R hx hu hKf hK hKb h1 (h2 K hK hKb) 100000 0 none rfl (Nat.zero_le _) (by omega)
theorem take_all {α : Type} (L : List α) : (List.range L.length).filterMap (fun i => L[i]?) = L := by
  have key : ∀ n, n ≤ L.length → (List.range n).filterMap (fun i => L[i]?) = L.take n := by
    intro n
    induction n with
    | zero => intro _; rfl
    | succ n ih =>
      intro hn
      have hlt : n < L.length := hn
      rw [List.range_succ, List.filterMap_append, ih (Nat.le_of_lt hlt), List.take_succ, List.getElem?_eq_getElem hlt]
      rw [List.filterMap_cons_some (List.getElem?_eq_getElem hlt)] <;> rfl
  rw [key _ (Nat.le_refl _), List.take_length]
theorem anew_rows (es : Array (Int × Value)) (order : Array Nat) (hp : order.toList.Perm (List.range es.size)) :
    (order.filterMap (es[·]?)).toList.Perm es.toList ∧ (order.filterMap (es[·]?)).toList.map (·.1) = order.toList.map fun i => (es.map (·.1)).getD i 0 := by
  have e0 : (order.filterMap (es[·]?)).toList = order.toList.filterMap fun i => es.toList[i]? := by
    rw [Array.toList_filterMap]
    congr 1
    funext i
    rw [Array.getElem?_toList]
  refine ⟨?_, ?_⟩
  · rw [e0]
    have h := hp.filterMap fun i => es.toList[i]?
    rw [← Array.length_toList, take_all] at h
    exact h
  · rw [e0]
    have key : ∀ l : List Nat, (∀ i ∈ l, i < es.size) → (l.filterMap fun i => es.toList[i]?).map (·.1) = l.map fun i => (es.map (·.1)).getD i 0 := by
      intro l
      induction l with
      | nil => intro _; rfl
      | cons i l ih =>
        intro hl
        have hi := hl i List.mem_cons_self
        rw [List.filterMap_cons_some (by rw [Array.getElem?_toList]; exact Array.getElem?_eq_getElem hi), List.map_cons, List.map_cons, ih fun j hj => hl j (List.mem_cons_of_mem _ hj)]
        congr 1
        simp [Array.getD_eq_getD_getElem?, hi]
    exact key _ fun i hi => List.mem_range.mp (hp.mem_iff.mp hi)

/-- the table laid anew, larger -/
theorem relay {o : Obj} (ho : s.heap.get? a = some o) (hex : o.ExactSet) (hd : o.data = .set es ep t) (hrows : ∀ e ∈ es.toList, Good P w s.heap as e) (hsz : t.place.size = es.size) (hdm : t.dummies = #[]) (hfl : es.size ≤ t.mask)
    (has : a ∉ as) (ld : w.params.followText "set-order" = true ∨ t.led = true) {wanted M : Nat}
    (hw : SetTable.sizeAbove wanted - 1 = M) (hM : MaskOk M) (hw2 : SetTable.sizeAbove wanted ≤ 128) (hn : es.size * 5 < M * 3) (h64 : es.size ≤ 64) {Q : Unit → Shared → Prop}
    (hQ : ∀ h' es' ep' t', Heap.SameBut a s.heap h' → Sm P w h' a as es' ep' t' → es'.size = es.size → Q () { s with heap := h' }) : wpAny (model P w) A (setRelay a wanted) Q E s := by
  obtain ⟨t', order, e, hp, T, em, el, _, _⟩ := relaid_ok t (hs := es.map (·.1)) (wanted := wanted) hw hM (by rw [Array.size_map]; omega)
  rw [Array.size_map] at hp
  obtain ⟨r1, r2⟩ := anew_rows es order hp
  rw [← r2] at T
  have hs2 : (order.filterMap (es[·]?)).size = es.size := by
    have h := r1.length_eq
    rw [Array.length_toList, Array.length_toList] at h
    exact h
  rw [setRelay_eq]
  refine wpAny_bind (wpAny_setState_of ho hd (fits_of hsz hdm hfl) ?_)
  dsimp only
  refine wp_if_neg (by rw [sizeLine_eq]; omega) ?_
  try refine wpAny_bind (wpAny_pure ?_)
  rw [e]
  dsimp only
  refine wpAny_bind ?_
  refine wp_if_neg (by rw [hs2]; simp) ?_
  try refine wpAny_bind (wpAny_pure ?_)
  refine wpAny_pure ?_
  dsimp only
  refine wpAny_storeSet_of ho hd ?_ (by rw [hs2, sizeLine_eq]; omega)
  have sb : Heap.SameBut a s.heap (s.heap.update a (Obj.putSet (order.filterMap (es[·]?)) t')) := Heap.SameBut.update ..
  refine hQ _ (order.filterMap (es[·]?)) (ep + 1) t' sb ⟨⟨_, store_at ho hd, ⟨hex.1, hex.2.1, hex.2.2⟩, rfl⟩, fun e he => (hrows e (r1.mem_iff.mp he)).keep fun b hb o q => ?_, T, by rw [el]; exact ld, by rw [hs2, em]; exact hn⟩ hs2
  rw [sb.2 b (fun z => has (z ▸ hb))]
  exact q
theorem TabOk.plainly {t : SetTable} {hs : List Int} (T : TabOk t hs) (b : Bool) : TabOk { t with plain := b } hs := ⟨T.ris, T.dm, T.sz, T.mok, T.bd, T.reach⟩
theorem add (R : Sm P w s.heap a as es ep t) (has : a ∉ as) {x : Addr} {k : List Key} (hx : IsM P w s.heap k x) (hxa : x ∈ as) (hu : A.units < cLine) (hfew : es.size + 1 < 64) {Q : Bool → Shared → Prop}
    (hQ : ∀ b h' es' ep' t', Heap.SameBut a s.heap h' → Sm P w h' a as es' ep' t' → es'.size ≤ es.size + 1 → Q b { s with heap := h' }) :
    wpAny (model P w) A (setAddHashed a (.ref x) (mh P w k)) Q E s := by
  obtain ⟨o, ho, hex, hd⟩ := R.ob
  have hroom := R.room
  unfold setAddHashed
  refine wpAny_holding ?_
  rw [show (100000 : Nat) = 99999 + 1 from rfl, setAddHashedIn_succ]
  refine wpAny_bind (wpAny_setState_of ho hd R.fits ?_)
  dsimp only
  refine wp_if_neg (by simp [byScan, Value.scannable]) ?_
  try refine wpAny_bind (wpAny_pure ?_)
  refine wpAny_bind (search_all R hx hu ?_ fun K hK hb => ?_)
  · dsimp only
    exact wpAny_pure (hQ false s.heap es ep t (Heap.SameBut.refl a s.heap) R (Nat.le_succ _))
  · dsimp only
    refine wpAny_bind (wpAny_setState_of ho hd R.fits ?_)
    dsimp only
    obtain ⟨q1, q2, q3, q4, q5, q6, q7, q8, q9⟩ := R.tab.put hK hb
    rw [hs_len] at q2 q9
    generalize hpt : t.put (way t.mask (mh P w k) K) = pt at q1 q3 q4 q5 q6 q7 q8 q9 ⊢
    obtain ⟨t1, p⟩ := pt
    dsimp only at q1 q3 q4 q5 q6 q7 q8 q9 ⊢
    subst q1
    have hin : (SetTable.insertAt es (SetTable.below t.place (way t.mask (mh P w k) K)) (mh P w k, Value.ref x)).toList = es.toList.take (SetTable.below t.place (way t.mask (mh P w k) K)) ++ (mh P w k, Value.ref x) :: es.toList.drop (SetTable.below t.place (way t.mask (mh P w k) K)) := SetTable.toList_insertAt _ _ _
    generalize hpp : SetTable.below t.place (way t.mask (mh P w k) K) = p at q2 q3 hin ⊢
    have pm := put_perm es.toList p (mh P w k, Value.ref x)
    rw [← hin] at pm
    have hes : (SetTable.insertAt es p (mh P w k, Value.ref x)).size = es.size + 1 := by
      have h := pm.length_eq
      rw [List.length_cons, Array.length_toList, Array.length_toList] at h
      exact h
    have hT : TabOk t1 ((SetTable.insertAt es p (mh P w k, Value.ref x)).toList.map (·.1)) := by
      rw [hin, List.map_append, List.map_cons, List.map_take, List.map_drop]
      exact q3
    generalize SetTable.insertAt es p (mh P w k, Value.ref x) = es1 at hin hes hT pm ⊢
    have main : ∀ pl : Bool, wpAny (model P w) A (do
        let t2 := if pl then t1 else { t1 with plain := false }
        storeSet a es1 t2
        if !false && t2.tooFull then setRelay a (SetTable.grown (es.size + 1))
        return true) Q E s := by
      intro pl
      obtain ⟨t2, e2⟩ : ∃ t2, (if pl then t1 else { t1 with plain := false }) = t2 := ⟨_, rfl⟩
      have T2 : TabOk t2 (es1.toList.map (·.1)) ∧ t2.mask = t.mask ∧ t2.led = t.led ∧ t2.fill = es.size + 1 := by
        cases pl
        · rw [← e2]
          exact ⟨TabOk.plainly hT false, q4, q5, q9⟩
        · rw [← e2]
          exact ⟨hT, q4, q5, q9⟩
      obtain ⟨T2, m2, l2, f2⟩ := T2
      rw [e2]
      dsimp only
      refine wpAny_bind (wpAny_storeSet_of ho hd ?_ (by rw [hes, sizeLine_eq]; omega))
      have sb : Heap.SameBut a s.heap (s.heap.update a (Obj.putSet es1 t2)) := Heap.SameBut.update ..
      have ho1 := store_at (es' := es1) (t' := t2) ho hd
      generalize s.heap.update a (Obj.putSet es1 t2) = h1 at sb ho1 ⊢
      have rows1 : ∀ e ∈ es1.toList, Good P w h1 as e := fun e he => by
        refine Good.keep (h := s.heap) ?_ fun b hb o q => ?_
        · rcases List.mem_cons.mp (pm.mem_iff.mp he) with z | z
          · exact ⟨x, k, z, hx, hxa⟩
          · exact R.rows e z
        · rw [sb.2 b (fun z => has (z ▸ hb))]
          exact q
      have ld1 : w.params.followText "set-order" = true ∨ t2.led = true := by rw [l2]; exact R.led
      have hsz1 : t2.place.size = es1.size := T2.sz.trans (hs_len es1)
      by_cases hf : t2.tooFull = true
      · have hfull : (es.size + 1) * 5 ≥ t2.mask * 3 := by
          have h := hf
          unfold SetTable.tooFull at h
          rw [decide_eq_true_eq, f2] at h
          exact h
        have cases2 : (t.mask = 7 ∧ es.size = 4) ∨ (t.mask = 31 ∧ es.size = 18) := by
          rcases R.tab.mok with e | e | e
          · left; rw [m2, e] at hfull; rw [e] at hroom; exact ⟨e, by omega⟩
          · right; rw [m2, e] at hfull; rw [e] at hroom; exact ⟨e, by omega⟩
          · exfalso; rw [m2, e] at hfull; omega
        first
          | (refine wpAny_bind ?_; refine wp_if_pos (by simp [hf]) ?_)
          | (refine wp_if_pos (by simp [hf]) ?_; refine wpAny_bind ?_)
        have go : ∀ M, SetTable.sizeAbove (SetTable.grown (es.size + 1)) - 1 = M → MaskOk M → SetTable.sizeAbove (SetTable.grown (es.size + 1)) ≤ 128 → (es.size + 1) * 5 < M * 3 →
            wpAny (model P w) A (setRelay a (SetTable.grown (es.size + 1))) (fun _ s' => wpAny (model P w) A (pure true) Q E s') E { s with heap := h1 } := fun M h1' h2' h3' h4' => by
          refine relay (s := { s with heap := h1 }) ho1 ⟨hex.1, hex.2.1, hex.2.2⟩ rfl rows1 hsz1 T2.dm (by rw [hes, m2]; rcases cases2 with ⟨e, e2⟩ | ⟨e, e2⟩ <;> omega) has ld1 h1' h2' h3' (by rw [hes]; exact h4') (by omega) ?_
          intro h2 es2 ep2 t2' sb2 R2 z2
          exact wpAny_pure (hQ true h2 es2 ep2 t2' (sb.trans sb2) R2 (by omega))
        rcases cases2 with ⟨_, e2⟩ | ⟨_, e2⟩
        · refine go 31 (by rw [e2, size_20]) (.inr (.inl rfl)) (by rw [e2, size_20]; decide) (by omega)
        · refine go 127 (by rw [e2, size_76]) (.inr (.inr rfl)) (by rw [e2, size_76]; decide) (by omega)
      · first
          | refine wp_if_neg (by simp [hf]) ?_
          | (refine wpAny_bind ?_; refine wp_if_neg (by simp [hf]) ?_; refine wpAny_pure ?_)
        refine wpAny_pure (hQ true h1 es1 (ep + 1) t2 sb ⟨⟨_, ho1, ⟨hex.1, hex.2.1, hex.2.2⟩, rfl⟩, rows1, T2, ld1, ?_⟩ (by omega))
        have h := hf
        unfold SetTable.tooFull at h
        rw [decide_eq_true_eq, f2] at h
        rw [hes]
        omega
    cases hpl : t1.plain
    · first
        | (refine wpAny_bind ?_; refine wp_if_neg (by simp [hpl]) ?_; refine wpAny_pure ?_; exact main true)
        | (refine wp_if_neg (by simp [hpl]) (wpAny_bind (wpAny_pure ?_)); exact main true)
        | (refine wp_if_neg (by simp [hpl]) ?_; exact main true)
    · first
        | (refine wpAny_bind ?_; refine wp_if_pos (by simp [hpl]) ?_; refine hash_tup hx fun v => ?_; exact main v)
        | (refine wp_if_pos (by simp [hpl]) (wpAny_bind (hash_tup hx fun v => ?_)); exact main v)
end
end MS

/-! TK6: set(xs), then sorted of the set, of tuples of numbers and texts. -/
namespace MS
open PySem PySem.Spec PyProof.Rows L2
section
variable {P : Program} {w : World} {A : Around} {E : Value → Shared → Prop} {s : Shared}
theorem isM_keep {h h' : Heap} {k : List Key} {b : Addr} (x : IsM P w h k b) (hk : ∀ c o, h.get? c = some o → h'.get? c = some o) : IsM P w h' k b := by
  obtain ⟨o, items, n, ho, r⟩ := x
  exact ⟨o, items, n, hk b o ho, r⟩
theorem Sm.keep {h h' : Heap} {a : Addr} {as : List Addr} {es : Array (Int × Value)} {ep : Nat} {t : SetTable} (R : Sm P w h a as es ep t) (ha : ∀ o, h.get? a = some o → h'.get? a = some o) (hk : ∀ b ∈ as, ∀ o, h.get? b = some o → h'.get? b = some o) : Sm P w h' a as es ep t := by
  obtain ⟨o, ho, r⟩ := R.ob
  exact ⟨⟨o, ha o ho, r⟩, fun e he => (R.rows e he).keep hk, R.tab, R.led, R.room⟩
theorem fresh {h : Heap} {a : Addr} {as : List Addr} (ho : h.get? a = some { cls := .type "set", dict := none, data := .set #[] 0 (.fresh 0 0 (!w.params.followText "set-order")) }) : Sm P w h a as #[] 0 (.fresh 0 0 (!w.params.followText "set-order")) where
  ob := ⟨_, ho, ⟨rfl, rfl, rfl⟩, rfl⟩
  rows := fun e he => (by cases he)
  tab := ⟨List.Pairwise.nil, rfl, rfl, .inl rfl, fun x hx => (by cases hx), fun i h j hi => (by simp at hi)⟩
  led := by
    show _ ∨ (!w.params.followText "set-order") = true
    cases w.params.followText "set-order"
    · exact .inr rfl
    · exact .inl rfl
  room := by
    show 0 * 5 < 7 * 3
    decide
theorem loop {I : Addr} {fp wr : List Addr} {G : Array GenState → Array GenState → Prop} {n : Nat} {Pv : Nat → Value → Prop} {St : Nat → Shared → Prop} {R : Result → Shared → Prop}
    (W : WalksS P w A.in1 I fp wr G n Pv St) (S : Addr) (hSf : S ∉ fp) (as : List Addr) (hSa : S ∉ as) (hfew : n < 64) (hval : ∀ i v, Pv i v → ∃ b, b ∈ as ∧ v = .ref b)
    (h0 : Heap) (hk : ∀ b ∈ as, ∃ k, IsM P w h0 k b) (hS0 : h0.get? S = none) (hw0 : ∀ b ∈ wr, h0.get? b = none) (hu : A.in1.units < cLine) :
    ∀ (k i : Nat) (s : Shared), n - i = k → i ≤ n → St i s → (∀ b o, h0.get? b = some o → s.heap.get? b = some o) → (∃ es ep t, Sm P w s.heap S as es ep t ∧ es.size ≤ i) →
      (∀ s' es ep t, Moved (S :: wr) G s s' → Sm P w s'.heap S as es ep t → es.size ≤ n → (∀ b o, h0.get? b = some o → s'.heap.get? b = some o) → R (.ok (.ret .none)) s') →
      codeAny (model P w) A (.builtin "set.update.loop" ⟨[.ref S, .ref I], []⟩) R s := by
  have hSw : S ∉ wr := fun h => hSf (W.sub _ h)
  have hsub : ∀ b ∈ wr, b ∈ S :: wr := fun b hb => List.mem_cons_of_mem _ hb
  have keepM : ∀ {s s' : Shared}, Moved wr G s s' → (∀ b o, h0.get? b = some o → s.heap.get? b = some o) → ∀ b o, h0.get? b = some o → s'.heap.get? b = some o := fun hm hkp b o e =>
    hm.heap b o (fun hb => by rw [hw0 b hb] at e; cases e) (hkp b o e)
  have keepA : ∀ {h h' : Heap}, (∀ b o, h0.get? b = some o → h.get? b = some o) → (∀ b o, h0.get? b = some o → h'.get? b = some o) → ∀ b ∈ as, ∀ o, h.get? b = some o → h'.get? b = some o := fun k1 k2 b hb o e => by
    obtain ⟨kk, o', items, m, ho, _⟩ := hk b hb
    rw [k1 b o' ho] at e
    cases e
    exact k2 b _ ho
  intro k
  induction k with
  | zero =>
    intro i s hk' hi hst hkp ⟨es, ep, t, hS, g⟩ hR
    have hin : i = n := by omega
    subst hin
    refine codeAny_builtin F.entry_set_update_loop ?_
    rw [Around.under_plainId F.plain_set_update_loop _]
    show wpAny _ A.in1 (pyNext (.ref I) >>= _) _ _ s
    refine wpAny_bind (W.done s _ _ hst fun s' hm => ?_)
    show wpAny _ A.in1 (ret Value.none) _ _ s'
    have hkp' := keepM hm hkp
    exact wpAny_pure (hR s' es ep t (hm.mono hsub) (hS.keep (fun o e => hm.heap S o hSw e) (keepA hkp hkp')) g hkp')
  | succ k ih =>
    intro i s hk' hi hst hkp ⟨es, ep, t, hS, g⟩ hR
    have hlt : i < n := by omega
    refine codeAny_builtin F.entry_set_update_loop ?_
    rw [Around.under_plainId F.plain_set_update_loop _]
    show wpAny _ A.in1 (pyNext (.ref I) >>= _) _ _ s
    refine wpAny_bind (W.item i s _ _ hlt hst fun v s' hP hst' hm => ?_)
    obtain ⟨b, hb, rfl⟩ := hval i v hP
    obtain ⟨kk, hx0⟩ := hk b hb
    have hkp' := keepM hm hkp
    have hS' : Sm P w s'.heap S as es ep t := hS.keep (fun o e => hm.heap S o hSw e) (keepA hkp hkp')
    have hx : IsM P w s'.heap kk b := isM_keep hx0 hkp'
    show wpAny _ A.in1 (holding [Value.ref b] (setAdd S (.ref b)) >>= _) _ _ s'
    refine wpAny_bind (wpAny_holding ?_)
    unfold setAdd
    refine wpAny_holding ?_
    refine wpAny_bind (wpAny_pyHash_tuple hu hx ?_)
    refine add (s := { s' with toks := s'.toks + (kk.length + 1) }) hS' hSa hx hb hu (by omega) fun _ h' es' ep' t' hsb hS2 c1 => ?_
    have hkp2 : ∀ b o, h0.get? b = some o → h'.get? b = some o := fun b o e => (hsb.2 b (fun z => by rw [z, hS0] at e; cases e)).trans (hkp' b o e)
    refine wpAny_pure ⟨plainId_quiet F.plain_set_update_loop _, ih (i + 1) _ (by omega) hlt (W.frame _ s' _ _ hst' (Nat.le_add_right _ _) fun b hb o e => ?_) hkp2 ⟨es', ep', t', hS2, by omega⟩ fun s'' es2 ep2 t2 hm'' hS'' g'' hkp'' => ?_⟩
    · rw [hsb.2 b (fun h : b = S => hSf (by rw [← h]; exact hb))]; exact e
    · refine hR s'' es2 ep2 t2 (Moved.trans W.gtrans ((hm.mono hsub).then_heap (Nat.le_add_right _ _) fun b o hb e => ?_) hm'') hS'' g'' hkp''
      rw [hsb.2 b (fun h : b = S => hb (by rw [h]; exact List.mem_cons_self))]; exact e
theorem call_set {l : Addr} {items : Array Value} (as : List Addr) {Q : Value → Shared → Prop} (hh : A.handled = none) (hl : s.heap.IsList l items) (hit : ∀ v ∈ items.toList, ∃ b, b ∈ as ∧ v = Value.ref b)
    (hk : ∀ b ∈ as, ∃ k, IsM P w s.heap k b) (hfew : items.size < 64) (hu : A.units + 3 < cLine)
    (h : ∀ (h' : Heap) (tk : Nat) es ep t, Sm P w h' s.heap.objs.size as es ep t → es.size ≤ items.size → (∀ b o, s.heap.get? b = some o → h'.get? b = some o) → Q (.ref s.heap.objs.size) { s with heap := h', toks := tk }) :
    wpAny (model P w) A (call (.type "set") [.ref l]) Q E s := by
  have none_of : ∀ b, s.heap.objs.size ≤ b → s.heap.get? b = none := fun b hb => by
    cases q : s.heap.get? b with
    | none => rfl
    | some o => exact absurd (Nat.lt_of_lt_of_le (Heap.lt_size q) hb) (Nat.lt_irrefl _)
  have hSa : s.heap.objs.size ∉ as := fun hm => by
    obtain ⟨k, o, _, _, ho, _⟩ := hk _ hm
    exact absurd (Heap.lt_size ho) (Nat.lt_irrefl _)
  obtain ⟨c, tl, hmro⟩ := F.called_set.mro
  have hmade := F.called_set.made
  have hsub := F.called_set.sub
  refine wpAny_call (codeAny_of_tree ?_)
  show wpAny _ _ (callAny (.type "set") _) _ _ _
  refine wpAny_pure ⟨Code.quiet_builtin _ (by decide +kernel), codeAny_builtin F.entry_type_call ?_⟩
  rw [Around.under_plain (weight_type_call_type "set" [.ref l] []) rfl]
  have h1 := F.called_set.notType
  have h2 := F.called_set.canCreate
  have hct := F.typeCall_set_1 (.ref l)
  repeat (any_goals (first | assumption | wp_step))
  refine codeAny_mono (code_set_led1 (.ref l) (E := E) (Q₁ := fun obj s₁ => obj = .ref s.heap.objs.size ∧ s₁ = { s with heap := s.heap.push { cls := .type "set", dict := none, data := .set #[] 0 (.fresh 0 0 (!w.params.followText "set-order")) } }) ⟨rfl, rfl⟩) fun r s₁ hr => ?_
  cases r with
  | error e => exact hr
  | ok fl =>
    cases fl with
    | ret obj =>
      obtain ⟨rfl, rfl⟩ := hr
      have hS : (s.heap.push { cls := .type "set", dict := none, data := .set #[] 0 (.fresh 0 0 (!w.params.followText "set-order")) }).get? s.heap.objs.size = some { cls := .type "set", dict := none, data := .set #[] 0 (.fresh 0 0 (!w.params.followText "set-order")) } := Heap.get?_push_size _ rfl
      have hT : Shared.TypeIs { s with heap := s.heap.push { cls := .type "set", dict := none, data := .set #[] 0 (.fresh 0 0 (!w.params.followText "set-order")) } } (.ref s.heap.objs.size) "set" := ⟨_, hS, rfl⟩
      have hli := F.called_set.init.lookup
      have hbi := F.called_set.init.bind (.ref s.heap.objs.size)
      repeat (any_goals (first | assumption | wp_step))
      refine codeAny_mono (codeAny_call_builtin (R := wants (fun r s₂ => r = .none ∧ ∃ h' tk es ep t, s₂ = { s with heap := h', toks := tk } ∧ Sm P w h' s.heap.objs.size as es ep t ∧ es.size ≤ items.size ∧
          (∀ b o, s.heap.get? b = some o → h'.get? b = some o)) E) F.called_set.init.plain F.entry_set_init (check_set_init_1 hT ?_)) fun r₂ s₂ hr₂ => ?_
      · obtain ⟨ol, hol, hcl, nl, hdl⟩ := hl
        obtain ⟨ocls, odict, odata, oslots⟩ := ol
        simp only at hcl hdl
        subst hcl; subst hdl
        have hol' : (s.heap.push { cls := .type "set", dict := none, data := .set #[] 0 (.fresh 0 0 (!w.params.followText "set-order")) }).get? l = some { cls := .type "list", dict := odict, data := .seq items nl, slots := oslots } := Heap.get?_push_of_some _ hol
        have hsls := F.sub_list_set
        have hslf := F.sub_list_frozenset
        have hne : (Value.type "list" == Value.type "dict") = false := by decide
        have hl1 : (s.heap.push { cls := .type "set", dict := none, data := .set #[] 0 (.fresh 0 0 (!w.params.followText "set-order")) }).IsList l items := ⟨_, hol', rfl, nl, rfl⟩
        unfold Builtin.«set.__init__» noKeywords Builtin.Frozenset.updateFrom
        generalize hPI : pyIter = PI
        wp_walk
        subst hPI
        refine wpAny_pyIter_list hl1 ?_
        refine wpAny_bind (wpAny_runValue ?_)
        have hlS : l < s.heap.objs.size := Heap.lt_size hol
        have hh3 : A.in1.in1.in1.handled = none := by simp [hh]
        have hneI : l ≠ (s.heap.push { cls := .type "set", dict := none, data := .set #[] 0 (.fresh 0 0 (!w.params.followText "set-order")) }).objs.size := by
          rw [Heap.size_push]; exact Nat.ne_of_lt (Nat.lt_succ_of_lt hlS)
        have hSf : s.heap.objs.size ∉ [(s.heap.push { cls := .type "set", dict := none, data := .set #[] 0 (.fresh 0 0 (!w.params.followText "set-order")) }).objs.size, l] := by
          rw [Heap.size_push]; simp only [List.mem_cons, List.mem_singleton, List.not_mem_nil, or_false, not_or]
          exact ⟨Nat.ne_of_lt (Nat.lt_succ_self _), Nat.ne_of_gt hlS⟩
        have hval : ∀ (i : Nat) (v : Value), items[i]? = some v → ∃ b, b ∈ as ∧ v = .ref b := fun i v hv => hit v (by
          have q : items.toList[i]? = some v := by rw [Array.getElem?_toList]; exact hv
          exact List.mem_of_getElem? q)
        refine loop ((Walks.list hh3 _ l hneI items).toS) s.heap.objs.size
          hSf as hSa hfew hval s.heap hk (none_of _ (Nat.le_refl _)) (fun b hb => none_of b (by
            rw [List.mem_singleton.mp hb, Heap.size_push]
            exact Nat.le_succ _)) hu (items.size - 0) 0 _ (by omega) (Nat.zero_le _)
          ⟨⟨_, Heap.get?_push_size _ rfl, rfl, rfl⟩, (hl1.push _)⟩ (fun b o e => Heap.get?_push_of_some _ (Heap.get?_push_of_some _ e)) ?hS0 ?hR
        case hS0 =>
          have hget : ((s.heap.push { cls := .type "set", dict := none, data := .set #[] 0 (.fresh 0 0 (!w.params.followText "set-order")) }).push { cls := .type "list_iterator", data := .fields #[.ref l, .int 0 0] }).get? s.heap.objs.size
              = some { cls := .type "set", dict := none, data := .set #[] 0 (.fresh 0 0 (!w.params.followText "set-order")) } := Heap.get?_push_of_some _ hS
          exact ⟨#[], 0, _, fresh hget, Nat.le_refl _⟩
        case hR =>
          intro s' es ep t hm hS' g' hkp
          obtain ⟨h', g2, d', tk', os'⟩ := s'
          have eg : g2 = s.gens := hm.gens
          have ed : d' = s.drawn := hm.drawn
          have eo : os' = s.os := hm.os
          subst eg; subst ed; subst eo
          show wpAny _ _ _ _ _ _
          refine wpAny_pure ?_
          show wpAny _ _ (ret Value.none) _ _ _
          exact wpAny_pure ⟨rfl, h', tk', es, ep, t, rfl, hS', g', hkp⟩
      · cases r₂ with
        | error e => exact hr₂
        | ok fl₂ =>
          cases fl₂ with
          | ret r =>
            obtain ⟨rfl, h', tk, es, ep, t, rfl, hS', g', hk'⟩ := hr₂
            repeat (any_goals (first | assumption | wp_step))
            exact h _ _ _ _ _ hS' g' hk'
          | _ => exact hr₂.elim
    | _ => exact hr.elim
structure Sm0 (w : World) (h : Heap) (a : Addr) (as : List Addr) (es : Array (Int × Value)) (ep : Nat) (t : SetTable) : Prop where
  ob : ∃ o, h.get? a = some o ∧ o.ExactSet ∧ o.data = .set es ep t
  rows : ∀ e ∈ es.toList, ∃ b, e.2 = Value.ref b ∧ b ∈ as
  tab : TabOk t (es.toList.map (·.1))
  led : w.params.followText "set-order" = true ∨ t.led = true
  room : es.size * 5 < t.mask * 3
theorem Sm.low {h : Heap} {a : Addr} {as : List Addr} {es : Array (Int × Value)} {ep : Nat} {t : SetTable} (R : Sm P w h a as es ep t) : Sm0 w h a as es ep t := ⟨R.ob, fun e he => by
  obtain ⟨b, k, e1, _, hb⟩ := R.rows e he
  exact ⟨b, by rw [e1], hb⟩, R.tab, R.led, R.room⟩
/-- sorted(set): the new list's items stand in as -/
theorem sorted_set {a : Addr} {as : List Addr} {es : Array (Int × Value)} {ep : Nat} {t : SetTable} {Q : Value → Shared → Prop} (R : Sm0 w s.heap a as es ep t) (hh : A.handled = none) (hfew : es.size < 64)
    {enc : Addr → PyData} (hr : ∀ b ∈ as, ∃ o vs n, s.heap.get? b = some o ∧ o.cls = .type "tuple" ∧ o.data = .seq vs n ∧ ∃ xs, enc b = .tuple xs ∧ xs ≠ [] ∧ (∀ d ∈ xs, d.depth = 0) ∧ ∀ h, ReadsAll h vs.toList xs []) (hal : ∀ b ∈ as, ∀ c ∈ as, PySem.W.alike (enc b) (enc c) = true) (hu : A.units + 10 < cLine)
    (hQ : ∀ s' p (out : Array Value) (c : Nat) (bs : List Addr), (∀ b o, s.heap.get? b = some o → s'.heap.get? b = some o) → s'.gens = s.gens → s'.os = s.os → s.heap.objs.size ≤ p →
      s'.heap.get? p = some (seqObj "list" out c) → out.toList = bs.map Value.ref → (∀ b ∈ bs, b ∈ as) → bs.length ≤ es.size → Q (.ref p) s') :
    wpAny (model P w) A (call (.builtin "sorted") [.ref a]) Q E s := by
  obtain ⟨o, ho, hex, hd⟩ := R.ob
  refine Calls.call_function_entry kind_sorted plain_sorted entry_sorted (args_sorted1 _) ?_
  unfold Builtin.«sorted»
  refine wpAny_bind (m := checkCount "sorted" 1 1 _) (wpAny_pure ?_)
  refine wpAny_bind (collect_set (A := A.in1) hh ⟨o, ho, hex.1, hd⟩ (fits_of (R.tab.sz.trans (hs_len es)) R.tab.dm (by have := R.room; omega)) (by unfold scanBound; omega) R.tab.ris R.led fun s1 vs k1 hz g1 o1 pm => ?_)
  have ord : ∀ vs : List Value, (∀ v ∈ vs, ∃ b ∈ as, v = Value.ref b) → ∃ bs : List Addr, vs = bs.map Value.ref ∧ ∀ b ∈ bs, b ∈ as := by
    intro vs
    induction vs with
    | nil => intro _; exact ⟨[], rfl, fun q hq => (by cases hq)⟩
    | cons v vs ih =>
      intro hv
      obtain ⟨q, hq, e⟩ := hv v List.mem_cons_self
      obtain ⟨L1, e1, hs⟩ := ih fun u hu => hv u (List.mem_cons_of_mem _ hu)
      refine ⟨q :: L1, by rw [List.map_cons, e, e1], fun r hr => ?_⟩
      rcases List.mem_cons.mp hr with z | z
      · rw [z]; exact hq
      · exact hs r z
  obtain ⟨bs, rfl, hbs⟩ := ord vs fun v hv => by
    obtain ⟨e, he, rfl⟩ := List.mem_map.mp (pm.mem_iff.mp hv)
    obtain ⟨b, e1, hb⟩ := R.rows e he
    exact ⟨b, hb, by rw [e1]⟩
  have hvl : bs.length = es.size := by
    have h := pm.length_eq
    rw [List.length_map, List.length_map, Array.length_toList] at h
    exact h
  refine wpAny_bind (wpAny_newList ?_ (by rw [sizeLine_eq, List.length_map]; omega))
  have hoL : (s1.heap.push (seqObj "list" (bs.map Value.ref).toArray 0)).get? s1.heap.objs.size = some (seqObj "list" (bs.map Value.ref).toArray 0) := Heap.get?_push_size _ rfl
  have rd : ∀ b ∈ as, ∃ zs, Reads (s1.heap.push (seqObj "list" (bs.map Value.ref).toArray 0)) (.ref b) (enc b) zs ∧ s1.heap.objs.size ∉ zs := fun b hb => by
    obtain ⟨o, vs, n, h1, h2, h3, xs, h4, _, _, h5⟩ := hr b hb
    refine ⟨[], ?_, by simp⟩
    rw [h4]
    exact .tuple (Heap.get?_push_of_some _ (k1 b o h1)) h2 h3 (h5 _)
  have er : ∀ l : List Addr, (∀ b ∈ l, b ∈ as) → PySem.W.EachIs (fun v b => ∃ zs, Reads (s1.heap.push (seqObj "list" (bs.map Value.ref).toArray 0)) v (enc b) zs ∧ s1.heap.objs.size ∉ zs) (l.map Value.ref) l := fun l => by
    induction l with
    | nil => intro _; exact .nil
    | cons b l ih => intro hl; exact .cons (rd b (hl b List.mem_cons_self)) (ih fun c hc => hl c (List.mem_cons_of_mem _ hc))
  have eR : ∀ l : List Addr, PySem.W.EachIs (fun v b => v = Value.ref b) (l.map Value.ref) l := fun l => by
    induction l with
    | nil => exact .nil
    | cons b l ih => exact .cons rfl ih
  have back : ∀ (vs : List Value) (l : List Addr), PySem.W.EachIs (fun v b => v = Value.ref b) vs l → vs = l.map Value.ref := fun vs l e => by
    induction e with
    | nil => rfl
    | cons e1 _ ih => rw [List.map_cons, e1, ih]
  refine wpAny_bind (wpAny_holding (PySem.W.list_sort_data (s := { s1 with heap := s1.heap.push (seqObj "list" (bs.map Value.ref).toArray 0) }) (enc := enc) (R := fun v b => v = Value.ref b) hoL (eR bs) (er bs hbs) (fun d hd d' hd' => ?_) (.inl fun d hd => ?_) (by rw [sizeLine_eq]; omega) (fun b hb => ?_) fun out a1 a2 => ?_))
  · obtain ⟨b, hb, rfl⟩ := List.mem_map.mp hd
    obtain ⟨c, hc, rfl⟩ := List.mem_map.mp hd'
    exact hal b (hbs b hb) c (hbs c hc)
  · obtain ⟨b, hb, rfl⟩ := List.mem_map.mp hd
    obtain ⟨_, _, _, _, _, _, xs, h4, h5, _⟩ := hr b (hbs b hb)
    cases xs with
    | nil => exact absurd rfl h5
    | cons x xs => exact ⟨x, xs, h4⟩
  · obtain ⟨_, _, _, _, _, _, xs, h4, _, h6, _⟩ := hr b (hbs b hb)
    have hd : (enc b).depth ≤ 1 := by
      rw [h4]
      have : ∀ l : List PyData, (∀ d ∈ l, d.depth = 0) → PyData.depthAll l = 0 := fun l => by
        induction l with
        | nil => intro _; simp [PyData.depthAll]
        | cons d l ih => intro hl; simp [PyData.depthAll, hl d List.mem_cons_self, ih fun e he => hl e (List.mem_cons_of_mem _ he)]
      simp [PyData.depth, this xs h6]
    show A.in1.units + 1 + (enc b).depth < cLine
    have : A.in1.units ≤ A.units + 5 := by
      show _ ≤ _
      simp [Around.in1]
    omega
  · have eo := back _ _ a2
    have pms := List.mergeSort_perm bs (PySem.W.dataLe false enc)
    obtain ⟨c, hc⟩ := sortedHeap_at (vs := bs.map Value.ref) (out := out.toArray) hoL
    refine wpAny_pure ⟨_, rfl, hQ _ s1.heap.objs.size out.toArray c (bs.mergeSort (PySem.W.dataLe false enc)) (fun b u e => ?_) g1 o1 hz hc (by simpa using eo) (fun b hb => hbs b (pms.mem_iff.mp hb)) (by rw [pms.length_eq, hvl]; exact Nat.le_refl _)⟩
    have q := k1 b u e
    have hlt := Heap.lt_size q
    show (sortedHeap (s1.heap.push (seqObj "list" (bs.map Value.ref).toArray 0)) s1.heap.objs.size (bs.map Value.ref) out.toArray).get? b = some u
    rw [sortedHeap_old (Nat.ne_of_lt hlt) (by rw [size_push']; exact Nat.lt_succ_of_lt hlt)]
    exact Heap.get?_push_of_some _ q
end
end MS

/-! TK7: sorted(set(xs)) of news, as an expression. -/
namespace TW
open PySem PySem.Spec PyProof.Rows L2
abbrev nV (f : News) : List V := [.str f.word, .int f.d, .int f.who, .int f.other]
abbrev nK (f : News) : List Key := [.inr f.word, .inl f.d, .inl f.who, .inl f.other]
abbrev nE (f : News) : PyData := .tuple [.str f.word, .int f.d, .int f.who, .int f.other]
def SetM0 (w : World) (a : Addr) (as : List Addr) (n : Nat) (h : Heap) : Prop := ∃ es ep t, MS.Sm0 w h a as es ep t ∧ es.size ≤ n
def SetMO (w : World) (a : Addr) (as : List Addr) (n : Nat) : HO := .ext fun h => SetM0 w a as n h
theorem setM_new {P : Program} {w : World} {H : Hp} {h : Heap} {a : Addr} {as : List Addr} {n : Nat} (R : SetM0 w a as n h) : ObjOk P w H h a (SetMO w a as n) := by
  have ⟨es, ep, t, r, hn⟩ := R
  have ⟨o, ho, q⟩ := r.ob
  refine ⟨R, ⟨o, ho⟩, fun h1 h2 p k => ?_⟩
  have ⟨es', ep', t', r', hn'⟩ := p
  have ⟨o', ho', q'⟩ := r'.ob
  exact ⟨es', ep', t', ⟨⟨o', k o' ho', q'⟩, r'.rows, r'.tab, r'.led, r'.room⟩, hn'⟩
theorem refs_are : ∀ {as : List Addr} {us : List Value}, Vals (as.map V.ref) us → us = as.map Value.ref
  | [], _, .nil => rfl
  | p :: ks, _, .cons r t => by
    cases r
    rw [refs_are t] <;> rfl
theorem are_refs : ∀ (as : List Addr), Vals (as.map V.ref) (as.map Value.ref)
  | [] => .nil
  | p :: ks => .cons rfl (are_refs ks)
section
variable {X : Cx}
theorem cr_setM (hc : X.calm = true) (hu : X.A.units + 64 < cLine) : CallR X (.type "set") (fun xs H Q => ∃ (l : Addr) (as : List Addr) (nf : Addr → News), xs = [V.ref l] ∧ SqL X.K H l (as.map V.ref) ∧ (∀ b ∈ as, H b = some (.tup (nV (nf b)))) ∧ as.length < 64 ∧
    ∀ a, H a = none → Q (.ref a) (upd H a (SetMO X.w a as as.length))) := by
  intro pins s σ H xs us Q I r h
  obtain ⟨l, as, nf, rfl, hl, hk, hf, q⟩ := h
  rw [Vals.ref1 r]
  obtain ⟨its, rv, pl, hz⟩ := I.list hl
  have ei := refs_are rv
  have hn : H s.heap.objs.size = none := I.hok.fresh (Nat.le_refl _)
  have hs : its.toArray.size = as.length := by rw [ei, List.size_toArray, List.length_map]
  refine MS.call_set (P := X.prog) (w := X.w) as (I.ok.hd hc) pl.isList (fun v hv => ?_) (fun b hb => ⟨nK (nf b), key_of I.hok (hk b hb)⟩) (by rw [hs]; exact hf) (by omega) fun h' tk es ep t R g k => ?_
  · rw [List.toList_toArray, ei] at hv
    obtain ⟨b, hb, e⟩ := List.mem_map.mp hv
    exact ⟨b, hb, e.symm⟩
  · exact ⟨.ref s.heap.objs.size, upd H s.heap.objs.size (SetMO X.w s.heap.objs.size as as.length), I.laid (t' := tk) k (Nat.le_refl _) (setM_new ⟨es, ep, t, R.low, by omega⟩), rfl, q _ hn⟩
theorem reads4 {f : News} {its : List Value} (r : Vals (nV f) its) (h : Heap) : ReadsAll h its [.str f.word, .int f.d, .int f.who, .int f.other] [] := by
  cases r with
  | cons r1 r =>
    cases r with
    | cons r2 r =>
      cases r with
      | cons r3 r =>
        cases r with
        | cons r4 r =>
          cases r
          obtain ⟨t1, rfl⟩ := r1
          obtain ⟨t2, rfl⟩ := r2
          obtain ⟨t3, rfl⟩ := r3
          obtain ⟨t4, rfl⟩ := r4
          exact .cons (as := []) (bs := []) (.str _ _) (.cons (as := []) (bs := []) (.int _ _) (.cons (as := []) (bs := []) (.int _ _) (.cons (as := []) (bs := []) (.int _ _) .nil)))
theorem cr_sortM (hc : X.calm = true) (hu : X.A.units + 64 < cLine) : CallR X (.builtin "sorted") (fun xs H Q => ∃ (a : Addr) (as : List Addr) (n : Nat) (nf : Addr → News), xs = [V.ref a] ∧ H a = some (SetMO X.w a as n) ∧ (∀ b ∈ as, H b = some (.tup (nV (nf b)))) ∧ n < 64 ∧
    ∀ p (bs : List Addr), H p = none → (∀ b ∈ bs, b ∈ as) → bs.length ≤ n → Q (.ref p) (upd H p (.lst (bs.map V.ref)))) := by
  intro pins s σ H xs us Q I r h
  obtain ⟨a, as, n, nf, rfl, ha, hk, hf, q⟩ := h
  obtain ⟨es, ep, t, R, hn⟩ := (show SetM0 X.w a as n s.heap from (I.hok a _ ha).1)
  rw [Vals.ref1 r]
  refine MS.sorted_set (P := X.prog) (w := X.w) R (I.ok.hd hc) (by omega) (enc := fun b => nE (nf b)) (fun b hb => ?_) (fun b hb c hc => ?_) (by omega) fun s' p out c bs k g o hp hg hout hbs hl => ?_
  · obtain ⟨_, its, rv, o, h1, h2, m, h3⟩ := (show ObjOk X.prog X.w H s.heap b (.tup (nV (nf b))) from I.hok b _ (hk b hb))
    exact ⟨o, its.toArray, m, h1, h2, h3, _, rfl, by simp, by simp [PyData.depth], fun h => by rw [List.toList_toArray]; exact reads4 rv h⟩
  · simp [PySem.W.alike, PySem.W.alikeAll]
  · have hlen : (bs.map V.ref).length ≤ sizeLine := by rw [List.length_map, sizeLine_eq]; omega
    have hn' : H p = none := I.hok.fresh hp
    have hv : Vals (bs.map V.ref) out.toList := by rw [hout]; exact are_refs bs
    have J : Inv X pins σ (upd H p (.lst (bs.map V.ref))) { s with heap := s'.heap, gens := s'.gens, drawn := s'.drawn, toks := s'.toks } :=
      I.call (ch := []) (Un.laid k hp hn') (I.hok.laid k hp ⟨hlen, out.toList, c, hv, hg⟩) (by rw [g]; exact I.bare) (fun _ z => nomatch z)
    have e : s' = { s with heap := s'.heap, gens := s'.gens, drawn := s'.drawn, toks := s'.toks } := by
      cases s'
      cases s
      cases o
      rfl
    rw [e]
    exact ⟨.ref p, _, J, rfl, q p bs hn' hbs (by omega)⟩
variable {c : Cf} {g : G} {sc : Scope} {N : List Str} {k : Nat} {a : Expr} {p : Rs → Prop} {p1 p2 p3 p4 : Pos}
theorem xsortSet (h : WE X c g a fun r => ∃ ns : List News, r.lds = some (ns.map newsD) ∧ ns.length < 64 ∧ ∀ ns' : List News, (∀ n ∈ ns', n ∈ ns) → ns'.length ≤ ns.length → p (.lst true (ns'.map newsD)))
    (hu : X.A.units + 64 < cLine) (B : Bx X N sc k := by assumption) (M : Nm X.mg := by assumption) (hg : glB sc "sorted" = true := by decide +kernel) (hg2 : glB sc "set" = true := by decide +kernel)
    (he : starEach [a] X.env = (false, eval a X.env) :: starEach [] X.env := by rfl) (he2 : starEach [Expr.Call (.Name "set" p2) [a] [] p3] X.env = (false, eval (Expr.Call (.Name "set" p2) [a] [] p3) X.env) :: starEach [] X.env := by rfl) :
    WE X c g (.Call (.Name "sorted" p1) [.Call (.Name "set" p2) [a] [] p3] [] p4) p := fun σ H E Q kk => by
  refine we_of (pe_callB (cr_sortM B.calm hu) (B.gl hg) M.sorted (by decide +kernel) (pa_cons (pe_callTy (cr_setM B.calm hu) (B.gl hg2) M.set (by decide +kernel) pa_w (by decide) (by decide) he rfl) pa_nil he2) (by decide) (by decide) he2 rfl) ?_
  have hA : WA X c g [a] (fun rs => ∃ r, rs = [r] ∧ ∃ ns : List News, r.lds = some (ns.map newsD) ∧ ns.length < 64 ∧ ∀ ns' : List News, (∀ n ∈ ns', n ∈ ns) → ns'.length ≤ ns.length → p (.lst true (ns'.map newsD))) :=
    a_cons (h.mono fun r hr => a_nil ⟨r, rfl, hr⟩) he
  refine hA σ H E _ fun vs H1 rs e1 r1 hP => ?_
  obtain ⟨r, rfl, ns, el, n64, fin⟩ := hP
  have hst := (E.go e1).stk
  obtain ⟨v, rfl, hv⟩ := rs1 r1
  obtain ⟨fr, rfl⟩ := lds_lst el
  obtain ⟨l, xs, rfl, h1, h2, _⟩ := hv
  classical
  -- where the news stand
  have dec : ∀ (xs : List V) (ns : List News), IsL X.K H1 xs (ns.map newsD) → ∃ as : List Addr, xs = as.map V.ref ∧ as.length = ns.length ∧ ∀ b ∈ as, ∃ f, f ∈ ns ∧ H1 b = some (.tup (nV f)) := by
    intro xs ns
    induction ns generalizing xs with
    | nil => intro q; cases q; exact ⟨[], rfl, rfl, fun b hb => (by cases hb)⟩
    | cons f ns ih =>
      intro q
      cases q with
      | cons g1 g2 =>
        obtain ⟨as, e, el, hb⟩ := ih _ g2
        obtain ⟨t, ys, rfl, ht, hys⟩ := is_tup g1
        have ey : ys = nV f := by
          cases hys with
          | cons z1 z =>
            cases z with
            | cons z2 z =>
              cases z with
              | cons z3 z =>
                cases z with
                | cons z4 z =>
                  cases z
                  cases z1
                  cases z2
                  cases z3
                  cases z4
                  rfl
        subst ey
        refine ⟨t :: as, by rw [List.map_cons, e], by rw [List.length_cons, List.length_cons, el], fun b hm => ?_⟩
        cases hm with
        | head => exact ⟨f, List.mem_cons_self, ht⟩
        | tail _ hm =>
          obtain ⟨f', h1, h2⟩ := hb b hm
          exact ⟨f', List.mem_cons_of_mem _ h1, h2⟩
  obtain ⟨as, rfl, al, ab⟩ := dec xs ns h2
  have hne : ns ≠ [] ∨ as = [] := by
    cases as with
    | nil => exact .inr rfl
    | cons b as =>
      obtain ⟨f, hf, _⟩ := ab b List.mem_cons_self
      exact .inl (List.ne_nil_of_mem hf)
  let nf : Addr → News := fun b => if hb : b ∈ as then Classical.choose (ab b hb) else ⟨"", 0, 0, 0⟩
  have nfe : ∀ b ∈ as, nf b ∈ ns ∧ H1 b = some (.tup (nV (nf b))) := fun b hb => by
    have := Classical.choose_spec (ab b hb)
    show (if hb : b ∈ as then Classical.choose (ab b hb) else ⟨"", 0, 0, 0⟩) ∈ ns ∧ H1 b = some (.tup (nV (if hb : b ∈ as then Classical.choose (ab b hb) else ⟨"", 0, 0, 0⟩)))
    rw [dif_pos hb]
    exact this
  refine ⟨l, as, nf, rfl, SqL.of h1, fun b hb => (nfe b hb).2, by omega, fun sa hsa => ?_⟩
  have k2 : ∀ b ∈ as, upd H1 sa (SetMO X.w sa as as.length) b = some (.tup (nV (nf b))) := fun b hb => same_new hsa b _ (nfe b hb).2
  refine ⟨sa, as, as.length, nf, rfl, upd_same, k2, by omega, fun pp bs hpp hbs hl => ?_⟩
  have hp1 : H1 pp = none := by
    cases z : H1 pp with
    | none => rfl
    | some o => rw [same_new hsa pp o z] at hpp; cases hpp
  have x2 : Ext X.K c.st H1 (upd (upd H1 sa (SetMO X.w sa as as.length)) pp (.lst (bs.map V.ref))) := (Ext.new hsa).trans (Ext.new hpp)
  have hst2 : some pp ≠ c.st := st_new hst hp1
  have isl : ∀ l : List Addr, (∀ b ∈ l, b ∈ as) → IsL X.K (upd (upd H1 sa (SetMO X.w sa as as.length)) pp (.lst (bs.map V.ref))) (l.map V.ref) ((l.map nf).map newsD) := fun l => by
    induction l with
    | nil => intro _; exact .nil
    | cons b l ih =>
      intro hl
      exact .cons (.tup (same_new hpp b _ (k2 b (hl b List.mem_cons_self))) (.cons (.str _) (.cons (.int _) (.cons (.int _) (.cons (.int _) .nil))))) (ih fun c hc => hl c (List.mem_cons_of_mem _ hc))
  refine kk _ _ (.lst true ((bs.map nf).map newsD)) (e1.trans x2) ⟨pp, _, rfl, upd_same, isl bs hbs, hst2, fun _ => ?_⟩ (fin (bs.map nf) (fun n hn => ?_) (by rw [List.length_map]; omega))
  · exact e1.back hst2 hp1
  · obtain ⟨b, hb, rfl⟩ := List.mem_map.mp hn
    exact (nfe b (hbs b hb)).1
end
end TW

namespace TW
open PySem PySem.Spec PyProof.Rows L2
theorem ok_book {P : Program} {w : World} {K : Fg} {mg : Str → Option Value} {base : Heap} {fa : Addr} {fd : FuncData} (M : Nm mg) (F : Fun K "_law_book" "_law_book" s_law_book fa fd) (F1 : Callee P w K mg base "_law_take" 1 ph_take) (F2 : Callee P w K mg base "_law_news" 2 ph_news) : FnOk P w K mg base CX0 3 fa fd ["_law_state", "_law_house_here", "_law_most"] (spP K ph_book) := by
  refine fn_mk F sc_law_book _ (fun rs p ⟨_, _, e, _⟩ => by rw [e]; rfl) fun X c rs p eP ew eK eM eB B ⟨h, most, er, wh, m0, m40, hp⟩ => ?_
  subst er eP ew eK eM eB
  have B' := B.toBx
  refine s_cons ?_
  refine slcI 3 4 ?_
  refine qrange ?_
  refine xcall F1 ?_
  refine a_cons ?_
  refine xv 0 ?_
  refine a_cons ?_
  refine n_add ?_
  refine xv 2 ?_
  refine ⟨_, rfl, ?_⟩
  refine xi ?_
  refine ⟨_, rfl, ?_⟩
  refine a_nil ?_
  refine ⟨_, rfl, by omega, by omega, fun t t0 t1 => ?_⟩
  obtain ⟨n, hn⟩ : ∃ n : Nat, t = (n : Nat) := ⟨t.toNat, by omega⟩
  rw [hn]
  refine ⟨n, rfl, by omega, fun m acc => ∃ ns : List News, acc = ns.map newsD ∧ ns.length = m, ⟨[], rfl, rfl⟩, fun m d acc hd ⟨ns, ea, el⟩ => fun X' hb B1 => ?_, by rw [rngD_len]; omega, fun acc ⟨ns, ea, el⟩ => ?_⟩
  · refine xcall (hb.callee F2) ?_
    refine a_cons ?_
    refine xv 0 ?_
    refine a_cons ?_
    refine xv 1 ?_
    refine a_nil ?_
    refine ⟨h, rfl, wh, fun f _ => ?_⟩
    exact ⟨_, rfl, ns ++ [f], by rw [ea, List.map_append]; rfl, by rw [List.length_append, el]; rfl⟩
  rw [rngD_len] at el
  subst ea
  show WSs X c _ _ _
  refine s_one (s_ret ?_)
  refine xtuple ?_
  refine xsortSet ?_ (hu64 B')
  refine xv 3 ?_
  refine ⟨ns, rfl, by omega, fun ns' _ hl => ?_⟩
  exact ⟨_, rfl, hp ns' (by omega)⟩
end TW

/-! TH0: the head's facts. -/
namespace TW
open PySem PySem.Spec PyProof.Rows L2
def dd_is_number : He.DefD := ⟨("is_number", none), "is_number", "is_number", defArgs s_is_number, defBody s_is_number, defScope s_is_number, [], []⟩
def dd_is_within : He.DefD := ⟨("is_within", none), "is_within", "is_within", defArgs s_is_within, defBody s_is_within, defScope s_is_within, [], []⟩
def dd_is_folk : He.DefD := ⟨("is_folk", none), "is_folk", "is_folk", defArgs s_is_folk, defBody s_is_folk, defScope s_is_folk, [], []⟩
def dd_are_rising_folk : He.DefD := ⟨("are_rising_folk", none), "are_rising_folk", "are_rising_folk", defArgs s_are_rising_folk, defBody s_are_rising_folk, defScope s_are_rising_folk, [], []⟩
def dd_children_of : He.DefD := ⟨("children_of", none), "children_of", "children_of", defArgs s_children_of, defBody s_children_of, defScope s_children_of, [], []⟩
def dd_days_of : He.DefD := ⟨("days_of", none), "days_of", "days_of", defArgs s_days_of, defBody s_days_of, defScope s_days_of, [], []⟩
def dd_is_dead : He.DefD := ⟨("is_dead", none), "is_dead", "is_dead", defArgs s_is_dead, defBody s_is_dead, defScope s_is_dead, [], []⟩
def dd_back_of : He.DefD := ⟨("back_of", none), "back_of", "back_of", defArgs s_back_of, defBody s_back_of, defScope s_back_of, [], []⟩
def dd_is_out : He.DefD := ⟨("is_out", none), "is_out", "is_out", defArgs s_is_out, defBody s_is_out, defScope s_is_out, [], []⟩
def dd_cut_from : He.DefD := ⟨("cut_from", none), "cut_from", "cut_from", defArgs s_cut_from, defBody s_cut_from, defScope s_cut_from, [], []⟩
def dd_counts_by : He.DefD := ⟨("counts_by", none), "counts_by", "counts_by", defArgs s_counts_by, defBody s_counts_by, defScope s_counts_by, [], []⟩
def dd_steps_of : He.DefD := ⟨("steps_of", none), "steps_of", "steps_of", defArgs s_steps_of, defBody s_steps_of, defScope s_steps_of, [], []⟩
def dd_is_line : He.DefD := ⟨("is_line", none), "is_line", "is_line", defArgs s_is_line, defBody s_is_line, defScope s_is_line, [], []⟩
def dd_came_by : He.DefD := ⟨("came_by", none), "came_by", "came_by", defArgs s_came_by, defBody s_came_by, defScope s_came_by, [], []⟩
def dd_walk : He.DefD := ⟨("walk", none), "walk", "walk", defArgs s_walk, defBody s_walk, defScope s_walk, [], []⟩
def dd_least_line : He.DefD := ⟨("least_line", none), "least_line", "least_line", defArgs s_least_line, defBody s_least_line, defScope s_least_line, [], []⟩
def dd_lesser : He.DefD := ⟨("lesser", none), "lesser", "lesser", defArgs s_lesser, defBody s_lesser, defScope s_lesser, [], []⟩
def dd_steps_by_folk : He.DefD := ⟨("steps_by_folk", none), "steps_by_folk", "steps_by_folk", defArgs s_steps_by_folk, defBody s_steps_by_folk, defScope s_steps_by_folk, [], []⟩
def dd_degrees : He.DefD := ⟨("degrees", none), "degrees", "degrees", defArgs s_degrees, defBody s_degrees, defScope s_degrees, [], []⟩
def dd_are_pairs : He.DefD := ⟨("are_pairs", none), "are_pairs", "are_pairs", defArgs s_are_pairs, defBody s_are_pairs, defScope s_are_pairs, [], []⟩
def dd_right_reach : He.DefD := ⟨("right_reach", none), "right_reach", "right_reach", defArgs s_right_reach, defBody s_right_reach, defScope s_right_reach, [], []⟩
def dd_reach_of : He.DefD := ⟨("reach_of", none), "reach_of", "reach_of", defArgs s_reach_of, defBody s_reach_of, defScope s_reach_of, [], []⟩
def dd_is_fit : He.DefD := ⟨("is_fit", none), "is_fit", "is_fit", defArgs s_is_fit, defBody s_is_fit, defScope s_is_fit, [], []⟩
def dd_farness : He.DefD := ⟨("farness", none), "farness", "farness", defArgs s_farness, defBody s_farness, defScope s_farness, [], []⟩
def dd_order_of_row : He.DefD := ⟨("order_of_row", none), "order_of_row", "order_of_row", defArgs s_order_of_row, defBody s_order_of_row, defScope s_order_of_row, [], []⟩
def dd_order_of : He.DefD := ⟨("order_of", none), "order_of", "order_of", defArgs s_order_of, defBody s_order_of, defScope s_order_of, [], []⟩
def dd_first_of : He.DefD := ⟨("first_of", none), "first_of", "first_of", defArgs s_first_of, defBody s_first_of, defScope s_first_of, [], []⟩
def dd_ranked_ahead : He.DefD := ⟨("ranked_ahead", none), "ranked_ahead", "ranked_ahead", defArgs s_ranked_ahead, defBody s_ranked_ahead, defScope s_ranked_ahead, [], []⟩
def dd_are_parts_right : He.DefD := ⟨("are_parts_right", none), "are_parts_right", "are_parts_right", defArgs s_are_parts_right, defBody s_are_parts_right, defScope s_are_parts_right, [], []⟩
def dd_right_place : He.DefD := ⟨("right_place", none), "right_place", "right_place", defArgs s_right_place, defBody s_right_place, defScope s_right_place, [], []⟩
def dd_fit_ones : He.DefD := ⟨("fit_ones", none), "fit_ones", "fit_ones", defArgs s_fit_ones, defBody s_fit_ones, defScope s_fit_ones, [], []⟩
def dd_is_part : He.DefD := ⟨("is_part", none), "is_part", "is_part", defArgs s_is_part, defBody s_is_part, defScope s_is_part, [], []⟩
def dd_is_nobody : He.DefD := ⟨("is_nobody", none), "is_nobody", "is_nobody", defArgs s_is_nobody, defBody s_is_nobody, defScope s_is_nobody, [], []⟩
def dd_is_by_lines : He.DefD := ⟨("is_by_lines", none), "is_by_lines", "is_by_lines", defArgs s_is_by_lines, defBody s_is_by_lines, defScope s_is_by_lines, [], []⟩
def dd_standing_in : He.DefD := ⟨("standing_in", none), "standing_in", "standing_in", defArgs s_standing_in, defBody s_standing_in, defScope s_standing_in, [], []⟩
def dd_is_by_age : He.DefD := ⟨("is_by_age", none), "is_by_age", "is_by_age", defArgs s_is_by_age, defBody s_is_by_age, defScope s_is_by_age, [], []⟩
def dd_is_by_nearness : He.DefD := ⟨("is_by_nearness", none), "is_by_nearness", "is_by_nearness", defArgs s_is_by_nearness, defBody s_is_by_nearness, defScope s_is_by_nearness, [], []⟩
def dd_is_first_part : He.DefD := ⟨("is_first_part", none), "is_first_part", "is_first_part", defArgs s_is_first_part, defBody s_is_first_part, defScope s_is_first_part, [], []⟩
def dd_right_first : He.DefD := ⟨("right_first", none), "right_first", "right_first", defArgs s_right_first, defBody s_right_first, defScope s_right_first, [], []⟩
def dd_place_of : He.DefD := ⟨("place_of", none), "place_of", "place_of", defArgs s_place_of, defBody s_place_of, defScope s_place_of, [], []⟩
def dd_part_of : He.DefD := ⟨("part_of", none), "part_of", "part_of", defArgs s_part_of, defBody s_part_of, defScope s_part_of, [], []⟩
def dd_first_paper : He.DefD := ⟨("first_paper", none), "first_paper", "first_paper", defArgs s_first_paper, defBody s_first_paper, defScope s_first_paper, [], []⟩
def dd_law_take : He.DefD := ⟨("_law_take", none), "_law_take", "_law_take", defArgs s_law_take, defBody s_law_take, defScope s_law_take, [], []⟩
def dd_law_parent : He.DefD := ⟨("_law_parent", none), "_law_parent", "_law_parent", defArgs s_law_parent, defBody s_law_parent, defScope s_law_parent, [], []⟩
def dd_law_house : He.DefD := ⟨("_law_house", none), "_law_house", "_law_house", defArgs s_law_house, defBody s_law_house, defScope s_law_house, [], []⟩
def dd_law_news : He.DefD := ⟨("_law_news", none), "_law_news", "_law_news", defArgs s_law_news, defBody s_law_news, defScope s_law_news, [], []⟩
def dd_law_book : He.DefD := ⟨("_law_book", none), "_law_book", "_law_book", defArgs s_law_book, defBody s_law_book, defScope s_law_book, [], []⟩
def dd_law_row : He.DefD := ⟨("_law_row", none), "_law_row", "_law_row", defArgs s_law_row, defBody s_law_row, defScope s_law_row, [], []⟩
def dd_law_day : He.DefD := ⟨("_law_day", none), "_law_day", "_law_day", defArgs s_law_day, defBody s_law_day, defScope s_law_day, [], []⟩
def dd_law_born : He.DefD := ⟨("_law_born", none), "_law_born", "_law_born", defArgs s_law_born, defBody s_law_born, defScope s_law_born, [], []⟩
def dd_law_rows : He.DefD := ⟨("_law_rows", none), "_law_rows", "_law_rows", defArgs s_law_rows, defBody s_law_rows, defScope s_law_rows, [], []⟩
def dd_law_some : He.DefD := ⟨("_law_some", none), "_law_some", "_law_some", defArgs s_law_some, defBody s_law_some, defScope s_law_some, [], []⟩
def dd_law_bent : He.DefD := ⟨("_law_bent", none), "_law_bent", "_law_bent", defArgs s_law_bent, defBody s_law_bent, defScope s_law_bent, [], []⟩
def dd_law : He.DefD := ⟨("law", none), "law", "law", defArgs s_law, defBody s_law, defScope s_law, [], []⟩
def hfn0 : List He.DefD := [dd_is_number, dd_is_within, dd_is_folk, dd_are_rising_folk, dd_children_of, dd_days_of, dd_is_dead, dd_back_of, dd_is_out, dd_cut_from, dd_counts_by, dd_steps_of, dd_is_line, dd_came_by, dd_walk, dd_least_line, dd_lesser, dd_steps_by_folk, dd_degrees, dd_are_pairs]
def hfn1 : List He.DefD := [dd_right_reach, dd_reach_of, dd_is_fit, dd_farness, dd_order_of_row, dd_order_of, dd_first_of, dd_ranked_ahead, dd_are_parts_right, dd_right_place, dd_fit_ones, dd_is_part, dd_is_nobody, dd_is_by_lines, dd_standing_in, dd_is_by_age, dd_is_by_nearness, dd_is_first_part, dd_right_first, dd_place_of]
def hfn2 : List He.DefD := [dd_part_of, dd_first_paper, dd_law_take, dd_law_parent, dd_law_house, dd_law_news, dd_law_book, dd_law_row, dd_law_day, dd_law_born, dd_law_rows, dd_law_some, dd_law_bent, dd_law]
def hfn : List He.DefD := hfn0 ++ hfn1 ++ hfn2
def hfa0 : List He.Fa := [.glo "is_number", .glo "is_within", .glo "is_folk", .glo "are_rising_folk", .glo "children_of", .glo "days_of", .glo "is_dead", .glo "back_of", .glo "is_out", .glo "cut_from", .glo "counts_by", .glo "steps_of", .glo "is_line", .glo "came_by", .glo "walk", .glo "least_line", .glo "lesser", .glo "steps_by_folk", .glo "degrees", .glo "are_pairs"]
def hfa1 : List He.Fa := [.glo "right_reach", .glo "reach_of", .glo "is_fit", .glo "farness", .glo "order_of_row", .glo "order_of", .glo "first_of", .glo "ranked_ahead", .glo "are_parts_right", .glo "right_place", .glo "fit_ones", .glo "is_part", .glo "is_nobody", .glo "is_by_lines", .glo "standing_in", .glo "is_by_age", .glo "is_by_nearness", .glo "is_first_part", .glo "right_first", .glo "place_of"]
def hfa2 : List He.Fa := [.glo "part_of", .glo "first_paper", .glo "_law_take", .glo "_law_parent", .glo "_law_house", .glo "_law_news", .glo "_law_book", .glo "_law_row", .glo "_law_day", .glo "_law_born", .glo "_law_rows", .glo "_law_some", .glo "_law_bent", .glo "law", .free "isinstance", .free "int", .free "bool", .free "tuple", .free "str", .free "len"]
def hfa3 : List He.Fa := [.free "all", .free "range", .free "enumerate", .free "max", .free "min", .free "sorted", .free "zip", .free "set", .int "FAR" 1000]
def hfa : List He.Fa := hfa0 ++ hfa1 ++ hfa2 ++ hfa3
def hloose0 : List Str := ["ThroneError", "NoLine", "is_number", "is_within", "is_folk", "are_rising_folk", "children_of", "days_of", "is_dead", "back_of", "is_out", "cut_from", "counts_by", "steps_of", "is_line", "came_by", "walk", "least_line", "lesser", "steps_by_folk"]
def hloose1 : List Str := ["degrees", "are_pairs", "right_reach", "reach_of", "is_fit", "FAR", "farness", "order_of_row", "order_of", "first_of", "ranked_ahead", "are_parts_right", "right_place", "fit_ones", "is_part", "is_nobody", "is_by_lines", "standing_in", "is_by_age", "is_by_nearness"]
def hloose2 : List Str := ["is_first_part", "right_first", "place_of", "part_of", "first_paper", "_law_take", "_law_parent", "_law_house", "_law_news", "_law_book", "_law_row", "_law_day", "_law_born", "_law_rows", "_law_some", "_law_bent"]
def hloose : List Str := hloose0 ++ hloose1 ++ hloose2
abbrev hR : PySem.W.OpenRow := PySem.W.OpenLaw.row PySem.Challenge.rw_thronewalk_k39_whole_the_first_is_the_fi
abbrev hkk : PySem.W.Hook := He.hookD 4 hfa hfn
def hob (s : PySem.W.SharedT) : He.AlD := He.obsDG 4 hfa hfn (HandSHeadRun.getT s)
theorem hob_eq (s : PySem.W.SharedT) : hob s = hkk.obs s.abs := He.obsDG_eq (HandSHeadRun.getT_eq s)
theorem hrun (w : World) : HandSHeadRun.RunEq hR (PySem.W.view hR.prog [69]) hkk hob 4000 hloose w := by
  intro os
  kernel_rfl
end TW

/-! TH1: the defs as callees; the head. -/
namespace TW
open PySem PySem.Spec PyProof.Rows L2
theorem mono_is_number : ∀ (rs : List Rs) (p q : Rs → Prop), ph_is_number rs p → (∀ r, p r → q r) → ph_is_number rs q := fun rs p q ⟨v0, e, hp⟩ hq => ⟨v0, e, hq _ hp⟩
theorem mono_is_within : ∀ (rs : List Rs) (p q : Rs → Prop), ph_is_within rs p → (∀ r, p r → q r) → ph_is_within rs q := fun rs p q ⟨v0, v1, v2, e, hp⟩ hq => ⟨v0, v1, v2, e, hq _ hp⟩
theorem mono_is_folk : ∀ (rs : List Rs) (p q : Rs → Prop), ph_is_folk rs p → (∀ r, p r → q r) → ph_is_folk rs q := fun rs p q ⟨v0, v1, e, hp⟩ hq => ⟨v0, v1, e, hq _ hp⟩
theorem mono_are_rising_folk : ∀ (rs : List Rs) (p q : Rs → Prop), ph_are_rising_folk rs p → (∀ r, p r → q r) → ph_are_rising_folk rs q := fun rs p q ⟨v0, v1, e, h0, h1, hp⟩ hq => ⟨v0, v1, e, h0, h1, fun a b => hq _ (hp a b)⟩
theorem mono_children_of : ∀ (rs : List Rs) (p q : Rs → Prop), ph_children_of rs p → (∀ r, p r → q r) → ph_children_of rs q := fun rs p q ⟨v0, v1, e, h0, hp⟩ hq => ⟨v0, v1, e, h0, hq _ hp⟩
theorem mono_days_of : ∀ (rs : List Rs) (p q : Rs → Prop), ph_days_of rs p → (∀ r, p r → q r) → ph_days_of rs q := fun rs p q ⟨v0, v1, v2, v3, e, h0, hp⟩ hq => ⟨v0, v1, v2, v3, e, h0, hq _ hp⟩
theorem mono_is_dead : ∀ (rs : List Rs) (p q : Rs → Prop), ph_is_dead rs p → (∀ r, p r → q r) → ph_is_dead rs q := fun rs p q ⟨v0, v1, e, h0, hp⟩ hq => ⟨v0, v1, e, h0, hq _ hp⟩
theorem mono_back_of : ∀ (rs : List Rs) (p q : Rs → Prop), ph_back_of rs p → (∀ r, p r → q r) → ph_back_of rs q := fun rs p q ⟨v0, v1, e, h0, hp⟩ hq => ⟨v0, v1, e, h0, hq _ hp⟩
theorem mono_is_out : ∀ (rs : List Rs) (p q : Rs → Prop), ph_is_out rs p → (∀ r, p r → q r) → ph_is_out rs q := fun rs p q ⟨v0, v1, e, h0, hp⟩ hq => ⟨v0, v1, e, h0, hq _ hp⟩
theorem mono_cut_from : ∀ (rs : List Rs) (p q : Rs → Prop), ph_cut_from rs p → (∀ r, p r → q r) → ph_cut_from rs q := fun rs p q ⟨v0, v1, e, h0, hp⟩ hq => ⟨v0, v1, e, h0, hq _ hp⟩
theorem mono_counts_by : ∀ (rs : List Rs) (p q : Rs → Prop), ph_counts_by rs p → (∀ r, p r → q r) → ph_counts_by rs q := fun rs p q ⟨v0, v1, v2, v3, e, h0, h1, hp⟩ hq => ⟨v0, v1, v2, v3, e, h0, h1, hq _ hp⟩
theorem mono_steps_of : ∀ (rs : List Rs) (p q : Rs → Prop), ph_steps_of rs p → (∀ r, p r → q r) → ph_steps_of rs q := fun rs p q ⟨v0, v1, v2, e, h0, h1, hp⟩ hq => ⟨v0, v1, v2, e, h0, h1, hq _ hp⟩
theorem mono_is_line : ∀ (rs : List Rs) (p q : Rs → Prop), ph_is_line rs p → (∀ r, p r → q r) → ph_is_line rs q := fun rs p q ⟨v0, v1, v2, e, h0, h1, h2, hp⟩ hq => ⟨v0, v1, v2, e, h0, h1, h2, fun a b => hq _ (hp a b)⟩
theorem mono_came_by : ∀ (rs : List Rs) (p q : Rs → Prop), ph_came_by rs p → (∀ r, p r → q r) → ph_came_by rs q := fun rs p q ⟨v0, v1, e, h0, h1, hp⟩ hq => ⟨v0, v1, e, h0, h1, hq _ hp⟩
theorem mono_walk : ∀ (rs : List Rs) (p q : Rs → Prop), ph_walk rs p → (∀ r, p r → q r) → ph_walk rs q := fun rs p q ⟨v0, v1, e, h0, h1, hp⟩ hq => ⟨v0, v1, e, h0, h1, hq _ hp⟩
theorem mono_least_line : ∀ (rs : List Rs) (p q : Rs → Prop), ph_least_line rs p → (∀ r, p r → q r) → ph_least_line rs q := fun rs p q ⟨v0, v1, v2, e, h0, h1, h2, hp⟩ hq => ⟨v0, v1, v2, e, h0, h1, h2, hq _ hp⟩
theorem mono_lesser : ∀ (rs : List Rs) (p q : Rs → Prop), ph_lesser rs p → (∀ r, p r → q r) → ph_lesser rs q := fun rs p q ⟨v0, v1, e, hp⟩ hq => ⟨v0, v1, e, hq _ hp⟩
theorem mono_steps_by_folk : ∀ (rs : List Rs) (p q : Rs → Prop), ph_steps_by_folk rs p → (∀ r, p r → q r) → ph_steps_by_folk rs q := fun rs p q ⟨v0, v1, e, h0, h1, hp⟩ hq => ⟨v0, v1, e, h0, h1, hq _ hp⟩
theorem mono_degrees : ∀ (rs : List Rs) (p q : Rs → Prop), ph_degrees rs p → (∀ r, p r → q r) → ph_degrees rs q := fun rs p q ⟨v0, v1, v2, e, h0, h1, hp⟩ hq => ⟨v0, v1, v2, e, h0, h1, hq _ hp⟩
theorem mono_are_pairs : ∀ (rs : List Rs) (p q : Rs → Prop), ph_are_pairs rs p → (∀ r, p r → q r) → ph_are_pairs rs q := fun rs p q ⟨v0, v1, e, h0, hp⟩ hq => ⟨v0, v1, e, h0, fun a b => hq _ (hp a b)⟩
theorem mono_right_reach : ∀ (rs : List Rs) (p q : Rs → Prop), ph_right_reach rs p → (∀ r, p r → q r) → ph_right_reach rs q := fun rs p q ⟨v0, v1, v2, e, h0, h1, h2, hp⟩ hq => ⟨v0, v1, v2, e, h0, h1, h2, fun a b => hq _ (hp a b)⟩
theorem mono_reach_of : ∀ (rs : List Rs) (p q : Rs → Prop), ph_reach_of rs p → (∀ r, p r → q r) → ph_reach_of rs q := fun rs p q ⟨v0, v1, e, h0, h1, hp⟩ hq => ⟨v0, v1, e, h0, h1, fun a b => hq _ (hp a b)⟩
theorem mono_is_fit : ∀ (rs : List Rs) (p q : Rs → Prop), ph_is_fit rs p → (∀ r, p r → q r) → ph_is_fit rs q := fun rs p q ⟨v0, v1, v2, e, h0, h1, hp⟩ hq => ⟨v0, v1, v2, e, h0, h1, hq _ hp⟩
theorem mono_farness : ∀ (rs : List Rs) (p q : Rs → Prop), ph_farness rs p → (∀ r, p r → q r) → ph_farness rs q := fun rs p q ⟨v0, e, hp⟩ hq => ⟨v0, e, hq _ hp⟩
theorem mono_order_of_row : ∀ (rs : List Rs) (p q : Rs → Prop), ph_order_of_row rs p → (∀ r, p r → q r) → ph_order_of_row rs q := fun rs p q ⟨v0, v1, v2, e, h0, h1, hp⟩ hq => ⟨v0, v1, v2, e, h0, h1, hq _ hp⟩
theorem mono_order_of : ∀ (rs : List Rs) (p q : Rs → Prop), ph_order_of rs p → (∀ r, p r → q r) → ph_order_of rs q := fun rs p q ⟨v0, v1, v2, e, h0, h1, hp⟩ hq => ⟨v0, v1, v2, e, h0, h1, hq _ hp⟩
theorem mono_first_of : ∀ (rs : List Rs) (p q : Rs → Prop), ph_first_of rs p → (∀ r, p r → q r) → ph_first_of rs q := fun rs p q ⟨v0, v1, v2, e, h0, h1, hp⟩ hq => ⟨v0, v1, v2, e, h0, h1, hq _ hp⟩
theorem mono_ranked_ahead : ∀ (rs : List Rs) (p q : Rs → Prop), ph_ranked_ahead rs p → (∀ r, p r → q r) → ph_ranked_ahead rs q := fun rs p q ⟨v0, v1, v2, e, h0, h1, h2, hp⟩ hq => ⟨v0, v1, v2, e, h0, h1, h2, hq _ hp⟩
theorem mono_are_parts_right : ∀ (rs : List Rs) (p q : Rs → Prop), ph_are_parts_right rs p → (∀ r, p r → q r) → ph_are_parts_right rs q := fun rs p q ⟨v0, v1, v2, v3, e, h0, h1, h2, h3, hp⟩ hq => ⟨v0, v1, v2, v3, e, h0, h1, h2, h3, fun a b => hq _ (hp a b)⟩
theorem mono_right_place : ∀ (rs : List Rs) (p q : Rs → Prop), ph_right_place rs p → (∀ r, p r → q r) → ph_right_place rs q := fun rs p q ⟨v0, v1, v2, v3, e, h0, h1, h2, hp⟩ hq => ⟨v0, v1, v2, v3, e, h0, h1, h2, fun a b => hq _ (hp a b)⟩
theorem mono_fit_ones : ∀ (rs : List Rs) (p q : Rs → Prop), ph_fit_ones rs p → (∀ r, p r → q r) → ph_fit_ones rs q := fun rs p q ⟨v0, v1, v2, v3, e, h0, h1, h2, h3, hp⟩ hq => ⟨v0, v1, v2, v3, e, h0, h1, h2, h3, hq _ hp⟩
theorem mono_is_part : ∀ (rs : List Rs) (p q : Rs → Prop), ph_is_part rs p → (∀ r, p r → q r) → ph_is_part rs q := fun rs p q ⟨v0, v1, v2, e, h0, hp⟩ hq => ⟨v0, v1, v2, e, h0, hq _ hp⟩
theorem mono_is_nobody : ∀ (rs : List Rs) (p q : Rs → Prop), ph_is_nobody rs p → (∀ r, p r → q r) → ph_is_nobody rs q := fun rs p q ⟨v0, v1, v2, e, h0, h1, h2, hp⟩ hq => ⟨v0, v1, v2, e, h0, h1, h2, fun a b => hq _ (hp a b)⟩
theorem mono_is_by_lines : ∀ (rs : List Rs) (p q : Rs → Prop), ph_is_by_lines rs p → (∀ r, p r → q r) → ph_is_by_lines rs q := fun rs p q ⟨v0, v1, v2, v3, e, h0, h1, h2, hp⟩ hq => ⟨v0, v1, v2, v3, e, h0, h1, h2, fun a b => hq _ (hp a b)⟩
theorem mono_standing_in : ∀ (rs : List Rs) (p q : Rs → Prop), ph_standing_in rs p → (∀ r, p r → q r) → ph_standing_in rs q := fun rs p q ⟨v0, v1, v2, v3, v4, e, h0, h1, h2, hp1, hp2⟩ hq => ⟨v0, v1, v2, v3, v4, e, h0, h1, h2, fun a b c d => hq _ (hp1 a b c d), fun z => hq _ (hp2 z)⟩
theorem mono_is_by_age : ∀ (rs : List Rs) (p q : Rs → Prop), ph_is_by_age rs p → (∀ r, p r → q r) → ph_is_by_age rs q := fun rs p q ⟨v0, v1, v2, v3, e, h0, h1, h2, hp⟩ hq => ⟨v0, v1, v2, v3, e, h0, h1, h2, fun a b => hq _ (hp a b)⟩
theorem mono_is_by_nearness : ∀ (rs : List Rs) (p q : Rs → Prop), ph_is_by_nearness rs p → (∀ r, p r → q r) → ph_is_by_nearness rs q := fun rs p q ⟨v0, v1, v2, v3, v4, e, h0, h1, h2, hp⟩ hq => ⟨v0, v1, v2, v3, v4, e, h0, h1, h2, fun a b => hq _ (hp a b)⟩
theorem mono_is_first_part : ∀ (rs : List Rs) (p q : Rs → Prop), ph_is_first_part rs p → (∀ r, p r → q r) → ph_is_first_part rs q := fun rs p q ⟨v0, v1, v2, v3, v4, e, h0, h1, h2, hp⟩ hq => ⟨v0, v1, v2, v3, v4, e, h0, h1, h2, fun a b => hq _ (hp a b)⟩
theorem mono_right_first : ∀ (rs : List Rs) (p q : Rs → Prop), ph_right_first rs p → (∀ r, p r → q r) → ph_right_first rs q := fun rs p q ⟨v0, v1, v2, v3, v4, e, h0, h1, h2, hp⟩ hq => ⟨v0, v1, v2, v3, v4, e, h0, h1, h2, fun a b => hq _ (hp a b)⟩
theorem mono_place_of : ∀ (rs : List Rs) (p q : Rs → Prop), ph_place_of rs p → (∀ r, p r → q r) → ph_place_of rs q := fun rs p q ⟨v0, v1, v2, e, h0, h1, h2, hp⟩ hq => ⟨v0, v1, v2, e, h0, h1, h2, hq _ hp⟩
theorem mono_part_of : ∀ (rs : List Rs) (p q : Rs → Prop), ph_part_of rs p → (∀ r, p r → q r) → ph_part_of rs q := fun rs p q ⟨v0, v1, v2, e, h0, h1, h2, hp⟩ hq => ⟨v0, v1, v2, e, h0, h1, h2, fun a b => hq _ (hp a b)⟩
theorem mono_first_paper : ∀ (rs : List Rs) (p q : Rs → Prop), ph_first_paper rs p → (∀ r, p r → q r) → ph_first_paper rs q := fun rs p q ⟨v0, v1, v2, e, h0, h1, hp⟩ hq => ⟨v0, v1, v2, e, h0, h1, fun a b => hq _ (hp a b)⟩
theorem mono_take : ∀ (rs : List Rs) (p q : Rs → Prop), ph_take rs p → (∀ r, p r → q r) → ph_take rs q := fun rs p q ⟨v0, e, h0, h1, hp⟩ hq => ⟨v0, e, h0, h1, fun a b c => hq _ (hp a b c)⟩
theorem mono_parent : ∀ (rs : List Rs) (p q : Rs → Prop), ph_parent rs p → (∀ r, p r → q r) → ph_parent rs q := fun rs p q ⟨v0, v1, v2, e, h0, hp⟩ hq => ⟨v0, v1, v2, e, h0, fun a b => hq _ (hp a b)⟩
theorem mono_house : ∀ (rs : List Rs) (p q : Rs → Prop), ph_house rs p → (∀ r, p r → q r) → ph_house rs q := fun rs p q ⟨v0, e, h0, h1, hp⟩ hq => ⟨v0, e, h0, h1, fun a b c => hq _ (hp a b c)⟩
theorem mono_news : ∀ (rs : List Rs) (p q : Rs → Prop), ph_news rs p → (∀ r, p r → q r) → ph_news rs q := fun rs p q ⟨v0, e, h0, hp⟩ hq => ⟨v0, e, h0, fun a b => hq _ (hp a b)⟩
theorem mono_book : ∀ (rs : List Rs) (p q : Rs → Prop), ph_book rs p → (∀ r, p r → q r) → ph_book rs q := fun rs p q ⟨v0, v1, e, h0, h1, h2, hp⟩ hq => ⟨v0, v1, e, h0, h1, h2, fun a b => hq _ (hp a b)⟩
theorem mono_row : ∀ (rs : List Rs) (p q : Rs → Prop), ph_row rs p → (∀ r, p r → q r) → ph_row rs q := fun rs p q ⟨v0, e, h0, hp⟩ hq => ⟨v0, e, h0, fun a b c => hq _ (hp a b c)⟩
theorem mono_day : ∀ (rs : List Rs) (p q : Rs → Prop), ph_day rs p → (∀ r, p r → q r) → ph_day rs q := fun rs p q ⟨v0, e, h0, h1, hp⟩ hq => ⟨v0, e, h0, h1, fun a b c => hq _ (hp a b c)⟩
theorem mono_born : ∀ (rs : List Rs) (p q : Rs → Prop), ph_born rs p → (∀ r, p r → q r) → ph_born rs q := fun rs p q ⟨v0, e, h0, hp⟩ hq => ⟨v0, e, h0, hq _ hp⟩
theorem mono_rows : ∀ (rs : List Rs) (p q : Rs → Prop), ph_rows rs p → (∀ r, p r → q r) → ph_rows rs q := fun rs p q ⟨v0, e, h0, hp⟩ hq => ⟨v0, e, h0, fun a b c d => hq _ (hp a b c d)⟩
theorem mono_some : ∀ (rs : List Rs) (p q : Rs → Prop), ph_some rs p → (∀ r, p r → q r) → ph_some rs q := fun rs p q ⟨v0, e, h0, h1, hp⟩ hq => ⟨v0, e, h0, h1, fun a b c => hq _ (hp a b c)⟩
theorem mono_bent (k : Nat) : ∀ (rs : List Rs) (p q : Rs → Prop), ph_bent k rs p → (∀ r, p r → q r) → ph_bent k rs q := fun rs p q ⟨v0, v1, v2, e, h0, h1, h2, h3, h4, hp⟩ hq => ⟨v0, v1, v2, e, h0, h1, h2, h3, h4, fun a b => hq _ (hp a b)⟩
section
variable {P : Program} {w : World} {K : Fg} {mg : Str → Option Value} {base : Heap}
theorem fun_of {x qual : Str} {st : Stmt} {f : Addr} {fd : FuncData} (F : FunD K x qual (defArgs st) (defBody st) (defScope st) [] [] f fd) : Fun K x qual st f fd := by
  obtain ⟨oc, od, dV, kV, doc, pm, an, cdv, ct, osl, e, lk, hcd, hD, _⟩ := F.ex
  rcases hD with ⟨_, rfl⟩ | ⟨z, _⟩
  · exact ⟨⟨oc, od, kV, doc, pm, an, cdv, ct, osl, e, lk, hcd⟩, F.kp⟩
  · exact absurd rfl z
/-- where the defs stand -/
structure Gn (K : Fg) (mg : Str → Option Value) (x : Str) (st : Stmt) : Prop where
  ex : ∃ (fa : Addr) (fd : FuncData), Fun K x x st fa fd ∧ mg x = some (.ref fa)
theorem callee_mk {x : Str} {st : Stmt} {k : Nat} {f : Ph} {ps : List Str} (g : Gn K mg x st) (mono : ∀ (rs : List Rs) (p q : Rs → Prop), f rs p → (∀ r, p r → q r) → f rs q) (ok : ∀ {fa : Addr} {fd : FuncData}, Fun K x x st fa fd → FnOk P w K mg base CX0 k fa fd ps (spP K f))
    (b : ∀ {fa : Addr} {fd : FuncData}, Fun K x x st fa fd → Binds K fd ps []) : Callee P w K mg base x k f := by
  obtain ⟨fa, fd, F, hm⟩ := g.ex
  exact ⟨mono, fa, fd, ps, ok F, hm, F.kp, b F⟩
variable {t : Tok} (M : Nm mg) (hF : mg "FAR" = some (.int 1000 t)) (g_is_number : Gn K mg "is_number" s_is_number) (g_is_within : Gn K mg "is_within" s_is_within) (g_is_folk : Gn K mg "is_folk" s_is_folk) (g_are_rising_folk : Gn K mg "are_rising_folk" s_are_rising_folk) (g_children_of : Gn K mg "children_of" s_children_of) (g_days_of : Gn K mg "days_of" s_days_of) (g_is_dead : Gn K mg "is_dead" s_is_dead) (g_back_of : Gn K mg "back_of" s_back_of) (g_is_out : Gn K mg "is_out" s_is_out) (g_cut_from : Gn K mg "cut_from" s_cut_from) (g_counts_by : Gn K mg "counts_by" s_counts_by) (g_steps_of : Gn K mg "steps_of" s_steps_of) (g_is_line : Gn K mg "is_line" s_is_line) (g_came_by : Gn K mg "came_by" s_came_by) (g_walk : Gn K mg "walk" s_walk) (g_least_line : Gn K mg "least_line" s_least_line) (g_lesser : Gn K mg "lesser" s_lesser) (g_steps_by_folk : Gn K mg "steps_by_folk" s_steps_by_folk) (g_degrees : Gn K mg "degrees" s_degrees) (g_are_pairs : Gn K mg "are_pairs" s_are_pairs) (g_right_reach : Gn K mg "right_reach" s_right_reach) (g_reach_of : Gn K mg "reach_of" s_reach_of) (g_is_fit : Gn K mg "is_fit" s_is_fit) (g_farness : Gn K mg "farness" s_farness) (g_order_of_row : Gn K mg "order_of_row" s_order_of_row) (g_order_of : Gn K mg "order_of" s_order_of) (g_first_of : Gn K mg "first_of" s_first_of) (g_ranked_ahead : Gn K mg "ranked_ahead" s_ranked_ahead) (g_are_parts_right : Gn K mg "are_parts_right" s_are_parts_right) (g_right_place : Gn K mg "right_place" s_right_place) (g_fit_ones : Gn K mg "fit_ones" s_fit_ones) (g_is_part : Gn K mg "is_part" s_is_part) (g_is_nobody : Gn K mg "is_nobody" s_is_nobody) (g_is_by_lines : Gn K mg "is_by_lines" s_is_by_lines) (g_standing_in : Gn K mg "standing_in" s_standing_in) (g_is_by_age : Gn K mg "is_by_age" s_is_by_age) (g_is_by_nearness : Gn K mg "is_by_nearness" s_is_by_nearness) (g_is_first_part : Gn K mg "is_first_part" s_is_first_part) (g_right_first : Gn K mg "right_first" s_right_first) (g_place_of : Gn K mg "place_of" s_place_of) (g_part_of : Gn K mg "part_of" s_part_of) (g_first_paper : Gn K mg "first_paper" s_first_paper) (g_take : Gn K mg "_law_take" s_law_take) (g_parent : Gn K mg "_law_parent" s_law_parent) (g_house : Gn K mg "_law_house" s_law_house) (g_news : Gn K mg "_law_news" s_law_news) (g_book : Gn K mg "_law_book" s_law_book) (g_row : Gn K mg "_law_row" s_law_row) (g_day : Gn K mg "_law_day" s_law_day) (g_born : Gn K mg "_law_born" s_law_born) (g_rows : Gn K mg "_law_rows" s_law_rows) (g_some : Gn K mg "_law_some" s_law_some) (g_bent : Gn K mg "_law_bent" s_law_bent)
include M hF g_is_number g_is_within g_is_folk g_are_rising_folk g_children_of g_days_of g_is_dead g_back_of g_is_out g_cut_from g_counts_by g_steps_of g_is_line g_came_by g_walk g_least_line g_lesser g_steps_by_folk g_degrees g_are_pairs g_right_reach g_reach_of g_is_fit g_farness g_order_of_row g_order_of g_first_of g_ranked_ahead g_are_parts_right g_right_place g_fit_ones g_is_part g_is_nobody g_is_by_lines g_standing_in g_is_by_age g_is_by_nearness g_is_first_part g_right_first g_place_of g_part_of g_first_paper g_take g_parent g_house g_news g_book g_row g_day g_born g_rows g_some g_bent
theorem law_ok {fa : Addr} {fd : FuncData} (F : Fun K "law" "law" s_law fa fd) : FnOk P w K mg base CX0 12 fa fd ["_law_script"] (spLaw K) := by
  have c_is_number : Callee P w K mg base "is_number" 1 ph_is_number := callee_mk (ps := ["thing"]) g_is_number mono_is_number (fun F => ok_is_number M F) (fun F => F.binds fun _ _ _ _ _ _ us hl => match us, hl with | [_], _ => rfl)
  have c_is_within : Callee P w K mg base "is_within" 2 ph_is_within := callee_mk (ps := ["thing", "least", "most"]) g_is_within mono_is_within (fun F => ok_is_within M F c_is_number) (fun F => F.binds fun _ _ _ _ _ _ us hl => match us, hl with | [_, _, _], _ => rfl)
  have c_is_folk : Callee P w K mg base "is_folk" 3 ph_is_folk := callee_mk (ps := ["house", "thing"]) g_is_folk mono_is_folk (fun F => ok_is_folk M F c_is_within) (fun F => F.binds fun _ _ _ _ _ _ us hl => match us, hl with | [_, _], _ => rfl)
  have c_are_rising_folk : Callee P w K mg base "are_rising_folk" 4 ph_are_rising_folk := callee_mk (ps := ["house", "thing"]) g_are_rising_folk mono_are_rising_folk (fun F => ok_are_rising_folk M F c_is_folk) (fun F => F.binds fun _ _ _ _ _ _ us hl => match us, hl with | [_, _], _ => rfl)
  have c_children_of : Callee P w K mg base "children_of" 1 ph_children_of := callee_mk (ps := ["house", "who"]) g_children_of mono_children_of (fun F => ok_children_of M F) (fun F => F.binds fun _ _ _ _ _ _ us hl => match us, hl with | [_, _], _ => rfl)
  have c_days_of : Callee P w K mg base "days_of" 1 ph_days_of := callee_mk (ps := ["book", "word", "day", "who"]) g_days_of mono_days_of (fun F => ok_days_of M F) (fun F => F.binds fun _ _ _ _ _ _ us hl => match us, hl with | [_, _, _, _], _ => rfl)
  have c_is_dead : Callee P w K mg base "is_dead" 2 ph_is_dead := callee_mk (ps := ["book", "day", "who"]) g_is_dead mono_is_dead (fun F => ok_is_dead M F c_days_of) (fun F => F.binds fun _ _ _ _ _ _ us hl => match us, hl with | [_, _, _], _ => rfl)
  have c_back_of : Callee P w K mg base "back_of" 2 ph_back_of := callee_mk (ps := ["book", "day", "who"]) g_back_of mono_back_of (fun F => ok_back_of M F c_days_of) (fun F => F.binds fun _ _ _ _ _ _ us hl => match us, hl with | [_, _, _], _ => rfl)
  have c_is_out : Callee P w K mg base "is_out" 3 ph_is_out := callee_mk (ps := ["book", "day", "who"]) g_is_out mono_is_out (fun F => ok_is_out M F c_days_of c_back_of) (fun F => F.binds fun _ _ _ _ _ _ us hl => match us, hl with | [_, _, _], _ => rfl)
  have c_cut_from : Callee P w K mg base "cut_from" 3 ph_cut_from := callee_mk (ps := ["book", "day", "who"]) g_cut_from mono_cut_from (fun F => ok_cut_from M F c_days_of c_back_of) (fun F => F.binds fun _ _ _ _ _ _ us hl => match us, hl with | [_, _, _], _ => rfl)
  have c_counts_by : Callee P w K mg base "counts_by" 1 ph_counts_by := callee_mk (ps := ["house", "row", "parent", "child"]) g_counts_by mono_counts_by (fun F => ok_counts_by M F) (fun F => F.binds fun _ _ _ _ _ _ us hl => match us, hl with | [_, _, _, _], _ => rfl)
  have c_steps_of : Callee P w K mg base "steps_of" 4 ph_steps_of := callee_mk (ps := ["house", "book", "row", "day", "who"]) g_steps_of mono_steps_of (fun F => ok_steps_of M F c_cut_from c_children_of c_counts_by) (fun F => F.binds fun _ _ _ _ _ _ us hl => match us, hl with | [_, _, _, _, _], _ => rfl)
  have c_is_line : Callee P w K mg base "is_line" 5 ph_is_line := callee_mk (ps := ["house", "book", "row", "day", "thing"]) g_is_line mono_is_line (fun F => ok_is_line M F c_is_folk c_steps_of) (fun F => F.binds fun _ _ _ _ _ _ us hl => match us, hl with | [_, _, _, _, _], _ => rfl)
  have c_came_by : Callee P w K mg base "came_by" 5 ph_came_by := callee_mk (ps := ["house", "book", "row", "day"]) g_came_by mono_came_by (fun F => ok_came_by M F c_steps_of) (fun F => F.binds fun _ _ _ _ _ _ us hl => match us, hl with | [_, _, _, _], _ => rfl)
  have c_walk : Callee P w K mg base "walk" 6 ph_walk := callee_mk (ps := ["house", "book", "row", "day"]) g_walk mono_walk (fun F => ok_walk M F c_came_by) (fun F => F.binds fun _ _ _ _ _ _ us hl => match us, hl with | [_, _, _, _], _ => rfl)
  have c_least_line : Callee P w K mg base "least_line" 6 ph_least_line := callee_mk (ps := ["house", "book", "row", "day", "who"]) g_least_line mono_least_line (fun F => ok_least_line M F c_came_by) (fun F => F.binds fun _ _ _ _ _ _ us hl => match us, hl with | [_, _, _, _, _], _ => rfl)
  have c_lesser : Callee P w K mg base "lesser" 1 ph_lesser := callee_mk (ps := ["one", "other"]) g_lesser mono_lesser (fun F => ok_lesser M F) (fun F => F.binds fun _ _ _ _ _ _ us hl => match us, hl with | [_, _], _ => rfl)
  have c_steps_by_folk : Callee P w K mg base "steps_by_folk" 7 ph_steps_by_folk := callee_mk (ps := ["house", "book", "row", "day"]) g_steps_by_folk mono_steps_by_folk (fun F => ok_steps_by_folk M F c_walk c_steps_of) (fun F => F.binds fun _ _ _ _ _ _ us hl => match us, hl with | [_, _, _, _], _ => rfl)
  have c_degrees : Callee P w K mg base "degrees" 8 ph_degrees := callee_mk (ps := ["house", "book", "row", "day", "who"]) g_degrees mono_degrees (fun F => ok_degrees M F c_steps_by_folk c_lesser) (fun F => F.binds fun _ _ _ _ _ _ us hl => match us, hl with | [_, _, _, _, _], _ => rfl)
  have c_are_pairs : Callee P w K mg base "are_pairs" 4 ph_are_pairs := callee_mk (ps := ["house", "thing"]) g_are_pairs mono_are_pairs (fun F => ok_are_pairs M F c_is_folk c_is_number) (fun F => F.binds fun _ _ _ _ _ _ us hl => match us, hl with | [_, _], _ => rfl)
  have c_right_reach : Callee P w K mg base "right_reach" 5 ph_right_reach := callee_mk (ps := ["house", "book", "row", "day", "thing"]) g_right_reach mono_right_reach (fun F => ok_right_reach M F c_are_pairs c_steps_of) (fun F => F.binds fun _ _ _ _ _ _ us hl => match us, hl with | [_, _, _, _, _], _ => rfl)
  have c_reach_of : Callee P w K mg base "reach_of" 5 ph_reach_of := callee_mk (ps := ["house", "book", "row", "day"]) g_reach_of mono_reach_of (fun F => ok_reach_of M F c_steps_of) (fun F => F.binds fun _ _ _ _ _ _ us hl => match us, hl with | [_, _, _, _], _ => rfl)
  have c_is_fit : Callee P w K mg base "is_fit" 4 ph_is_fit := callee_mk (ps := ["house", "book", "row", "day", "who"]) g_is_fit mono_is_fit (fun F => ok_is_fit M F c_is_dead c_is_out) (fun F => F.binds fun _ _ _ _ _ _ us hl => match us, hl with | [_, _, _, _, _], _ => rfl)
  have c_farness : Callee P w K mg base "farness" 1 ph_farness := callee_mk (ps := ["degree"]) g_farness mono_farness (fun F => ok_farness M hF F) (fun F => F.binds fun _ _ _ _ _ _ us hl => match us, hl with | [_], _ => rfl)
  have c_order_of_row : Callee P w K mg base "order_of_row" 9 ph_order_of_row := callee_mk (ps := ["house", "book", "row", "day", "last"]) g_order_of_row mono_order_of_row (fun F => ok_order_of_row M F c_walk c_is_fit c_degrees c_farness) (fun F => F.binds fun _ _ _ _ _ _ us hl => match us, hl with | [_, _, _, _, _], _ => rfl)
  have c_order_of : Callee P w K mg base "order_of" 10 ph_order_of := callee_mk (ps := ["house", "book", "rule", "day", "last"]) g_order_of mono_order_of (fun F => ok_order_of M F c_order_of_row) (fun F => F.binds fun _ _ _ _ _ _ us hl => match us, hl with | [_, _, _, _, _], _ => rfl)
  have c_first_of : Callee P w K mg base "first_of" 11 ph_first_of := callee_mk (ps := ["house", "book", "rule", "day", "last"]) g_first_of mono_first_of (fun F => ok_first_of M F c_order_of) (fun F => F.binds fun _ _ _ _ _ _ us hl => match us, hl with | [_, _, _, _, _], _ => rfl)
  have c_ranked_ahead : Callee P w K mg base "ranked_ahead" 5 ph_ranked_ahead := callee_mk (ps := ["house", "book", "row", "day", "line"]) g_ranked_ahead mono_ranked_ahead (fun F => ok_ranked_ahead M F c_steps_of) (fun F => F.binds fun _ _ _ _ _ _ us hl => match us, hl with | [_, _, _, _, _], _ => rfl)
  have c_are_parts_right : Callee P w K mg base "are_parts_right" 5 ph_are_parts_right := callee_mk (ps := ["house", "line", "ahead"]) g_are_parts_right mono_are_parts_right (fun F => ok_are_parts_right M F c_are_rising_folk) (fun F => F.binds fun _ _ _ _ _ _ us hl => match us, hl with | [_, _, _], _ => rfl)
  have c_right_place : Callee P w K mg base "right_place" 6 ph_right_place := callee_mk (ps := ["house", "book", "row", "day", "who", "thing"]) g_right_place mono_right_place (fun F => ok_right_place M F c_is_line c_are_parts_right c_ranked_ahead c_steps_of) (fun F => F.binds fun _ _ _ _ _ _ us hl => match us, hl with | [_, _, _, _, _, _], _ => rfl)
  have c_fit_ones : Callee P w K mg base "fit_ones" 5 ph_fit_ones := callee_mk (ps := ["house", "book", "row", "day", "some"]) g_fit_ones mono_fit_ones (fun F => ok_fit_ones M F c_is_fit) (fun F => F.binds fun _ _ _ _ _ _ us hl => match us, hl with | [_, _, _, _, _], _ => rfl)
  have c_is_part : Callee P w K mg base "is_part" 1 ph_is_part := callee_mk (ps := ["thing", "word", "many"]) g_is_part mono_is_part (fun F => ok_is_part M F) (fun F => F.binds fun _ _ _ _ _ _ us hl => match us, hl with | [_, _, _], _ => rfl)
  have c_is_nobody : Callee P w K mg base "is_nobody" 6 ph_is_nobody := callee_mk (ps := ["house", "book", "row", "day", "part"]) g_is_nobody mono_is_nobody (fun F => ok_is_nobody M F c_is_part c_right_reach c_fit_ones) (fun F => F.binds fun _ _ _ _ _ _ us hl => match us, hl with | [_, _, _, _, _], _ => rfl)
  have c_is_by_lines : Callee P w K mg base "is_by_lines" 7 ph_is_by_lines := callee_mk (ps := ["house", "book", "row", "day", "who", "part"]) g_is_by_lines mono_is_by_lines (fun F => ok_is_by_lines M F c_is_part c_right_place c_fit_ones c_is_fit) (fun F => F.binds fun _ _ _ _ _ _ us hl => match us, hl with | [_, _, _, _, _, _], _ => rfl)
  have c_standing_in : Callee P w K mg base "standing_in" 6 ph_standing_in := callee_mk (ps := ["house", "book", "row", "day", "who", "part"]) g_standing_in mono_standing_in (fun F => ok_standing_in M F c_right_reach c_fit_ones) (fun F => F.binds fun _ _ _ _ _ _ us hl => match us, hl with | [_, _, _, _, _, _], _ => rfl)
  have c_is_by_age : Callee P w K mg base "is_by_age" 7 ph_is_by_age := callee_mk (ps := ["house", "book", "row", "day", "who", "part"]) g_is_by_age mono_is_by_age (fun F => ok_is_by_age M F c_is_part c_standing_in) (fun F => F.binds fun _ _ _ _ _ _ us hl => match us, hl with | [_, _, _, _, _, _], _ => rfl)
  have c_is_by_nearness : Callee P w K mg base "is_by_nearness" 9 ph_is_by_nearness := callee_mk (ps := ["house", "book", "row", "day", "last", "who", "part"]) g_is_by_nearness mono_is_by_nearness (fun F => ok_is_by_nearness M F c_is_part c_standing_in c_degrees c_farness) (fun F => F.binds fun _ _ _ _ _ _ us hl => match us, hl with | [_, _, _, _, _, _, _], _ => rfl)
  have c_is_first_part : Callee P w K mg base "is_first_part" 10 ph_is_first_part := callee_mk (ps := ["house", "book", "row", "day", "last", "who", "part"]) g_is_first_part mono_is_first_part (fun F => ok_is_first_part M F c_is_by_lines c_is_by_age c_is_by_nearness) (fun F => F.binds fun _ _ _ _ _ _ us hl => match us, hl with | [_, _, _, _, _, _, _], _ => rfl)
  have c_right_first : Callee P w K mg base "right_first" 11 ph_right_first := callee_mk (ps := ["house", "book", "rule", "day", "last", "who", "thing"]) g_right_first mono_right_first (fun F => ok_right_first M F c_is_nobody c_is_first_part) (fun F => F.binds fun _ _ _ _ _ _ us hl => match us, hl with | [_, _, _, _, _, _, _], _ => rfl)
  have c_place_of : Callee P w K mg base "place_of" 7 ph_place_of := callee_mk (ps := ["house", "book", "row", "day", "who"]) g_place_of mono_place_of (fun F => ok_place_of M F c_least_line c_walk) (fun F => F.binds fun _ _ _ _ _ _ us hl => match us, hl with | [_, _, _, _, _], _ => rfl)
  have c_part_of : Callee P w K mg base "part_of" 8 ph_part_of := callee_mk (ps := ["house", "book", "row", "day", "who"]) g_part_of mono_part_of (fun F => ok_part_of M F c_reach_of c_place_of) (fun F => F.binds fun _ _ _ _ _ _ us hl => match us, hl with | [_, _, _, _, _], _ => rfl)
  have c_first_paper : Callee P w K mg base "first_paper" 10 ph_first_paper := callee_mk (ps := ["house", "book", "rule", "day", "last"]) g_first_paper mono_first_paper (fun F => ok_first_paper M F c_order_of_row c_part_of) (fun F => F.binds fun _ _ _ _ _ _ us hl => match us, hl with | [_, _, _, _, _], _ => rfl)
  have c_take : Callee P w K mg base "_law_take" 1 ph_take := callee_mk (ps := ["_law_state", "_law_below"]) g_take mono_take (fun F => ok_take M F) (fun F => F.binds fun _ _ _ _ _ _ us hl => match us, hl with | [_, _], _ => rfl)
  have c_parent : Callee P w K mg base "_law_parent" 2 ph_parent := callee_mk (ps := ["_law_state", "_law_folk", "_law_day_here", "_law_man"]) g_parent mono_parent (fun F => ok_parent M F c_take) (fun F => F.binds fun _ _ _ _ _ _ us hl => match us, hl with | [_, _, _, _], _ => rfl)
  have c_house : Callee P w K mg base "_law_house" 3 ph_house := callee_mk (ps := ["_law_state", "_law_most"]) g_house mono_house (fun F => ok_house M F c_take c_parent) (fun F => F.binds fun _ _ _ _ _ _ us hl => match us, hl with | [_, _], _ => rfl)
  have c_news : Callee P w K mg base "_law_news" 2 ph_news := callee_mk (ps := ["_law_state", "_law_house_here"]) g_news mono_news (fun F => ok_news M F c_take) (fun F => F.binds fun _ _ _ _ _ _ us hl => match us, hl with | [_, _], _ => rfl)
  have c_book : Callee P w K mg base "_law_book" 3 ph_book := callee_mk (ps := ["_law_state", "_law_house_here", "_law_most"]) g_book mono_book (fun F => ok_book M F c_take c_news) (fun F => F.binds fun _ _ _ _ _ _ us hl => match us, hl with | [_, _, _], _ => rfl)
  have c_row : Callee P w K mg base "_law_row" 2 ph_row := callee_mk (ps := ["_law_state", "_law_house_here"]) g_row mono_row (fun F => ok_row M F c_take) (fun F => F.binds fun _ _ _ _ _ _ us hl => match us, hl with | [_, _], _ => rfl)
  have c_day : Callee P w K mg base "_law_day" 2 ph_day := callee_mk (ps := ["_law_state", "_law_house_here"]) g_day mono_day (fun F => ok_day M F c_take) (fun F => F.binds fun _ _ _ _ _ _ us hl => match us, hl with | [_, _], _ => rfl)
  have c_born : Callee P w K mg base "_law_born" 1 ph_born := callee_mk (ps := ["_law_house_here", "_law_day_here"]) g_born mono_born (fun F => ok_born M F) (fun F => F.binds fun _ _ _ _ _ _ us hl => match us, hl with | [_, _], _ => rfl)
  have c_rows : Callee P w K mg base "_law_rows" 3 ph_rows := callee_mk (ps := ["_law_state", "_law_house_here"]) g_rows mono_rows (fun F => ok_rows M F c_take c_row) (fun F => F.binds fun _ _ _ _ _ _ us hl => match us, hl with | [_, _], _ => rfl)
  have c_some : Callee P w K mg base "_law_some" 4 ph_some := callee_mk (ps := ["_law_state", "_law_few"]) g_some mono_some (fun F => ok_some M F c_take c_house c_book c_day) (fun F => F.binds fun _ _ _ _ _ _ us hl => match us, hl with | [_, _], _ => rfl)
  have c_bent0 : Callee P w K mg base "_law_bent" 2 (ph_bent 0) := callee_mk (ps := ["_law_state", "_law_thing", "_law_many"]) g_bent (mono_bent 0) (fun F => ok_bent 0 (by decide) M F c_take (fun j e => by cases e)) (fun F => F.binds fun _ _ _ _ _ _ us hl => match us, hl with | [_, _, _], _ => rfl)
  have c_bent1 : Callee P w K mg base "_law_bent" 3 (ph_bent 1) := callee_mk (ps := ["_law_state", "_law_thing", "_law_many"]) g_bent (mono_bent 1) (fun F => ok_bent 1 (by decide) M F c_take (fun j e => by cases e; exact c_bent0)) (fun F => F.binds fun _ _ _ _ _ _ us hl => match us, hl with | [_, _, _], _ => rfl)
  have c_bent2 : Callee P w K mg base "_law_bent" 4 (ph_bent 2) := callee_mk (ps := ["_law_state", "_law_thing", "_law_many"]) g_bent (mono_bent 2) (fun F => ok_bent 2 (by decide) M F c_take (fun j e => by cases e; exact c_bent1)) (fun F => F.binds fun _ _ _ _ _ _ us hl => match us, hl with | [_, _, _], _ => rfl)
  have c_bent3 : Callee P w K mg base "_law_bent" 5 (ph_bent 3) := callee_mk (ps := ["_law_state", "_law_thing", "_law_many"]) g_bent (mono_bent 3) (fun F => ok_bent 3 (by decide) M F c_take (fun j e => by cases e; exact c_bent2)) (fun F => F.binds fun _ _ _ _ _ _ us hl => match us, hl with | [_, _, _], _ => rfl)
  exact ok_law M F c_some c_rows c_born c_take c_first_of c_order_of c_first_paper c_right_first c_bent3
end
theorem gn_of {K : Fg} {mg : Str → Option Value} {h : Heap} (X : K.In h) (G : h.Ns mainGlobals mg) (c : He.SaysD hfa hfn K) (i : Nat) {d : He.DefD} {x : Str} {st : Stmt} (hd : hfn[i]? = some d) (ed : d = ⟨(x, none), x, x, defArgs st, defBody st, defScope st, [], []⟩) (hf : hfa[i]? = some (.glo x)) : Gn K mg x st := by
  subst ed
  obtain ⟨fd, F⟩ := c.def_ i hd
  exact ⟨_, fd, fun_of F, He.glo_ok X G (c.fact i hf)⟩
theorem facts {P : Program} {w : World} {K : Fg} {h : Heap} {mg : Str → Option Value} {f : Addr} (X : K.In h) (G : h.Ns mainGlobals mg) (hfa0 : mg ("law" : Str) = some (.ref f)) (c : He.SaysD hfa hfn K) :
    ∃ fd : FuncData, (∀ (s : Shared) (v : Value), BindsTo s fd ⟨[v], []⟩ [("_law_script", v)]) ∧ ∀ base : Heap, K.In base → base.Ns mainGlobals mg → FnOk P w K mg base CX0 12 f fd ["_law_script"] (spLaw K) := by
  have M : Nm mg := ⟨He.free_ok X G (c.fact 54 rfl), He.free_ok X G (c.fact 55 rfl), He.free_ok X G (c.fact 56 rfl), He.free_ok X G (c.fact 57 rfl), He.free_ok X G (c.fact 58 rfl), He.free_ok X G (c.fact 59 rfl), He.free_ok X G (c.fact 60 rfl), He.free_ok X G (c.fact 61 rfl), He.free_ok X G (c.fact 62 rfl), He.free_ok X G (c.fact 63 rfl), He.free_ok X G (c.fact 64 rfl), He.free_ok X G (c.fact 65 rfl), He.free_ok X G (c.fact 66 rfl), He.free_ok X G (c.fact 67 rfl)⟩
  obtain ⟨t, hF⟩ := He.int_ok X G (c.fact 68 (f := .int "FAR" 1000) rfl)
  obtain ⟨fd, F⟩ := c.def_ 53 (d := dd_law) rfl
  have e := hfa0.symm.trans (He.glo_ok X G (c.fact 53 (f := .glo "law") rfl))
  cases e
  have b := FunD.bindsA (ps := ["_law_script"]) F fun _ _ _ _ _ _ us hl => match us, hl with | [_], _ => rfl
  refine ⟨fd, fun s v => b s [v] rfl, fun base _ _ => law_ok M hF (gn_of X G c 0 rfl rfl rfl) (gn_of X G c 1 rfl rfl rfl) (gn_of X G c 2 rfl rfl rfl) (gn_of X G c 3 rfl rfl rfl) (gn_of X G c 4 rfl rfl rfl) (gn_of X G c 5 rfl rfl rfl) (gn_of X G c 6 rfl rfl rfl) (gn_of X G c 7 rfl rfl rfl) (gn_of X G c 8 rfl rfl rfl) (gn_of X G c 9 rfl rfl rfl) (gn_of X G c 10 rfl rfl rfl) (gn_of X G c 11 rfl rfl rfl) (gn_of X G c 12 rfl rfl rfl) (gn_of X G c 13 rfl rfl rfl) (gn_of X G c 14 rfl rfl rfl) (gn_of X G c 15 rfl rfl rfl) (gn_of X G c 16 rfl rfl rfl) (gn_of X G c 17 rfl rfl rfl) (gn_of X G c 18 rfl rfl rfl) (gn_of X G c 19 rfl rfl rfl) (gn_of X G c 20 rfl rfl rfl) (gn_of X G c 21 rfl rfl rfl) (gn_of X G c 22 rfl rfl rfl) (gn_of X G c 23 rfl rfl rfl) (gn_of X G c 24 rfl rfl rfl) (gn_of X G c 25 rfl rfl rfl) (gn_of X G c 26 rfl rfl rfl) (gn_of X G c 27 rfl rfl rfl) (gn_of X G c 28 rfl rfl rfl) (gn_of X G c 29 rfl rfl rfl) (gn_of X G c 30 rfl rfl rfl) (gn_of X G c 31 rfl rfl rfl) (gn_of X G c 32 rfl rfl rfl) (gn_of X G c 33 rfl rfl rfl) (gn_of X G c 34 rfl rfl rfl) (gn_of X G c 35 rfl rfl rfl) (gn_of X G c 36 rfl rfl rfl) (gn_of X G c 37 rfl rfl rfl) (gn_of X G c 38 rfl rfl rfl) (gn_of X G c 39 rfl rfl rfl) (gn_of X G c 40 rfl rfl rfl) (gn_of X G c 41 rfl rfl rfl) (gn_of X G c 42 rfl rfl rfl) (gn_of X G c 43 rfl rfl rfl) (gn_of X G c 44 rfl rfl rfl) (gn_of X G c 45 rfl rfl rfl) (gn_of X G c 46 rfl rfl rfl) (gn_of X G c 47 rfl rfl rfl) (gn_of X G c 48 rfl rfl rfl) (gn_of X G c 49 rfl rfl rfl) (gn_of X G c 50 rfl rfl rfl) (gn_of X G c 51 rfl rfl rfl) (gn_of X G c 52 rfl rfl rfl) (fun_of F)⟩
  all_goals exact gn_of X G c _ rfl rfl rfl
end TW
open PySem PySem.W PySem.Calls PyProof.Rows
theorem PySem.Challenge.cw_thronewalk_k39_whole_the_first_is_the_fi_holds : PySem.Challenge.rw_thronewalk_k39_whole_the_first_is_the_fi.Holds := by
  w_on; o_law
  refine HandSHeadRun.head_any (r := OpenLaw.row PySem.Challenge.rw_thronewalk_k39_whole_the_first_is_the_fi) (q := view (OpenLaw.row PySem.Challenge.rw_thronewalk_k39_whole_the_first_is_the_fi).prog [69]) (H := TW.hkk) (ob := TW.hob) (M := 4000) (loose := TW.hloose) (d := HandSHeadRun.topDef (OpenLaw.row PySem.Challenge.rw_thronewalk_k39_whole_the_first_is_the_fi).prog 69) (kwd := []) TW.hob_eq
    (by kernel_rfl) (fun s => by kernel_rfl) TW.hrun (by kernel_rfl) (by kernel_rfl) (by kernel_rfl) (by rfl) (by first | assumption | decide +kernel) (by decide +kernel) ⟨rfl, rfl, rfl, rfl, rfl, by decide +kernel⟩ ?hw ?hc
  case hw => w_witness2
  case hc =>
    refine L2.walk_ofE (l := PySem.Challenge.rw_thronewalk_k39_whole_the_first_is_the_fi) (n := 63) (k := 12) (x := "_law_script") (CX := L2.CX0) rfl (by decide) (by kernel_rfl) ⟨rfl, by decide, by decide⟩ ?F (fun _ _ _ _ z => z)
    intro w mg fa h Y G hmg0
    obtain ⟨K, KX, c⟩ := Y
    have hmg : mg ("law" : PySem.Str) = some (.ref fa) := by
      have e : (HandSHeadRun.topDef (OpenLaw.row PySem.Challenge.rw_thronewalk_k39_whole_the_first_is_the_fi).prog 69).name = ("law" : PySem.Str) := by kernel_rfl
      rw [← e]
      exact hmg0
    obtain ⟨fd, hb, hF⟩ := TW.facts (P := (PySem.Challenge.rw_thronewalk_k39_whole_the_first_is_the_fi).prog) (w := w) KX G hmg c
    refine ⟨K, fd, TW.spLaw K, KX, hb, fun H a ns hl hO hS => ⟨a, ns, rfl, hl, ?_, fun _ => rfl⟩, hF⟩
    rcases hS with (hS | hS) | hS
    · rcases hO a with z | ⟨o, xs, z⟩
      · rw [z] at hS
        cases hS
      · rw [z] at hS
        cases hS
    · exact .inl hS
    · exact .inr hS

