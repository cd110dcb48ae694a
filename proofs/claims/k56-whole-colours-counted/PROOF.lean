import PyProof.Rows.All
import Wide.All
import OpenK.AllK
import Wide.FinOn
import HandS.ForMost
import HandS.ExcCtx
import HandS.Lambda
import HandS.ExcValue
import KE.KeyNested
import HandS.CallSlots
import HandS.Defaults
import HandS.HeadHook4
import HandS.Zip
import KE.GoesMore
import KE.GoesEnum
import HandS.TupAny
import HandS.TupMul
import HandS.Wide
import HandS.Deep
import HandS.SortInts
import HandS.More
import HandS.SetFor
import HandS.Conv
import HandS.WordsDict
import HandS.Small
import HandS.DictTup
import KE.KDictDisplayH
import HandS.Star
import HandS.HotCalls
import KE.KDflt
import HandS.ExcIs
import HandS.Head2
import HandS.HeadWalk
import HandS.NestedK
import PySem.Challenge.RW_flatproved_k56_whole_colours_counted
set_option Elab.async false
set_option linter.all false
set_option maxRecDepth 100000
set_option maxHeartbeats 4000000
set_option autoImplicit false
set_option exponentiation.threshold 600
namespace Rf
open PySem PySem.Spec PyProof.Rows L2

/-- a value without addresses: tuples, and lists and dicts that nobody changes any more, are values; others are numbers of objects -/
inductive D where
  | non | bl (b : Bool) | int (i : Int) | str (s : Str) | tup (xs : List D) | lst (xs : List D) | dct (t : Bool) (ks vs : List D) | ref (n : Nat) | fn (x : Str)

mutual
def D.beq : D → D → Bool
  | .non, .non => true
  | .bl a, .bl b => a == b
  | .int a, .int b => a == b
  | .str a, .str b => decide (a = b)
  | .tup a, .tup b => D.beqs a b
  | .lst a, .lst b => D.beqs a b
  | .dct t a c, .dct u b d => t == u && D.beqs a b && D.beqs c d
  | .ref a, .ref b => a == b
  | .fn a, .fn b => decide (a = b)
  | _, _ => false
def D.beqs : List D → List D → Bool
  | [], [] => true
  | a :: r, b :: s => D.beq a b && D.beqs r s
  | _, _ => false
end
mutual
theorem D.eq_of_beq : ∀ {a b : D}, D.beq a b = true → a = b
  | .non, b, h => by cases b <;> simp_all [D.beq]
  | .bl a, b, h => by cases b <;> simp_all [D.beq]
  | .int a, b, h => by cases b <;> simp_all [D.beq]
  | .str a, b, h => by cases b <;> simp_all [D.beq]
  | .tup a, b, h => by
    cases b <;> simp_all [D.beq]
    exact D.eq_of_beqs h
  | .lst a, b, h => by
    cases b <;> simp_all [D.beq]
    exact D.eq_of_beqs h
  | .dct t a c, b, h => by
    cases b <;> simp_all [D.beq]
    exact ⟨D.eq_of_beqs h.1.2, D.eq_of_beqs h.2⟩
  | .ref a, b, h => by cases b <;> simp_all [D.beq]
  | .fn a, b, h => by cases b <;> simp_all [D.beq]
theorem D.eq_of_beqs : ∀ {a b : List D}, D.beqs a b = true → a = b
  | [], b, h => by cases b <;> simp_all [D.beqs]
  | a :: r, b, h => by
    cases b <;> simp_all [D.beqs]
    exact ⟨D.eq_of_beq h.1, D.eq_of_beqs h.2⟩
end
mutual
theorem D.beq_refl : ∀ a : D, D.beq a a = true
  | .non | .bl _ | .int _ | .str _ | .ref _ | .fn _ => by simp [D.beq]
  | .tup a | .lst a => by simp [D.beq, D.beqs_refl a]
  | .dct t a c => by simp [D.beq, D.beqs_refl a, D.beqs_refl c]
theorem D.beqs_refl : ∀ a : List D, D.beqs a a = true
  | [] => by simp [D.beqs]
  | a :: r => by simp [D.beqs, D.beq_refl a, D.beqs_refl r]
end
instance : DecidableEq D := fun a b => if h : D.beq a b = true then isTrue (D.eq_of_beq h) else isFalse (fun e => h (e ▸ D.beq_refl a))

inductive Ob where
  | gone | lst (xs : List D) | dct (t : Bool) (ks vs : List D) | dcn (ks vs : List D)
inductive Ex where
  | na | tl | mi | bp
  deriving DecidableEq
abbrev Hh := List Ob
abbrev Ev := List (Option D)

def keyD : D → Option Key
  | .int i => some (.inl i)
  | .str s => some (.inr s)
  | _ => none
def keyT : D → Option (List Key)
  | .tup ds => ds.mapM keyD
  | _ => none

structure GW where
  f : Str → Option Value
  wo : World
/-- the world: what the module's names hold; what may not be taken for unchanging; what is in the making -/
structure Wd where
  g : GW
  π : Addr → Prop
  δ : Addr → Prop
def Fz (w : Wd) (ρ : List (Option Addr)) (a : Addr) : Prop := some a ∉ ρ ∧ ¬ w.π a ∧ ¬ w.δ a

mutual
def RD (w : Wd) (ρ : List (Option Addr)) (H : Hp) : D → V → Prop
  | .non, v => v = .non
  | .bl b, v => v = .bl b
  | .int i, v => v = .int i
  | .str s, v => v = .str s
  | .tup ds, v => ∃ a xs, v = .ref a ∧ H a = some (.tup xs) ∧ RDs w ρ H ds xs
  | .lst ds, v => ∃ a xs, v = .ref a ∧ Fz w ρ a ∧ Rd H a (.lst xs) ∧ RDs w ρ H ds xs
  | .dct false ks vs, v => ∃ a xs ys, v = .ref a ∧ Fz w ρ a ∧ ks.mapM keyD = some ys ∧ ys.length = xs.length ∧ Rd H a (.dK (ys.zip xs)) ∧ RDs w ρ H vs xs
  | .dct true ks vs, v => ∃ a xs ys, v = .ref a ∧ Fz w ρ a ∧ ks.mapM keyT = some ys ∧ ys.length = xs.length ∧ Rd H a (.dT (ys.zip xs)) ∧ RDs w ρ H vs xs
  | .ref n, v => n < ρ.length ∧ ∀ a, ρ[n]? = some (some a) → v = .ref a
  | .fn x, v => ∃ f, v = .ref f ∧ w.g.f x = some (.ref f)
def RDs (w : Wd) (ρ : List (Option Addr)) (H : Hp) : List D → List V → Prop
  | [], xs => xs = []
  | d :: ds, xs => ∃ x r, xs = x :: r ∧ RD w ρ H d x ∧ RDs w ρ H ds r
end

/-- what never changes -/
def fixO : HO → Prop
  | .tup _ => True
  | .frz _ _ => True
  | _ => False
/-! ### the later state keeps what is known -/
structure Ext (w : Wd) (ρ : List (Option Addr)) (H : Hp) (ρ' : List (Option Addr)) (H' : Hp) : Prop where
  len : ρ.length ≤ ρ'.length
  old : ∀ (n : Nat) (a : Addr), n < ρ.length → ρ'[n]? = some (some a) → ρ[n]? = some (some a)
  new : ∀ a, some a ∈ ρ' → some a ∈ ρ ∨ H a = none
  there : ∀ a, H a ≠ none → H' a ≠ none
  fixs : ∀ a u, H a = some u → fixO u → H' a = some u
  keep : ∀ a u, Rd H a u → some a ∉ ρ → ¬ w.δ a → (∀ ps, u ≠ .tbl ps) → Rd H' a u
  keepP : ∀ a u, H a = some u → w.π a → some a ∉ ρ → ¬ w.δ a → (∀ ps, u ≠ .tbl ps) → H' a = some u

section
variable {w : Wd} {ρ ρ' ρ1 ρ2 : List (Option Addr)} {H H' H1 H2 : Hp}
theorem Rd_some {a : Addr} {u : HO} (r : Rd H a u) : H a ≠ none := by
  rcases r with r | ⟨o, r⟩ <;> rw [r] <;> simp
theorem Ext.refl : Ext w ρ H ρ H := ⟨Nat.le_refl _, fun _ _ _ h => h, fun _ h => .inl h, fun _ h => h, fun _ _ h _ => h, fun _ _ h _ _ _ => h, fun _ _ h _ _ _ _ => h⟩
theorem Ext.trans (a : Ext w ρ H ρ1 H1) (b : Ext w ρ1 H1 ρ2 H2) : Ext w ρ H ρ2 H2 where
  len := Nat.le_trans a.len b.len
  old := fun n x hn h => a.old n x hn (b.old n x (Nat.lt_of_lt_of_le hn a.len) h)
  new := fun x h => by
    rcases b.new x h with h | h
    · exact a.new x h
    · by_cases q : H x = none
      · exact .inr q
      · exact absurd h (a.there x q)
  there := fun x h => b.there x (a.there x h)
  fixs := fun x u h k => b.fixs x u (a.fixs x u h k) k
  keep := fun x u h hn hd ht => b.keep x u (a.keep x u h hn hd ht) (fun z => by
    rcases a.new x z with q | q
    · exact hn q
    · exact Rd_some h q) hd ht
  keepP := fun x u h hp hn hd ht => b.keepP x u (a.keepP x u h hp hn hd ht) hp (fun z => by
    rcases a.new x z with q | q
    · exact hn q
    · rw [h] at q; cases q) hd ht
theorem Ext.tups (e : Ext w ρ H ρ' H') (a : Addr) (xs : List V) (h : H a = some (.tup xs)) : H' a = some (.tup xs) := e.fixs a _ h trivial
theorem Ext.frzs (e : Ext w ρ H ρ' H') (a : Addr) (o : Obj) (u : HO) (h : H a = some (.frz o u)) : H' a = some (.frz o u) := e.fixs a _ h trivial
theorem Ext.fz {a : Addr} (e : Ext w ρ H ρ' H') (f : Fz w ρ a) (h : H a ≠ none) : Fz w ρ' a :=
  ⟨fun z => (e.new a z).elim f.1 h, f.2.1, f.2.2⟩
theorem Ext.rd {a : Addr} {u : HO} (e : Ext w ρ H ρ' H') (f : Fz w ρ a) (h : Rd H a u) (hu : ∀ ps, u ≠ .tbl ps) : Fz w ρ' a ∧ Rd H' a u :=
  ⟨e.fz f (Rd_some h), e.keep a _ h f.1 f.2.2 hu⟩
theorem Rd_ne {p a : Addr} {u : HO} (hp : H p = none) (r : Rd H a u) : a ≠ p := by
  intro e
  subst e
  exact Rd_some r hp
theorem Rd_at {a : Addr} {u : HO} (hs : H' a = H a) (r : Rd H a u) : Rd H' a u := by
  rcases r with r | ⟨o, r⟩
  · exact .inl (hs.trans r)
  · exact .inr ⟨o, hs.trans r⟩
mutual
theorem RD.mono (e : Ext w ρ H ρ' H') : ∀ {d : D} {v : V}, RD w ρ H d v → RD w ρ' H' d v
  | .non, _, h => h
  | .bl _, _, h => h
  | .int _, _, h => h
  | .str _, _, h => h
  | .tup ds, v, h => by
    obtain ⟨a, xs, ev, r, q⟩ := h
    exact ⟨a, xs, ev, e.tups a xs r, RDs.mono e q⟩
  | .lst ds, v, h => by
    obtain ⟨a, xs, ev, f, r, q⟩ := h
    obtain ⟨f', r'⟩ := e.rd f r (fun ps z => by cases z)
    exact ⟨a, xs, ev, f', r', RDs.mono e q⟩
  | .dct false ks vs, v, h => by
    obtain ⟨a, xs, ys, ev, f, k, l, r, q⟩ := h
    obtain ⟨f', r'⟩ := e.rd f r (fun ps z => by cases z)
    exact ⟨a, xs, ys, ev, f', k, l, r', RDs.mono e q⟩
  | .dct true ks vs, v, h => by
    obtain ⟨a, xs, ys, ev, f, k, l, r, q⟩ := h
    obtain ⟨f', r'⟩ := e.rd f r (fun ps z => by cases z)
    exact ⟨a, xs, ys, ev, f', k, l, r', RDs.mono e q⟩
  | .ref n, v, h => ⟨Nat.lt_of_lt_of_le h.1 e.len, fun a z => h.2 a (e.old n a h.1 z)⟩
  | .fn _, _, h => h
theorem RDs.mono (e : Ext w ρ H ρ' H') : ∀ {ds : List D} {xs : List V}, RDs w ρ H ds xs → RDs w ρ' H' ds xs
  | [], _, h => h
  | _ :: _, _, h => by
    obtain ⟨x, r, ex, h1, h2⟩ := h
    exact ⟨x, r, ex, RD.mono e h1, RDs.mono e h2⟩
end
theorem RDs.length : ∀ {ds : List D} {xs : List V}, RDs w ρ H ds xs → ds.length = xs.length
  | [], _, h => by
    have e : _ = [] := h
    rw [e]; rfl
  | _ :: _, _, h => by
    obtain ⟨x, r, ex, h1, h2⟩ := h
    subst ex
    simp [RDs.length h2]
theorem RDs.get : ∀ {ds : List D} {xs : List V} {i : Nat} {d : D}, RDs w ρ H ds xs → ds[i]? = some d → ∃ x, xs[i]? = some x ∧ RD w ρ H d x
  | [], _, _, _, _, e => by simp at e
  | a :: ds, _, 0, d, h, e => by
    obtain ⟨x, r, rfl, h1, h2⟩ := h
    simp at e; subst e
    exact ⟨x, rfl, h1⟩
  | a :: ds, _, i + 1, d, h, e => by
    obtain ⟨x, r, rfl, h1, h2⟩ := h
    obtain ⟨y, e1, e2⟩ := RDs.get (i := i) (d := d) h2 (by simpa using e)
    exact ⟨y, by simpa using e1, e2⟩
theorem RDs.getR : ∀ {ds : List D} {xs : List V} {i : Nat} {x : V}, RDs w ρ H ds xs → xs[i]? = some x → ∃ d, ds[i]? = some d ∧ RD w ρ H d x
  | [], _, _, _, h, e => by
    have z : _ = [] := h
    subst z; simp at e
  | a :: ds, _, 0, d, h, e => by
    obtain ⟨x, r, rfl, h1, h2⟩ := h
    simp at e; subst e
    exact ⟨a, rfl, h1⟩
  | a :: ds, _, i + 1, d, h, e => by
    obtain ⟨x, r, rfl, h1, h2⟩ := h
    obtain ⟨y, e1, e2⟩ := RDs.getR (i := i) (x := d) h2 (by simpa using e)
    exact ⟨y, by simpa using e1, e2⟩
theorem RDs.append : ∀ {as bs : List D} {xs ys : List V}, RDs w ρ H as xs → RDs w ρ H bs ys → RDs w ρ H (as ++ bs) (xs ++ ys)
  | [], _, _, _, h, q => by
    have z : _ = [] := h
    subst z; exact q
  | a :: as, _, _, _, h, q => by
    obtain ⟨x, r, rfl, h1, h2⟩ := h
    exact ⟨x, _, rfl, h1, RDs.append h2 q⟩
theorem RDs.one {d : D} {x : V} (h : RD w ρ H d x) : RDs w ρ H [d] [x] := ⟨x, [], rfl, h, rfl⟩
theorem RDs.take : ∀ {as : List D} {xs : List V} (n : Nat), RDs w ρ H as xs → RDs w ρ H (as.take n) (xs.take n)
  | [], _, n, h => by
    have z : _ = [] := h
    subst z
    simp; exact rfl
  | a :: as, _, 0, h => rfl
  | a :: as, _, n + 1, h => by
    obtain ⟨x, r, rfl, h1, h2⟩ := h
    exact ⟨x, _, rfl, h1, RDs.take n h2⟩
theorem RDs.drop : ∀ {as : List D} {xs : List V} (n : Nat), RDs w ρ H as xs → RDs w ρ H (as.drop n) (xs.drop n)
  | [], _, n, h => by
    have z : _ = [] := h
    subst z
    simp; exact rfl
  | a :: as, _, 0, h => h
  | a :: as, _, n + 1, h => by
    obtain ⟨x, r, rfl, h1, h2⟩ := h
    exact RDs.drop n h2
theorem RDs.set : ∀ {as : List D} {xs : List V} (n : Nat) {d : D} {y : V}, RDs w ρ H as xs → RD w ρ H d y → RDs w ρ H (as.set n d) (xs.set n y)
  | [], _, n, _, _, h, _ => by
    have z : _ = [] := h
    subst z
    simp; exact rfl
  | a :: as, _, 0, _, y, h, q => by
    obtain ⟨x, r, rfl, h1, h2⟩ := h
    exact ⟨y, r, rfl, q, h2⟩
  | a :: as, _, n + 1, _, _, h, q => by
    obtain ⟨x, r, rfl, h1, h2⟩ := h
    exact ⟨x, _, rfl, h1, RDs.set n h2 q⟩
theorem RDs.reverse : ∀ {as : List D} {xs : List V}, RDs w ρ H as xs → RDs w ρ H as.reverse xs.reverse
  | [], _, h => by
    have z : _ = [] := h
    subst z; exact rfl
  | a :: as, _, h => by
    obtain ⟨x, r, rfl, h1, h2⟩ := h
    rw [List.reverse_cons, List.reverse_cons]
    exact (RDs.reverse h2).append (RDs.one h1)
end

/-! ### the small heap and the abstract one -/
mutual
/-- a key that is a tuple of any depth -/
def nkey : D → Option NestedKey
  | .int i => some (.num i)
  | .str x => some (.text x)
  | .tup ds => (nkeys ds).map .tup
  | _ => none
def nkeys : List D → Option (List NestedKey)
  | [] => some []
  | d :: ds => (nkey d).bind fun k => (nkeys ds).map (k :: ·)
end
def nent (wo : World) (e : NestedKey × Addr × Value) : DictEntry := { hash := e.1.hash wo, key := .ref e.2.1, val := e.2.2 }
/-- a dict whose keys are such tuples -/
def NdO (wo : World) (a : Addr) (es : List (NestedKey × Addr × Value)) : HO := .ext fun h => ∃ (o : Obj) (ep : Nat) (tb : Array DictEntry), h.get? a = some o ∧ o.ExactDict ∧ o.data = .dict tb ep ∧ tb.toList = es.map (nent wo)
def ObR (w : Wd) (ρ : List (Option Addr)) (H : Hp) : Ob → Addr → Prop
  | .gone, _ => False
  | .lst ds, a => ∃ xs, H a = some (.lst xs) ∧ RDs w ρ H ds xs
  | .dct false ks vs, a => ∃ xs ys, ks.mapM keyD = some ys ∧ ys.length = xs.length ∧ H a = some (.dK (ys.zip xs)) ∧ RDs w ρ H vs xs
  | .dct true ks vs, a => ∃ xs ys, ks.mapM keyT = some ys ∧ ys.length = xs.length ∧ H a = some (.dT (ys.zip xs)) ∧ RDs w ρ H vs xs
  | .dcn ks vs, a => ∃ es xs, H a = some (NdO w.g.wo a es) ∧ ks.mapM nkey = some (es.map (·.1)) ∧ RDs w ρ H ks (es.map fun e => V.ref e.2.1) ∧ Vals xs (es.map (·.2.2)) ∧ RDs w ρ H vs xs ∧
      es.length ≤ sizeLine ∧ (a == sysModules) = false ∧ (es.map (·.1)).Nodup ∧ ∀ e ∈ es, e.1.depth ≤ 8
/-- what a live object is: a thing that may be written -/
def okO : HO → Prop
  | .lst _ => True
  | .dK _ => True
  | .dT _ => True
  | .ext φ => ∃ a, (∃ h, φ h) ∧ ∀ h, φ h → ∃ (o : Obj) (es : Array DictEntry) (ep : Nat), h.get? a = some o ∧ o.data = .dict es ep
  | _ => False

theorem ok_fix {o : HO} (h : okO o) (k : fixO o) : False := by
  cases o <;> first | exact h | exact k
theorem codeO_not {c : Addr} {q : Str} (h : okO (LamX.CodeO c q)) : False := by
  obtain ⟨a, ⟨h0, oc, vs, t, e1, e2, e3⟩, hd⟩ := h
  obtain ⟨G, g1, g2⟩ := L2.restrict h0 fun b => decide (b = c)
  have p : ∃ (oc : Obj) (vs : Array Value) (t : Tok), G.get? c = some oc ∧ oc.data = .fields vs ∧ vs[1]? = some (.str q t) := ⟨oc, vs, t, by rw [g1 c (by simp)]; exact e1, e2, e3⟩
  obtain ⟨o, es, ep, k1, k2⟩ := hd G p
  by_cases ha : a = c
  · subst ha
    rw [g1 a (by simp), e1] at k1
    cases k1
    rw [e2] at k2
    cases k2
  · rw [g2 a (by simp [ha])] at k1
    cases k1
theorem ndO_any (wo : World) (a : Addr) (es : List (NestedKey × Addr × Value)) : ∃ h : Heap, ∃ (o : Obj) (ep : Nat) (tb : Array DictEntry), h.get? a = some o ∧ o.ExactDict ∧ o.data = .dict tb ep ∧ tb.toList = es.map (nent wo) :=
  ⟨{ objs := Array.replicate (a + 1) { cls := .type "dict", data := .dict (es.map (nent wo)).toArray 0 } }, { cls := .type "dict", data := .dict (es.map (nent wo)).toArray 0 }, 0, (es.map (nent wo)).toArray, by simp [Heap.get?], ⟨rfl, rfl, rfl⟩, rfl, by simp⟩
theorem ndO_ok {wo : World} {a : Addr} {es : List (NestedKey × Addr × Value)} (hx : ∃ h : Heap, ∃ (o : Obj) (ep : Nat) (tb : Array DictEntry), h.get? a = some o ∧ o.ExactDict ∧ o.data = .dict tb ep ∧ tb.toList = es.map (nent wo)) : okO (NdO wo a es) :=
  ⟨a, hx, fun h ⟨o, ep, tb, e1, _, e2, _⟩ => ⟨o, tb, ep, e1, e2⟩⟩

structure RH (T : List (Addr × Str)) (w : Wd) (ρ : List (Option Addr)) (h : Hh) (H : Hp) : Prop where
  len : ρ.length = h.length
  inj : ∀ (n m : Nat) (a : Addr), ρ[n]? = some (some a) → ρ[m]? = some (some a) → n = m
  obj : ∀ (n : Nat) (a : Addr), ρ[n]? = some (some a) → ¬ w.π a ∧ ¬ w.δ a ∧ ∃ ob, h[n]? = some ob ∧ ObR w ρ H ob a
  live : ∀ (n : Nat) (ob : Ob), h[n]? = some ob → ob ≠ .gone → ∃ a, ρ[n]? = some (some a)
  trk : ∀ a, w.π a ∨ w.δ a → H a ≠ none
  tabs : LamX.Tabs T H

section
variable {T : List (Addr × Str)} {w : Wd} {ρ ρ' : List (Option Addr)} {h h' : Hh} {H H' : Hp}
theorem ObR.ok {ob : Ob} {a : Addr} (r : ObR w ρ H ob a) : ∃ o, H a = some o ∧ okO o := by
  cases ob with
  | gone => exact r.elim
  | lst ds => obtain ⟨xs, e, _⟩ := r; exact ⟨_, e, trivial⟩
  | dct t ks vs =>
    cases t
    · obtain ⟨xs, ys, _, _, e, _⟩ := r; exact ⟨_, e, trivial⟩
    · obtain ⟨xs, ys, _, _, e, _⟩ := r; exact ⟨_, e, trivial⟩
  | dcn ks vs => obtain ⟨es, xs, e, _⟩ := r; exact ⟨_, e, ndO_ok (ndO_any w.g.wo a es)⟩
theorem ObR.mono (e : Ext w ρ H ρ' H') {ob : Ob} {a : Addr} (hs : H' a = H a) (r : ObR w ρ H ob a) : ObR w ρ' H' ob a := by
  cases ob with
  | gone => exact r.elim
  | lst ds => obtain ⟨xs, e1, q⟩ := r; exact ⟨xs, hs.trans e1, q.mono e⟩
  | dct t ks vs =>
    cases t
    · obtain ⟨xs, ys, k, l, e1, q⟩ := r; exact ⟨xs, ys, k, l, hs.trans e1, q.mono e⟩
    · obtain ⟨xs, ys, k, l, e1, q⟩ := r; exact ⟨xs, ys, k, l, hs.trans e1, q.mono e⟩
  | dcn ks vs => obtain ⟨es, xs, e1, k, rk, rv, q, l⟩ := r; exact ⟨es, xs, hs.trans e1, k, rk.mono e, rv, q.mono e, l⟩
theorem mem_get {α : Type} {l : List α} {a : α} (h : a ∈ l) : ∃ n : Nat, l[n]? = some a := by
  obtain ⟨n, hn, e⟩ := List.mem_iff_getElem.mp h
  exact ⟨n, by rw [List.getElem?_eq_getElem hn, e]⟩
theorem RH.at (r : RH T w ρ h H) {a : Addr} (m : some a ∈ ρ) : ∃ o, H a = some o ∧ okO o := by
  obtain ⟨n, e⟩ := mem_get m
  obtain ⟨_, _, ob, _, q⟩ := r.obj n a e
  exact q.ok
theorem RH.fz_new (r : RH T w ρ h H) {p : Addr} (hp : H p = none) : Fz w ρ p :=
  ⟨fun m => (by
    obtain ⟨o, e, _⟩ := r.at m
    rw [hp] at e
    cases e), fun z => r.trk p (.inl z) hp, fun z => r.trk p (.inr z) hp⟩
/-- a new object that is never changed -/
theorem RH.frz (r : RH T w ρ h H) {p : Addr} (hp : H p = none) (o : HO) : Ext w ρ H ρ (upd H p o) ∧ RH T w ρ h (upd H p o) ∧ Fz w ρ p := by
  have e : Ext w ρ H ρ (upd H p o) := ⟨Nat.le_refl _, fun _ _ _ z => z, fun _ z => .inl z, fun a z => by
    by_cases q : a = p
    · subst q; rw [upd_same]; simp
    · rw [upd_ne q]; exact z, fun a u z _ => by rw [upd_ne (ne_of_none z hp)]; exact z, fun a u z _ _ _ => Rd_at (upd_ne (Rd_ne hp z)) z, fun a u z _ _ _ _ => by rw [upd_ne (ne_of_none z hp)]; exact z⟩
  refine ⟨e, ⟨r.len, r.inj, fun n a z => ?_, r.live, fun a z => e.there a (r.trk a z), r.tabs.ext fun b u z => by rw [upd_ne (ne_of_none z hp)]; exact z⟩, r.fz_new hp⟩
  obtain ⟨h1, h2, ob, h3, h4⟩ := r.obj n a z
  obtain ⟨u, eu, _⟩ := h4.ok
  exact ⟨h1, h2, ob, h3, h4.mono e (by rw [upd_ne (ne_of_none eu hp)])⟩
theorem get_snoc {α : Type} {l : List α} {x y : α} {n : Nat} (h : (l ++ [x])[n]? = some y) : (n < l.length ∧ l[n]? = some y) ∨ (n = l.length ∧ y = x) := by
  by_cases hn : n < l.length
  · rw [List.getElem?_append_left hn] at h; exact .inl ⟨hn, h⟩
  · rw [List.getElem?_append_right (by omega)] at h
    by_cases e : n = l.length
    · subst e; simp at h; exact .inr ⟨rfl, h.symm⟩
    · rw [List.getElem?_eq_none (by simp; omega)] at h; cases h
/-- a new object that may be changed -/
theorem RH.mut (r : RH T w ρ h H) {p : Addr} (hp : H p = none) {o : HO} {ob : Ob} (ho : ∀ e : Ext w ρ H (ρ ++ [some p]) (upd H p o), ObR w (ρ ++ [some p]) (upd H p o) ob p) :
    Ext w ρ H (ρ ++ [some p]) (upd H p o) ∧ RH T w (ρ ++ [some p]) (h ++ [ob]) (upd H p o) ∧ RD w (ρ ++ [some p]) (upd H p o) (.ref h.length) (.ref p) := by
  have f := r.fz_new hp
  have e : Ext w ρ H (ρ ++ [some p]) (upd H p o) := ⟨by simp, fun n a hn z => by rw [List.getElem?_append_left hn] at z; exact z, fun a z => by
    rcases List.mem_append.mp z with z | z
    · exact .inl z
    · simp at z; subst z; exact .inr hp, fun a z => by
    by_cases q : a = p
    · subst q; rw [upd_same]; simp
    · rw [upd_ne q]; exact z, fun a u z _ => by rw [upd_ne (ne_of_none z hp)]; exact z, fun a u z _ _ _ => Rd_at (upd_ne (Rd_ne hp z)) z, fun a u z _ _ _ _ => by rw [upd_ne (ne_of_none z hp)]; exact z⟩
  refine ⟨e, ⟨by simp [r.len], fun n m a z1 z2 => ?_, fun n a z => ?_, fun n b z hb => ?_, fun a z => e.there a (r.trk a z), r.tabs.ext fun b u z => by rw [upd_ne (ne_of_none z hp)]; exact z⟩, ⟨by simp [r.len], fun a z => ?_⟩⟩
  · rcases get_snoc z1 with ⟨l1, z1⟩ | ⟨l1, z1⟩
    · rcases get_snoc z2 with ⟨l2, z2⟩ | ⟨l2, z2⟩
      · exact r.inj n m a z1 z2
      · cases z2; exact absurd (List.mem_of_getElem? z1) f.1
    · rcases get_snoc z2 with ⟨l2, z2⟩ | ⟨l2, z2⟩
      · cases z1; exact absurd (List.mem_of_getElem? z2) f.1
      · rw [l1, l2]
  · rcases get_snoc z with ⟨l1, z1⟩ | ⟨l1, z1⟩
    · obtain ⟨h1, h2, ob', h3, h4⟩ := r.obj n a z1
      obtain ⟨u, eu, _⟩ := h4.ok
      exact ⟨h1, h2, ob', by rw [List.getElem?_append_left (by rw [← r.len]; exact l1)]; exact h3, h4.mono e (by rw [upd_ne (ne_of_none eu hp)])⟩
    · cases z1
      exact ⟨f.2.1, f.2.2, ob, by rw [l1, r.len]; simp, ho e⟩
  · rcases get_snoc z with ⟨l1, z1⟩ | ⟨l1, z1⟩
    · obtain ⟨a, ea⟩ := r.live n b z1 hb
      exact ⟨a, by rw [List.getElem?_append_left (by rw [r.len]; exact l1)]; exact ea⟩
    · exact ⟨p, by rw [l1, ← r.len]; simp⟩
  · rw [← r.len] at z
    simp at z
    rw [z]
/-- an object is changed -/
theorem RH.write (r : RH T w ρ h H) {n : Nat} {p : Addr} (hp : ρ[n]? = some (some p)) {o : HO} {ob : Ob} (hk : okO o) (ho : ∀ e : Ext w ρ H ρ (upd H p o), ObR w ρ (upd H p o) ob p) :
    Ext w ρ H ρ (upd H p o) ∧ RH T w ρ (h.set n ob) (upd H p o) := by
  obtain ⟨p1, p2, ob0, p3, p4⟩ := r.obj n p hp
  obtain ⟨u0, eu0, ok0⟩ := p4.ok
  have hm : some p ∈ ρ := List.mem_of_getElem? hp
  have e : Ext w ρ H ρ (upd H p o) := ⟨Nat.le_refl _, fun _ _ _ z => z, fun _ z => .inl z, fun a z => by
    by_cases q : a = p
    · subst q; rw [upd_same]; simp
    · rw [upd_ne q]; exact z, fun a u z k => (by
    rw [upd_ne]
    · exact z
    · intro q; subst q; rw [eu0] at z; cases z; exact ok_fix ok0 k), fun a u z hn _ _ => Rd_at (upd_ne (fun q => hn (by rw [q]; exact hm))) z, fun a u z _ hn _ _ => by
    rw [upd_ne (fun q => hn (by rw [q]; exact hm))]; exact z⟩
  refine ⟨e, ⟨by simp [r.len], r.inj, fun m a z => ?_, fun m b z hb => ?_, fun a z => e.there a (r.trk a z), fun q hq => ?_⟩⟩
  · obtain ⟨h1, h2, ob', h3, h4⟩ := r.obj m a z
    refine ⟨h1, h2, ?_⟩
    by_cases q : m = n
    · subst q
      rw [hp] at z; cases z
      refine ⟨ob, ?_, ho e⟩
      rw [List.getElem?_set_self (by exact (List.getElem?_eq_some_iff.mp h3).1)]
    · refine ⟨ob', by rw [List.getElem?_set_ne (Ne.symm q)]; exact h3, h4.mono e (by rw [upd_ne]; intro z2; subst z2; exact q (r.inj m n _ z hp))⟩
  · by_cases q : m = n
    · subst q; exact ⟨p, hp⟩
    · rw [List.getElem?_set_ne (Ne.symm q)] at z; exact r.live m b z hb
  · obtain ⟨ps, t1, t2, t3⟩ := r.tabs q hq
    have n1 : q.1 ≠ p := fun z => by
      rw [z, eu0] at t1; cases t1; exact ok0
    refine ⟨ps, by rw [upd_ne n1]; exact t1, t2, fun pos cv hc => ?_⟩
    obtain ⟨c, c1, c2⟩ := t3 pos cv hc
    refine ⟨c, c1, ?_⟩
    rw [upd_ne]
    · exact c2
    · intro z
      rw [z, eu0] at c2
      have c2 := Option.some.inj c2
      rw [c2] at ok0
      exact codeO_not ok0
/-- an object is taken for unchanging from now on -/
theorem RH.freeze (r : RH T w ρ h H) (n : Nat) : Ext w ρ H (ρ.set n none) H ∧ RH T w (ρ.set n none) (h.set n .gone) H := by
  have sub : ∀ {m a}, (ρ.set n none)[m]? = some (some a) → m ≠ n ∧ ρ[m]? = some (some a) := fun {m a} z => by
    by_cases q : m = n
    · subst q
      by_cases hl : m < ρ.length
      · rw [List.getElem?_set_self hl] at z; cases z
      · rw [List.getElem?_eq_none (by simpa using hl)] at z; cases z
    · rw [List.getElem?_set_ne (Ne.symm q)] at z; exact ⟨q, z⟩
  have e : Ext w ρ H (ρ.set n none) H := ⟨by simp, fun m a _ z => (sub z).2, fun a z => by
    obtain ⟨m, hm⟩ := mem_get z
    exact .inl (List.mem_of_getElem? (sub hm).2), fun _ z => z, fun _ _ z _ => z, fun _ _ z _ _ _ => z, fun _ _ z _ _ _ _ => z⟩
  refine ⟨e, ⟨by simp [r.len], fun m k a z1 z2 => r.inj m k a (sub z1).2 (sub z2).2, fun m a z => ?_, fun m b z hb => ?_, r.trk, r.tabs⟩⟩
  · obtain ⟨q, z⟩ := sub z
    obtain ⟨h1, h2, ob', h3, h4⟩ := r.obj m a z
    exact ⟨h1, h2, ob', by rw [List.getElem?_set_ne (Ne.symm q)]; exact h3, h4.mono e rfl⟩
  · by_cases q : m = n
    · subst q
      by_cases hl : m < h.length
      · rw [List.getElem?_set_self hl] at z; cases z; exact absurd rfl hb
      · rw [List.getElem?_eq_none (by simpa using hl)] at z; cases z
    · rw [List.getElem?_set_ne (Ne.symm q)] at z
      obtain ⟨a, ea⟩ := r.live m b z hb
      exact ⟨a, by rw [List.getElem?_set_ne (Ne.symm q)]; exact ea⟩
end
end Rf
namespace Rf
open PySem PySem.Spec PyProof.Rows L2

/-- the most that a list may have -/
def SZ : Nat := 16777216
theorem SZ_eq : SZ = sizeLine := sizeLine_eq.symm
/-! ### results -/
inductive R (α : Type) where
  | ok (a : α) (h : Hh) | exc (e : Ex) (h : Hh) | stuck
def R.bind {α β : Type} (r : R α) (f : α → Hh → R β) : R β := match r with
  | .ok a h => f a h
  | .exc e h => .exc e h
  | .stuck => .stuck
@[simp] theorem R.bind_ok {α β : Type} (a : α) (h : Hh) (f : α → Hh → R β) : (R.ok a h).bind f = f a h := (rfl)
@[simp] theorem R.bind_exc {α β : Type} (e : Ex) (h : Hh) (f : α → Hh → R β) : (R.exc e h : R α).bind f = .exc e h := (rfl)
@[simp] theorem R.bind_stuck {α β : Type} (f : α → Hh → R β) : (R.stuck : R α).bind f = .stuck := (rfl)
abbrev O := Option (D × Hh)
def ofO : O → R D
  | some (d, h) => .ok d h
  | none => .stuck
@[simp] theorem ofO_some (p : D × Hh) : ofO (some p) = .ok p.1 p.2 := (rfl)
@[simp] theorem ofO_none : ofO none = .stuck := (rfl)
inductive Fl where
  | nx (env : Ev) (h : Hh) | bk (env : Ev) (h : Hh) | ct (env : Ev) (h : Hh) | rt (v : D) (h : Hh) | exc (e : Ex) (h : Hh) | stuck
abbrev Me := Ev → Hh → R D
abbrev Ma := Ev → Hh → R (List D)
abbrev Mt := Ev → Hh → R Bool
abbrev Ms := Ev → Hh → Fl
abbrev Mg := D → Ev → Hh → Option (Ev × Hh)

/-! ### the semantics' words -/
def mVar (i : Nat) : Me := fun env h => match env[i]? with
  | some (some d) => .ok d h
  | _ => .stuck
def mC (d : D) : Me := fun _ h => .ok d h
def mU (g : D → Hh → O) (a : Me) : Me := fun env h => (a env h).bind fun x h1 => ofO (g x h1)
def mB (g : D → D → Hh → O) (a b : Me) : Me := fun env h => (a env h).bind fun x h1 => (b env h1).bind fun y h2 => ofO (g x y h2)
def mIf (t : Mt) (a b : Me) : Me := fun env h => (t env h).bind fun c h1 => if c = true then a env h1 else b env h1
def toB : D → Option Bool
  | .bl b => some b
  | _ => none
def tV (a : Me) : Mt := fun env h => (a env h).bind fun x h1 => match toB x with
  | some b => .ok b h1
  | none => .stuck
def tAndM (a b : Mt) : Mt := fun env h => (a env h).bind fun c h1 => if c = true then b env h1 else .ok false h1
def tOrM (a b : Mt) : Mt := fun env h => (a env h).bind fun c h1 => if c = true then .ok true h1 else b env h1
def tNotM (a : Mt) : Mt := fun env h => (a env h).bind fun c h1 => .ok (!c) h1
def mNot (a : Me) : Me := fun env h => (a env h).bind fun x h1 => match toB x with
  | some b => .ok (.bl (!b)) h1
  | none => .stuck
def mAnd (a b : Me) : Me := fun env h => (a env h).bind fun x h1 => match toB x with
  | some true => b env h1
  | some false => .ok (.bl false) h1
  | none => .stuck
def mOr (a b : Me) : Me := fun env h => (a env h).bind fun x h1 => match toB x with
  | some true => .ok (.bl true) h1
  | some false => b env h1
  | none => .stuck
/-- a op1 b op2 c -/
def mChain (f g : D → D → Hh → O) (a b c : Me) : Me := fun env h => (a env h).bind fun x h1 => (b env h1).bind fun y h2 => (ofO (f x y h2)).bind fun z h3 => match toB z with
  | some true => (c env h3).bind fun w h4 => ofO (g y w h4)
  | some false => .ok (.bl false) h3
  | none => .stuck
def aNil : Ma := fun _ h => .ok [] h
def aCons (a : Me) (r : Ma) : Ma := fun env h => (a env h).bind fun x h1 => (r env h1).bind fun xs h2 => .ok (x :: xs) h2
def mF (g : List D → Hh → O) (a : Ma) : Me := fun env h => (a env h).bind fun xs h1 => ofO (g xs h1)
/-- a call of a def -/
def mCall (F : List D → Hh → R D) (a : Ma) : Me := fun env h => (a env h).bind fun xs h1 => F xs h1
mutual
def noref : D → Bool
  | .tup xs => norefs xs
  | .lst xs => norefs xs
  | .dct _ ks vs => norefs vs
  | .ref _ => false
  | _ => true
def norefs : List D → Bool
  | [] => true
  | a :: r => noref a && norefs r
end
/-- a call of a def that changes nothing of ours, and knows nothing of our objects -/
def pure1 (F : List D → Hh → R D) : List D → Hh → R D := fun xs h => match norefs xs with
  | true => match F xs [] with
    | .ok v _ => .ok v h
    | .exc e _ => .exc e h
    | .stuck => .stuck
  | false => .stuck
def mk (mt : Bool) (xs : List D) (h : Hh) : O := if mt = true then some (.ref h.length, h ++ [.lst xs]) else some (.lst xs, h)
def mTup (a : Ma) : Me := mF (fun xs h => if xs.length ≤ SZ then some (.tup xs, h) else none) a
def mLst (mt : Bool) (a : Ma) : Me := mF (fun xs h => if xs.length ≤ SZ then mk mt xs h else none) a

def sNil : Ms := fun env h => .nx env h
def Fl.then (f : Fl) (k : Ev → Hh → Fl) : Fl := match f with
  | .nx env h => k env h
  | f => f
@[simp] theorem Fl.then_nx (env : Ev) (h : Hh) (k : Ev → Hh → Fl) : (Fl.nx env h).then k = k env h := (rfl)
@[simp] theorem Fl.then_rt (v : D) (h : Hh) (k : Ev → Hh → Fl) : (Fl.rt v h).then k = .rt v h := (rfl)
@[simp] theorem Fl.then_exc (e : Ex) (h : Hh) (k : Ev → Hh → Fl) : (Fl.exc e h).then k = .exc e h := (rfl)
@[simp] theorem Fl.then_bk (env : Ev) (h : Hh) (k : Ev → Hh → Fl) : (Fl.bk env h).then k = .bk env h := (rfl)
@[simp] theorem Fl.then_ct (env : Ev) (h : Hh) (k : Ev → Hh → Fl) : (Fl.ct env h).then k = .ct env h := (rfl)
@[simp] theorem Fl.then_stuck (k : Ev → Hh → Fl) : Fl.stuck.then k = .stuck := (rfl)
def sSeq (a b : Ms) : Ms := fun env h => (a env h).then b
def R.fl {α : Type} (r : R α) (k : α → Hh → Fl) : Fl := match r with
  | .ok a h => k a h
  | .exc e h => .exc e h
  | .stuck => .stuck
@[simp] theorem R.fl_ok {α : Type} (a : α) (h : Hh) (f : α → Hh → Fl) : (R.ok a h).fl f = f a h := (rfl)
@[simp] theorem R.fl_exc {α : Type} (e : Ex) (h : Hh) (f : α → Hh → Fl) : (R.exc e h : R α).fl f = .exc e h := (rfl)
@[simp] theorem R.fl_stuck {α : Type} (f : α → Hh → Fl) : (R.stuck : R α).fl f = .stuck := (rfl)
def sExpr (m : Me) : Ms := fun env h => (m env h).fl fun _ h1 => .nx env h1
def gFl (o : Option (Ev × Hh)) : Fl := match o with
  | some (env, h) => .nx env h
  | none => .stuck
@[simp] theorem gFl_some (p : Ev × Hh) : gFl (some p) = .nx p.1 p.2 := (rfl)
@[simp] theorem gFl_none : gFl none = .stuck := (rfl)
def sAsg (m : Me) (g : Mg) : Ms := fun env h => (m env h).fl fun v h1 => gFl (g v env h1)
def sRet (m : Me) : Ms := fun env h => (m env h).fl fun v h1 => .rt v h1
def sRetN : Ms := fun _ h => .rt .non h
def sIf (t : Mt) (a b : Ms) : Ms := fun env h => (t env h).fl fun c h1 => if c = true then a env h1 else b env h1
def sBreak : Ms := fun env h => .bk env h
def sCont : Ms := fun env h => .ct env h
def sRaise (e : Ex) : Ms := fun _ h => .exc e h
def gN (i : Nat) : Mg := fun d env h => some (env.set i (some d), h)
def gsNil : List D → Ev → Hh → Option (Ev × Hh) := fun ds env h => if ds.isEmpty = true then some (env, h) else none
def gsCons (g : Mg) (r : List D → Ev → Hh → Option (Ev × Hh)) : List D → Ev → Hh → Option (Ev × Hh) := fun ds env h => match ds with
  | d :: ds => (g d env h).bind fun p => r ds p.1 p.2
  | [] => none
def gTup (n : Nat) (gs : List D → Ev → Hh → Option (Ev × Hh)) : Mg := fun d env h => match d with
  | .tup ds => if ds.length = n then gs ds env h else none
  | _ => none
def sWhile (t : Mt) (b : Ms) : Nat → Ms
  | 0 => fun _ _ => .stuck
  | n + 1 => fun env h => (t env h).fl fun c h1 => if c = true then (match b env h1 with
      | .nx env2 h2 => sWhile t b n env2 h2
      | .ct env2 h2 => sWhile t b n env2 h2
      | .bk env2 h2 => .nx env2 h2
      | f => f) else .nx env h1
/-- the list that is walked stands as it was -/
def chk (o : Option Nat) (ds : List D) (h : Hh) : Bool := match o with
  | none => true
  | some n => match h[n]? with
    | some (.lst xs) => D.beqs xs ds
    | _ => false
/-- over items; o: the list that has all of them, if it may be changed -/
def sForI (g : Mg) (b : Ms) (o : Option Nat) (all : List D) : List D → Ms
  | [] => fun env h => match chk o all h with
    | true => .nx env h
    | false => .stuck
  | d :: ds => fun env h => match chk o all h with
    | false => .stuck
    | true => match g d env h with
      | none => .stuck
      | some p => (match b p.1 p.2 with
        | .nx env2 h2 => sForI g b o all ds env2 h2
        | .ct env2 h2 => sForI g b o all ds env2 h2
        | .bk env2 h2 => .nx env2 h2
        | f => f)
/-- a source: its items, and the list that has them, if it may be changed -/
abbrev Src := List D × Option Nat
def sFor (src : Ev → Hh → R Src) (g : Mg) (b : Ms) : Ms := fun env h => (src env h).fl fun s h1 => sForI g b s.2 s.1 s.1 env h1
/-- every object made since, out of the objects made ahead -/
def frzD (k : Nat) (h : Hh) : Nat → D → Option D
  | 0, _ => none
  | n + 1, d => match d with
    | .tup xs => (xs.mapM (frzD k h n)).map .tup
    | .lst xs => (xs.mapM (frzD k h n)).map .lst
    | .dct t ks vs => (vs.mapM (frzD k h n)).map (.dct t ks)
    | .ref i => if i < k then some (.ref i) else match h[i]? with
      | some (.lst xs) => (xs.mapM (frzD k h n)).map .lst
      | some (.dct t ks vs) => (vs.mapM (frzD k h n)).map (.dct t ks)
      | _ => none
    | d => some d
mutual
def lowD (k : Nat) : D → Bool
  | .tup xs => lowDs k xs
  | .lst xs => lowDs k xs
  | .dct _ _ vs => lowDs k vs
  | .ref i => decide (i < k)
  | _ => true
def lowDs (k : Nat) : List D → Bool
  | [] => true
  | a :: r => lowD k a && lowDs k r
end
def lowO (k : Nat) : Ob → Bool
  | .gone => true
  | .lst xs => lowDs k xs
  | .dct _ _ vs => lowDs k vs
  | .dcn ks vs => lowDs k ks && lowDs k vs
/-- what a def hands back: the value, no object of its own left -/
def finR (k : Nat) (v : D) (h : Hh) : R D := match frzD k h 12 v with
  | some v' => if (h.take k).all (lowO k) = true then .ok v' (h.take k) else .stuck
  | none => .stuck
def finX (k : Nat) (e : Ex) (h : Hh) : R D := if (h.take k).all (lowO k) = true then .exc e (h.take k) else .stuck
def runF (n : Nat) (body : Ms) : List D → Hh → R D := fun ds h => match body (ds.map some ++ List.replicate (n - ds.length) none) h with
  | .nx _ h' => finR h.length .non h'
  | .rt v h' => finR h.length v h'
  | .exc e h' => finX h.length e h'
  | _ => .stuck

section
variable {T : List (Addr × Str)} {w : Wd} {ρ ρ' : List (Option Addr)} {h h' : Hh} {H H' : Hp} {k : Nat}
theorem Fz.take {a : Addr} (f : Fz w ρ a) : Fz w (ρ.take k) a := ⟨fun z => f.1 (List.mem_of_mem_take z), f.2⟩
theorem take_get {n : Nat} {x : Option Addr} (hk : k ≤ ρ.length) : (ρ.take k)[n]? = some x ↔ n < k ∧ ρ[n]? = some x := by
  rw [List.getElem?_take]
  by_cases q : n < k
  · simp [q]
  · simp [q]
mutual
theorem RD.low (hk : k ≤ ρ.length) : ∀ {d : D} {v : V}, lowD k d = true → RD w ρ H d v → RD w (ρ.take k) H d v
  | .non, _, _, h => h
  | .bl _, _, _, h => h
  | .int _, _, _, h => h
  | .str _, _, _, h => h
  | .tup ds, v, l, h => by
    obtain ⟨a, xs, ev, r, q⟩ := h
    exact ⟨a, xs, ev, r, RDs.low hk (by simpa [lowD] using l) q⟩
  | .lst ds, v, l, h => by
    obtain ⟨a, xs, ev, f, r, q⟩ := h
    exact ⟨a, xs, ev, f.take, r, RDs.low hk (by simpa [lowD] using l) q⟩
  | .dct false ks vs, v, l, h => by
    obtain ⟨a, xs, ys, ev, f, k1, l1, r, q⟩ := h
    exact ⟨a, xs, ys, ev, f.take, k1, l1, r, RDs.low hk (by simpa [lowD] using l) q⟩
  | .dct true ks vs, v, l, h => by
    obtain ⟨a, xs, ys, ev, f, k1, l1, r, q⟩ := h
    exact ⟨a, xs, ys, ev, f.take, k1, l1, r, RDs.low hk (by simpa [lowD] using l) q⟩
  | .ref n, v, l, h => by
    have hn : n < k := by simpa [lowD] using l
    refine ⟨by rw [List.length_take]; omega, fun a z => h.2 a ((take_get hk).mp z).2⟩
  | .fn _, _, _, h => h
theorem RDs.low (hk : k ≤ ρ.length) : ∀ {ds : List D} {xs : List V}, lowDs k ds = true → RDs w ρ H ds xs → RDs w (ρ.take k) H ds xs
  | [], _, _, h => h
  | _ :: _, _, l, h => by
    obtain ⟨x, r, ex, h1, h2⟩ := h
    have l' := l
    simp only [lowDs, Bool.and_eq_true] at l'
    exact ⟨x, r, ex, RD.low hk l'.1 h1, RDs.low hk l'.2 h2⟩
end
/-- the objects made since go -/
theorem RH.cut (r : RH T w ρ h H) (hk : k ≤ ρ.length) (l : (h.take k).all (lowO k) = true) : RH T w (ρ.take k) (h.take k) H := by
  refine ⟨by simp [r.len], fun n m a z1 z2 => r.inj n m a ((take_get hk).mp z1).2 ((take_get hk).mp z2).2, fun n a z => ?_, fun n ob z hb => ?_, r.trk, r.tabs⟩
  · obtain ⟨hn, z⟩ := (take_get hk).mp z
    obtain ⟨h1, h2, ob, h3, h4⟩ := r.obj n a z
    have h5 : (h.take k)[n]? = some ob := by rw [List.getElem?_take]; simp [hn, h3]
    refine ⟨h1, h2, ob, h5, ?_⟩
    have lo := List.all_eq_true.mp l ob (List.mem_of_getElem? h5)
    cases ob with
    | gone => exact h4
    | lst ds => obtain ⟨xs, e1, q⟩ := h4; exact ⟨xs, e1, RDs.low hk (by simpa [lowO] using lo) q⟩
    | dct t ks vs =>
      cases t
      · obtain ⟨xs, ys, k1, l1, e1, q⟩ := h4; exact ⟨xs, ys, k1, l1, e1, RDs.low hk (by simpa [lowO] using lo) q⟩
      · obtain ⟨xs, ys, k1, l1, e1, q⟩ := h4; exact ⟨xs, ys, k1, l1, e1, RDs.low hk (by simpa [lowO] using lo) q⟩
    | dcn ks vs =>
      have lo' : lowDs k ks = true ∧ lowDs k vs = true := by simpa [lowO] using lo
      obtain ⟨es, xs, e1, k1, rk, rv, q, l⟩ := h4
      exact ⟨es, xs, e1, k1, RDs.low hk lo'.1 rk, rv, RDs.low hk lo'.2 q, l⟩
  · have q : n < k ∧ h[n]? = some ob := by
      rw [List.getElem?_take] at z
      by_cases q : n < k
      · simp [q] at z; exact ⟨q, z⟩
      · simp [q] at z
    obtain ⟨a, ea⟩ := r.live n ob q.2 hb
    exact ⟨a, (take_get hk).mpr ⟨q.1, ea⟩⟩
theorem Ext.cut (e : Ext w ρ H ρ' H') : Ext w ρ H (ρ'.take ρ.length) H' :=
  ⟨by rw [List.length_take]; have := e.len; omega, fun n a hn z => e.old n a hn ((take_get e.len).mp z).2, fun a z => e.new a (List.mem_of_mem_take z), e.there, e.fixs, e.keep, e.keepP⟩
theorem mapM_cons_some {α β : Type} {f : α → Option β} {a : α} {r : List α} {bs : List β} (h : (a :: r).mapM f = some bs) : ∃ b s, f a = some b ∧ r.mapM f = some s ∧ bs = b :: s := by
  rw [List.mapM_cons] at h
  cases e : f a with
  | none => rw [e] at h; cases h
  | some b =>
    rw [e] at h
    cases e2 : r.mapM f with
    | none => rw [e2] at h; cases h
    | some s =>
      rw [e2] at h
      exact ⟨b, s, rfl, rfl, (Option.some.inj h).symm⟩
theorem RDs.mapM {ρ2 : List (Option Addr)} {f : D → Option D} (hf : ∀ {d d' : D} {v : V}, f d = some d' → RD w ρ H d v → RD w ρ2 H d' v) : ∀ {ds ds' : List D} {xs : List V}, ds.mapM f = some ds' → RDs w ρ H ds xs → RDs w ρ2 H ds' xs
  | [], ds', xs, h, q => by
    have : ([] : List D) = ds' := by
      rw [List.mapM_nil] at h
      exact Option.some.inj h
    subst this; exact q
  | d :: ds, ds', _, h, q => by
    obtain ⟨x, r, rfl, h1, h2⟩ := q
    obtain ⟨b, s, e1, e2, rfl⟩ := mapM_cons_some h
    exact ⟨x, r, rfl, hf e1 h1, RDs.mapM hf e2 h2⟩
theorem frzD_ok (r : RH T w ρ h H) (hk : k ≤ ρ.length) : ∀ (n : Nat) {d d' : D} {v : V}, frzD k h n d = some d' → RD w ρ H d v → RD w (ρ.take k) H d' v
  | 0, _, _, _, e, _ => by cases e
  | n + 1, d, d', v, e, q => by
    have ih : ∀ {d d' : D} {v : V}, frzD k h n d = some d' → RD w ρ H d v → RD w (ρ.take k) H d' v := frzD_ok r hk n
    cases d with
    | tup ds =>
      unfold frzD at e
      obtain ⟨ds', e1, rfl⟩ := Option.map_eq_some_iff.mp e
      obtain ⟨a, xs, ev, r', q⟩ := q
      exact ⟨a, xs, ev, r', RDs.mapM ih e1 q⟩
    | lst ds =>
      unfold frzD at e
      obtain ⟨ds', e1, rfl⟩ := Option.map_eq_some_iff.mp e
      obtain ⟨a, xs, ev, f, r', q⟩ := q
      exact ⟨a, xs, ev, f.take, r', RDs.mapM ih e1 q⟩
    | dct t ks vs =>
      unfold frzD at e
      obtain ⟨ds', e1, rfl⟩ := Option.map_eq_some_iff.mp e
      cases t
      · obtain ⟨a, xs, ys, ev, f, k1, l1, r', q⟩ := q
        exact ⟨a, xs, ys, ev, f.take, k1, l1, r', RDs.mapM ih e1 q⟩
      · obtain ⟨a, xs, ys, ev, f, k1, l1, r', q⟩ := q
        exact ⟨a, xs, ys, ev, f.take, k1, l1, r', RDs.mapM ih e1 q⟩
    | ref i =>
      unfold frzD at e
      dsimp only at e
      by_cases hi : i < k
      · rw [if_pos hi] at e
        cases e
        exact RD.low hk (by simp [lowD, hi]) q
      · rw [if_neg hi] at e
        have fz : ∀ a, ρ[i]? = some (some a) → Fz w (ρ.take k) a := fun a ea => by
          obtain ⟨h1, h2, _⟩ := r.obj i a ea
          refine ⟨fun z => ?_, h1, h2⟩
          obtain ⟨m, hm⟩ := mem_get z
          obtain ⟨m1, m2⟩ := (take_get hk).mp hm
          have := r.inj i m a ea m2
          omega
        cases eh : h[i]? with
        | none => rw [eh] at e; cases e
        | some ob =>
          rw [eh] at e
          cases ob with
          | gone => cases e
          | lst ds =>
            obtain ⟨ds', e1, rfl⟩ := Option.map_eq_some_iff.mp e
            obtain ⟨a, ea⟩ := r.live i _ eh (by intro z; cases z)
            obtain ⟨_, _, ob, eo, qo⟩ := r.obj i a ea
            rw [eh] at eo; cases eo
            obtain ⟨xs, x1, x2⟩ := qo
            exact ⟨a, xs, q.2 a ea, fz a ea, .inl x1, RDs.mapM ih e1 x2⟩
          | dct t ks vs =>
            obtain ⟨ds', e1, rfl⟩ := Option.map_eq_some_iff.mp e
            obtain ⟨a, ea⟩ := r.live i _ eh (by intro z; cases z)
            obtain ⟨_, _, ob, eo, qo⟩ := r.obj i a ea
            rw [eh] at eo; cases eo
            cases t
            · obtain ⟨xs, ys, k1, l1, x1, x2⟩ := qo
              exact ⟨a, xs, ys, q.2 a ea, fz a ea, k1, l1, .inl x1, RDs.mapM ih e1 x2⟩
            · obtain ⟨xs, ys, k1, l1, x1, x2⟩ := qo
              exact ⟨a, xs, ys, q.2 a ea, fz a ea, k1, l1, .inl x1, RDs.mapM ih e1 x2⟩
          | dcn ks vs => cases e
    | _ =>
      unfold frzD at e
      cases e
      exact q
end
end Rf
namespace Rf
open PySem PySem.Spec PyProof.Rows L2

/-! ### slots -/
structure RE (w : Wd) (ρ : List (Option Addr)) (H : Hp) (env : Ev) (σ : L2.St) : Prop where
  len : env.length = σ.length
  at_ : ∀ (i : Nat) (d : D), env[i]? = some (some d) → ∃ v, σ[i]? = some (some v) ∧ RD w ρ H d v
section
variable {w : Wd} {ρ ρ' : List (Option Addr)} {H H' : Hp} {env : Ev} {σ : L2.St}
theorem RE.mono (e : Ext w ρ H ρ' H') (r : RE w ρ H env σ) : RE w ρ' H' env σ := ⟨r.len, fun i d h => by
  obtain ⟨v, e1, q⟩ := r.at_ i d h
  exact ⟨v, e1, q.mono e⟩⟩
theorem RE.set (r : RE w ρ H env σ) (i : Nat) {d : D} {v : V} (q : RD w ρ H d v) : RE w ρ H (env.set i (some d)) (σ.set i (some v)) := by
  refine ⟨by simp [r.len], fun j e h => ?_⟩
  by_cases hj : j = i
  · subst hj
    by_cases hl : j < env.length
    · rw [List.getElem?_set_self hl] at h
      cases h
      exact ⟨v, by rw [List.getElem?_set_self (by rw [← r.len]; exact hl)], q⟩
    · rw [List.getElem?_eq_none (by simpa using hl)] at h; cases h
  · rw [List.getElem?_set_ne (Ne.symm hj)] at h
    rw [List.getElem?_set_ne (Ne.symm hj)]
    exact r.at_ j e h
/-- fewer slots known -/
theorem RE.sub {env' : Ev} (r : RE w ρ H env σ) (hl : env'.length = env.length) (h : ∀ (i : Nat) (d : D), env'[i]? = some (some d) → env[i]? = some (some d)) : RE w ρ H env' σ :=
  ⟨hl.trans r.len, fun i d e => r.at_ i d (h i d e)⟩
theorem RE.unset (r : RE w ρ H env σ) (i : Nat) (x : Option V) : RE w ρ H (env.set i none) (σ.set i x) := by
  refine ⟨by simp [r.len], fun j d e => ?_⟩
  by_cases q : j = i
  · subst q
    by_cases hl : j < env.length
    · rw [List.getElem?_set_self hl] at e; cases e
    · rw [List.getElem?_eq_none (by simpa using hl)] at e; cases e
  · rw [List.getElem?_set_ne (Ne.symm q)] at e ⊢
    exact r.at_ j d e
end
def exN : Ex → Str
  | .na => "NotAllowed" | .tl => "TooLarge" | .mi => "Missing" | .bp => "BadPaper"
def clsV (K : PySem.W.Frag) (e : Ex) : Value := .ref (He.ga K (exN e))

def gw (X : Cx) : GW := ⟨X.mg, X.w⟩
/-- a state that the small state tells -/
structure Gd (T : List (Addr × Str)) (g : GW) (w : Wd) (ρ : List (Option Addr)) (env : Ev) (h : Hh) (σ : L2.St) (H : Hp) : Prop where
  g : w.g = g
  e : RE w ρ H env σ
  h : RH T w ρ h H
theorem Gd.next {T : List (Addr × Str)} {g : GW} {w : Wd} {ρ ρ' : List (Option Addr)} {env : Ev} {h h' : Hh} {σ : L2.St} {H H' : Hp} (s : Gd T g w ρ env h σ H) (e : Ext w ρ H ρ' H') (r : RH T w ρ' h' H') : Gd T g w ρ' env h' σ H' :=
  ⟨s.g, s.e.mono e, r⟩
abbrev Rel (α β : Type) := Wd → List (Option Addr) → Hp → α → β → Prop
def Pst {α β : Type} (T : List (Addr × Str)) (w : Wd) (ρ : List (Option Addr)) (H : Hp) (rel : Rel α β) (r : R α) (Q : β → Hp → Prop) (W : Ex → Hp → Prop) : Prop :=
  match r with
  | .ok v h' => ∀ ρ' H' x, Ext w ρ H ρ' H' → RH T w ρ' h' H' → rel w ρ' H' v x → Q x H'
  | .exc e h' => ∀ ρ' H', Ext w ρ H ρ' H' → RH T w ρ' h' H' → W e H'
  | .stuck => False
def Vst (T : List (Addr × Str)) (w : Wd) (ρ : List (Option Addr)) (H : Hp) (r : O) (Q : VK) : Prop :=
  match r with
  | some p => ∀ ρ' H' x, Ext w ρ H ρ' H' → RH T w ρ' p.2 H' → RD w ρ' H' p.1 x → Q x H'
  | none => False
section
variable {T : List (Addr × Str)} {w : Wd} {ρ ρ' : List (Option Addr)} {H H' : Hp}
theorem Pst.ext {α β : Type} {rel : Rel α β} {r : R α} {Q : β → Hp → Prop} {W : Ex → Hp → Prop} (p : Pst T w ρ H rel r Q W) (e : Ext w ρ H ρ' H') : Pst T w ρ' H' rel r Q W := by
  cases r with
  | ok v h' => exact fun ρ2 H2 x e2 r2 q => p ρ2 H2 x (e.trans e2) r2 q
  | exc x h' => exact fun ρ2 H2 e2 r2 => p ρ2 H2 (e.trans e2) r2
  | stuck => exact p
theorem Pst.ofO {r : O} {Q : VK} {W : Ex → Hp → Prop} (p : Pst T w ρ H RD (Rf.ofO r) Q W) : Vst T w ρ H r Q := by
  cases r with
  | none => exact p
  | some q => exact p
theorem Vst.ext {r : O} {Q : VK} (p : Vst T w ρ H r Q) (e : Ext w ρ H ρ' H') : Vst T w ρ' H' r Q := by
  cases r with
  | some q => exact fun ρ2 H2 x e2 r2 q => p ρ2 H2 x (e.trans e2) r2 q
  | none => exact p
end

/-! ### the judgements -/
section
variable (T : List (Addr × Str)) (X : Cx) (W : WX)
def tM (m : Me) : TE := fun σ H Q => ∃ w ρ env h, Gd T (gw X) w ρ env h σ H ∧ Pst T w ρ H RD (m env h) Q fun e H' => W (clsV X.K e) none σ H'
def tTm (m : Mt) : TT := fun σ H Q => ∃ w ρ env h, Gd T (gw X) w ρ env h σ H ∧ Pst T w ρ H (fun _ _ _ a b => a = b) (m env h) Q fun e H' => W (clsV X.K e) none σ H'
def tAm (m : Ma) : TA := fun σ H Q => ∃ w ρ env h, Gd T (gw X) w ρ env h σ H ∧ Pst T w ρ H RDs (m env h) Q fun e H' => W (clsV X.K e) none σ H'
def Sst (w : Wd) (ρ : List (Option Addr)) (σ : L2.St) (H : Hp) (f : Fl) (Dd : Ends) : Prop :=
  match f with
  | .nx env h' => ∀ ρ' H' σ', Ext w ρ H ρ' H' → RH T w ρ' h' H' → RE w ρ' H' env σ' → Dd.nx σ' H'
  | .bk env h' => ∀ ρ' H' σ', Ext w ρ H ρ' H' → RH T w ρ' h' H' → RE w ρ' H' env σ' → Dd.bk σ' H'
  | .ct env h' => ∀ ρ' H' σ', Ext w ρ H ρ' H' → RH T w ρ' h' H' → RE w ρ' H' env σ' → Dd.ct σ' H'
  | .rt v h' => ∀ ρ' H' x, Ext w ρ H ρ' H' → RH T w ρ' h' H' → RD w ρ' H' v x → Dd.rt x H'
  | .exc e h' => ∀ ρ' H' σ', Ext w ρ H ρ' H' → RH T w ρ' h' H' → W (clsV X.K e) none σ' H'
  | .stuck => False
def tS (m : Ms) : TS := fun Dd σ H => ∃ w ρ env h, Gd T (gw X) w ρ env h σ H ∧ Sst T X W w ρ σ H (m env h) Dd
def ME (e : Expr) (m : Me) : Prop := PE X e (tM T X W m)
def MT (e : Expr) (m : Mt) : Prop := PT X e (tTm T X W m)
def MW (e : Expr) (m : Mt) : Prop := PW X e (tTm T X W m)
def MA (es : List Expr) (m : Ma) : Prop := PA X es (tAm T X W m)
def MS (st : Stmt) (m : Ms) : Prop := PS X st (tS T X W m)
def MSs (st : List Stmt) (m : Ms) : Prop := PSs X st (tS T X W m)
/-- operations on values -/
def rB (g : D → D → Hh → O) : R2 := fun x y H Q => ∃ w ρ h a b, w.g = gw X ∧ RH T w ρ h H ∧ RD w ρ H a x ∧ RD w ρ H b y ∧ Vst T w ρ H (g a b h) Q
def MOp (f : Value → Value → Sem Value) (g : D → D → Hh → O) : Prop := OpR X f (rB T X g)
def rU1 (g : D → Hh → O) : V → Hp → VK → Prop := fun x H Q => ∃ w ρ h a, w.g = gw X ∧ RH T w ρ h H ∧ RD w ρ H a x ∧ Vst T w ρ H (g a h) Q
def MUn (f : Value → Sem Value) (g : D → Hh → O) : Prop := UnR X f (rU1 T X g)
def rF1 (g : List D → Hh → O) : List V → Hp → VK → Prop := fun xs H Q => ∃ w ρ h as, w.g = gw X ∧ RH T w ρ h H ∧ RDs w ρ H as xs ∧ Vst T w ρ H (g as h) Q
def MFn (f : Value) (g : List D → Hh → O) : Prop := CallR X f (rF1 T X g)
end

/-! ### rules -/
section
variable {T : List (Addr × Str)} {X : Cx} {W : WX} {a b c e : Expr} {es : List Expr} {ma mb mc : Me} {ta tb tc : Mt} {as : Ma} {pos : Pos}
theorem PE.imp {e : Expr} {t t' : TE} (p : PE X e t) (h : ∀ σ H Q, t' σ H Q → t σ H Q) : PE X e t' := ⟨fun pins s σ H Q I q => p.run pins s σ H Q I (h σ H Q q)⟩
theorem PT.imp {e : Expr} {t t' : TT} (p : PT X e t) (h : ∀ σ H Q, t' σ H Q → t σ H Q) : PT X e t' := ⟨fun pins s σ H Q I q => p.run pins s σ H Q I (h σ H Q q)⟩
theorem PW.imp {e : Expr} {t t' : TT} (p : PW X e t) (h : ∀ σ H Q, t' σ H Q → t σ H Q) : PW X e t' := ⟨fun wh pins s σ H Q I q => p.run wh pins s σ H Q I (h σ H Q q)⟩
theorem PA.imp {e : List Expr} {t t' : TA} (p : PA X e t) (h : ∀ σ H Q, t' σ H Q → t σ H Q) : PA X e t' := ⟨fun ps pins s σ H Q I q => p.run ps pins s σ H Q I (h σ H Q q)⟩
theorem PS.imp {e : Stmt} {t t' : TS} (p : PS X e t) (h : ∀ D σ H, t' D σ H → t D σ H) : PS X e t' := ⟨fun pins s σ H D I q => p.run pins s σ H D I (h D σ H q)⟩
theorem PSs.imp {e : List Stmt} {t t' : TS} (p : PSs X e t) (h : ∀ D σ H, t' D σ H → t D σ H) : PSs X e t' := ⟨fun pins s σ H D I q => p.run pins s σ H D I (h D σ H q)⟩

theorem me_var {i : Nat} {x : Str} (hN : X.N[i]? = some x) (hv : Vis X.env.scope x) (hd : (x == ("__debug__" : Str)) = false := by decide) (hcd : (x == ("__classdict__" : Str)) = false := by decide) : ME T X W (.Name x pos) (mVar i) :=
  PE.imp (pe_var hN hv hd hcd) fun σ H Q ⟨w, ρ, env, h, s, q⟩ => by
    unfold mVar at q
    cases e : env[i]? with
    | none => rw [e] at q; exact q.elim
    | some o =>
      rw [e] at q
      cases o with
      | none => exact q.elim
      | some d =>
        obtain ⟨v, e1, r⟩ := s.e.at_ i d e
        exact ⟨v, e1, q ρ H v Ext.refl s.h r⟩
theorem me_c {v : V} {d : D} (p : PE X e (tC v)) (hr : ∀ w ρ H, RD w ρ H d v := by intros; rfl) : ME T X W e (mC d) :=
  PE.imp p fun σ H Q ⟨w, ρ, env, h, s, q⟩ => q ρ H v Ext.refl s.h (hr w ρ H)
theorem me_int {i : Int} {j : Nat} : ME T X W (.Constant (.int i) j pos) (mC (.int i)) := me_c pe_int
theorem me_bl {i : Bool} {j : Nat} : ME T X W (.Constant (.bool i) j pos) (mC (.bl i)) := me_c pe_bl
theorem me_non {j : Nat} : ME T X W (.Constant .none j pos) (mC .non) := me_c pe_non
theorem me_str {i : Str} {j : Nat} : ME T X W (.Constant (.str i) j pos) (mC (.str i)) := me_c pe_str
/-- a whole number of the module -/
theorem me_gint {x : Str} {i : Int} (hg : Gl X x) (hm : ∃ t, X.mg x = some (.int i t)) (hd : (x == ("__debug__" : Str)) = false := by decide) : ME T X W (.Name x pos) (mC (.int i)) := by
  obtain ⟨t, hm⟩ := hm
  exact me_c (pe_glob (v := .int i) hg hm ⟨t, rfl⟩ hd)
/-- a def of the module, as a value -/
theorem me_gfn {x : Str} {f : Addr} (hg : Gl X x) (hm : X.mg x = some (.ref f)) (hd : (x == ("__debug__" : Str)) = false := by decide) : ME T X W (.Name x pos) (mC (.fn x)) :=
  PE.imp (pe_glob hg hm (v := .ref f) rfl hd) fun σ H Q ⟨w, ρ, env, h, s, q⟩ => q ρ H (.ref f) Ext.refl s.h ⟨f, rfl, by rw [s.g]; exact hm⟩

theorem me_bin {op : Operator} {g : D → D → Hh → O} (ho : MOp T X (binaryOp op) g) (ha : ME T X W a ma) (hb : ME T X W b mb) : ME T X W (.BinOp a op b pos) (mB g ma mb) :=
  PE.imp (pe_op ho ha hb) fun σ H Q ⟨w, ρ, env, h, s, q⟩ => by
    refine ⟨w, ρ, env, h, s, ?_⟩
    unfold mB at q
    cases e : ma env h with
    | stuck => rw [e] at q; exact q
    | exc x h1 => rw [e] at q; exact q
    | ok v h1 =>
      rw [e, R.bind_ok] at q
      intro ρ1 H1 x e1 r1 d1
      refine ⟨w, ρ1, env, h1, s.next e1 r1, ?_⟩
      cases e' : mb env h1 with
      | stuck => rw [e'] at q; exact q
      | exc x h2 => rw [e'] at q; exact Pst.ext (rel := RD) q e1
      | ok u h2 =>
        rw [e', R.bind_ok] at q
        intro ρ2 H2 y e2 r2 d2
        exact ⟨w, ρ2, h2, v, u, s.g, r2, d1.mono e2, d2, (Pst.ofO q).ext (e1.trans e2)⟩
theorem me_un {op : UnaryOp} {g : D → Hh → O} (ho : MUn T X (unaryOp op) g) (ha : ME T X W a ma) : ME T X W (.UnaryOp op a pos) (mU g ma) :=
  PE.imp (pe_un ho ha) fun σ H Q ⟨w, ρ, env, h, s, q⟩ => by
    refine ⟨w, ρ, env, h, s, ?_⟩
    unfold mU at q
    cases e : ma env h with
    | stuck => rw [e] at q; exact q
    | exc x h1 => rw [e] at q; exact q
    | ok v h1 =>
      rw [e, R.bind_ok] at q
      intro ρ1 H1 x e1 r1 d1
      exact ⟨w, ρ1, h1, v, s.g, r1, d1, (Pst.ofO q).ext e1⟩
theorem me_cmp {op : CmpOp} {g : D → D → Hh → O} (ho : MOp T X (compareOp op) g) (ha : ME T X W a ma) (hb : ME T X W b mb) (hm : behindInMarks op b = false) : ME T X W (.Compare a [op] [b] pos) (mB g ma mb) :=
  PE.imp (pe_cmpR ho ha hb hm) fun σ H Q ⟨w, ρ, env, h, s, q⟩ => by
    refine ⟨w, ρ, env, h, s, ?_⟩
    unfold mB at q
    cases e : ma env h with
    | stuck => rw [e] at q; exact q
    | exc x h1 => rw [e] at q; exact q
    | ok v h1 =>
      rw [e, R.bind_ok] at q
      intro ρ1 H1 x e1 r1 d1
      refine ⟨w, ρ1, env, h1, s.next e1 r1, ?_⟩
      cases e' : mb env h1 with
      | stuck => rw [e'] at q; exact q
      | exc x h2 => rw [e'] at q; exact Pst.ext (rel := RD) q e1
      | ok u h2 =>
        rw [e', R.bind_ok] at q
        intro ρ2 H2 y e2 r2 d2
        exact ⟨w, ρ2, h2, v, u, s.g, r2, d1.mono e2, d2, (Pst.ofO q).ext (e1.trans e2)⟩
theorem toB_some {d : D} {b : Bool} (h : toB d = some b) : d = .bl b := by
  cases d <;> simp [toB] at h
  rw [h]
/-- a comparison as a test -/
theorem mt_cmp {op : CmpOp} {g : D → D → Hh → O} (ho : MOp T X (compareOp op) g) (ha : ME T X W a ma) (hb : ME T X W b mb) (hm : behindInMarks op b = false) : MT T X W (.Compare a [op] [b] pos) (tV (mB g ma mb)) :=
  PT.imp (pt_cmpR ho ha hb hm) fun σ H Q ⟨w, ρ, env, h, s, q⟩ => by
    refine ⟨w, ρ, env, h, s, ?_⟩
    unfold tV mB at q
    cases e : ma env h with
    | stuck => rw [e] at q; exact q
    | exc x h1 => rw [e] at q; exact q
    | ok v h1 =>
      rw [e, R.bind_ok] at q
      intro ρ1 H1 x e1 r1 d1
      refine ⟨w, ρ1, env, h1, s.next e1 r1, ?_⟩
      cases e' : mb env h1 with
      | stuck => rw [e'] at q; exact q
      | exc x h2 => rw [e'] at q; exact Pst.ext (rel := fun _ _ _ a b => a = b) q e1
      | ok u h2 =>
        rw [e', R.bind_ok] at q
        intro ρ2 H2 y e2 r2 d2
        refine ⟨w, ρ2, h2, v, u, s.g, r2, d1.mono e2, d2, ?_⟩
        cases e3 : g v u h2 with
        | none => rw [e3] at q; exact q
        | some p =>
          rw [e3, ofO_some, R.bind_ok] at q
          cases e4 : toB p.1 with
          | none => rw [e4] at q; exact q.elim
          | some k =>
            rw [e4] at q
            intro ρ3 H3 z e5 r3 d3
            rw [toB_some e4] at d3
            exact ⟨k, d3, q ρ3 H3 k ((e1.trans e2).trans e5) r3 rfl⟩
/-- an expression whose value is a bool, as a test -/
theorem mt_val {e : Expr} (p : ME T X W e ma) (he : ∀ whole, isTrue e X.env whole = (do let v ← whole; standAt e.pos; holding [v] (truthy v)) := by intro _; rfl) : MT T X W e (tV ma) :=
  PT.imp (pt_val p he) fun σ H Q ⟨w, ρ, env, h, s, q⟩ => by
    refine ⟨w, ρ, env, h, s, ?_⟩
    unfold tV at q
    cases e : ma env h with
    | stuck => rw [e] at q; exact q
    | exc x h1 => rw [e] at q; exact q
    | ok v h1 =>
      rw [e, R.bind_ok] at q
      intro ρ1 H1 x e1 r1 d1
      cases e4 : toB v with
      | none => rw [e4] at q; exact q.elim
      | some k =>
        rw [e4] at q
        rw [toB_some e4] at d1
        exact ⟨k, d1, q ρ1 H1 k e1 r1 rfl⟩
theorem mw_and1 (ha : MT T X W a ta) : MW T X W (.BoolOp .And [a] pos) ta := pw_and1 ha
theorem mw_or1 (ha : MT T X W a ta) : MW T X W (.BoolOp .Or [a] pos) ta := pw_or1 ha
theorem MW.mt (h : MW T X W e ta) : MT T X W e ta := PW.pt h
theorem mw_and {rest : List Expr} (ha : MT T X W a ta) (hb : MW T X W (.BoolOp .And (b :: rest) pos) tb) : MW T X W (.BoolOp .And (a :: b :: rest) pos) (tAndM ta tb) :=
  PW.imp (pw_and ha hb) fun σ H Q ⟨w, ρ, env, h, s, q⟩ => by
    refine ⟨w, ρ, env, h, s, ?_⟩
    unfold tAndM at q
    cases e : ta env h with
    | stuck => rw [e] at q; exact q
    | exc x h1 => rw [e] at q; exact q
    | ok v h1 =>
      rw [e, R.bind_ok] at q
      intro ρ1 H1 x e1 r1 d1
      subst d1
      cases v with
      | true => rw [if_pos rfl] at q ⊢; exact ⟨w, ρ1, env, h1, s.next e1 r1, q.ext e1⟩
      | false => rw [if_neg (by decide)] at q ⊢; exact q ρ1 H1 false e1 r1 rfl
theorem mw_or {rest : List Expr} (ha : MT T X W a ta) (hb : MW T X W (.BoolOp .Or (b :: rest) pos) tb) : MW T X W (.BoolOp .Or (a :: b :: rest) pos) (tOrM ta tb) :=
  PW.imp (pw_or ha hb) fun σ H Q ⟨w, ρ, env, h, s, q⟩ => by
    refine ⟨w, ρ, env, h, s, ?_⟩
    unfold tOrM at q
    cases e : ta env h with
    | stuck => rw [e] at q; exact q
    | exc x h1 => rw [e] at q; exact q
    | ok v h1 =>
      rw [e, R.bind_ok] at q
      intro ρ1 H1 x e1 r1 d1
      subst d1
      cases v with
      | true => rw [if_pos rfl] at q ⊢; exact q ρ1 H1 true e1 r1 rfl
      | false => rw [if_neg (by decide)] at q ⊢; exact ⟨w, ρ1, env, h1, s.next e1 r1, q.ext e1⟩
theorem mt_not (ha : MT T X W a ta) : MT T X W (.UnaryOp .Not a pos) (tNotM ta) :=
  PT.imp (pt_not ha) fun σ H Q ⟨w, ρ, env, h, s, q⟩ => by
    refine ⟨w, ρ, env, h, s, ?_⟩
    unfold tNotM at q
    cases e : ta env h with
    | stuck => rw [e] at q; exact q
    | exc x h1 => rw [e] at q; exact q
    | ok v h1 =>
      rw [e, R.bind_ok] at q
      intro ρ1 H1 x e1 r1 d1
      subst d1
      exact q ρ1 H1 _ e1 r1 rfl
theorem me_not (ha : ME T X W a ma) : ME T X W (.UnaryOp .Not a pos) (mNot ma) :=
  PE.imp (pe_not ha) fun σ H Q ⟨w, ρ, env, h, s, q⟩ => by
    refine ⟨w, ρ, env, h, s, ?_⟩
    unfold mNot at q
    cases e : ma env h with
    | stuck => rw [e] at q; exact q
    | exc x h1 => rw [e] at q; exact q
    | ok v h1 =>
      rw [e, R.bind_ok] at q
      intro ρ1 H1 x e1 r1 d1
      cases e4 : toB v with
      | none => rw [e4] at q; exact q.elim
      | some k =>
        rw [e4] at q
        rw [toB_some e4] at d1
        exact ⟨k, d1, q ρ1 H1 _ e1 r1 rfl⟩
theorem me_one {op : BoolOp} (h : ME T X W a ma) : ME T X W (.BoolOp op [a] pos) ma := pe_one h
theorem me_and {rest : List Expr} (ha : ME T X W a ma) (hb : ME T X W (.BoolOp .And (b :: rest) pos) mb) : ME T X W (.BoolOp .And (a :: b :: rest) pos) (mAnd ma mb) :=
  PE.imp (pe_and ha hb) fun σ H Q ⟨w, ρ, env, h, s, q⟩ => by
    refine ⟨w, ρ, env, h, s, ?_⟩
    unfold mAnd at q
    cases e : ma env h with
    | stuck => rw [e] at q; exact q
    | exc x h1 => rw [e] at q; exact q
    | ok v h1 =>
      rw [e, R.bind_ok] at q
      intro ρ1 H1 x e1 r1 d1
      cases e4 : toB v with
      | none => rw [e4] at q; exact q.elim
      | some k =>
        rw [e4] at q
        rw [toB_some e4] at d1
        refine ⟨k, d1, ?_⟩
        cases k with
        | true => rw [if_pos rfl]; exact ⟨w, ρ1, env, h1, s.next e1 r1, Pst.ext (rel := RD) q e1⟩
        | false => rw [if_neg (by decide)]; exact q ρ1 H1 _ e1 r1 rfl
theorem me_or {rest : List Expr} (ha : ME T X W a ma) (hb : ME T X W (.BoolOp .Or (b :: rest) pos) mb) : ME T X W (.BoolOp .Or (a :: b :: rest) pos) (mOr ma mb) :=
  PE.imp (pe_or ha hb) fun σ H Q ⟨w, ρ, env, h, s, q⟩ => by
    refine ⟨w, ρ, env, h, s, ?_⟩
    unfold mOr at q
    cases e : ma env h with
    | stuck => rw [e] at q; exact q
    | exc x h1 => rw [e] at q; exact q
    | ok v h1 =>
      rw [e, R.bind_ok] at q
      intro ρ1 H1 x e1 r1 d1
      cases e4 : toB v with
      | none => rw [e4] at q; exact q.elim
      | some k =>
        rw [e4] at q
        rw [toB_some e4] at d1
        refine ⟨k, d1, ?_⟩
        cases k with
        | true => rw [if_pos rfl]; exact q ρ1 H1 _ e1 r1 rfl
        | false => rw [if_neg (by decide)]; exact ⟨w, ρ1, env, h1, s.next e1 r1, Pst.ext (rel := RD) q e1⟩
theorem me_if (hc : MT T X W c tc) (ha : ME T X W a ma) (hb : ME T X W b mb) : ME T X W (.IfExp c a b pos) (mIf tc ma mb) :=
  PE.imp (pe_ifExp hc ha hb) fun σ H Q ⟨w, ρ, env, h, s, q⟩ => by
    refine ⟨w, ρ, env, h, s, ?_⟩
    unfold mIf at q
    cases e : tc env h with
    | stuck => rw [e] at q; exact q
    | exc x h1 => rw [e] at q; exact q
    | ok v h1 =>
      rw [e, R.bind_ok] at q
      intro ρ1 H1 x e1 r1 d1
      subst d1
      cases v with
      | true => rw [if_pos rfl] at q ⊢; exact ⟨w, ρ1, env, h1, s.next e1 r1, q.ext e1⟩
      | false => rw [if_neg (by decide)] at q ⊢; exact ⟨w, ρ1, env, h1, s.next e1 r1, q.ext e1⟩
theorem me_chain {op op' : CmpOp} {f g : D → D → Hh → O} (ho : MOp T X (compareOp op) f) (ho' : MOp T X (compareOp op') g) (ha : ME T X W a ma) (hb : ME T X W b mb) (hc : ME T X W c mc)
    (hm : lastMarks [op, op'] [b, c] = false := by with_unfolding_all rfl) : ME T X W (.Compare a [op, op'] [b, c] pos) (mChain f g ma mb mc) :=
  PE.imp (pe_chain ho ho' ha hb hc hm) fun σ H Q ⟨w, ρ, env, h, s, q⟩ => by
    refine ⟨w, ρ, env, h, s, ?_⟩
    unfold mChain at q
    cases e : ma env h with
    | stuck => rw [e] at q; exact q
    | exc x h1 => rw [e] at q; exact q
    | ok v h1 =>
      rw [e, R.bind_ok] at q
      intro ρ1 H1 x e1 r1 d1
      refine ⟨w, ρ1, env, h1, s.next e1 r1, ?_⟩
      cases e' : mb env h1 with
      | stuck => rw [e'] at q; exact q
      | exc x h2 => rw [e'] at q; exact Pst.ext (rel := RD) q e1
      | ok u h2 =>
        rw [e', R.bind_ok] at q
        intro ρ2 H2 y e2 r2 d2
        refine ⟨w, ρ2, h2, v, u, s.g, r2, d1.mono e2, d2, ?_⟩
        cases e3 : f v u h2 with
        | none => rw [e3] at q; exact q
        | some p =>
          rw [e3, ofO_some, R.bind_ok] at q
          cases e4 : toB p.1 with
          | none => rw [e4] at q; exact q.elim
          | some k =>
            rw [e4] at q
            intro ρ3 H3 z e5 r3 d3
            rw [toB_some e4] at d3
            refine ⟨k, d3, ?_⟩
            cases k with
            | true =>
              rw [if_pos rfl]
              refine ⟨w, ρ3, env, p.2, (s.next e1 r1).next (e2.trans e5) r3, ?_⟩
              dsimp only at q
              cases e6 : mc env p.2 with
              | stuck => rw [e6] at q; exact q
              | exc x h2 => rw [e6] at q; exact Pst.ext (rel := RD) q ((e1.trans e2).trans e5)
              | ok t h4 =>
                rw [e6, R.bind_ok] at q
                intro ρ4 H4 t' e7 r4 d4
                exact ⟨w, ρ4, h4, u, t, s.g, r4, d2.mono (e5.trans e7), d4, (Pst.ofO q).ext (((e1.trans e2).trans e5).trans e7)⟩
            | false => rw [if_neg (by decide)]; exact q ρ3 H3 _ ((e1.trans e2).trans e5) r3 rfl
end
end Rf
namespace Rf
open PySem PySem.Spec PyProof.Rows L2

section
variable {T : List (Addr × Str)} {X : Cx} {W : WX} {a b c e : Expr} {es : List Expr} {ma mb mc : Me} {ta tb tc : Mt} {as : Ma} {pos : Pos}
/-! ### arguments, displays, calls -/
theorem ma_nil : MA T X W [] aNil := PA.imp pa_nil fun σ H Q ⟨w, ρ, env, h, s, q⟩ => q ρ H [] Ext.refl s.h rfl
theorem ma_cons (ha : ME T X W e ma) (hr : MA T X W es as) (hs : starEach (e :: es) X.env = (false, eval e X.env) :: starEach es X.env := by rfl) : MA T X W (e :: es) (aCons ma as) :=
  PA.imp (pa_cons ha hr hs) fun σ H Q ⟨w, ρ, env, h, s, q⟩ => by
    refine ⟨w, ρ, env, h, s, ?_⟩
    unfold aCons at q
    cases e : ma env h with
    | stuck => rw [e] at q; exact q
    | exc x h1 => rw [e] at q; exact q
    | ok v h1 =>
      rw [e, R.bind_ok] at q
      intro ρ1 H1 x e1 r1 d1
      refine ⟨w, ρ1, env, h1, s.next e1 r1, ?_⟩
      cases e' : as env h1 with
      | stuck => rw [e'] at q; exact q
      | exc x h2 => rw [e'] at q; exact Pst.ext (rel := RDs) q e1
      | ok u h2 =>
        rw [e', R.bind_ok] at q
        intro ρ2 H2 y e2 r2 d2
        exact q ρ2 H2 _ (e1.trans e2) r2 ⟨x, y, rfl, d1.mono e2, d2⟩
theorem mk_ok {w : Wd} {ρ : List (Option Addr)} {h : Hh} {H : Hp} {Q : VK} {mt : Bool} {ds : List D} {xs : List V} {p : Addr} (r : RH T w ρ h H) (rs : RDs w ρ H ds xs) (hp : H p = none) (v : Vst T w ρ H (mk mt ds h) Q) : Q (.ref p) (upd H p (.lst xs)) := by
  unfold mk at v
  cases mt with
  | true =>
    rw [if_pos rfl] at v
    obtain ⟨e, r', d⟩ := r.mut (o := .lst xs) (ob := .lst ds) hp fun e => ⟨xs, upd_same, rs.mono e⟩
    exact v _ _ _ e r' d
  | false =>
    rw [if_neg (by decide)] at v
    obtain ⟨e, r', f⟩ := r.frz hp (.lst xs)
    exact v _ _ _ e r' ⟨p, xs, rfl, f, .inl upd_same, rs.mono e⟩
theorem me_tup {k : Nat} (ha : MA T X W es as) : ME T X W (.Tuple es k pos) (mTup as) :=
  PE.imp (pe_tup ha) fun σ H Q ⟨w, ρ, env, h, s, q⟩ => by
    refine ⟨w, ρ, env, h, s, ?_⟩
    unfold mTup mF at q
    cases e : as env h with
    | stuck => rw [e] at q; exact q
    | exc x h1 => rw [e] at q; exact q
    | ok v h1 =>
      rw [e, R.bind_ok] at q
      intro ρ1 H1 x e1 r1 d1
      have q := (Pst.ofO q).ext e1
      dsimp only at q
      by_cases hl : v.length ≤ SZ
      · rw [if_pos hl] at q
        refine ⟨by rw [← d1.length, ← SZ_eq]; exact hl, fun p hp => ?_⟩
        obtain ⟨e, r', f⟩ := r1.frz hp (.tup x)
        exact q _ _ _ e r' ⟨p, x, rfl, upd_same, d1.mono e⟩
      · rw [if_neg hl] at q; exact q.elim
theorem me_lst (mt : Bool) (ha : MA T X W es as) : ME T X W (.List es pos) (mLst mt as) :=
  PE.imp (pe_lst ha) fun σ H Q ⟨w, ρ, env, h, s, q⟩ => by
    refine ⟨w, ρ, env, h, s, ?_⟩
    unfold mLst mF at q
    cases e : as env h with
    | stuck => rw [e] at q; exact q
    | exc x h1 => rw [e] at q; exact q
    | ok v h1 =>
      rw [e, R.bind_ok] at q
      intro ρ1 H1 x e1 r1 d1
      have q := (Pst.ofO q).ext e1
      dsimp only at q
      by_cases hl : v.length ≤ SZ
      · rw [if_pos hl] at q
        exact ⟨by rw [← d1.length, ← SZ_eq]; exact hl, fun p hp => mk_ok r1 d1 hp q⟩
      · rw [if_neg hl] at q; exact q.elim
/-- a built-in, called -/
theorem mF_tCB {r : List V → Hp → VK → Prop} {g : List D → Hh → O} {σ : L2.St} {H : Hp} {Q : VK} (q : tM T X W (mF g as) σ H Q) : tCB (rF1 T X g) (tAm T X W as) σ H Q := by
  obtain ⟨w, ρ, env, h, s, q⟩ := q
  refine ⟨w, ρ, env, h, s, ?_⟩
  unfold mF at q
  cases e : as env h with
  | stuck => rw [e] at q; exact q
  | exc x h1 => rw [e] at q; exact q
  | ok v h1 =>
    rw [e, R.bind_ok] at q
    intro ρ1 H1 x e1 r1 d1
    exact ⟨w, ρ1, h1, v, s.g, r1, d1, (Pst.ofO q).ext e1⟩
theorem me_callB {id : String} {x : Str} {p : Pos} {g : List D → Hh → O} (hc : MFn T X (.builtin id) g) (hg : Gl X x) (hm : X.mg x = none) (hv : bootBuiltins x = some (.builtin id)) (ha : MA T X W (e :: es) as) (hn : x ≠ "__name__" := by decide) (hdb : (x == ("__debug__" : Str)) = false := by decide)
    (he : starEach (e :: es) X.env = (false, eval e X.env) :: starEach es X.env := by rfl) (hpl : (backTo pos (starEach es X.env)).any (·.1) = false := by rfl) : ME T X W (.Call (.Name x p) (e :: es) [] pos) (mF g as) :=
  PE.imp (pe_callB hc hg hm hv ha hn hdb he hpl) fun σ H Q q => mF_tCB (r := rF1 T X g) q
theorem me_callTy {id : String} {x : Str} {p : Pos} {g : List D → Hh → O} (hc : MFn T X (.type id) g) (hg : Gl X x) (hm : X.mg x = none) (hv : bootBuiltins x = some (.type id)) (ha : MA T X W (e :: es) as) (hn : x ≠ "__name__" := by decide) (hdb : (x == ("__debug__" : Str)) = false := by decide)
    (he : starEach (e :: es) X.env = (false, eval e X.env) :: starEach es X.env := by rfl) (hpl : (backTo pos (starEach es X.env)).any (·.1) = false := by rfl) : ME T X W (.Call (.Name x p) (e :: es) [] pos) (mF g as) :=
  PE.imp (pe_callTy hc hg hm hv ha hn hdb he hpl) fun σ H Q q => mF_tCB (r := rF1 T X g) q

/-- a def's promise: it does what F does -/
def spF (T : List (Addr × Str)) (K : PySem.W.Frag) (mg : Str → Option Value) (wo : World) (n : Nat) (F : List D → Hh → R D) : Sp := fun vs H Q E =>
  ∃ w ρ h ds, w.g = ⟨mg, wo⟩ ∧ ds.length = n ∧ RDs w ρ H ds vs ∧ RH T w ρ h H ∧ Pst T w ρ H RD (F ds h) Q fun e H' => E (clsV K e) none H'
/-- the def that the module's name x holds does what F does -/
structure Df (T : List (Addr × Str)) (P : Program) (w : World) (K : PySem.W.Frag) (mg : Str → Option Value) (base : Heap) (x : Str) (k : Nat) (ps : List Str) (F : List D → Hh → R D) : Prop where
  ok : ∃ fd, FnOk P w K mg base (L2N.CX P w) k (He.ga K x) fd ps (spF T K mg w ps.length F) ∧ Binds K fd ps [] ∧ ∃ (oc : Value) (od : Option Addr) (osl : Array (Option Value)), K.lookup (He.ga K x) = some ⟨oc, od, .func fd, osl⟩
  g : mg x = some (.ref (He.ga K x))
  kp : PySem.W.keepIn K (.ref (He.ga K x)) = true
theorem passAtW (tk : L2N.Takes X W) (σ : L2.St) : PassesAt (L2N.CX X.prog X.w) X σ (WE W σ) := L2N.passAt tk σ
/-- a call, with what is known of its arguments -/
theorem me_call {x : Str} {k : Nat} {ps : List Str} {F : List D → Hh → R D} {p : Pos} (d : Df T X.prog X.w X.K X.mg X.base x k ps F) (hr : Room k X.A) (tk : L2N.Takes X W) (hg : Gl X x) (ha : MA T X W (e :: es) as) (hn : ∀ env h xs h', as env h = .ok xs h' → xs.length = ps.length)
    (hdb : (x == ("__debug__" : Str)) = false := by decide) (he : starEach (e :: es) X.env = (false, eval e X.env) :: starEach es X.env := by rfl) (hpl : (backTo pos (starEach es X.env)).any (·.1) = false := by rfl) :
    ME T X W (.Call (.Name x p) (e :: es) [] pos) (mCall F as) := by
  obtain ⟨fd, ok, b, _⟩ := d.ok
  refine PE.imp (pe_callS ok hr hg d.g d.kp b (fun σ => passAtW tk σ) ha hdb he hpl) fun σ H Q ⟨w, ρ, env, h, s, q⟩ => ?_
  refine ⟨w, ρ, env, h, s, ?_⟩
  unfold mCall at q
  cases e : as env h with
  | stuck => rw [e] at q; exact q
  | exc x h1 => rw [e] at q; exact q
  | ok v h1 =>
    rw [e, R.bind_ok] at q
    intro ρ1 H1 x e1 r1 d1
    exact ⟨w, ρ1, h1, v, s.g, hn _ _ _ _ e, d1, r1, q.ext e1⟩
/-- the world of a def that knows nothing of ours -/
def Wd.hide (w : Wd) (ρ : List (Option Addr)) : Wd := { g := w.g, π := fun a => w.π a ∨ w.δ a ∨ some a ∈ ρ, δ := fun _ => False }
mutual
theorem RD.hide {w : Wd} {ρ : List (Option Addr)} {H : Hp} : ∀ {d : D} {v : V}, noref d = true → RD w ρ H d v → RD (w.hide ρ) [] H d v
  | .non, _, _, h => h
  | .bl _, _, _, h => h
  | .int _, _, _, h => h
  | .str _, _, _, h => h
  | .tup ds, v, l, h => by
    obtain ⟨a, xs, ev, r, q⟩ := h
    exact ⟨a, xs, ev, r, RDs.hide l q⟩
  | .lst ds, v, l, h => by
    obtain ⟨a, xs, ev, f, r, q⟩ := h
    exact ⟨a, xs, ev, ⟨by simp, fun z => z.elim f.2.1 fun z => z.elim f.2.2 f.1, fun z => z⟩, r, RDs.hide l q⟩
  | .dct false ks vs, v, l, h => by
    obtain ⟨a, xs, ys, ev, f, k1, l1, r, q⟩ := h
    exact ⟨a, xs, ys, ev, ⟨by simp, fun z => z.elim f.2.1 fun z => z.elim f.2.2 f.1, fun z => z⟩, k1, l1, r, RDs.hide l q⟩
  | .dct true ks vs, v, l, h => by
    obtain ⟨a, xs, ys, ev, f, k1, l1, r, q⟩ := h
    exact ⟨a, xs, ys, ev, ⟨by simp, fun z => z.elim f.2.1 fun z => z.elim f.2.2 f.1, fun z => z⟩, k1, l1, r, RDs.hide l q⟩
  | .ref n, v, l, h => by cases l
  | .fn _, _, _, h => h
theorem RDs.hide {w : Wd} {ρ : List (Option Addr)} {H : Hp} : ∀ {ds : List D} {xs : List V}, norefs ds = true → RDs w ρ H ds xs → RDs (w.hide ρ) [] H ds xs
  | [], _, _, h => h
  | _ :: _, _, l, h => by
    obtain ⟨x, r, ex, h1, h2⟩ := h
    have l' := l
    simp only [norefs, Bool.and_eq_true] at l'
    exact ⟨x, r, ex, RD.hide l'.1 h1, RDs.hide l'.2 h2⟩
end
mutual
theorem RD.unhide {w : Wd} {ρ ρ' : List (Option Addr)} {H : Hp} (hl : ρ' = []) : ∀ {d : D} {v : V}, RD (w.hide ρ) ρ' H d v → RD w ρ H d v
  | .non, _, h => h
  | .bl _, _, h => h
  | .int _, _, h => h
  | .str _, _, h => h
  | .tup ds, v, h => by
    obtain ⟨a, xs, ev, r, q⟩ := h
    exact ⟨a, xs, ev, r, RDs.unhide hl q⟩
  | .lst ds, v, h => by
    obtain ⟨a, xs, ev, f, r, q⟩ := h
    exact ⟨a, xs, ev, ⟨fun z => f.2.1 (.inr (.inr z)), fun z => f.2.1 (.inl z), fun z => f.2.1 (.inr (.inl z))⟩, r, RDs.unhide hl q⟩
  | .dct false ks vs, v, h => by
    obtain ⟨a, xs, ys, ev, f, k1, l1, r, q⟩ := h
    exact ⟨a, xs, ys, ev, ⟨fun z => f.2.1 (.inr (.inr z)), fun z => f.2.1 (.inl z), fun z => f.2.1 (.inr (.inl z))⟩, k1, l1, r, RDs.unhide hl q⟩
  | .dct true ks vs, v, h => by
    obtain ⟨a, xs, ys, ev, f, k1, l1, r, q⟩ := h
    exact ⟨a, xs, ys, ev, ⟨fun z => f.2.1 (.inr (.inr z)), fun z => f.2.1 (.inl z), fun z => f.2.1 (.inr (.inl z))⟩, k1, l1, r, RDs.unhide hl q⟩
  | .ref n, v, h => by
    have := h.1
    rw [hl] at this
    simp at this
  | .fn _, _, h => h
theorem RDs.unhide {w : Wd} {ρ ρ' : List (Option Addr)} {H : Hp} (hl : ρ' = []) : ∀ {ds : List D} {xs : List V}, RDs (w.hide ρ) ρ' H ds xs → RDs w ρ H ds xs
  | [], _, h => h
  | _ :: _, _, h => by
    obtain ⟨x, r, ex, h1, h2⟩ := h
    exact ⟨x, r, ex, RD.unhide hl h1, RDs.unhide hl h2⟩
end
theorem RH.hide {w : Wd} {ρ : List (Option Addr)} {h : Hh} {H : Hp} (r : RH T w ρ h H) : RH T (w.hide ρ) [] [] H :=
  ⟨rfl, fun n m a z => by simp at z, fun n a z => by simp at z, fun n ob z => by simp at z, fun a z => by
    rcases z with z | z
    · rcases z with z | z | z
      · exact r.trk a (.inl z)
      · exact r.trk a (.inr z)
      · obtain ⟨o, e, _⟩ := r.at z
        rw [e]; simp
    · exact z.elim, r.tabs⟩
/-- back in our world -/
theorem Ext.unhide {w : Wd} {ρ ρ' : List (Option Addr)} {h h' : Hh} {H H' : Hp} (r : RH T w ρ h H) (e : Ext (w.hide ρ) [] H ρ' H') (r' : RH T (w.hide ρ) ρ' h' H') : Ext w ρ H ρ H' ∧ RH T w ρ h H' := by
  have e' : Ext w ρ H ρ H' := ⟨Nat.le_refl _, fun _ _ _ z => z, fun _ z => .inl z, e.there, e.fixs, fun a u z _ _ q => e.keep a u z (by simp) (fun z => z) q, fun a u z hp _ _ q => e.keepP a u z (.inl hp) (by simp) (fun z => z) q⟩
  refine ⟨e', ⟨r.len, r.inj, fun n a z => ?_, r.live, fun a z => e.there a (r.trk a z), r'.tabs⟩⟩
  obtain ⟨h1, h2, ob, h3, h4⟩ := r.obj n a z
  obtain ⟨u, eu, ok⟩ := h4.ok
  exact ⟨h1, h2, ob, h3, h4.mono e' (by rw [eu]; exact e.keepP a u eu (.inr (.inr (List.mem_of_getElem? z))) (by simp) (fun z => z) fun ps z => by subst z; exact ok)⟩
/-- .. a def that changes nothing of ours -/
theorem Df.pure {P : Program} {wo : World} {K : PySem.W.Frag} {mg : Str → Option Value} {base : Heap} {x : Str} {k : Nat} {ps : List Str} {F : List D → Hh → R D} (d : Df T P wo K mg base x k ps F) (hF : ∀ ds v h', F ds [] = .ok v h' → h' = []) (hX : ∀ ds v h', F ds [] = .exc v h' → h' = []) : Df T P wo K mg base x k ps (pure1 F) := by
  obtain ⟨⟨fd, ok, b⟩, g, kp⟩ := d
  refine ⟨⟨fd, ok.imp fun vs H Q E ⟨w, ρ, h, ds, e1, e2, e3, r, q⟩ => ?_, b⟩, g, kp⟩
  unfold pure1 at q
  cases hn : norefs ds with
  | false => rw [hn] at q; exact q.elim
  | true =>
    rw [hn] at q
    refine ⟨w.hide ρ, [], [], ds, e1, e2, RDs.hide hn e3, r.hide, ?_⟩
    dsimp only at q
    cases e : F ds [] with
    | stuck => rw [e] at q; exact q
    | exc x h1 =>
      rw [e] at q
      rw [hX _ _ _ e]
      intro ρ' H' e' r'
      obtain ⟨e2, r2⟩ := e'.unhide r r'
      exact q ρ H' e2 r2
    | ok v h1 =>
      rw [e] at q
      rw [hF _ _ _ e]
      intro ρ' H' y e' r' d'
      obtain ⟨e2, r2⟩ := e'.unhide r r'
      have hl : ρ' = [] := List.eq_nil_of_length_eq_zero (by rw [r'.len]; rfl)
      exact q ρ H' y e2 r2 (RD.unhide hl d')
theorem finR_low {k : Nat} {v v' : D} {h h' : Hh} (e : finR k v h = .ok v' h') : h' = h.take k := by
  unfold finR at e
  split at e
  · split at e
    · cases e; rfl
    · cases e
  · cases e
theorem finR_no {k : Nat} {v : D} {h h' : Hh} {x : Ex} : finR k v h ≠ .exc x h' := by
  intro e
  unfold finR at e
  split at e
  · split at e <;> cases e
  · cases e
theorem finX_low {k : Nat} {x x' : Ex} {h h' : Hh} (e : finX k x h = .exc x' h') : h' = h.take k := by
  unfold finX at e
  split at e
  · cases e; rfl
  · cases e
theorem finX_no {k : Nat} {x : Ex} {h h' : Hh} {v : D} : finX k x h ≠ .ok v h' := by
  intro e
  unfold finX at e
  split at e <;> cases e
theorem runF_nil {n : Nat} {m : Ms} {ds : List D} {v : D} {h' : Hh} (e : runF n m ds [] = .ok v h') : h' = [] := by
  unfold runF at e
  split at e
  · have := finR_low e; simpa using this
  · have := finR_low e; simpa using this
  · exact absurd e finX_no
  · cases e
theorem runF_nilX {n : Nat} {m : Ms} {ds : List D} {v : Ex} {h' : Hh} (e : runF n m ds [] = .exc v h') : h' = [] := by
  unfold runF at e
  split at e
  · exact absurd e finR_no
  · exact absurd e finR_no
  · have := finX_low e; simpa using this
  · cases e
end
end Rf
namespace Rf
open PySem PySem.Spec PyProof.Rows L2

/-- a body's context -/
structure Bd (X : Cx) (W : WX) : Prop where
  calm : X.calm = true
  own : PassesOwn (model X.prog X.w) X.A X.env X.xe
  tk : L2N.Takes X W
  nd : X.N.Nodup

section
variable {T : List (Addr × Str)} {X : Cx} {W : WX} {a b c e : Expr} {es : List Expr} {ma mb mc : Me} {ta tb tc : Mt} {as : Ma} {pos : Pos} {st : Stmt} {sts : List Stmt} {s1 s2 : Ms}
/-! ### targets -/
/-- all slots but some are as they were -/
def Agree (vs : List Nat) (σ σ' : L2.St) : Prop := σ'.length = σ.length ∧ ∀ i, i ∉ vs → σ'[i]? = σ[i]?
theorem Agree.refl {vs : List Nat} {σ : L2.St} : Agree vs σ σ := ⟨rfl, fun _ _ => rfl⟩
theorem Agree.trans {vs : List Nat} {σ σ1 σ2 : L2.St} (a : Agree vs σ σ1) (b : Agree vs σ1 σ2) : Agree vs σ σ2 := ⟨b.1.trans a.1, fun i h => (b.2 i h).trans (a.2 i h)⟩
theorem Agree.set {vs : List Nat} {σ : L2.St} {i : Nat} {x : Option V} (h : i ∈ vs) : Agree vs σ (σ.set i x) := ⟨by simp, fun j hj => by
  rw [List.getElem?_set_ne]
  intro e
  subst e
  exact hj h⟩
def tG (T : List (Addr × Str)) (X : Cx) (is : List Nat) (g : Mg) : TG := fun v σ H Q => ∃ w ρ env h d, Gd T (gw X) w ρ env h σ H ∧ RD w ρ H d v ∧
  match g d env h with
  | some p => ∀ ρ' H' σ', Ext w ρ H ρ' H' → RH T w ρ' p.2 H' → RE w ρ' H' p.1 σ' → Agree is σ σ' → Q σ' H'
  | none => False
def tGs (T : List (Addr × Str)) (X : Cx) (is : List Nat) (g : List D → Ev → Hh → Option (Ev × Hh)) : TGs := fun vs σ H Q => ∃ w ρ env h ds, Gd T (gw X) w ρ env h σ H ∧ RDs w ρ H ds vs ∧
  match g ds env h with
  | some p => ∀ ρ' H' σ', Ext w ρ H ρ' H' → RH T w ρ' p.2 H' → RE w ρ' H' p.1 σ' → Agree is σ σ' → Q σ' H'
  | none => False
def MG (T : List (Addr × Str)) (X : Cx) (is : List Nat) (e : Expr) (g : Mg) : Prop := PG X e (tG T X is g)
def MGs (T : List (Addr × Str)) (X : Cx) (is : List Nat) (es : List Expr) (g : List D → Ev → Hh → Option (Ev × Hh)) : Prop := PGs X es (tGs T X is g)
theorem PG.imp {e : Expr} {t t' : TG} (p : PG X e t) (h : ∀ v σ H Q, t' v σ H Q → t v σ H Q) : PG X e t' := ⟨fun pins s σ H v u Q I r q => p.run pins s σ H v u Q I r (h v σ H Q q)⟩
theorem PGs.imp {e : List Expr} {t t' : TGs} (p : PGs X e t) (h : ∀ v σ H Q, t' v σ H Q → t v σ H Q) : PGs X e t' := ⟨fun pins s σ H v u Q I r q => p.run pins s σ H v u Q I r (h v σ H Q q)⟩
theorem mg_name {is : List Nat} {i : Nat} {x : Str} (hN : X.N.Nodup) (hi : X.N[i]? = some x) (hx : Loc X.env.scope x) (hf : X.fn x = true ∨ X.env.scope.names.lookup x = some .local := by first | exact .inl rfl | exact .inr rfl | assumption) (hm : i ∈ is := by decide) : MG T X is (.Name x pos) (gN i) :=
  PG.imp (pg_name hN hi hx hf) fun v σ H Q ⟨w, ρ, env, h, d, s, r, q⟩ => q ρ H _ Ext.refl s.h (s.e.set i r) (Agree.set hm)
theorem mgs_nil {is : List Nat} : MGs T X is [] gsNil := PGs.imp pgs_nil fun v σ H Q ⟨w, ρ, env, h, ds, s, r, q⟩ => by
  unfold gsNil at q
  cases ds with
  | nil => exact ⟨r, q ρ H σ Ext.refl s.h s.e Agree.refl⟩
  | cons d ds => exact q.elim
theorem mgs_cons {is : List Nat} {g : Mg} {gs : List D → Ev → Hh → Option (Ev × Hh)} (h1 : MG T X is e g) (h2 : MGs T X is es gs) (hs : (assignEach (e :: es) X.env).map (·.2) = assign e X.env :: (assignEach es X.env).map (·.2) := by rfl) : MGs T X is (e :: es) (gsCons g gs) :=
  PGs.imp (pgs_cons h1 h2 hs) fun v σ H Q ⟨w, ρ, env, h, ds, s, r, q⟩ => by
    unfold gsCons at q
    cases ds with
    | nil => exact q.elim
    | cons d ds =>
      obtain ⟨x, xs, rfl, r1, r2⟩ := r
      refine ⟨x, xs, rfl, w, ρ, env, h, d, s, r1, ?_⟩
      dsimp only at q
      cases e : g d env h with
      | none => rw [e] at q; exact q
      | some p =>
        rw [e, Option.bind_some] at q
        intro ρ' H' σ' e1 rh re ag
        refine ⟨w, ρ', p.1, p.2, ds, ⟨s.g, re, rh⟩, r2.mono e1, ?_⟩
        cases e2 : gs ds p.1 p.2 with
        | none => rw [e2] at q; exact q
        | some p2 =>
          rw [e2] at q
          exact fun ρ2 H2 σ2 e3 rh2 re2 ag2 => q ρ2 H2 σ2 (e1.trans e3) rh2 re2 (ag.trans ag2)
theorem Fz_of_rd {w : Wd} {ρ : List (Option Addr)} {H : Hp} {K : PySem.W.Frag} {a : Addr} {xs : List V} (h : Rd H a (.tup xs)) : SqT K H a xs := .inl h
theorem mg_tup {is : List Nat} {k : Nat} {gs : List D → Ev → Hh → Option (Ev × Hh)} {n : Nat} (hc : X.calm = true) (h : MGs T X is es gs) (hn : (assignEach es X.env).length = n := by rfl) (hst : (assignEach es X.env).findIdx? (·.1) = none := by rfl) : MG T X is (.Tuple es k pos) (gTup n gs) :=
  PG.imp (pg_tup hc h hn hst) fun v σ H Q ⟨w, ρ, env, h, d, s, r, q⟩ => by
    unfold gTup at q
    cases d with
    | tup ds =>
      obtain ⟨a, xs, rfl, rd, rs⟩ := r
      dsimp only at q
      by_cases hl : ds.length = n
      · rw [if_pos hl] at q
        exact ⟨a, xs, rfl, .inl (.inl rd), by rw [← rs.length]; exact hl, w, ρ, env, h, ds, s, rs, q⟩
      · rw [if_neg hl] at q; exact q.elim
    | _ => exact q.elim
/-- o[i] = .., by values: the store -/
abbrev Mst := D → D → D → Hh → Option Hh
def rSt (T : List (Addr × Str)) (X : Cx) (f : Mst) : TSet := fun o i v H Q => ∃ w ρ h a b c, w.g = gw X ∧ RH T w ρ h H ∧ RD w ρ H a o ∧ RD w ρ H b i ∧ RD w ρ H c v ∧
  match f a b c h with
  | some h' => ∀ ρ' H', Ext w ρ H ρ' H' → RH T w ρ' h' H' → Q H'
  | none => False
def MSt (T : List (Addr × Str)) (X : Cx) (f : Mst) : Prop := PSet X (rSt T X f)
def ofR : R D → O
  | .ok d h => some (d, h)
  | _ => none
def gSubM (o i : Me) (f : Mst) : Mg := fun d env h => (ofR (o env h)).bind fun p => (ofR (i env p.2)).bind fun q => (f p.1 q.1 d q.2).map fun h' => (env, h')
theorem mg_sub {is : List Nat} {o i : Expr} {mo mi : Me} {f : Mst} (ho : ME T X W o mo) (hi : ME T X W i mi) (hs : MSt T X f)
    (ha : ∀ v, assign (.Subscript o i pos) X.env v = (do
      let ov ← holding [v] (eval o X.env)
      let iv ← holding [v, ov] (eval i X.env)
      standAt pos
      holding [v, ov, iv] (setItem ov iv v)
      release [v, ov, iv] []) := by intro _; rfl) : MG T X is (.Subscript o i pos) (gSubM mo mi f) :=
  PG.imp (pg_sub ho hi hs ha) fun v σ H Q ⟨w, ρ, env, h, d, s, r, q⟩ => by
    unfold gSubM at q
    refine ⟨w, ρ, env, h, s, ?_⟩
    cases e : mo env h with
    | stuck => rw [e] at q; exact q
    | exc x h1 => rw [e] at q; exact q.elim
    | ok u h1 =>
      rw [e] at q
      intro ρ1 H1 x e1 r1 d1
      refine ⟨w, ρ1, env, h1, s.next e1 r1, ?_⟩
      simp only [ofR, Option.bind_some] at q
      cases e' : mi env h1 with
      | stuck => rw [e'] at q; exact q
      | exc x h2 => rw [e'] at q; exact q.elim
      | ok u2 h2 =>
        rw [e'] at q
        intro ρ2 H2 y e2 r2 d2
        refine ⟨w, ρ2, h2, u, u2, d, s.g, r2, d1.mono e2, d2, r.mono (e1.trans e2), ?_⟩
        simp only [ofR, Option.bind_some] at q
        cases e3 : f u u2 d h2 with
        | none => rw [e3] at q; exact q
        | some h3 =>
          rw [e3] at q
          intro ρ3 H3 e4 r3
          exact q ρ3 H3 σ ((e1.trans e2).trans e4) r3 (s.e.mono ((e1.trans e2).trans e4)) Agree.refl

/-! ### statements -/
theorem Sst.ext {w : Wd} {ρ ρ' : List (Option Addr)} {σ σ' : L2.St} {H H' : Hp} {f : Fl} {Dd : Ends} (p : Sst T X W w ρ σ H f Dd) (e : Ext w ρ H ρ' H') : Sst T X W w ρ' σ' H' f Dd := by
  cases f with
  | nx env h => exact fun ρ2 H2 σ2 e2 r2 q => p ρ2 H2 σ2 (e.trans e2) r2 q
  | bk env h => exact fun ρ2 H2 σ2 e2 r2 q => p ρ2 H2 σ2 (e.trans e2) r2 q
  | ct env h => exact fun ρ2 H2 σ2 e2 r2 q => p ρ2 H2 σ2 (e.trans e2) r2 q
  | rt v h => exact fun ρ2 H2 σ2 e2 r2 q => p ρ2 H2 σ2 (e.trans e2) r2 q
  | exc x h => exact fun ρ2 H2 σ2 e2 r2 => p ρ2 H2 σ2 (e.trans e2) r2
  | stuck => exact p
theorem Gd.envs {w : Wd} {ρ ρ' : List (Option Addr)} {env env' : Ev} {h h' : Hh} {σ σ' : L2.St} {H H' : Hp} {g : GW} (s : Gd T g w ρ env h σ H) (r : RH T w ρ' h' H') (q : RE w ρ' H' env' σ') : Gd T g w ρ' env' h' σ' H' := ⟨s.g, q, r⟩
theorem mss_nil : MSs T X W [] sNil := PSs.imp pss_nil fun D σ H ⟨w, ρ, env, h, s, q⟩ => q ρ H σ Ext.refl s.h s.e
theorem mss_cons (h1 : MS T X W st s1) (h2 : MSs T X W sts s2) : MSs T X W (st :: sts) (sSeq s1 s2) :=
  PSs.imp (pss_cons h1 h2) fun D σ H ⟨w, ρ, env, h, s, q⟩ => by
    refine ⟨w, ρ, env, h, s, ?_⟩
    unfold sSeq at q
    cases e : s1 env h with
    | nx env1 h1 =>
      rw [e, Fl.then_nx] at q
      intro ρ1 H1 σ1 e1 r1 re
      exact ⟨w, ρ1, env1, h1, s.envs r1 re, q.ext e1⟩
    | rt v h1 => rw [e] at q; exact q
    | bk v h1 => rw [e] at q; exact q
    | ct v h1 => rw [e] at q; exact q
    | exc v h1 => rw [e] at q; exact q
    | stuck => rw [e] at q; exact q
theorem mss_one (h1 : MS T X W st s1) : MSs T X W [st] s1 := pss_one h1
theorem ms_pass : MS T X W (.Pass pos) sNil := PS.imp ps_pass fun D σ H ⟨w, ρ, env, h, s, q⟩ => q ρ H σ Ext.refl s.h s.e
theorem ms_break : MS T X W (.Break pos) sBreak := PS.imp ps_break fun D σ H ⟨w, ρ, env, h, s, q⟩ => q ρ H σ Ext.refl s.h s.e
theorem ms_continue : MS T X W (.Continue pos) sCont := PS.imp ps_continue fun D σ H ⟨w, ρ, env, h, s, q⟩ => q ρ H σ Ext.refl s.h s.e
theorem ms_expr (he : ME T X W e ma) (hs : swapsWith e none pos.line X.env = pure false := by rfl) : MS T X W (.Expr e pos) (sExpr ma) :=
  PS.imp (ps_expr he hs) fun D σ H ⟨w, ρ, env, h, s, q⟩ => by
    refine ⟨w, ρ, env, h, s, ?_⟩
    unfold sExpr at q
    cases e : ma env h with
    | stuck => rw [e] at q; exact q
    | exc x h1 => rw [e] at q; exact fun ρ' H' e1 r1 => q ρ' H' σ e1 r1
    | ok v h1 =>
      rw [e, R.fl_ok] at q
      intro ρ1 H1 x e1 r1 d1
      exact q ρ1 H1 σ e1 r1 (s.e.mono e1)
theorem ms_ret (he : ME T X W e ma) : MS T X W (.Return (some e) pos) (sRet ma) :=
  PS.imp (ps_ret he) fun D σ H ⟨w, ρ, env, h, s, q⟩ => by
    refine ⟨w, ρ, env, h, s, ?_⟩
    unfold sRet at q
    cases e : ma env h with
    | stuck => rw [e] at q; exact q
    | exc x h1 => rw [e] at q; exact fun ρ' H' e1 r1 => q ρ' H' σ e1 r1
    | ok v h1 =>
      rw [e, R.fl_ok] at q
      exact q
theorem ms_retN : MS T X W (.Return none pos) sRetN := PS.imp ps_retN fun D σ H ⟨w, ρ, env, h, s, q⟩ => q ρ H .non Ext.refl s.h rfl
theorem ms_if {x y : List Stmt} (hc : MT T X W c tc) (h1 : MSs T X W x s1) (h2 : MSs T X W y s2) : MS T X W (.If c x y pos) (sIf tc s1 s2) :=
  PS.imp (ps_if hc h1 h2) fun D σ H ⟨w, ρ, env, h, s, q⟩ => by
    refine ⟨w, ρ, env, h, s, ?_⟩
    unfold sIf at q
    cases e : tc env h with
    | stuck => rw [e] at q; exact q
    | exc x h1 => rw [e] at q; exact fun ρ' H' e1 r1 => q ρ' H' σ e1 r1
    | ok v h1 =>
      rw [e, R.fl_ok] at q
      intro ρ1 H1 x e1 r1 d1
      subst d1
      cases v with
      | true => rw [if_pos rfl] at q ⊢; exact ⟨w, ρ1, env, h1, s.next e1 r1, q.ext e1⟩
      | false => rw [if_neg (by decide)] at q ⊢; exact ⟨w, ρ1, env, h1, s.next e1 r1, q.ext e1⟩
theorem asg_imp {is : List Nat} {g : Mg} {σ : L2.St} {H : Hp} {Dd : Ends} (q : tS T X W (sAsg ma g) Dd σ H) : tAsg (tM T X W ma) (tG T X is g) Dd σ H := by
  obtain ⟨w, ρ, env, h, s, q⟩ := q
  refine ⟨w, ρ, env, h, s, ?_⟩
  unfold sAsg at q
  cases e : ma env h with
  | stuck => rw [e] at q; exact q
  | exc x h1 => rw [e] at q; exact fun ρ' H' e1 r1 => q ρ' H' σ e1 r1
  | ok v h1 =>
    rw [e, R.fl_ok] at q
    intro ρ1 H1 x e1 r1 d1
    refine ⟨w, ρ1, env, h1, v, s.next e1 r1, d1, ?_⟩
    cases e2 : g v env h1 with
    | none => rw [e2] at q; exact q
    | some p =>
      rw [e2] at q
      exact fun ρ2 H2 σ2 e3 r3 re _ => q ρ2 H2 σ2 (e1.trans e3) r3 re
theorem ms_set {i : Nat} {x : Str} {pos' : Pos} (hN : X.N.Nodup) (hi : X.N[i]? = some x) (hx : Loc X.env.scope x) (he : ME T X W e ma) (hs : swapsWith e (some (.Name x pos')) pos.line X.env = pure false := by rfl) (hf : X.fn x = true ∨ X.env.scope.names.lookup x = some .local := by first | exact .inl rfl | exact .inr rfl | assumption) :
    MS T X W (.Assign [.Name x pos'] e pos) (sAsg ma (gN i)) :=
  PS.imp (ps_set hN hi hx he hs hf) fun D σ H q => by
    have z := asg_imp (is := [i]) q
    obtain ⟨w, ρ, env, h, s, z⟩ := z
    refine ⟨w, ρ, env, h, s, ?_⟩
    cases e : ma env h with
    | stuck => rw [e] at z; exact z
    | exc x h1 => rw [e] at z; exact z
    | ok v h1 =>
      rw [e] at z
      intro ρ1 H1 x e1 r1 d1
      obtain ⟨w2, ρ2, env2, h2, d2, s2, r2, z2⟩ := z ρ1 H1 x e1 r1 d1
      exact z2 ρ2 H1 _ Ext.refl s2.h (s2.e.set i r2) (Agree.set (by simp))
theorem ms_asg {is : List Nat} {tg : Expr} {g : Mg} (he : ME T X W e ma) (hg : MG T X is tg g) (hs : swapsWithSole [tg] e pos.line X.env = pure false := by rfl) (hw : swappedStores [tg] e X.env = pure none := by rfl) (h1 : (assignEach [tg] X.env).map (·.2) = [assign tg X.env] := by rfl) :
    MS T X W (.Assign [tg] e pos) (sAsg ma g) := PS.imp (ps_asg he hg hs hw h1) fun D σ H q => asg_imp q
/-- a, b = x, y -/
def sPar (i j : Nat) (as : Ma) : Ms := fun env h => (as env h).fl fun vs h1 => match vs with
  | [v, w] => .nx ((env.set i (some v)).set j (some w)) h1
  | _ => .stuck
theorem ms_par {i j : Nat} {x y : Str} {px py pt : Pos} {kt k2 : Nat} {pt2 : Pos} (hc : X.calm = true) (hN : X.N.Nodup) (hi : X.N[i]? = some x) (hj : X.N[j]? = some y) (hij : i ≠ j) (hx : X.env.scope.names.lookup x = some .local) (hy : X.env.scope.names.lookup y = some .local) (ha : MA T X W [a, b] as)
    (hw : swappedStores [.Tuple [.Name x px, .Name y py] kt pt] (.Tuple [a, b] k2 pt2) X.env = pure (some [x, y])) (hs : swapsWithSole [.Tuple [.Name x px, .Name y py] kt pt] (.Tuple [a, b] k2 pt2) pos.line X.env = pure false := by rfl) :
    MS T X W (.Assign [.Tuple [.Name x px, .Name y py] kt pt] (.Tuple [a, b] k2 pt2) pos) (sPar i j as) :=
  PS.imp (ps_par hc hN hi hj hij hx hy ha hw hs) fun D σ H ⟨w, ρ, env, h, s, q⟩ => by
    refine ⟨w, ρ, env, h, s, ?_⟩
    unfold sPar at q
    cases e : as env h with
    | stuck => rw [e] at q; exact q
    | exc x h1 => rw [e] at q; exact fun ρ' H' e1 r1 => q ρ' H' σ e1 r1
    | ok v h1 =>
      rw [e, R.fl_ok] at q
      intro ρ1 H1 x e1 r1 d1
      match v, q, d1 with
      | [], q, d1 => exact q.elim
      | [_], q, d1 => exact q.elim
      | _ :: _ :: _ :: _, q, d1 => exact q.elim
      | [v, u], q, d1 =>
        obtain ⟨x1, r, rfl, d2, x2, r2, rfl, d3, d4⟩ := d1
        have d4 : r2 = [] := d4
        subst d4
        exact ⟨x1, x2, rfl, q ρ1 H1 _ e1 r1 (((s.e.mono e1).set i d2).set j d3)⟩
/-- x op= e -/
def sAug (i : Nat) (m : Me) (g : D → D → Hh → O) : Ms := fun env h => match env[i]? with
  | some (some x) => (m env h).fl fun y h1 => match g x y h1 with
    | some p => .nx (env.set i (some p.1)) p.2
    | none => .stuck
  | _ => .stuck
theorem ms_aug {i : Nat} {x : Str} {op : Operator} {g : D → D → Hh → O} {pos' : Pos} (hN : X.N.Nodup) (hi : X.N[i]? = some x) (hx : Loc X.env.scope x) (he : ME T X W e ma) (ho : MOp T X (inplaceOp op) g) (hf : X.fn x = true ∨ X.env.scope.names.lookup x = some .local := by first | exact .inl rfl | exact .inr rfl | assumption) :
    MS T X W (.AugAssign (.Name x pos') op e pos) (sAug i ma g) :=
  PS.imp (ps_aug (ti := rB T X g) hN hi hx he (fun pins s σ H x y v u Q => ho pins s σ H x y v u Q) hf) fun D σ H ⟨w, ρ, env, h, s, q⟩ => by
    unfold sAug at q
    cases e0 : env[i]? with
    | none => rw [e0] at q; exact q.elim
    | some o =>
      rw [e0] at q
      cases o with
      | none => exact q.elim
      | some d =>
        obtain ⟨v0, ev0, rd0⟩ := s.e.at_ i d e0
        refine ⟨v0, ev0, w, ρ, env, h, s, ?_⟩
        dsimp only at q
        cases e : ma env h with
        | stuck => rw [e] at q; exact q
        | exc x h1 => rw [e] at q; exact fun ρ' H' e1 r1 => q ρ' H' σ e1 r1
        | ok v h1 =>
          rw [e, R.fl_ok] at q
          intro ρ1 H1 x e1 r1 d1
          refine ⟨w, ρ1, h1, d, v, s.g, r1, rd0.mono e1, d1, ?_⟩
          cases e2 : g d v h1 with
          | none => rw [e2] at q; exact q
          | some p =>
            rw [e2] at q
            exact fun ρ2 H2 z e3 r3 d3 => q ρ2 H2 _ (e1.trans e3) r3 ((s.e.mono (e1.trans e3)).set i d3)
theorem ms_raise {x m : Str} {k : Ex} {j : Nat} {p p2 pos2 : Pos} (B : Bd X W) (he : x = exN k) (q : PySem.W.excIn X.K (He.ga X.K (exN k)) [.type "Exception", .type "BaseException", .type "object"] "Exception.__new__" = true)
    (gC : X.mg (exN k) = some (.ref (He.ga X.K (exN k)))) (kC : PySem.W.keepIn X.K (.ref (He.ga X.K (exN k))) = true) (r : Raises X (clsV X.K k)) (hg : Gl X x) (hdb : (x == ("__debug__" : Str)) = false := by decide) :
    MS T X W (.Raise (some (.Call (.Name x p) [.Constant (.str m) j p2] [] pos)) none pos2) (sRaise k) := by
  subst he
  exact PS.imp (L2N.ps_raise B.calm B.tk (L2N.pmk_own PySem.F.excBase_Exception q gC kC r hg hdb)) fun D σ H ⟨w, ρ, env, h, s, z⟩ => z ρ H σ Ext.refl s.h
/-! ### while -/
theorem ms_while {body : List Stmt} (n : Nat) (hp : PassesOwn (model X.prog X.w) X.A X.env X.xe) (hc : MT T X W c tc) (hb : MSs T X W body s1) : MS T X W (.While c body [] pos) (sWhile tc s1 n) :=
  PS.imp (ps_while hp hc hb) fun D σ H q => by
    refine ⟨fun m σ H => tS T X W (sWhile tc s1 m) D σ H, ⟨n, q⟩, fun m σ H q => ?_⟩
    obtain ⟨w, ρ, env, h, s, q⟩ := q
    cases m with
    | zero => exact q.elim
    | succ m =>
      refine ⟨w, ρ, env, h, s, ?_⟩
      unfold sWhile at q
      cases e : tc env h with
      | stuck => rw [e] at q; exact q
      | exc x h1 => rw [e] at q; exact fun ρ' H' e1 r1 => q ρ' H' σ e1 r1
      | ok v h1 =>
        rw [e, R.fl_ok] at q
        intro ρ1 H1 x e1 r1 d1
        subst d1
        cases v with
        | false => rw [if_neg (by decide)] at q ⊢; exact q ρ1 H1 σ e1 r1 (s.e.mono e1)
        | true =>
          rw [if_pos rfl] at q ⊢
          refine ⟨fun σ H => tS T X W (sWhile tc s1 m) D σ H, fun σ' H' z => ⟨m, Nat.lt_succ_self m, z⟩, w, ρ1, env, h1, s.next e1 r1, ?_⟩
          cases e2 : s1 env h1 with
          | nx env2 h2 => rw [e2] at q; exact fun ρ2 H2 σ2 e3 r3 re => ⟨w, ρ2, env2, h2, s.envs r3 re, Sst.ext (σ := σ) q (e1.trans e3)⟩
          | ct env2 h2 => rw [e2] at q; exact fun ρ2 H2 σ2 e3 r3 re => ⟨w, ρ2, env2, h2, s.envs r3 re, Sst.ext (σ := σ) q (e1.trans e3)⟩
          | bk env2 h2 => rw [e2] at q; exact fun ρ2 H2 σ2 e3 r3 re => q ρ2 H2 σ2 (e1.trans e3) r3 re
          | rt v h2 => rw [e2] at q; exact fun ρ2 H2 σ2 e3 r3 re => q ρ2 H2 σ2 (e1.trans e3) r3 re
          | exc v h2 => rw [e2] at q; exact fun ρ2 H2 σ2 e3 r3 => q ρ2 H2 σ2 (e1.trans e3) r3
          | stuck => rw [e2] at q; exact q
/-! ### for -/
/-- the world with one more object in the making: as those see it that make what goes in; and as it is seen from turn to turn -/
def Wd.prt (w : Wd) (p : Addr) : Wd := { w with π := fun a => w.π a ∨ a = p }
def Wd.mkg (w : Wd) (p : Addr) : Wd := { w with δ := fun a => w.δ a ∨ a = p }
/-- the world as it is, or with one more new thing in the making -/
def Wn (w : Wd) (H : Hp) (w' wx : Wd) (H' : Hp) : Prop := (w' = w ∧ wx = w ∧ H' = H) ∨ ∃ p o, H p = none ∧ w' = w.prt p ∧ wx = w.mkg p ∧ H' = upd H p o
/-- the iterator J gives the items ds, while the list at o stands -/
def ItOk (T : List (Addr × Str)) (w : Wd) (ρ : List (Option Addr)) (H : Hp) (J : It) (ds : List D) (o : Option Nat) : Prop :=
  ∀ (w' wx : Wd) (Hb : Hp), Wn w H w' wx Hb → ∀ (i : Nat) (ρ1 : List (Option Addr)) (h1 : Hh) (H1 : Hp), Ext wx ρ Hb ρ1 H1 → RH T w' ρ1 h1 H1 → chk o ds h1 = true →
    (∀ d, ds[i]? = some d → J.go i H1 ∧ ∀ x H2, J.yld i H1 x H2 → Ext w' ρ1 H1 ρ1 H2 ∧ RH T w' ρ1 h1 H2 ∧ RD w' ρ1 H2 d x) ∧ (i = ds.length → J.stop i H1)
def tIm (T : List (Addr × Str)) (X : Cx) (W : WX) (src : Ev → Hh → R Src) : TI := fun σ H Rr => ∃ w ρ env h, Gd T (gw X) w ρ env h σ H ∧
  match src env h with
  | .ok s h1 => ∀ ρ1 H1 J, Ext w ρ H ρ1 H1 → RH T w ρ1 h1 H1 → ItOk T w ρ1 H1 J s.1 s.2 → Rr J H1
  | .exc e h1 => ∀ ρ1 H1, Ext w ρ H ρ1 H1 → RH T w ρ1 h1 H1 → W (clsV X.K e) none σ H1
  | .stuck => False
def MI (T : List (Addr × Str)) (X : Cx) (W : WX) (tg iter : Expr) (src : Ev → Hh → R Src) : Prop := PI X tg iter (tIm T X W src)
theorem PI.imp {tg iter : Expr} {t t' : TI} (p : PI X tg iter t) (h : ∀ σ H Q, t' σ H Q → t σ H Q) : PI X tg iter t' := ⟨fun pins s σ H R I q => p.run pins s σ H R I (h σ H R q)⟩
theorem drop_cons {α : Type} {l : List α} {i : Nat} {d : α} {r : List α} (h : l.drop i = d :: r) : l[i]? = some d ∧ l.drop (i + 1) = r := by
  have h1 : i < l.length := by
    by_cases q : i < l.length
    · exact q
    · rw [List.drop_eq_nil_of_le (by omega)] at h; cases h
  rw [List.drop_eq_getElem_cons h1] at h
  injection h with e1 e2
  exact ⟨by rw [List.getElem?_eq_getElem h1, e1], e2⟩
theorem drop_nil {α : Type} {l : List α} {i : Nat} (hi : i ≤ l.length) (h : l.drop i = []) : i = l.length := by
  have := List.drop_eq_nil_iff.mp h
  omega
theorem ms_for {is : List Nat} {tg iter : Expr} {body : List Stmt} {src : Ev → Hh → R Src} {g : Mg} (hp : PassesOwn (model X.prog X.w) X.A X.env X.xe) (hc : X.calm = true) (hi : MI T X W tg iter src) (hg : MG T X is tg g) (hb : MSs T X W body s1)
    (hs : ∀ x, foldedSetIterable iter X.env x = pure x := by intro _; rfl) : MS T X W (.For tg iter body [] pos) (sFor src g s1) :=
  PS.imp (ps_for hp hc hi hg hb hs) fun D σ H ⟨w, ρ, env, h, s, q⟩ => by
    refine ⟨w, ρ, env, h, s, ?_⟩
    unfold sFor at q
    cases e : src env h with
    | stuck => rw [e] at q; exact q
    | exc x h1 => rw [e] at q; exact fun ρ' H' e1 r1 => q ρ' H' σ e1 r1
    | ok S h1 =>
      rw [e, R.fl_ok] at q
      intro ρ1 H1 J e1 r1 it
      refine ⟨fun i m σ' H' => m + i = S.1.length ∧ ∃ ρ2 env2 h2, Gd T (gw X) w ρ2 env2 h2 σ' H' ∧ Ext w ρ1 H1 ρ2 H' ∧ Sst T X W w ρ2 σ' H' (sForI g s1 S.2 S.1 (S.1.drop i) env2 h2) D, ⟨S.1.length, rfl, ρ1, env, h1, s.next e1 r1, Ext.refl, q.ext e1⟩, ?_⟩
      rintro i m σ' H' ⟨hm, ρ2, env2, h2, s2, e2, q2⟩
      cases hd : S.1.drop i with
      | nil =>
        have hi : i = S.1.length := drop_nil (by omega) hd
        rw [hd] at q2
        unfold sForI at q2
        cases hk : chk S.2 S.1 h2 with
        | false => rw [hk] at q2; exact q2.elim
        | true =>
          rw [hk] at q2
          exact .inl ⟨(it w w H1 (.inl ⟨rfl, rfl, rfl⟩) i ρ2 h2 H' e2 s2.h hk).2 hi, q2 ρ2 H' σ' Ext.refl s2.h s2.e⟩
      | cons d r =>
        obtain ⟨hdi, hdr⟩ := drop_cons hd
        rw [hd] at q2
        unfold sForI at q2
        cases hk : chk S.2 S.1 h2 with
        | false => rw [hk] at q2; exact q2.elim
        | true =>
          rw [hk] at q2
          obtain ⟨go, yl⟩ := (it w w H1 (.inl ⟨rfl, rfl, rfl⟩) i ρ2 h2 H' e2 s2.h hk).1 d hdi
          have hil : i < S.1.length := (List.getElem?_eq_some_iff.mp hdi).1
          refine .inr ⟨go, fun σ3 H3 => ∃ ρ3 env3 h3, Gd T (gw X) w ρ3 env3 h3 σ3 H3 ∧ Ext w ρ1 H1 ρ3 H3 ∧ Sst T X W w ρ3 σ3 H3 (sForI g s1 S.2 S.1 (S.1.drop (i + 1)) env3 h3) D, fun σ3 H3 z => ⟨m - 1, by omega, by omega, z⟩, fun x H3 hy => ?_⟩
          obtain ⟨e3, r3, d3⟩ := yl x H3 hy
          refine ⟨w, ρ2, env2, h2, d, s2.next e3 r3, d3, ?_⟩
          dsimp only at q2
          cases e4 : g d env2 h2 with
          | none => rw [e4] at q2; exact q2
          | some p =>
            rw [e4] at q2
            intro ρ4 H4 σ4 e5 r5 re5 _
            refine ⟨w, ρ4, p.1, p.2, s2.envs r5 re5, ?_⟩
            dsimp only at q2
            have ee := e2.trans (e3.trans e5)
            cases e6 : s1 p.1 p.2 with
            | nx env7 h7 => rw [e6] at q2; exact fun ρ7 H7 σ7 e7 r7 re7 => ⟨ρ7, env7, h7, s.envs r7 re7, ee.trans e7, by rw [hdr]; exact Sst.ext (σ := σ') q2 ((e3.trans e5).trans e7)⟩
            | ct env7 h7 => rw [e6] at q2; exact fun ρ7 H7 σ7 e7 r7 re7 => ⟨ρ7, env7, h7, s.envs r7 re7, ee.trans e7, by rw [hdr]; exact Sst.ext (σ := σ') q2 ((e3.trans e5).trans e7)⟩
            | bk env7 h7 => rw [e6] at q2; exact fun ρ7 H7 σ7 e7 r7 re7 => q2 ρ7 H7 σ7 ((e3.trans e5).trans e7) r7 re7
            | rt v h7 => rw [e6] at q2; exact fun ρ7 H7 σ7 e7 r7 re7 => q2 ρ7 H7 σ7 ((e3.trans e5).trans e7) r7 re7
            | exc v h7 => rw [e6] at q2; exact fun ρ7 H7 σ7 e7 r7 => q2 ρ7 H7 σ7 ((e3.trans e5).trans e7) r7
            | stuck => rw [e6] at q2; exact q2
end
end Rf
namespace Rf
open PySem PySem.Spec PyProof.Rows L2

def wipeE (env : Ev) : List Nat → Ev
  | [] => env
  | v :: vs => (wipeE env vs).set v none
/-- the turns of a comprehension -/
def compI (g : Mg) (t : Mt) (m : Me) (o : Option Nat) (all : List D) (env : Ev) : List D → List D → Hh → R (List D)
  | [], acc, h => match chk o all h with
    | true => .ok acc h
    | false => .stuck
  | d :: ds, acc, h => match chk o all h with
    | false => .stuck
    | true => match g d env h with
      | none => .stuck
      | some p => match t p.1 p.2 with
        | .ok true h2 => (match m p.1 h2 with
          | .ok v h3 => if acc.length < SZ then compI g t m o all env ds (acc ++ [v]) h3 else .stuck
          | _ => .stuck)
        | .ok false h2 => compI g t m o all env ds acc h2
        | _ => .stuck
def mComp (mt : Bool) (src : Ev → Hh → R Src) (g : Mg) (t : Mt) (m : Me) (vs : List Nat) : Me := fun env h => (src env h).bind fun s h1 => (compI g t m s.2 s.1 (wipeE env vs) s.1 [] h1).bind fun acc h2 => ofO (mk mt acc h2)
def tYesM : Mt := fun _ h => .ok true h

section
variable {T : List (Addr × Str)} {w : Wd} {ρ ρ' : List (Option Addr)} {h h' : Hh} {H H' : Hp}
theorem RE.wipe {env : Ev} {σ : L2.St} (r : RE w ρ H env σ) : ∀ vs : List Nat, RE w ρ H (wipeE env vs) (wipe σ vs)
  | [] => r
  | v :: vs => (RE.wipe r vs).unset v none
theorem wipe_in {σ : L2.St} {i : Nat} : ∀ {vs : List Nat}, i ∈ vs → (wipe σ vs)[i]? = if i < σ.length then some none else none
  | v :: vs, h => by
    unfold wipe
    by_cases e : v = i
    · subst e
      by_cases hl : v < σ.length
      · rw [List.getElem?_set_self (by rw [wipe_length]; exact hl), if_pos hl]
      · rw [List.getElem?_eq_none (by simp [wipe_length]; omega), if_neg hl]
    · rw [List.getElem?_set_ne e]
      rcases List.mem_cons.mp h with q | q
      · exact absurd q.symm e
      · exact wipe_in q
theorem Agree.wipe {vs : List Nat} {σ σ' : L2.St} (a : Agree vs σ σ') : wipe σ' vs = wipe σ vs := by
  apply List.ext_getElem?
  intro i
  by_cases hi : i ∈ vs
  · rw [wipe_in hi, wipe_in hi, a.1]
  · rw [wipe_out hi, wipe_out hi, a.2 i hi]
theorem wipe_wipe {vs : List Nat} {σ : L2.St} : L2.wipe (L2.wipe σ vs) vs = L2.wipe σ vs := by
  apply List.ext_getElem?
  intro i
  by_cases hi : i ∈ vs
  · rw [wipe_in hi, wipe_in hi, wipe_length]
  · rw [wipe_out hi]

theorem Fz.prt {p a : Addr} (f : Fz w ρ a) (ne : a ≠ p) : Fz (w.prt p) ρ a := ⟨f.1, fun z => z.elim f.2.1 ne, f.2.2⟩
theorem Fz.unprt {p a : Addr} (f : Fz (w.prt p) ρ a) : Fz w ρ a := ⟨f.1, fun z => f.2.1 (.inl z), f.2.2⟩
theorem Fz.sw {p a : Addr} (f : Fz (w.prt p) ρ a) : Fz (w.mkg p) ρ a := ⟨f.1, fun z => f.2.1 (.inl z), fun z => z.elim f.2.2 fun z => f.2.1 (.inr z)⟩
theorem Fz.ws {p a : Addr} (f : Fz (w.mkg p) ρ a) : Fz (w.prt p) ρ a := ⟨f.1, fun z => z.elim f.2.1 fun z => f.2.2 (.inr z), fun z => f.2.2 (.inl z)⟩
theorem Fz.adopt {p a : Addr} (f : Fz (w.prt p) ρ a) : Fz w (ρ ++ [some p]) a :=
  ⟨fun z => (List.mem_append.mp z).elim f.1 fun q => f.2.1 (.inr (by simpa using q)), fun z => f.2.1 (.inl z), f.2.2⟩
theorem Rd_upd {p a : Addr} {u o : HO} (hp : H p = none) (r : Rd H a u) : Rd (L2.upd H p o) a u := by
  have ne := Rd_ne hp r
  rcases r with r | ⟨o', r⟩
  · exact .inl (by rw [upd_ne ne]; exact r)
  · exact .inr ⟨o', by rw [upd_ne ne]; exact r⟩
mutual
theorem RD.to {w2 : Wd} {ρ2 : List (Option Addr)} {H2 : Hp} (ht : ∀ a xs, H a = some (.tup xs) → H2 a = some (.tup xs)) (hf : ∀ a u, Fz w ρ a → Rd H a u → Fz w2 ρ2 a ∧ Rd H2 a u) (hr : ∀ n v, RD w ρ H (.ref n) v → RD w2 ρ2 H2 (.ref n) v) (hg : w2.g = w.g) : ∀ {d : D} {v : V}, RD w ρ H d v → RD w2 ρ2 H2 d v
  | .non, _, h => h
  | .bl _, _, h => h
  | .int _, _, h => h
  | .str _, _, h => h
  | .tup ds, v, h => by
    obtain ⟨a, xs, ev, r, q⟩ := h
    exact ⟨a, xs, ev, ht a xs r, RDs.to ht hf hr hg q⟩
  | .lst ds, v, h => by
    obtain ⟨a, xs, ev, f, r, q⟩ := h
    obtain ⟨f', r'⟩ := hf a _ f r
    exact ⟨a, xs, ev, f', r', RDs.to ht hf hr hg q⟩
  | .dct false ks vs, v, h => by
    obtain ⟨a, xs, ys, ev, f, k1, l1, r, q⟩ := h
    obtain ⟨f', r'⟩ := hf a _ f r
    exact ⟨a, xs, ys, ev, f', k1, l1, r', RDs.to ht hf hr hg q⟩
  | .dct true ks vs, v, h => by
    obtain ⟨a, xs, ys, ev, f, k1, l1, r, q⟩ := h
    obtain ⟨f', r'⟩ := hf a _ f r
    exact ⟨a, xs, ys, ev, f', k1, l1, r', RDs.to ht hf hr hg q⟩
  | .ref n, v, h => hr n v h
  | .fn x, v, h => by
    obtain ⟨f, e1, e2⟩ := h
    exact ⟨f, e1, by rw [hg]; exact e2⟩
theorem RDs.to {w2 : Wd} {ρ2 : List (Option Addr)} {H2 : Hp} (ht : ∀ a xs, H a = some (.tup xs) → H2 a = some (.tup xs)) (hf : ∀ a u, Fz w ρ a → Rd H a u → Fz w2 ρ2 a ∧ Rd H2 a u) (hr : ∀ n v, RD w ρ H (.ref n) v → RD w2 ρ2 H2 (.ref n) v) (hg : w2.g = w.g) : ∀ {ds : List D} {xs : List V}, RDs w ρ H ds xs → RDs w2 ρ2 H2 ds xs
  | [], _, h => h
  | _ :: _, _, h => by
    obtain ⟨x, r, ex, h1, h2⟩ := h
    exact ⟨x, r, ex, RD.to ht hf hr hg h1, RDs.to ht hf hr hg h2⟩
end
theorem RDs.prt {p : Addr} {o : HO} (hp : H p = none) {ds : List D} {xs : List V} (q : RDs w ρ H ds xs) : RDs (w.prt p) ρ (L2.upd H p o) ds xs := RDs.to (fun a xs z => by rw [upd_ne (ne_of_none z hp)]; exact z) (fun a u f r => ⟨f.prt (Rd_ne hp r), Rd_upd hp r⟩) (fun _ _ z => z) rfl q
theorem RD.prt {p : Addr} {o : HO} (hp : H p = none) {ds : D} {xs : V} (q : RD w ρ H ds xs) : RD (w.prt p) ρ (L2.upd H p o) ds xs := RD.to (fun a xs z => by rw [upd_ne (ne_of_none z hp)]; exact z) (fun a u f r => ⟨f.prt (Rd_ne hp r), Rd_upd hp r⟩) (fun _ _ z => z) rfl q
theorem RDs.unprt {p : Addr} {ds : List D} {xs : List V} (q : RDs (w.prt p) ρ H ds xs) : RDs w ρ H ds xs := RDs.to (fun _ _ z => z) (fun a u f r => ⟨f.unprt, r⟩) (fun _ _ z => z) rfl q
theorem RD.unprt {p : Addr} {ds : D} {xs : V} (q : RD (w.prt p) ρ H ds xs) : RD w ρ H ds xs := RD.to (fun _ _ z => z) (fun a u f r => ⟨f.unprt, r⟩) (fun _ _ z => z) rfl q
theorem RDs.sw {p : Addr} {ds : List D} {xs : List V} (q : RDs (w.prt p) ρ H ds xs) : RDs (w.mkg p) ρ H ds xs := RDs.to (fun _ _ z => z) (fun a u f r => ⟨f.sw, r⟩) (fun _ _ z => z) rfl q
theorem RDs.ws {p : Addr} {ds : List D} {xs : List V} (q : RDs (w.mkg p) ρ H ds xs) : RDs (w.prt p) ρ H ds xs := RDs.to (fun _ _ z => z) (fun a u f r => ⟨f.ws, r⟩) (fun _ _ z => z) rfl q
theorem RD.sw {p : Addr} {ds : D} {xs : V} (q : RD (w.prt p) ρ H ds xs) : RD (w.mkg p) ρ H ds xs := RD.to (fun _ _ z => z) (fun a u f r => ⟨f.sw, r⟩) (fun _ _ z => z) rfl q
theorem RD.ws {p : Addr} {ds : D} {xs : V} (q : RD (w.mkg p) ρ H ds xs) : RD (w.prt p) ρ H ds xs := RD.to (fun _ _ z => z) (fun a u f r => ⟨f.ws, r⟩) (fun _ _ z => z) rfl q
theorem RDs.monoX {p : Addr} {ds : List D} {xs : List V} (e : Ext (w.mkg p) ρ H ρ' H') (q : RDs (w.prt p) ρ H ds xs) : RDs (w.prt p) ρ' H' ds xs := (q.sw.mono e).ws
theorem RD.monoX {p : Addr} {ds : D} {xs : V} (e : Ext (w.mkg p) ρ H ρ' H') (q : RD (w.prt p) ρ H ds xs) : RD (w.prt p) ρ' H' ds xs := (q.sw.mono e).ws
theorem RDs.adopt {p : Addr} {ds : List D} {xs : List V} (q : RDs (w.prt p) ρ H ds xs) : RDs w (ρ ++ [some p]) H ds xs := RDs.to (fun _ _ z => z) (fun a u f r => ⟨f.adopt, r⟩) (fun n v h => ⟨by have := h.1; simp; omega, fun a z => h.2 a (by rw [List.getElem?_append_left h.1] at z; exact z)⟩) rfl q
theorem Ext.wk {p : Addr} (e : Ext (w.prt p) ρ H ρ' H') : Ext (w.mkg p) ρ H ρ' H' := ⟨e.len, e.old, e.new, e.there, e.fixs, fun a o h n d t => e.keep a o h n (fun z => d (.inl z)) t, fun a o h hp n d t => e.keepP a o h (.inl hp) n (fun z => d (.inl z)) t⟩
theorem ObR.map {w2 : Wd} {ρ2 : List (Option Addr)} {H2 : Hp} (hd : ∀ {ds : List D} {xs : List V}, RDs w ρ H ds xs → RDs w2 ρ2 H2 ds xs) {ob : Ob} {a : Addr} (hs : H2 a = H a) (r : ObR w ρ H ob a) (hg : w2.g = w.g := by rfl) : ObR w2 ρ2 H2 ob a := by
  cases ob with
  | gone => exact r.elim
  | lst ds => obtain ⟨xs, e1, q⟩ := r; exact ⟨xs, hs.trans e1, hd q⟩
  | dct t ks vs =>
    cases t
    · obtain ⟨xs, ys, k, l, e1, q⟩ := r; exact ⟨xs, ys, k, l, hs.trans e1, hd q⟩
    · obtain ⟨xs, ys, k, l, e1, q⟩ := r; exact ⟨xs, ys, k, l, hs.trans e1, hd q⟩
  | dcn ks vs => obtain ⟨es, xs, e1, k, rk, rv, q, l⟩ := r; exact ⟨es, xs, by rw [hg]; exact hs.trans e1, k, hd rk, rv, hd q, l⟩
/-- something new is begun at p -/
theorem RH.prt {p : Addr} (r : RH T w ρ h H) (hp : H p = none) (o : HO) : RH T (w.prt p) ρ h (L2.upd H p o) := by
  obtain ⟨e, r', f⟩ := r.frz hp o
  refine ⟨r.len, r.inj, fun n a z => ?_, r.live, fun a z => ?_, r'.tabs⟩
  · obtain ⟨h1, h2, ob, h3, h4⟩ := r.obj n a z
    obtain ⟨u, eu, _⟩ := h4.ok
    exact ⟨fun z => z.elim h1 (ne_of_none eu hp), h2, ob, h3, h4.map (RDs.prt hp) (by rw [upd_ne (ne_of_none eu hp)])⟩
  · by_cases q : a = p
    · subst q; rw [upd_same]; simp
    · refine e.there a (r.trk a ?_)
      rcases z with (z | z) | z
      · exact .inl z
      · exact absurd z q
      · exact .inr z
theorem RE.prt {p : Addr} {o : HO} {env : Ev} {σ : L2.St} (hp : H p = none) (r : RE w ρ H env σ) : RE (w.prt p) ρ (L2.upd H p o) env σ := ⟨r.len, fun i d e => by
  obtain ⟨v, e1, q⟩ := r.at_ i d e
  exact ⟨v, e1, RD.prt hp q⟩⟩
theorem RE.monoX {p : Addr} {env : Ev} {σ : L2.St} (e : Ext (w.mkg p) ρ H ρ' H') (r : RE (w.prt p) ρ H env σ) : RE (w.prt p) ρ' H' env σ := ⟨r.len, fun i d x => by
  obtain ⟨v, e1, q⟩ := r.at_ i d x
  exact ⟨v, e1, RD.monoX e q⟩⟩
/-- the new thing at p grows -/
theorem RH.grow {p : Addr} {o u : HO} (r : RH T (w.prt p) ρ h H) (hp : H p = some u) (hu : okO u) : Ext (w.mkg p) ρ H ρ (L2.upd H p o) ∧ RH T (w.prt p) ρ h (L2.upd H p o) := by
  have e : Ext (w.mkg p) ρ H ρ (L2.upd H p o) := ⟨Nat.le_refl _, fun _ _ _ z => z, fun _ z => .inl z, fun a z => by
    by_cases q : a = p
    · subst q; rw [upd_same]; simp
    · rw [upd_ne q]; exact z, fun a x z k => (by
    rw [upd_ne]
    · exact z
    · intro q; subst q; rw [hp] at z; cases z; exact ok_fix hu k), fun a x z _ nd _ => Rd_at (upd_ne (fun q => nd (.inr q))) z, fun a x z _ _ nd _ => by
    rw [upd_ne (fun q => nd (.inr q))]; exact z⟩
  refine ⟨e, ⟨r.len, r.inj, fun n a z => ?_, r.live, fun a z => e.there a (r.trk a z), fun q hq => ?_⟩⟩
  · obtain ⟨h1, h2, ob, h3, h4⟩ := r.obj n a z
    exact ⟨h1, h2, ob, h3, h4.map (RDs.monoX e) (by rw [upd_ne]; intro z; subst z; exact h1 (.inr rfl))⟩
  · obtain ⟨ps, t1, t2, t3⟩ := r.tabs q hq
    have n1 : q.1 ≠ p := fun z => by
      rw [z, hp] at t1; cases t1; exact hu
    refine ⟨ps, by rw [upd_ne n1]; exact t1, t2, fun pos cv hc => ?_⟩
    obtain ⟨c, c1, c2⟩ := t3 pos cv hc
    refine ⟨c, c1, ?_⟩
    rw [upd_ne]
    · exact c2
    · intro z
      rw [z, hp] at c2
      have c2 := Option.some.inj c2
      rw [c2] at hu
      exact codeO_not hu
/-- the new thing is done -/
theorem RH.unprt {p : Addr} (r : RH T (w.prt p) ρ h H) : RH T w ρ h H :=
  ⟨r.len, r.inj, fun n a z => by
    obtain ⟨h1, h2, ob, h3, h4⟩ := r.obj n a z
    exact ⟨fun z => h1 (.inl z), h2, ob, h3, h4.map RDs.unprt rfl⟩, r.live, fun a z => r.trk a (z.imp .inl fun z => z), r.tabs⟩
theorem Ext.unmkg {p : Addr} {o : HO} {H1 : Hp} {ρ1 : List (Option Addr)} (hp : H1 p = none) (e : Ext (w.mkg p) ρ1 (L2.upd H1 p o) ρ H) : Ext w ρ1 H1 ρ H :=
  ⟨e.len, e.old, fun a z => by
    rcases e.new a z with q | q
    · exact .inl q
    · by_cases ne : a = p
      · subst ne; exact .inr hp
      · rw [upd_ne ne] at q; exact .inr q, fun a z => e.there a (by
    by_cases ne : a = p
    · subst ne; rw [upd_same]; simp
    · rw [upd_ne ne]; exact z), fun a u z k => e.fixs a u (by rw [upd_ne (ne_of_none z hp)]; exact z) k, fun a u z na nd nt => e.keep a u (Rd_upd hp z) na (fun q => q.elim nd (Rd_ne hp z)) nt, fun a u z hq na nd nt => by
    have ne : a ≠ p := ne_of_none z hp
    exact e.keepP a u (by rw [upd_ne ne]; exact z) hq na (fun q => q.elim nd ne) nt⟩
/-- .. and may be changed -/
theorem RH.adopt {p : Addr} {ob : Ob} (r : RH T (w.prt p) ρ h H) (h1 : ¬ w.π p) (h2 : ¬ w.δ p) (q : ObR (w.prt p) ρ H ob p) : RH T w (ρ ++ [some p]) (h ++ [ob]) H := by
  have np : some p ∉ ρ := fun z => by
    obtain ⟨n, e⟩ := mem_get z
    exact (r.obj n p e).1 (.inr rfl)
  refine ⟨by simp [r.len], fun n m a z1 z2 => ?_, fun n a z => ?_, fun n b z hb => ?_, fun a z => r.trk a (z.imp .inl fun z => z), r.tabs⟩
  · rcases get_snoc z1 with ⟨l1, z1⟩ | ⟨l1, z1⟩
    · rcases get_snoc z2 with ⟨l2, z2⟩ | ⟨l2, z2⟩
      · exact r.inj n m a z1 z2
      · cases z2; exact absurd (List.mem_of_getElem? z1) np
    · rcases get_snoc z2 with ⟨l2, z2⟩ | ⟨l2, z2⟩
      · cases z1; exact absurd (List.mem_of_getElem? z2) np
      · rw [l1, l2]
  · rcases get_snoc z with ⟨l1, z1⟩ | ⟨l1, z1⟩
    · obtain ⟨g1, g2, ob', h3, h4⟩ := r.obj n a z1
      exact ⟨fun z => g1 (.inl z), g2, ob', by rw [List.getElem?_append_left (by rw [← r.len]; exact l1)]; exact h3, h4.map RDs.adopt rfl⟩
    · cases z1
      exact ⟨h1, h2, ob, by rw [l1, r.len]; simp, q.map RDs.adopt rfl⟩
  · rcases get_snoc z with ⟨l1, z1⟩ | ⟨l1, z1⟩
    · obtain ⟨a, ea⟩ := r.live n b z1 hb
      exact ⟨a, by rw [List.getElem?_append_left (by rw [r.len]; exact l1)]; exact ea⟩
    · exact ⟨p, by rw [l1, ← r.len]; simp⟩
theorem Ext.adopt {p : Addr} {H1 : Hp} {ρ1 : List (Option Addr)} (e : Ext w ρ1 H1 ρ H) (hp : H1 p = none) : Ext w ρ1 H1 (ρ ++ [some p]) H :=
  ⟨by have := e.len; simp; omega, fun n a hn z => e.old n a hn (by rw [List.getElem?_append_left (by have := e.len; omega)] at z; exact z), fun a z => (List.mem_append.mp z).elim (e.new a) fun q => .inr (by simp at q; rw [q]; exact hp), e.there, e.fixs, e.keep, e.keepP⟩
/-- the end of what makes a list -/
theorem mk_done {p : Addr} {mt : Bool} {acc : List D} {ys : List V} {o : HO} {ρ1 : List (Option Addr)} {h1 : Hh} {H1 : Hp} {Q : VK} (r1 : RH T w ρ1 h1 H1) (hp : H1 p = none) (e : Ext (w.mkg p) ρ1 (L2.upd H1 p o) ρ H) (r : RH T (w.prt p) ρ h H) (hH : H p = some (.lst ys)) (q : RDs (w.prt p) ρ H acc ys)
    (v : Vst T w ρ1 H1 (mk mt acc h) Q) : Q (.ref p) H := by
  have f := r1.fz_new hp
  have e' := Ext.unmkg hp e
  have np : some p ∉ ρ := fun z => by
    obtain ⟨n, e⟩ := mem_get z
    exact (r.obj n p e).1 (.inr rfl)
  unfold mk at v
  cases mt with
  | true =>
    rw [if_pos rfl] at v
    exact v _ _ _ (e'.adopt hp) (r.adopt f.2.1 f.2.2 ⟨ys, hH, q⟩) ⟨by simp [r.len], fun a z => by rw [← r.len] at z; simp at z; rw [z]⟩
  | false =>
    rw [if_neg (by decide)] at v
    exact v _ _ _ e' r.unprt ⟨p, ys, rfl, ⟨np, f.2.1, f.2.2⟩, .inl hH, RDs.unprt q⟩
end
section
variable {T : List (Addr × Str)} {X : Cx} {W : WX} {a b c e : Expr} {es : List Expr} {ma mb mc : Me} {ta tb tc : Mt} {as : Ma} {pos : Pos} {st : Stmt} {sts : List Stmt} {s1 s2 : Ms}
abbrev W0 : WX := fun _ _ _ _ => False
def MTs (T : List (Addr × Str)) (X : Cx) (W : WX) (ifs : List Expr) (t : Mt) : Prop := PTs X ifs (tTm T X W t)
theorem PTs.imp {ifs : List Expr} {t t' : TT} (p : PTs X ifs t) (h : ∀ σ H Q, t' σ H Q → t σ H Q) : PTs X ifs t' := ⟨fun pins s σ H Q I q => p.run pins s σ H Q I (h σ H Q q)⟩
theorem mts_nil : MTs T X W [] tYesM := PTs.imp pts_nil fun σ H Q ⟨w, ρ, env, h, s, q⟩ => q ρ H true Ext.refl s.h rfl
theorem mts_one (h : MT T X W c tc) : MTs T X W [c] tc := pts_one h
/-- the reading of a comprehension over a source that stands still -/
theorem comp_imp {src : Ev → Hh → R Src} {g : Mg} {t : Mt} {m : Me} {vs is : List Nat} {mt : Bool} (his : ∀ i ∈ is, i ∈ vs) {σ : L2.St} {H : Hp} {Q : VK} (q : tM T X W (mComp mt src g t m vs) σ H Q) :
    tLc (tIm T X W src) (tG T X is g) (tTm T X W0 t) (tM T X W0 m) vs σ H Q := by
  obtain ⟨w, ρ, env, h, s, q⟩ := q
  refine ⟨w, ρ, env, h, s, ?_⟩
  unfold mComp at q
  cases e : src env h with
  | stuck => rw [e] at q; exact q
  | exc x h1 => rw [e] at q; exact q
  | ok S h1 =>
    rw [e, R.bind_ok] at q
    intro ρ1 H1 J e1 r1 it p hp
    have q := q.ext e1
    have s1 := s.next e1 r1
    have no : ∀ {e2 : Ex} {h2 : Hh}, (R.exc e2 h2 : R (List D)) = .stuck → False := fun z => by cases z
    -- what is left to be done
    let P : List D → List D → Hh → Prop := fun ds acc h2 => Pst T w ρ1 H1 RD ((compI g t m S.2 S.1 (wipeE env vs) ds acc h2).bind fun acc h2 => ofO (mk mt acc h2)) Q fun e H' => W (clsV X.K e) none σ H'
    let I : Nat → Nat → Hp → Prop := fun i mm H' => mm + i = S.1.length ∧ ∃ ρ2 h2 acc ys, Ext (w.mkg p) ρ1 (L2.upd H1 p (.lst [])) ρ2 H' ∧ RH T (w.prt p) ρ2 h2 H' ∧ H' p = some (.lst ys) ∧ RDs (w.prt p) ρ2 H' acc ys ∧ P (S.1.drop i) acc h2
    refine ⟨I, ⟨S.1.length, rfl, ρ1, h1, [], [], Ext.refl, r1.prt hp _, upd_same, rfl, q⟩, ?_⟩
    rintro i mm H' ⟨hm, ρ2, h2, acc, ys, e2, r2, hH, ra, q2⟩
    have reM : RE (w.prt p) ρ2 H' (wipeE env vs) (L2.wipe σ vs) := ((s1.e.prt hp).monoX e2).wipe vs
    have it2 := fun hk => it (w.prt p) (w.mkg p) _ (.inr ⟨p, _, hp, rfl, rfl, rfl⟩) i ρ2 h2 H' e2 r2 hk
    have np : some p ∉ ρ2 := fun z => by
      obtain ⟨n, e⟩ := mem_get z
      exact (r2.obj n p e).1 (.inr rfl)
    have nd : ¬ (w.prt p).δ p := (r1.fz_new hp).2.2
    cases hd : S.1.drop i with
    | nil =>
      have hi : i = S.1.length := drop_nil (by omega) hd
      simp only [hd, P] at q2
      unfold compI at q2
      cases hk : chk S.2 S.1 h2 with
      | false => rw [hk] at q2; exact q2.elim
      | true =>
        rw [hk] at q2
        dsimp only at q2
        rw [R.bind_ok] at q2
        exact .inl ⟨(it2 hk).2 hi, mk_done r1 hp e2 r2 hH ra (Pst.ofO q2)⟩
    | cons d r =>
      obtain ⟨hdi, hdr⟩ := drop_cons hd
      have hil : i < S.1.length := (List.getElem?_eq_some_iff.mp hdi).1
      simp only [hd, P] at q2
      unfold compI at q2
      cases hk : chk S.2 S.1 h2 with
      | false => rw [hk] at q2; exact q2.elim
      | true =>
        rw [hk] at q2
        dsimp only at q2
        obtain ⟨go, yl⟩ := (it2 hk).1 d hdi
        refine .inr ⟨go, I (i + 1) (mm - 1), fun H3 z => ⟨mm - 1, by omega, z⟩, fun x H3 hy => ?_⟩
        obtain ⟨e3, r3, d3⟩ := yl x H3 hy
        refine ⟨w.prt p, ρ2, wipeE env vs, h2, d, ⟨s.g, reM.mono e3, r3⟩, d3, ?_⟩
        cases e4 : g d (wipeE env vs) h2 with
        | none => rw [e4] at q2; exact q2
        | some pr =>
          rw [e4] at q2
          intro ρ4 H4 σ4 e5 r5 re5 ag
          refine ⟨?_, w.prt p, ρ4, pr.1, pr.2, ⟨s.g, re5, r5⟩, ?_⟩
          · have ag' : Agree vs (L2.wipe σ vs) σ4 := ⟨ag.1, fun i hi => ag.2 i fun z => hi (his i z)⟩
            rw [ag'.wipe, wipe_wipe]
          dsimp only at q2
          have ei := e3.trans e5
          cases e6 : t pr.1 pr.2 with
          | stuck => rw [e6] at q2; exact q2
          | exc x h6 => rw [e6] at q2; exact q2.elim
          | ok b h6 =>
            rw [e6] at q2
            intro ρ6 H6 b' e7 r7 eb
            subst eb
            have ej := ei.trans e7
            cases b with
            | false =>
              rw [if_neg (by decide)]
              dsimp only at q2
              exact ⟨by omega, ρ6, h6, acc, ys, e2.trans ej.wk, r7, ej.keepP p _ hH (.inr rfl) np nd (fun ps z => by cases z), ra.mono ej, by simp only [hdr, P]; exact q2⟩
            | true =>
              rw [if_pos rfl]
              refine ⟨w.prt p, ρ6, pr.1, h6, ⟨s.g, re5.mono e7, r7⟩, ?_⟩
              dsimp only at q2
              cases e8 : m pr.1 h6 with
              | stuck => rw [e8] at q2; exact q2
              | exc x h6 => rw [e8] at q2; exact q2.elim
              | ok v h8 =>
                rw [e8] at q2
                intro ρ8 H8 y e9 r9 d9
                dsimp only at q2
                by_cases hl : acc.length < SZ
                · rw [if_pos hl] at q2
                  have ek := ej.trans e9
                  have hH8 := ek.keepP p _ hH (.inr rfl) np nd (fun ps z => by cases z)
                  have ra8 := ra.mono ek
                  obtain ⟨eg, rg⟩ := r9.grow (o := .lst (ys ++ [y])) hH8 trivial
                  exact ⟨ys, hH8, by rw [← ra.length, ← SZ_eq]; exact hl, by omega, ρ8, h8, acc ++ [v], ys ++ [y], (e2.trans ek.wk).trans eg, rg, upd_same, (RDs.monoX eg ra8).append (RDs.one (RD.monoX eg d9)), by simp only [hdr, P]; exact q2⟩
                · rw [if_neg hl] at q2; exact q2.elim
/-- [elt for tg in iter if ..] -/
theorem me_lc {elt tg iter : Expr} {ifs : List Expr} {scope : Scope} {own : List (Str × Nat)} {is : List Nat} {src : Ev → Hh → R Src} {g : Mg} {t : Mt} {m : Me} (mt : Bool) (hc : X.calm = true) (hN : X.N.Nodup) (hi : MI T X W tg iter src) (ok : BlkOk X.N X.env.scope scope own)
    (hg : ∀ (s : Shared) (H : Hp) (C : Addr) (cl : List (Str × Addr)) (fp : List Addr), MG T (X.blk s H scope (compEnvC scope cl C X.env) fp) is tg g) (ht : ∀ (s : Shared) (H : Hp) (C : Addr) (cl : List (Str × Addr)) (fp : List Addr), MTs T (X.blk s H scope (compEnvC scope cl C X.env) fp) W0 ifs t)
    (he : ∀ (s : Shared) (H : Hp) (C : Addr) (cl : List (Str × Addr)) (fp : List Addr), ME T (X.blk s H scope (compEnvC scope cl C X.env) fp) W0 elt m) (his : ∀ i ∈ is, i ∈ own.map (·.2) := by decide) (hs : ∀ x, foldedSetIterable iter X.env x = pure x := by intro _; rfl) :
    ME T X W (.ListComp elt [⟨tg, iter, ifs, 0⟩] scope pos) (mComp mt src g t m (own.map (·.2))) :=
  PE.imp (pe_lc (g := tG T X is g) (tt := tTm T X W0 t) (te := tM T X W0 m) hc hN hi ok hg ht he hs) fun σ H Q q => comp_imp his q
theorem ms_setLc {i : Nat} {y : Str} {py : Pos} {elt tg iter : Expr} {ifs : List Expr} {scope : Scope} {own : List (Str × Nat)} {is : List Nat} {spos : Pos} {src : Ev → Hh → R Src} {g : Mg} {t : Mt} {m : Me} (mt : Bool) (hc : X.calm = true) (hN : X.N.Nodup) (hy : X.N[i]? = some y) (hyl : X.env.scope.names.lookup y = some .local)
    (hsw : swapsWith (.ListComp elt [⟨tg, iter, ifs, 0⟩] scope pos) (some (.Name y py)) spos.line X.env = pure true) (hi : MI T X W tg iter src) (ok : BlkOk X.N X.env.scope scope own)
    (hg : ∀ (s : Shared) (H : Hp) (C : Addr) (cl : List (Str × Addr)) (fp : List Addr), MG T (X.blk s H scope (compEnvC scope cl C X.env) fp) is tg g) (ht : ∀ (s : Shared) (H : Hp) (C : Addr) (cl : List (Str × Addr)) (fp : List Addr), MTs T (X.blk s H scope (compEnvC scope cl C X.env) fp) W0 ifs t)
    (he : ∀ (s : Shared) (H : Hp) (C : Addr) (cl : List (Str × Addr)) (fp : List Addr), ME T (X.blk s H scope (compEnvC scope cl C X.env) fp) W0 elt m) (his : ∀ i ∈ is, i ∈ own.map (·.2) := by decide) (hs : ∀ x, foldedSetIterable iter X.env x = pure x := by intro _; rfl) :
    MS T X W (.Assign [.Name y py] (.ListComp elt [⟨tg, iter, ifs, 0⟩] scope pos) spos) (sAsg (mComp mt src g t m (own.map (·.2))) (gN i)) :=
  PS.imp (ps_setLc (g := tG T X is g) (tt := tTm T X W0 t) (te := tM T X W0 m) hc hN hy hyl hsw hi ok hg ht he hs) fun D σ H q => by
    obtain ⟨w, ρ, env, h, s, z⟩ := asg_imp (is := [i]) q
    refine comp_imp (mt := mt) his ⟨w, ρ, env, h, s, ?_⟩
    cases e : mComp mt src g t m (own.map (·.2)) env h with
    | stuck => rw [e] at z; exact z
    | exc x h1 => rw [e] at z; exact z
    | ok v h1 =>
      rw [e] at z
      intro ρ1 H1 x e1 r1 d1
      obtain ⟨w2, ρ2, env2, h2, d2, s2, r2, z2⟩ := z ρ1 H1 x e1 r1 d1
      exact z2 ρ2 H1 _ Ext.refl s2.h (s2.e.set i r2) (Agree.set (by simp))
end
end Rf
namespace Rf
open PySem PySem.Spec PyProof.Rows L2

section
variable {T : List (Addr × Str)} {w : Wd} {ρ ρ' : List (Option Addr)} {h h' : Hh} {H H' : Hp}
/-- a thing that is taken for unchanging is locked -/
theorem RH.lock {d : Addr} {u : HO} {od : Obj} (r : RH T w ρ h H) (f : Fz w ρ d) (e : H d = some u) (ok : okO u) : Ext w ρ H ρ (L2.upd H d (.frz od u)) ∧ RH T w ρ h (L2.upd H d (.frz od u)) := by
  have ex : Ext w ρ H ρ (L2.upd H d (.frz od u)) := ⟨Nat.le_refl _, fun _ _ _ z => z, fun _ z => .inl z, fun a z => by
    by_cases q : a = d
    · subst q; rw [upd_same]; simp
    · rw [upd_ne q]; exact z, fun a x z k => (by
    rw [upd_ne]
    · exact z
    · intro q; subst q; rw [e] at z; cases z; exact ok_fix ok k), fun a x z _ _ _ => by
    by_cases q : a = d
    · subst q
      rcases z with z | ⟨o, z⟩
      · rw [e] at z; cases z; exact .inr ⟨od, upd_same⟩
      · rw [e] at z; cases z; exact ok.elim
    · exact Rd_at (upd_ne q) z, fun a x z hp _ _ _ => by
    rw [upd_ne (fun q => f.2.1 (by rw [← q]; exact hp))]; exact z⟩
  refine ⟨ex, ⟨r.len, r.inj, fun n a z => ?_, r.live, fun a z => ex.there a (r.trk a z), fun q hq => ?_⟩⟩
  · obtain ⟨h1, h2, ob, h3, h4⟩ := r.obj n a z
    exact ⟨h1, h2, ob, h3, h4.mono ex (by rw [upd_ne (fun q => f.1 (by rw [← q]; exact List.mem_of_getElem? z))])⟩
  · obtain ⟨ps, t1, t2, t3⟩ := r.tabs q hq
    have n1 : q.1 ≠ d := fun z => by
      rw [z, e] at t1; cases t1; exact ok
    refine ⟨ps, by rw [upd_ne n1]; exact t1, t2, fun pos cv hc => ?_⟩
    obtain ⟨c, c1, c2⟩ := t3 pos cv hc
    refine ⟨c, c1, ?_⟩
    rw [upd_ne]
    · exact c2
    · intro z
      rw [z, e] at c2
      have c2 := Option.some.inj c2
      rw [c2] at ok
      exact codeO_not ok
/-! what stays at later turns -/
theorem Wn.rds {w' wx : Wd} {Hb : Hp} (n : Wn w H w' wx Hb) (e : Ext wx ρ Hb ρ' H') {ds : List D} {xs : List V} (q : RDs w ρ H ds xs) : RDs w' ρ' H' ds xs := by
  rcases n with ⟨rfl, rfl, rfl⟩ | ⟨p, o, hp, rfl, rfl, rfl⟩
  · exact q.mono e
  · exact RDs.monoX e (RDs.prt hp q)
theorem Wn.rd {w' wx : Wd} {Hb : Hp} (n : Wn w H w' wx Hb) (e : Ext wx ρ Hb ρ' H') {d : D} {x : V} (q : RD w ρ H d x) : RD w' ρ' H' d x := by
  rcases n with ⟨rfl, rfl, rfl⟩ | ⟨p, o, hp, rfl, rfl, rfl⟩
  · exact q.mono e
  · exact RD.monoX e (RD.prt hp q)
theorem Wn.at_ {w' wx : Wd} {Hb : Hp} (n : Wn w H w' wx Hb) (e : Ext wx ρ Hb ρ' H') {a : Addr} {u : HO} (f : Fz w ρ a) (r : Rd H a u) (hu : ∀ ps, u ≠ .tbl ps) : Rd H' a u := by
  rcases n with ⟨rfl, rfl, rfl⟩ | ⟨p, o, hp, rfl, rfl, rfl⟩
  · exact (e.rd f r hu).2
  · exact e.keep a u (Rd_upd hp r) f.1 (fun z => z.elim f.2.2 (Rd_ne hp r)) hu
theorem Wn.tup {w' wx : Wd} {Hb : Hp} (n : Wn w H w' wx Hb) (e : Ext wx ρ Hb ρ' H') {a : Addr} {xs : List V} (r : H a = some (.tup xs)) : H' a = some (.tup xs) := by
  rcases n with ⟨rfl, rfl, rfl⟩ | ⟨p, o, hp, rfl, rfl, rfl⟩
  · exact e.tups a xs r
  · exact e.tups a xs (by rw [upd_ne (ne_of_none r hp)]; exact r)
theorem Wn.old {w' wx : Wd} {Hb : Hp} (n : Wn w H w' wx Hb) (e : Ext wx ρ Hb ρ' H') {k : Nat} {a : Addr} (hk : k < ρ.length) (z : ρ'[k]? = some (some a)) : ρ[k]? = some (some a) := e.old k a hk z
theorem rd_lst {K : PySem.W.Frag} {a : Addr} {xs : List V} (r : Rd H a (.lst xs)) : SqL K H a xs := .inl r
theorem rd_tup {K : PySem.W.Frag} {a : Addr} {xs : List V} (r : H a = some (.tup xs)) : SqT K H a xs := .inl (.inl r)
/-- a list or a tuple that does not change -/
theorem it_lst {K : PySem.W.Frag} {a : Addr} {xs : List V} {ds : List D} (f : Fz w ρ a) (r : Rd H a (.lst xs)) (q : RDs w ρ H ds xs) : ItOk T w ρ H (Itl K a) ds none := by
  intro w' wx Hb n i ρ1 h1 H1 e rh hc
  have r1 := n.at_ e f r (fun ps z => by cases z)
  have q1 := n.rds e q
  refine ⟨fun d hd => ?_, fun hi => ⟨xs, rd_lst r1, by rw [← q.length]; omega⟩⟩
  obtain ⟨x, hx, rx⟩ := q1.get hd
  refine ⟨⟨xs, x, rd_lst r1, hx⟩, fun y H2 hy => ?_⟩
  obtain ⟨rfl, hy⟩ := hy
  have := hy xs (rd_lst r1)
  rw [hx] at this
  cases this
  exact ⟨Ext.refl, rh, rx⟩
theorem it_tup {K : PySem.W.Frag} {a : Addr} {xs : List V} {ds : List D} (r : H a = some (.tup xs)) (q : RDs w ρ H ds xs) : ItOk T w ρ H (Itt K a) ds none := by
  intro w' wx Hb n i ρ1 h1 H1 e rh hc
  have r1 := n.tup e r
  have q1 := n.rds e q
  refine ⟨fun d hd => ?_, fun hi => ⟨xs, rd_tup r1, by rw [← q.length]; omega⟩⟩
  obtain ⟨x, hx, rx⟩ := q1.get hd
  refine ⟨⟨xs, x, rd_tup r1, hx⟩, fun y H2 hy => ?_⟩
  obtain ⟨rfl, hy⟩ := hy
  have := hy xs (rd_tup r1)
  rw [hx] at this
  cases this
  exact ⟨Ext.refl, rh, rx⟩
theorem chk_some {n : Nat} {ds : List D} (hc : chk (some n) ds h = true) : h[n]? = some (.lst ds) := by
  unfold chk at hc
  dsimp only at hc
  cases e : h[n]? with
  | none => rw [e] at hc; cases hc
  | some o =>
    rw [e] at hc
    cases o with
    | lst xs => rw [D.eq_of_beqs hc]
    | gone => cases hc
    | dct t k v => cases hc
    | dcn k v => cases hc
/-- a list that may be changed, and isn't -/
theorem it_ref {K : PySem.W.Frag} {n : Nat} {a : Addr} {ds : List D} (hl : n < ρ.length) (ha : ∀ b, ρ[n]? = some (some b) → b = a) : ItOk T w ρ H (Itl K a) ds (some n) := by
  intro w' wx Hb nn i ρ1 h1 H1 e rh hc
  have hn := chk_some hc
  obtain ⟨b, hb⟩ := rh.live n _ hn (by intro z; cases z)
  have eb := ha b (nn.old e hl hb)
  subst eb
  obtain ⟨_, _, ob, h3, h4⟩ := rh.obj n b hb
  rw [hn] at h3; cases h3
  obtain ⟨xs, e1, q1⟩ := h4
  refine ⟨fun d hd => ?_, fun hi => ⟨xs, SqL.of e1, by rw [← q1.length]; omega⟩⟩
  obtain ⟨x, hx, rx⟩ := q1.get hd
  refine ⟨⟨xs, x, SqL.of e1, hx⟩, fun y H2 hy => ?_⟩
  obtain ⟨rfl, hy⟩ := hy
  have := hy xs (SqL.of e1)
  rw [hx] at this
  cases this
  exact ⟨Ext.refl, rh, rx⟩
theorem it_range {lo : Int} {n : Nat} : ItOk T w ρ H (Itr lo n) ((List.range n).map fun i => D.int (lo + (i : Nat))) none := by
  intro w' wx Hb nn i ρ1 h1 H1 e rh hc
  refine ⟨fun d hd => ?_, fun hi => ?_⟩
  · rw [List.getElem?_map] at hd
    obtain ⟨j, hj, ed⟩ := Option.map_eq_some_iff.mp hd
    obtain ⟨hl, ej⟩ := List.getElem?_eq_some_iff.mp hj
    simp at hl ej
    subst ej
    refine ⟨hl, fun y H2 hy => ?_⟩
    obtain ⟨rfl, rfl⟩ := hy
    rw [← ed]
    exact ⟨Ext.refl, rh, rfl⟩
  · simp at hi
    show n ≤ i
    omega
/-- a new pair -/
theorem pair_new {T0 : Addr} {a b : D} {x y : V} (rh : RH T w ρ h H) (hT : H T0 = none) (ra : RD w ρ H a x) (rb : RD w ρ H b y) : Ext w ρ H ρ (L2.upd H T0 (.tup [x, y])) ∧ RH T w ρ h (L2.upd H T0 (.tup [x, y])) ∧ RD w ρ (L2.upd H T0 (.tup [x, y])) (.tup [a, b]) (.ref T0) := by
  obtain ⟨e, r', _⟩ := rh.frz hT (.tup [x, y])
  exact ⟨e, r', T0, [x, y], rfl, upd_same, x, [y], rfl, ra.mono e, y, [], rfl, rb.mono e, rfl⟩
end

/-! ### the items of a thing -/
def getL (h : Hh) : D → Option (List D)
  | .lst xs => some xs
  | .ref n => match h[n]? with
    | some (.lst xs) => some xs
    | _ => none
  | _ => none
def getS (h : Hh) : D → Option (List D)
  | .tup xs => some xs
  | d => getL h d
def srcOf (h : Hh) : D → Option Src
  | .tup xs => some (xs, none)
  | .lst xs => some (xs, none)
  | .ref n => match h[n]? with
    | some (.lst xs) => some (xs, some n)
    | _ => none
  | _ => none
def ofS : Option Src → Hh → R Src
  | some s, h => .ok s h
  | none, _ => .stuck
def srcM (m : Me) : Ev → Hh → R Src := fun env h => (m env h).bind fun d h1 => ofS (srcOf h1 d) h1
def okR (i : Int) : Bool := decide (-(2 ^ 62) ≤ i) && decide (i < 2 ^ 62)
def rng (lo : Int) (n : Nat) : List D := (List.range n).map fun i => D.int (lo + (i : Nat))
def int1 : List D → Option Int
  | [.int i] => some i
  | _ => none
def int2 : List D → Option (Int × Int)
  | [.int i, .int j] => some (i, j)
  | _ => none
def one1 : List D → Option D
  | [d] => some d
  | _ => none
def two2 : List D → Option (D × D)
  | [a, b] => some (a, b)
  | _ => none
theorem int1_some {l : List D} {i : Int} (h : int1 l = some i) : l = [.int i] := by
  unfold int1 at h
  split at h
  · cases h; rfl
  · cases h
theorem int2_some {l : List D} {p : Int × Int} (h : int2 l = some p) : l = [.int p.1, .int p.2] := by
  unfold int2 at h
  split at h
  · cases h; rfl
  · cases h
theorem one1_some {l : List D} {i : D} (h : one1 l = some i) : l = [i] := by
  unfold one1 at h
  split at h
  · cases h; rfl
  · cases h
theorem two2_some {l : List D} {p : D × D} (h : two2 l = some p) : l = [p.1, p.2] := by
  unfold two2 at h
  split at h
  · cases h; rfl
  · cases h
def srcR1 (as : Ma) : Ev → Hh → R Src := fun env h => (as env h).bind fun vs h1 => match int1 vs with
  | some j => if okR j = true then .ok (rng 0 j.toNat, none) h1 else .stuck
  | none => .stuck
def srcR2 (as : Ma) : Ev → Hh → R Src := fun env h => (as env h).bind fun vs h1 => match int2 vs with
  | some p => if (okR p.1 && okR p.2) = true then .ok (rng p.1 (p.2 - p.1).toNat, none) h1 else .stuck
  | none => .stuck
def enumD : Nat → List D → List D
  | _, [] => []
  | i, d :: ds => .tup [.int i, d] :: enumD (i + 1) ds
def frzS : D → Option (List D)
  | .tup xs => some xs
  | .lst xs => some xs
  | _ => none
def srcEn (as : Ma) : Ev → Hh → R Src := fun env h => (as env h).bind fun vs h1 => match (one1 vs).bind frzS with
  | some xs => .ok (enumD 0 xs, none) h1
  | none => .stuck
def zipD : List D → List D → List D
  | a :: r, b :: s => .tup [a, b] :: zipD r s
  | _, _ => []
def zipS : D × D → Option (List D × List D)
  | (.lst xs, .lst ys) => some (xs, ys)
  | (.tup xs, .tup ys) => some (xs, ys)
  | _ => none
def srcZip (as : Ma) : Ev → Hh → R Src := fun env h => (as env h).bind fun vs h1 => match (two2 vs).bind zipS with
  | some p => .ok (zipD p.1 p.2, none) h1
  | none => .stuck
/-- the keys of a dict that does not change -/
def dctS : D → Option (List D × List D)
  | .dct false ks vs => some (ks, vs)
  | _ => none
theorem dctS_some {d : D} {p : List D × List D} (h : dctS d = some p) : d = .dct false p.1 p.2 := by
  unfold dctS at h
  split at h
  · cases h; rfl
  · cases h
def srcK (m : Me) : Ev → Hh → R Src := fun env h => (m env h).bind fun d h1 => match dctS d with
  | some p => .ok (p.1, none) h1
  | none => .stuck
def srcI (m : Me) : Ev → Hh → R Src := fun env h => (m env h).bind fun d h1 => match dctS d with
  | some p => .ok (zipD p.1 p.2, none) h1
  | none => .stuck
section
variable {T : List (Addr × Str)} {w : Wd} {ρ ρ' : List (Option Addr)} {h h' : Hh} {H H' : Hp}
theorem enumD_get : ∀ {ds : List D} {k i : Nat} {e : D}, (enumD k ds)[i]? = some e → ∃ d, ds[i]? = some d ∧ e = .tup [.int ((k + i : Nat) : Int), d]
  | [], _, _, _, q => by simp [enumD] at q
  | d :: ds, k, 0, e, q => by
    simp [enumD] at q
    exact ⟨d, rfl, q.symm⟩
  | d :: ds, k, i + 1, e, q => by
    obtain ⟨d', h1, h2⟩ := enumD_get (ds := ds) (k := k + 1) (i := i) (e := e) (by simpa [enumD] using q)
    exact ⟨d', by simpa using h1, by rw [h2, show k + 1 + i = k + (i + 1) by omega]⟩
theorem enumD_length : ∀ {ds : List D} {k : Nat}, (enumD k ds).length = ds.length
  | [], _ => rfl
  | d :: ds, k => by simp [enumD, enumD_length (ds := ds)]
theorem zipD_get : ∀ {as bs : List D} {i : Nat} {e : D}, (zipD as bs)[i]? = some e → ∃ a b, as[i]? = some a ∧ bs[i]? = some b ∧ e = .tup [a, b]
  | [], _, _, _, q => by simp [zipD] at q
  | _ :: _, [], _, _, q => by simp [zipD] at q
  | a :: r, b :: s, 0, e, q => by
    simp [zipD] at q
    exact ⟨a, b, rfl, rfl, q.symm⟩
  | a :: r, b :: s, i + 1, e, q => by
    obtain ⟨x, y, h1, h2, h3⟩ := zipD_get (as := r) (bs := s) (i := i) (by simpa [zipD] using q)
    exact ⟨x, y, by simpa using h1, by simpa using h2, h3⟩
theorem zipD_length : ∀ {as bs : List D}, (zipD as bs).length = min as.length bs.length
  | [], _ => by simp [zipD]
  | _ :: _, [] => by simp [zipD]
  | a :: r, b :: s => by simp [zipD, zipD_length (as := r) (bs := s)]
theorem it_enumL {K : PySem.W.Frag} {a : Addr} {xs : List V} {ds : List D} (f : Fz w ρ a) (r : Rd H a (.lst xs)) (q : RDs w ρ H ds xs) : ItOk T w ρ H (Ite K a) (enumD 0 ds) none := by
  intro w' wx Hb n i ρ1 h1 H1 e rh hc
  have r1 := n.at_ e f r (fun ps z => by cases z)
  have q1 := n.rds e q
  refine ⟨fun d hd => ?_, fun hi => ⟨xs, rd_lst r1, by rw [← q.length]; rw [enumD_length] at hi; omega⟩⟩
  obtain ⟨d0, hd0, rfl⟩ := enumD_get hd
  obtain ⟨x, hx, rx⟩ := q1.get hd0
  refine ⟨⟨xs, x, rd_lst r1, hx⟩, fun y H2 hy => ?_⟩
  obtain ⟨T0, y0, rfl, hT, rfl, hy⟩ := hy
  have := hy xs (rd_lst r1)
  rw [hx] at this
  cases this
  rw [Nat.zero_add]
  exact pair_new rh hT rfl rx
/-- tuple at a, each item in a new pair with its number -/
def IteT (K : PySem.W.Frag) (a : Addr) : It :=
  ⟨fun i H => ∃ (xs : List V) (x : V), SqT K H a xs ∧ xs[i]? = some x, fun i H v H' => ∃ T x, v = .ref T ∧ H T = none ∧ H' = L2.upd H T (.tup [.int (i : Nat), x]) ∧ ∀ xs, SqT K H a xs → xs[i]? = some x, fun i H => ∃ xs : List V, SqT K H a xs ∧ xs.length = i⟩
theorem it_enumT {K : PySem.W.Frag} {a : Addr} {xs : List V} {ds : List D} (r : H a = some (.tup xs)) (q : RDs w ρ H ds xs) : ItOk T w ρ H (IteT K a) (enumD 0 ds) none := by
  intro w' wx Hb n i ρ1 h1 H1 e rh hc
  have r1 := n.tup e r
  have q1 := n.rds e q
  refine ⟨fun d hd => ?_, fun hi => ⟨xs, rd_tup r1, by rw [← q.length]; rw [enumD_length] at hi; omega⟩⟩
  obtain ⟨d0, hd0, rfl⟩ := enumD_get hd
  obtain ⟨x, hx, rx⟩ := q1.get hd0
  refine ⟨⟨xs, x, rd_tup r1, hx⟩, fun y H2 hy => ?_⟩
  obtain ⟨T0, y0, rfl, hT, rfl, hy⟩ := hy
  have := hy xs (rd_tup r1)
  rw [hx] at this
  cases this
  rw [Nat.zero_add]
  exact pair_new rh hT rfl rx
theorem turn_enumT {P : Program} {w : World} {K : PySem.W.Frag} {elts : List Expr} {kk : Nat} {tpos : Pos} (a e it : Addr) :
    Turn P w K (.Tuple elts kk tpos) (IteT K a) [e, it] e (fun i h => (∃ old, IsEnum h e it ((i : Nat) : Int) old) ∧ h.IsTupleIter it a i ∧ e ≠ it) where
  mem := by simp
  obj := fun i h st b hb => by
    obtain ⟨⟨old, he⟩, ⟨o, ho, hc, hd⟩, _⟩ := st
    have e' : b = e ∨ b = it := by simpa using hb
    rcases e' with z | z
    · rw [z]; exact ⟨_, he, fun v q => nomatch q⟩
    · rw [z]; exact ⟨o, ho, fun v q => by rw [hd] at q; cases q⟩
  keep := fun i h h' st k => let ⟨⟨old, he⟩, hi, hne⟩ := st; ⟨⟨old, k e (by simp) _ he⟩, hi.at fun o q => k it (by simp) o q, hne⟩
  item := by
    intro X hP hw hK hc i pins s σ H E I hf st hg
    subst hP hw hK
    obtain ⟨⟨old, he⟩, hit, hne⟩ := st
    obtain ⟨xs, x, hq, hx⟩ := hg
    obtain ⟨its, rv, p, hz⟩ := I.tuple hq
    obtain ⟨u, hu, ru⟩ := rv.get hx
    have hil : i < its.toArray.size := by rw [List.size_toArray]; exact (List.getElem?_eq_some_iff.mp hu).1
    have ht : s.heap.IsTuple a its.toArray := p
    have hel : e < s.heap.objs.size := Heap.lt_size he
    have hitl : it < s.heap.objs.size := by obtain ⟨_, q, _⟩ := hit; exact Heap.lt_size q
    obtain ⟨oa, hoa, hca, n0, hda⟩ := id ht
    have hae : a ≠ e := fun z => by
      have he' : s.heap.get? e = some _ := he
      rw [z, he'] at hoa
      cases hoa
      cases hda
    have hai : a ≠ it := fun z => by
      obtain ⟨oi, hoi, hci, hdi⟩ := id hit
      rw [z, hoi] at hoa
      cases hoa
      rw [hdi] at hda
      cases hda
    have hD : Draws X.prog X.w X.A.in1 it [it, a] its.toArray.size (fun i v => its.toArray[i]? = some v) (fun i h => h.IsTupleIter it a i ∧ h.IsTuple a its.toArray) := Draws.tuple (A := X.A.in1) (show X.A.in1.handled = none from I.ok.hd hc) it a hai its.toArray
    refine wpAny_pyNext_enum_itemD hD he ⟨hit, ht⟩ hil hne (by simp [hne, Ne.symm hae]) fun v h' tk hv ho hst hT hsz hk => ?_
    have ev : v = u := by
      have hv' : its.toArray[i]? = some v := hv
      rw [List.getElem?_toArray] at hv'
      rw [hu] at hv'
      exact (Option.some.inj hv').symm
    subst ev
    refine ⟨_, rfl, wpAny_letOwnedTupleGo_enum (s := { s with heap := h', toks := tk + 1 }) ho fun h'' he' sb => ?_⟩
    have hT2 : h''.get? s.heap.objs.size = some { cls := .type "tuple", data := .seq #[.int i tk, v] } := (sb.2 _ (Nat.ne_of_gt hel)).trans hT
    have new : ObjOk X.prog X.w (L2.upd H s.heap.objs.size (.tup [.int (i : Nat), x])) h'' s.heap.objs.size (.tup [.int (i : Nat), x]) :=
      ⟨by show 2 ≤ sizeLine; decide, [.int i tk, v], .cons ⟨_, rfl⟩ (.cons ru .nil), ⟨_, hT2, rfl, _, rfl⟩⟩
    have I1 : Inv X pins σ (L2.upd H s.heap.objs.size (.tup [.int (i : Nat), x])) { s with heap := h'', toks := tk + 1 } :=
      I.turnedNew (ch := [e, it]) (fun b ob hb q => (sb.2 b (fun z => hb (by simp [z]))).trans (hk b ob (fun z => hb (by simp [z])) (fun z => hb (by simp [z])) q)) hf (Nat.le_refl _) new
    refine ⟨.ref s.heap.objs.size, _, I1, rfl, ⟨_, x, rfl, I.hok.fresh (Nat.le_refl _), rfl, fun ys hy => by rw [I.tuple_inj hy hq]; exact hx⟩, ⟨⟨v, ?_⟩, hst.1.at fun o q => (sb.2 it (Ne.symm hne)).trans q, hne⟩, fun b hb => ?_⟩
    · have e1 : ((i + 1 : Nat) : Int) = (i : Int) + 1 := by omega
      rw [e1]; exact he'
    · have hb' : b < s.heap.objs.size := by
        have e' : b = e ∨ b = it := by simpa using hb
        rcases e' with z | z
        · rw [z]; exact hel
        · rw [z]; exact hitl
      rw [upd_ne (Nat.ne_of_lt hb')]
      exact (hf b hb).1
  done := by
    intro X hP hw hK hc i pins s σ H E I hf st hg
    subst hP hw hK
    obtain ⟨⟨old, he⟩, hit, hne⟩ := st
    obtain ⟨xs, hq, hx⟩ := hg
    obtain ⟨its, rv, p, hz⟩ := I.tuple hq
    have ht : s.heap.IsTuple a its.toArray := p
    obtain ⟨f0, f1, f2, f3, f4, f5⟩ := hf it (by simp)
    obtain ⟨oa, hoa, hca, n0, hda⟩ := id ht
    have hai : a ≠ it := fun z => by
      obtain ⟨oi, hoi, hci, hdi⟩ := id hit
      rw [z, hoi] at hoa
      cases hoa
      rw [hdi] at hda
      cases hda
    have hl : its.toArray.size = i := by rw [List.size_toArray, ← rv.length, hx]
    have hD : Draws X.prog X.w X.A.in1 it [it, a] its.toArray.size (fun i v => its.toArray[i]? = some v) (fun i h => h.IsTupleIter it a i ∧ h.IsTuple a its.toArray) := Draws.tuple (A := X.A.in1) (show X.A.in1.handled = none from I.ok.hd hc) it a hai its.toArray
    exact wpAny_pyNext_enum_endD hD he ⟨by rw [hl]; exact hit, ht⟩ fun h' eb => ⟨rfl, I.turned (t' := s.toks) (fun b o hb q => eb b o hb q) f0 f1 f3 f4 f5⟩
  self := fun A i s Q E st h => let ⟨⟨_, he⟩, _⟩ := st; wpAny_pyIter_enum he h
end

section
variable {T : List (Addr × Str)} {X : Cx} {W : WX} {a b c e : Expr} {es : List Expr} {ma mb mc : Me} {as : Ma} {pos : Pos} {tg iter : Expr}
/-! ### sources' rules -/
/-- a list or a tuple, walked -/
def iSeq (K : PySem.W.Frag) (tl : TE) : TI := fun σ H R => tl σ H fun x H1 => ∃ a, x = .ref a ∧ (((∃ xs, SqL K H1 a xs) ∧ R (Itl K a) H1) ∨ ((∃ xs, SqT K H1 a xs) ∧ R (Itt K a) H1))
theorem pi_seq {l : Expr} {tl : TE} (hl : PE X l tl) : PI X tg l (iSeq X.K tl) := by
  refine ⟨fun pins s σ H R I h => ?_⟩
  refine thn (hl.run pins s σ H _ I h) fun v s1 ⟨x, H1, I1, r1, q1⟩ => ?_
  obtain ⟨a, e, q⟩ := q1
  subst e
  cases r1
  rcases q with ⟨⟨xs, hq⟩, q⟩ | ⟨⟨xs, hq⟩, q⟩
  · obtain ⟨its, rv, p, hz⟩ := I1.list hq
    refine wpAny_pyIter_list p.isList ?_
    refine ⟨s1.heap.objs.size, [s1.heap.objs.size], _, _, H1, rfl, I1.kept (t' := s1.toks) fun b o e => Heap.get?_push_of_some _ e, turn_list a _, ⟨_, Heap.get?_push_size _ rfl, rfl, rfl⟩, fun b hb => ?_, q⟩
    have e : b = s1.heap.objs.size := by simpa using hb
    subst e
    exact I1.fpOk (Nat.le_refl _) (I1.hok.fresh (Nat.le_refl _))
  · obtain ⟨its, rv, p, hz⟩ := I1.tuple hq
    refine wpAny_pyIter_tuple (show s1.heap.IsTuple a its.toArray from p) ?_
    refine ⟨s1.heap.objs.size, [s1.heap.objs.size], _, _, H1, rfl, I1.kept (t' := s1.toks) fun b o e => Heap.get?_push_of_some _ e, turn_tuple a _, ⟨_, Heap.get?_push_size _ rfl, rfl, rfl⟩, fun b hb => ?_, q⟩
    have e : b = s1.heap.objs.size := by simpa using hb
    subst e
    exact I1.fpOk (Nat.le_refl _) (I1.hok.fresh (Nat.le_refl _))
theorem mi_seq (p : ME T X W e ma) : MI T X W tg e (srcM ma) :=
  PI.imp (pi_seq p) fun σ H Rr ⟨w, ρ, env, h, s, q⟩ => by
    refine ⟨w, ρ, env, h, s, ?_⟩
    unfold srcM at q
    cases e : ma env h with
    | stuck => rw [e] at q; exact q
    | exc x h1 => rw [e] at q; exact fun ρ' H' e1 r1 => q ρ' H' e1 r1
    | ok d h1 =>
      rw [e, R.bind_ok] at q
      intro ρ1 H1 x e1 r1 d1
      cases d with
      | tup ds =>
        obtain ⟨a, xs, rfl, z, rs⟩ := d1
        exact ⟨a, rfl, .inr ⟨⟨xs, rd_tup z⟩, q ρ1 H1 _ e1 r1 (it_tup z rs)⟩⟩
      | lst ds =>
        obtain ⟨a, xs, rfl, f, z, rs⟩ := d1
        exact ⟨a, rfl, .inl ⟨⟨xs, rd_lst z⟩, q ρ1 H1 _ e1 r1 (it_lst f z rs)⟩⟩
      | ref n =>
        simp only [srcOf] at q
        cases e2 : h1[n]? with
        | none => rw [e2] at q; exact q.elim
        | some ob =>
          rw [e2] at q
          cases ob with
          | gone => exact q.elim
          | dct t k v => exact q.elim
          | dcn k v => exact q.elim
          | lst ds =>
            obtain ⟨a, ha⟩ := r1.live n _ e2 (by intro z; cases z)
            obtain ⟨_, _, ob, h3, h4⟩ := r1.obj n a ha
            rw [e2] at h3; cases h3
            obtain ⟨xs, z, rs⟩ := h4
            have ex := d1.2 a ha
            subst ex
            exact ⟨a, rfl, .inl ⟨⟨xs, SqL.of z⟩, q ρ1 H1 _ e1 r1 (it_ref d1.1 fun b hb => by rw [ha] at hb; cases hb; rfl)⟩⟩
      | _ => exact q.elim
theorem okR_ok {i : Int} (h : okR i = true) : -(2 ^ 62) ≤ i ∧ i < 2 ^ 62 := by
  unfold okR at h
  simp only [Bool.and_eq_true, decide_eq_true_eq] at h
  exact h
theorem mi_range1 {a : Expr} {p : Pos} (hg : Gl X "range") (hm : X.mg "range" = none) (ha : MA T X W [a] as) (hs : starEach [a] X.env = [(false, eval a X.env)] := by rfl) : MI T X W tg (.Call (.Name "range" p) [a] [] pos) (srcR1 as) :=
  PI.imp (pi_range1 hg hm ha hs) fun σ H Rr ⟨w, ρ, env, h, s, q⟩ => by
    refine ⟨w, ρ, env, h, s, ?_⟩
    unfold srcR1 at q
    cases e : as env h with
    | stuck => rw [e] at q; exact q
    | exc x h1 => rw [e] at q; exact fun ρ' H' e1 r1 => q ρ' H' e1 r1
    | ok d h1 =>
      rw [e, R.bind_ok] at q
      intro ρ1 H1 x e1 r1 d1
      cases ei : int1 d with
      | none => rw [ei] at q; exact q.elim
      | some j =>
        rw [ei] at q
        rw [int1_some ei] at d1
        dsimp only at q
        obtain ⟨x1, r, rfl, dj, er⟩ := d1
        have er : r = [] := er
        have dj : x1 = .int j := dj
        subst er dj
        by_cases hj : okR j = true
        · rw [if_pos hj] at q
          obtain ⟨g1, g2⟩ := okR_ok hj
          exact ⟨j, rfl, g1, g2, q ρ1 H1 _ e1 r1 it_range⟩
        · rw [if_neg hj] at q; exact q.elim
theorem mi_range2 {a b : Expr} {p : Pos} (hg : Gl X "range") (hm : X.mg "range" = none) (ha : MA T X W [a, b] as) (hs : starEach [a, b] X.env = [(false, eval a X.env), (false, eval b X.env)] := by rfl) (hs2 : starEach [b] X.env = [(false, eval b X.env)] := by rfl) : MI T X W tg (.Call (.Name "range" p) [a, b] [] pos) (srcR2 as) :=
  PI.imp (pi_range2 hg hm ha hs hs2) fun σ H Rr ⟨w, ρ, env, h, s, q⟩ => by
    refine ⟨w, ρ, env, h, s, ?_⟩
    unfold srcR2 at q
    cases e : as env h with
    | stuck => rw [e] at q; exact q
    | exc x h1 => rw [e] at q; exact fun ρ' H' e1 r1 => q ρ' H' e1 r1
    | ok d h1 =>
      rw [e, R.bind_ok] at q
      intro ρ1 H1 x e1 r1 d1
      cases ei : int2 d with
      | none => rw [ei] at q; exact q.elim
      | some p =>
        obtain ⟨i, j⟩ := p
        rw [ei] at q
        rw [int2_some ei] at d1
        dsimp only at q
        obtain ⟨x1, r, rfl, di, x2, r2, rfl, dj, er⟩ := d1
        have er : r2 = [] := er
        have di : x1 = .int i := di
        have dj : x2 = .int j := dj
        subst er di dj
        by_cases hj : (okR i && okR j) = true
        · rw [if_pos hj] at q
          simp only [Bool.and_eq_true] at hj
          obtain ⟨g1, g2⟩ := okR_ok hj.1
          obtain ⟨g3, g4⟩ := okR_ok hj.2
          exact ⟨i, j, rfl, ⟨g1, g2, g3, g4⟩, q ρ1 H1 _ e1 r1 it_range⟩
        · rw [if_neg hj] at q; exact q.elim
end
section
theorem meets_enumerate_new1 {v : Value} {o : Obj} {H : Heap → Prop} (B : Begins v o H) :
    Meets (Builtin.«enumerate.__new__» ⟨[.type "enumerate", v], []⟩) (fun _ R s => H s.heap ∧
      R (.ok (.ret (.ref (s.heap.push o).objs.size))) { s with heap := (s.heap.push o).push { cls := .type "enumerate", data := .fields #[.none, .bool false, .ref s.heap.objs.size, rawInt 0, .none, .none] } }) :=
  .of_wp fun prog w A R s h => by
    obtain ⟨hp, g, d, tk, os⟩ := s; obtain ⟨h1, h⟩ := h
    have hsub := sub_enumerate
    have q1 : ∀ {A' : Around} {E : Value → Shared → Prop} {Q : Value → Shared → Prop}, Q (.ref hp.objs.size) ⟨hp.push o, g, d, tk, os⟩ → wpAny (model prog w) A' (pyIter v) Q E ⟨hp, g, d, tk, os⟩ :=
      fun q => B.iter prog w _ _ ⟨hp, g, d, tk, os⟩ _ h1 q
    wp_walk using q1
    refine wpAny_stack_any fun st => wpAny_pure ?_
    split
    · rename_i c _ _ _ _ _
      cases (c == Value.type "enumerate")
      · wp_walk using q1
        exact ⟨_, rfl, h⟩
      · wp_walk using q1
        exact ⟨_, rfl, h⟩
    · wp_walk using q1
      exact ⟨_, rfl, h⟩
theorem enum_begins1 {prog : Program} {w : World} {A : Around} {E : Value → Shared → Prop} {s : Shared} {v : Value} {o : Obj} {H : Heap → Prop} {Q : Value → Shared → Prop} (B : Begins v o H) (h1 : H s.heap)
    (h : ∀ h', IsEnum h' (s.heap.objs.size + 1) s.heap.objs.size 0 .none → h'.get? s.heap.objs.size = some o → h'.objs.size = s.heap.objs.size + 2 →
      (∀ b o, s.heap.get? b = some o → h'.get? b = some o) → Q (.ref (s.heap.objs.size + 1)) { s with heap := h' }) :
    wpAny (model prog w) A (call (.type "enumerate") [v]) Q E s := by
  refine callType_new F.called_enumerate (by decide) (F.typeCall_enumerate_1 _) (F.newCall_enumerate_1 _) (fun obj => F.args_object_init_2 obj _) F.entry_enumerate_new
    (meets_enumerate_new1 B) ⟨h1, ?_⟩
  have hz : (s.heap.push o).objs.size = s.heap.objs.size + 1 := Heap.size_push ..
  show _ ∧ _
  rw [hz]
  have he : IsEnum ((s.heap.push o).push { cls := .type "enumerate", data := .fields #[.none, .bool false, .ref s.heap.objs.size, rawInt 0, .none, .none] }) (s.heap.objs.size + 1) s.heap.objs.size 0 .none := by
    have := Heap.get?_push_size (s.heap.push o) (o := { cls := .type "enumerate", data := .fields #[.none, .bool false, .ref s.heap.objs.size, rawInt 0, .none, .none] }) rfl
    rw [hz] at this; exact this
  refine ⟨⟨_, he, rfl⟩, h _ he (Heap.get?_push_of_some _ (Heap.get?_push_size _ B.free)) (by rw [Heap.size_push, hz]) fun b o x => Heap.get?_push_of_some _ (Heap.get?_push_of_some _ x)⟩
end
section
variable {T : List (Addr × Str)} {X : Cx} {W : WX} {a b c e : Expr} {es : List Expr} {ma mb mc : Me} {as : Ma} {pos : Pos} {tg iter : Expr}
/-- enumerate of a list or a tuple -/
def iEnA (K : PySem.W.Frag) (ta : TA) : TI := fun σ H R => ta σ H fun vs H1 => ∃ a xs, vs = [.ref a] ∧ ((SqL K H1 a xs ∧ R (Ite K a) H1) ∨ (SqT K H1 a xs ∧ R (IteT K a) H1))
theorem pi_enA {e : Expr} {ta : TA} {p tpos : Pos} {elts : List Expr} {kk : Nat} (hg : Gl X "enumerate") (hm : X.mg "enumerate" = none) (ha : PA X [e] ta) (hs : starEach [e] X.env = [(false, eval e X.env)] := by rfl) :
    PI X (.Tuple elts kk tpos) (.Call (.Name "enumerate" p) [e] [] pos) (iEnA X.K ta) := by
  refine ⟨fun pins s σ H R I h => ?_⟩
  refine Call_ (ld_blt I hg hm boot_enumerate (PyProof.Rows.callWith_type1 (thn (ha.run pos pins s σ H _ I h) fun us s1 ⟨vs, H1, I1, r1, q1⟩ => ?_) hs rfl))
  obtain ⟨a, xs, ex, q⟩ := q1
  subst ex
  cases r1 with
  | cons r rr =>
    cases rr
    cases r
    rcases q with ⟨hq, q⟩ | ⟨hq, q⟩
    · obtain ⟨its, rv, p', hz⟩ := I1.list hq
      refine call_enumerate_list p'.isList fun h' he hit hsz hk => wpAny_pyIter_enum he ?_
      have I2 : Inv X pins σ H1 { s1 with heap := h' } := I1.kept (t' := s1.toks) hk
      refine ⟨s1.heap.objs.size + 1, [s1.heap.objs.size + 1, s1.heap.objs.size], _, _, H1, rfl, I2, turn_enum a (s1.heap.objs.size + 1) s1.heap.objs.size, ⟨⟨.none, he⟩, hit, Nat.succ_ne_self _⟩, fun b hb => ?_, q⟩
      have e' : b = s1.heap.objs.size + 1 ∨ b = s1.heap.objs.size := by simpa using hb
      have hle : s1.heap.objs.size ≤ b := by
        rcases e' with z | z
        · rw [z]; exact Nat.le_add_right _ _
        · rw [z]; exact Nat.le_refl _
      exact I1.fpOk hle (I1.hok.fresh hle)
    · obtain ⟨its, rv, p', hz⟩ := I1.tuple hq
      refine enum_begins1 (begins_tuple a its.toArray) (show s1.heap.IsTuple a its.toArray from p') fun h' he hit hsz hk => wpAny_pyIter_enum he ?_
      have I2 : Inv X pins σ H1 { s1 with heap := h' } := I1.kept (t' := s1.toks) hk
      refine ⟨s1.heap.objs.size + 1, [s1.heap.objs.size + 1, s1.heap.objs.size], _, _, H1, rfl, I2, turn_enumT a (s1.heap.objs.size + 1) s1.heap.objs.size, ⟨⟨.none, he⟩, ⟨_, hit, rfl, rfl⟩, Nat.succ_ne_self _⟩, fun b hb => ?_, q⟩
      have e' : b = s1.heap.objs.size + 1 ∨ b = s1.heap.objs.size := by simpa using hb
      have hle : s1.heap.objs.size ≤ b := by
        rcases e' with z | z
        · rw [z]; exact Nat.le_add_right _ _
        · rw [z]; exact Nat.le_refl _
      exact I1.fpOk hle (I1.hok.fresh hle)
theorem mi_enum {a : Expr} {p tpos : Pos} {elts : List Expr} {kk : Nat} (hg : Gl X "enumerate") (hm : X.mg "enumerate" = none) (ha : MA T X W [a] as) (hs : starEach [a] X.env = [(false, eval a X.env)] := by rfl) : MI T X W (.Tuple elts kk tpos) (.Call (.Name "enumerate" p) [a] [] pos) (srcEn as) :=
  PI.imp (pi_enA hg hm ha hs) fun σ H Rr ⟨w, ρ, env, h, s, q⟩ => by
    refine ⟨w, ρ, env, h, s, ?_⟩
    unfold srcEn at q
    cases e : as env h with
    | stuck => rw [e] at q; exact q
    | exc x h1 => rw [e] at q; exact fun ρ' H' e1 r1 => q ρ' H' e1 r1
    | ok d h1 =>
      rw [e, R.bind_ok] at q
      intro ρ1 H1 x e1 r1 d1
      cases ei : one1 d with
      | none => rw [ei] at q; exact q.elim
      | some d0 =>
        rw [ei] at q
        rw [one1_some ei] at d1
        obtain ⟨x1, r, rfl, dj, er⟩ := d1
        have er : r = [] := er
        subst er
        cases d0 with
        | tup ds =>
          obtain ⟨a, xs, rfl, z, rs⟩ := dj
          exact ⟨a, xs, rfl, .inr ⟨rd_tup z, q ρ1 H1 _ e1 r1 (it_enumT z rs)⟩⟩
        | lst ds =>
          obtain ⟨a, xs, rfl, f, z, rs⟩ := dj
          exact ⟨a, xs, rfl, .inl ⟨rd_lst z, q ρ1 H1 _ e1 r1 (it_enumL f z rs)⟩⟩
        | _ => exact q.elim
theorem it_zipL {w : Wd} {ρ : List (Option Addr)} {H : Hp} {K : PySem.W.Frag} {a b : Addr} {xs ys : List V} {ds es : List D} (f : Fz w ρ a) (r : Rd H a (.lst xs)) (q : RDs w ρ H ds xs) (f2 : Fz w ρ b) (r2 : Rd H b (.lst ys)) (q2 : RDs w ρ H es ys) : ItOk T w ρ H (Itz K a b) (zipD ds es) none := by
  intro w' wx Hb n i ρ1 h1 H1 e rh hc
  have r3 := n.at_ e f r (fun ps z => by cases z)
  have q3 := n.rds e q
  have r4 := n.at_ e f2 r2 (fun ps z => by cases z)
  have q4 := n.rds e q2
  refine ⟨fun d hd => ?_, fun hi => ⟨xs, ys, rd_lst r3, rd_lst r4, by rw [← q.length, ← q2.length]; rw [zipD_length] at hi; omega⟩⟩
  obtain ⟨d0, d1, hd0, hd1, rfl⟩ := zipD_get hd
  obtain ⟨x, hx, rx⟩ := q3.get hd0
  obtain ⟨y, hy, ry⟩ := q4.get hd1
  refine ⟨⟨xs, ys, x, y, rd_lst r3, rd_lst r4, hx, hy⟩, fun v H2 hv => ?_⟩
  obtain ⟨T0, x0, y0, rfl, hT, rfl, h5, h6⟩ := hv
  have e5 := h5 xs (rd_lst r3)
  have e6 := h6 ys (rd_lst r4)
  rw [hx] at e5; rw [hy] at e6
  cases e5; cases e6
  exact pair_new rh hT rx ry
theorem it_zipT {w : Wd} {ρ : List (Option Addr)} {H : Hp} {K : PySem.W.Frag} {a b : Addr} {xs ys : List V} {ds es : List D} (r : H a = some (.tup xs)) (q : RDs w ρ H ds xs) (r2 : H b = some (.tup ys)) (q2 : RDs w ρ H es ys) : ItOk T w ρ H (RZ.ItzT K a b) (zipD ds es) none := by
  intro w' wx Hb n i ρ1 h1 H1 e rh hc
  have r3 := n.tup e r
  have q3 := n.rds e q
  have r4 := n.tup e r2
  have q4 := n.rds e q2
  refine ⟨fun d hd => ?_, fun hi => ⟨xs, ys, rd_tup r3, rd_tup r4, by rw [← q.length, ← q2.length]; rw [zipD_length] at hi; omega⟩⟩
  obtain ⟨d0, d1, hd0, hd1, rfl⟩ := zipD_get hd
  obtain ⟨x, hx, rx⟩ := q3.get hd0
  obtain ⟨y, hy, ry⟩ := q4.get hd1
  refine ⟨⟨xs, ys, x, y, rd_tup r3, rd_tup r4, hx, hy⟩, fun v H2 hv => ?_⟩
  obtain ⟨T0, x0, y0, rfl, hT, rfl, h5, h6⟩ := hv
  have e5 := h5 xs (rd_tup r3)
  have e6 := h6 ys (rd_tup r4)
  rw [hx] at e5; rw [hy] at e6
  cases e5; cases e6
  exact pair_new rh hT rx ry
theorem mi_zip {a b : Expr} {p tpos : Pos} {elts : List Expr} {kk : Nat} (hg : Gl X "zip") (hm : X.mg "zip" = none) (ha : MA T X W [a, b] as) (hs : starEach [a, b] X.env = (false, eval a X.env) :: starEach [b] X.env := by rfl) (hpl : (backTo pos (starEach [b] X.env)).any (·.1) = false := by rfl) :
    MI T X W (.Tuple elts kk tpos) (.Call (.Name "zip" p) [a, b] [] pos) (srcZip as) :=
  PI.imp (RZ.pi_zipA hg hm ha hs hpl) fun σ H Rr ⟨w, ρ, env, h, s, q⟩ => by
    refine ⟨w, ρ, env, h, s, ?_⟩
    unfold srcZip at q
    cases e : as env h with
    | stuck => rw [e] at q; exact q
    | exc x h1 => rw [e] at q; exact fun ρ' H' e1 r1 => q ρ' H' e1 r1
    | ok d h1 =>
      rw [e, R.bind_ok] at q
      intro ρ1 H1 x e1 r1 d1
      cases ei : two2 d with
      | none => rw [ei] at q; exact q.elim
      | some pr =>
        obtain ⟨da, db⟩ := pr
        rw [ei] at q
        rw [two2_some ei] at d1
        obtain ⟨x1, r, rfl, d2, x2, r2, rfl, d3, er⟩ := d1
        have er : r2 = [] := er
        subst er
        dsimp only at d2 d3
        cases da with
        | lst as =>
          cases db with
          | lst bs =>
            obtain ⟨a, xs, rfl, f, z, rs⟩ := d2
            obtain ⟨b, ys, rfl, f2, z2, rs2⟩ := d3
            exact ⟨a, b, xs, ys, rfl, .inl ⟨rd_lst z, rd_lst z2, q ρ1 H1 _ e1 r1 (it_zipL f z rs f2 z2 rs2)⟩⟩
          | _ => exact q.elim
        | tup as =>
          cases db with
          | tup bs =>
            obtain ⟨a, xs, rfl, z, rs⟩ := d2
            obtain ⟨b, ys, rfl, z2, rs2⟩ := d3
            exact ⟨a, b, xs, ys, rfl, .inr ⟨rd_tup z, rd_tup z2, q ρ1 H1 _ e1 r1 (it_zipT z rs z2 rs2)⟩⟩
          | _ => exact q.elim
        | _ => exact q.elim
end
end Rf
namespace Rf
open PySem PySem.Spec PyProof.Rows L2

/-! ### dicts walked -/
section
variable {T : List (Addr × Str)} {w : Wd} {ρ ρ' : List (Option Addr)} {h h' : Hh} {H H' : Hp}
theorem mapM_get {α β : Type} {f : α → Option β} : ∀ {as : List α} {bs : List β} {i : Nat} {a : α}, as.mapM f = some bs → as[i]? = some a → ∃ b, bs[i]? = some b ∧ f a = some b
  | [], _, _, _, _, q => by simp at q
  | x :: r, bs, 0, a, h, q => by
    obtain ⟨b, s, e1, e2, rfl⟩ := mapM_cons_some h
    simp at q; subst q
    exact ⟨b, rfl, e1⟩
  | x :: r, bs, i + 1, a, h, q => by
    obtain ⟨b, s, e1, e2, rfl⟩ := mapM_cons_some h
    obtain ⟨c, h1, h2⟩ := mapM_get (i := i) (a := a) e2 (by simpa using q)
    exact ⟨c, by simpa using h1, h2⟩
theorem mapM_length {α β : Type} {f : α → Option β} : ∀ {as : List α} {bs : List β}, as.mapM f = some bs → as.length = bs.length
  | [], bs, h => by
    rw [List.mapM_nil] at h
    have : ([] : List β) = bs := Option.some.inj h
    subst this; rfl
  | x :: r, bs, h => by
    obtain ⟨b, s, e1, e2, rfl⟩ := mapM_cons_some h
    simp [mapM_length e2]
theorem keyD_rd {d : D} {k : Key} (h : keyD d = some k) : RD w ρ H d (kV k) := by
  cases d <;> simp [keyD] at h
  · subst h; rfl
  · subst h; rfl
theorem zip_get {α β : Type} {as : List α} {bs : List β} {i : Nat} {a : α} {b : β} (h1 : as[i]? = some a) (h2 : bs[i]? = some b) : (as.zip bs)[i]? = some (a, b) := by
  rw [List.getElem?_zip_eq_some]
  exact ⟨h1, h2⟩
theorem Wn.frz {w' wx : Wd} {Hb : Hp} (n : Wn w H w' wx Hb) (e : Ext wx ρ Hb ρ' H') {a : Addr} {u : HO} {od : Obj} (r : H a = some (.frz od u)) : H' a = some (.frz od u) := by
  rcases n with ⟨rfl, rfl, rfl⟩ | ⟨p, o, hp, rfl, rfl, rfl⟩
  · exact e.frzs a od u r
  · exact e.frzs a od u (by rw [upd_ne (ne_of_none r hp)]; exact r)
theorem it_keys {d : Addr} {od : Obj} {ks : List D} {ys : List Key} {xs : List V} (e : H d = some (.frz od (.dK (ys.zip xs)))) (hk : ks.mapM keyD = some ys) (hl : ys.length = xs.length) : ItOk T w ρ H (Itk d od (ys.zip xs)) ks none := by
  intro w' wx Hb n i ρ1 h1 H1 ex rh hc
  have r1 := n.frz ex e
  have l := mapM_length hk
  have lz : (ys.zip xs).length = ks.length := by rw [List.length_zip]; omega
  refine ⟨fun k hd => ?_, fun hi => ⟨r1, by omega⟩⟩
  obtain ⟨y, hy, ey⟩ := mapM_get hk hd
  have hi : i < ks.length := (List.getElem?_eq_some_iff.mp hd).1
  refine ⟨⟨r1, by omega⟩, fun x H2 hv => ?_⟩
  obtain ⟨rfl, k', v', hkv, rfl⟩ := hv
  rw [List.getElem?_zip_eq_some] at hkv
  rw [hy] at hkv
  have : y = k' := Option.some.inj hkv.1
  subst this
  exact ⟨Ext.refl, rh, keyD_rd ey⟩
theorem it_items {d : Addr} {od : Obj} {ks vs : List D} {ys : List Key} {xs : List V} (e : H d = some (.frz od (.dK (ys.zip xs)))) (hk : ks.mapM keyD = some ys) (hl : ys.length = xs.length) (q : RDs w ρ H vs xs) : ItOk T w ρ H (Iti d od (ys.zip xs)) (zipD ks vs) none := by
  intro w' wx Hb n i ρ1 h1 H1 ex rh hc
  have r1 := n.frz ex e
  have q1 := n.rds ex q
  have l := mapM_length hk
  have l2 := q.length
  have lz : (ys.zip xs).length = ks.length := by rw [List.length_zip]; omega
  refine ⟨fun k hd => ?_, fun hi => ⟨r1, by rw [zipD_length] at hi; omega⟩⟩
  obtain ⟨kd, vd, h5, h6, rfl⟩ := zipD_get hd
  obtain ⟨y, hy, ey⟩ := mapM_get hk h5
  obtain ⟨x, hx, rx⟩ := q1.get h6
  have hi : i < ks.length := (List.getElem?_eq_some_iff.mp h5).1
  refine ⟨⟨r1, by omega⟩, fun z H2 hv => ?_⟩
  obtain ⟨T0, k', v', hkv, rfl, hT, rfl⟩ := hv
  rw [List.getElem?_zip_eq_some] at hkv
  rw [hy, hx] at hkv
  have e1 : y = k' := Option.some.inj hkv.1
  have e2 : x = v' := Option.some.inj hkv.2
  subst e1 e2
  exact pair_new rh hT (keyD_rd ey) rx
end
section
variable {T : List (Addr × Str)} {X : Cx} {W : WX} {a b c e : Expr} {es : List Expr} {ma mb mc : Me} {as : Ma} {pos apos cpos : Pos} {tg iter : Expr}
/-- the keys of a dict, which is locked from now on -/
def iKeysL (td : TE) : TI := fun σ H R => td σ H fun x H1 => ∃ d kvs, x = .ref d ∧ ((H1 d = some (.dK kvs) ∧ ∀ od, R (Itk d od kvs) (L2.upd H1 d (.frz od (.dK kvs)))) ∨ ∃ od, H1 d = some (.frz od (.dK kvs)) ∧ R (Itk d od kvs) H1)
theorem pi_keysL {td : TE} (he : PE X e td) : PI X tg e (iKeysL td) := by
  refine ⟨fun pins s σ H R I h => ?_⟩
  refine thn (he.run pins s σ H _ I h) fun u s1 ⟨x, H1, I1, rx, d, kvs, ex, q⟩ => ?_
  subst ex
  obtain rfl : u = Value.ref d := rx
  have fin : ∀ {od : Obj} {H2 : Hp}, Inv X pins σ H2 s1 → H2 d = some (.frz od (.dK kvs)) → R (Itk d od kvs) H2 → wpAny (model X.prog X.w) X.A (pyIter (.ref d)) (PIE X pins σ tg R) X.xe s1 := fun {od H2} I2 hd q => by
    obtain ⟨hs, hgd, hx, es, ep, vs, hdt, hsz, kv, hm⟩ := I2.frzK hd
    refine iter_keys hs hgd hx hdt (pi_one (tk := s1.toks) I2 _ (turn_keys _ hdt) ⟨_, Heap.get?_push_size _ rfl, rfl, ?_⟩ q)
    rw [hsz] <;> rfl
  rcases q with ⟨hd, q⟩ | ⟨od, hd, q⟩
  · obtain ⟨od, I2⟩ := I1.lock hd trivial
    exact fin I2 upd_same (q od)
  · exact fin I1 hd q
def iItemsL (td : TE) : TI := fun σ H R => td σ H fun x H1 => ∃ d kvs, x = .ref d ∧ ((H1 d = some (.dK kvs) ∧ ∀ od, R (Iti d od kvs) (L2.upd H1 d (.frz od (.dK kvs)))) ∨ ∃ od, H1 d = some (.frz od (.dK kvs)) ∧ R (Iti d od kvs) H1)
theorem pi_itemsL {td : TE} {elts : List Expr} {kk : Nat} {tpos : Pos} (he : PE X e td) (hbase : attributeBase e "items" X.env (eval e X.env) = eval e X.env := by rfl) (hline : (apos.endLine == cpos.line) = true := by rfl) :
    PI X (.Tuple elts kk tpos) (.Call (.Attribute e "items" apos) [] [] cpos) (iItemsL td) := by
  refine ⟨fun pins s σ H R I h => ?_⟩
  refine wpAny_Call_method (T := "dict") (id := "dict.items") hbase rfl hline F.plainAttrs_dict F.slot_dict_items F.type_dict_items (thn (he.run pins s σ H _ I h) fun u s1 ⟨x, H1, I1, rx, d, kvs, ex, q⟩ => ?_)
  subst ex
  obtain rfl : u = Value.ref d := rx
  have fin : ∀ {od : Obj} {H2 : Hp}, Inv X pins σ H2 s1 → H2 d = some (.frz od (.dK kvs)) → R (Iti d od kvs) H2 → (s1.TypeIs (.ref d) "dict" ∧ (∀ a, Value.ref d = .ref a → ∃ ob, s1.heap.get? a = some ob ∧ ob.dict = none)) ∧ wpAny (model X.prog X.w) X.A (callWith cpos (.builtin "dict.items") [.ref d] [] []) (fun v s2 => wpAny (model X.prog X.w) X.A (pyIter v) (PIE X pins σ (.Tuple elts kk tpos) R) X.xe s2) X.xe s1 := fun {od H2} I2 hd q => by
    obtain ⟨hs, hgd, hx, es, ep, vs, hdt, hsz, kv, hm⟩ := I2.frzK hd
    have hl : kvs.length = vs.length := Paired.length kv
    refine ⟨⟨hm.dictOf.typeIs, hm.dictOf.mapOf.noDict⟩, ?_⟩
    have I3 : Inv X pins σ H2 { s1 with heap := s1.heap.push { cls := .type "dict_items", data := .fields #[.ref d] } } := I2.kept (t' := s1.toks) fun b ob q => Heap.get?_push_of_some _ q
    have fin : wpAny (model X.prog X.w) X.A (pyIter (.ref s1.heap.objs.size)) (PIE X pins σ (.Tuple elts kk tpos) R) X.xe { s1 with heap := s1.heap.push { cls := .type "dict_items", data := .fields #[.ref d] } } := by
      refine wpAny_pyIter_items (d := d) (knd := mixKind X.prog X.w) ⟨_, Heap.get?_push_size _ rfl, rfl, rfl⟩ (hm.push _) (pi_one (tk := s1.toks) I3 _ (turn_items _ hdt) ⟨.none, .none, ?_⟩ q)
      rw [hl]
      exact Heap.get?_push_size _ rfl
    exact method_meetsIn F.slot_dict_items F.entry_dict_items rfl (PySem.evalArgs_none ⟨rfl, hm.dictOf.typeIs, F.args_dict_items_1 _, _, meets_dict_items (mixKind X.prog X.w) d hs, ⟨vs, hm.dictOf⟩, fin⟩)
  rcases q with ⟨hd, q⟩ | ⟨od, hd, q⟩
  · obtain ⟨od, I2⟩ := I1.lock hd trivial
    obtain ⟨⟨f1, f2⟩, f3⟩ := fin I2 upd_same (q od)
    exact ⟨f1, f2, f3⟩
  · obtain ⟨⟨f1, f2⟩, f3⟩ := fin I1 hd q
    exact ⟨f1, f2, f3⟩
theorem mi_keys (p : ME T X W e ma) : MI T X W tg e (srcK ma) :=
  PI.imp (pi_keysL p) fun σ H Rr ⟨w, ρ, env, h, s, q⟩ => by
    refine ⟨w, ρ, env, h, s, ?_⟩
    unfold srcK at q
    cases e : ma env h with
    | stuck => rw [e] at q; exact q
    | exc x h1 => rw [e] at q; exact fun ρ' H' e1 r1 => q ρ' H' e1 r1
    | ok d h1 =>
      rw [e, R.bind_ok] at q
      intro ρ1 H1 x e1 r1 d1
      cases ed : dctS d with
      | none => rw [ed] at q; exact q.elim
      | some pr =>
        obtain ⟨ks, vs⟩ := pr
        rw [ed] at q
        rw [dctS_some ed] at d1
        obtain ⟨a, xs, ys, rfl, f, hk, hl, rd, rs⟩ := d1
        dsimp only at q hk rs
        refine ⟨a, ys.zip xs, rfl, ?_⟩
        rcases rd with z | ⟨od, z⟩
        · refine .inl ⟨z, fun od => ?_⟩
          obtain ⟨e2, r2⟩ := r1.lock (od := od) f z trivial
          exact q ρ1 _ _ (e1.trans e2) r2 (it_keys upd_same hk hl)
        · exact .inr ⟨od, z, q ρ1 _ _ e1 r1 (it_keys z hk hl)⟩
theorem mi_items {elts : List Expr} {kk : Nat} {tpos : Pos} (p : ME T X W e ma) (hbase : attributeBase e "items" X.env (eval e X.env) = eval e X.env := by rfl) (hline : (apos.endLine == cpos.line) = true := by rfl) : MI T X W (.Tuple elts kk tpos) (.Call (.Attribute e "items" apos) [] [] cpos) (srcI ma) :=
  PI.imp (pi_itemsL p hbase hline) fun σ H Rr ⟨w, ρ, env, h, s, q⟩ => by
    refine ⟨w, ρ, env, h, s, ?_⟩
    unfold srcI at q
    cases e : ma env h with
    | stuck => rw [e] at q; exact q
    | exc x h1 => rw [e] at q; exact fun ρ' H' e1 r1 => q ρ' H' e1 r1
    | ok d h1 =>
      rw [e, R.bind_ok] at q
      intro ρ1 H1 x e1 r1 d1
      cases ed : dctS d with
      | none => rw [ed] at q; exact q.elim
      | some pr =>
        obtain ⟨ks, vs⟩ := pr
        rw [ed] at q
        rw [dctS_some ed] at d1
        obtain ⟨a, xs, ys, rfl, f, hk, hl, rd, rs⟩ := d1
        dsimp only at q hk rs
        refine ⟨a, ys.zip xs, rfl, ?_⟩
        rcases rd with z | ⟨od, z⟩
        · refine .inl ⟨z, fun od => ?_⟩
          obtain ⟨e2, r2⟩ := r1.lock (od := od) f z trivial
          exact q ρ1 _ _ (e1.trans e2) r2 (it_items upd_same hk hl (rs.mono e2))
        · exact .inr ⟨od, z, q ρ1 _ _ e1 r1 (it_items z hk hl rs)⟩

/-! ### a def -/
theorem pst_fin {w : Wd} {ρ : List (Option Addr)} {h h' : Hh} {H : Hp} {v : D} {Q : VK} {Wx : Ex → Hp → Prop} {σ : L2.St} {Dd : Ends} (hl : ρ.length = h.length)
    (q : Pst T w ρ H RD (finR h.length v h') Q Wx) : ∀ ρ' H' x, Ext w ρ H ρ' H' → RH T w ρ' h' H' → RD w ρ' H' v x → Q x H' := by
  intro ρ' H' x e r d
  unfold finR at q
  cases ef : frzD h.length h' 12 v with
  | none => rw [ef] at q; exact q.elim
  | some v' =>
    rw [ef] at q
    dsimp only at q
    have hk : h.length ≤ ρ'.length := by rw [← hl]; exact e.len
    by_cases hc : ((h'.take h.length).all (lowO h.length)) = true
    · rw [if_pos hc] at q
      have e2 := e.cut
      rw [hl] at e2
      exact q _ H' x e2 (r.cut hk hc) (frzD_ok r hk 12 ef d)
    · rw [if_neg hc] at q; exact q.elim
theorem pst_finX {w : Wd} {ρ : List (Option Addr)} {h h' : Hh} {H : Hp} {x : Ex} {Q : VK} {Wx : Ex → Hp → Prop} (hl : ρ.length = h.length)
    (q : Pst T w ρ H RD (finX h.length x h') Q Wx) : ∀ ρ' H', Ext w ρ H ρ' H' → RH T w ρ' h' H' → Wx x H' := by
  intro ρ' H' e r
  unfold finX at q
  have hk : h.length ≤ ρ'.length := by rw [← hl]; exact e.len
  by_cases hc : ((h'.take h.length).all (lowO h.length)) = true
  · rw [if_pos hc] at q
    have e2 := e.cut
    rw [hl] at e2
    exact q _ H' e2 (r.cut hk hc)
  · rw [if_neg hc] at q; exact q.elim
theorem re_start {w : Wd} {ρ : List (Option Addr)} {H : Hp} {N : List Str} {ds : List D} {vs : List V} (r : RDs w ρ H ds vs) : RE w ρ H (ds.map some ++ List.replicate (N.length - ds.length) none) (L2.start N vs) := by
  have hl := r.length
  refine ⟨by unfold L2.start; simp [hl], fun i d e => ?_⟩
  unfold L2.start
  by_cases hi : i < ds.length
  · rw [List.getElem?_append_left (by simpa using hi), List.getElem?_map] at e
    obtain ⟨d', e1, e2⟩ := Option.map_eq_some_iff.mp e
    cases e2
    obtain ⟨x, e3, e4⟩ := r.get e1
    exact ⟨x, by rw [List.getElem?_append_left (by simp; omega), List.getElem?_map, e3]; rfl, e4⟩
  · rw [List.getElem?_append_right (by simp; omega), List.getElem?_replicate] at e
    split at e <;> cases e
/-- THE RULE of a def: its body does what m does -/
theorem fun_look {K : PySem.W.Frag} {x qual : Str} {params : Arguments} {body : List Stmt} {scope : Scope} {dvs : List V} {kws : List (Str × V)} {f : Addr} {fd : FuncData} (F : FunD K x qual params body scope dvs kws f fd) : ∃ (oc : Value) (od : Option Addr) (osl : Array (Option Value)), K.lookup f = some ⟨oc, od, .func fd, osl⟩ := by
  obtain ⟨oc, od, _, _, _, _, _, _, _, osl, _, lk, _⟩ := F.ex
  exact ⟨oc, od, osl, lk⟩
theorem df_of {P : Program} {wo : World} {K : PySem.W.Frag} {mg : Str → Option Value} {base : Heap} {x : Str} {params : Arguments} {body : List Stmt} {scope : Scope} {fd : FuncData} {N ps : List Str} {k : Nat} {m : Ms}
    (F : FunD K x x params body scope [] [] (He.ga K x) fd) (S : FnScope N ps scope) (hg : mg x = some (.ref (He.ga K x)))
    (hb : ∀ (kV doc pm : Value) (an : Option Addr) (cdv ct : Value) (us : List Value), us.length = ps.length → bindArgs (PySem.W.fnOf x x params body scope .none kV doc pm an cdv ct) ⟨us, []⟩ = pure (ps.zip us))
    (hbody : ∀ (cdv : Value) (A : Around) (outer : List Env) (s : Shared) (H : Hp) (E : XK), Room k (A.deeper (envOfC x scope s.heap.objs.size (He.ga K x) cdv)) →
      Bd (cxOf (L2N.CX P wo) P wo K mg base N x scope (He.ga K x) cdv A outer s H E) (fun cls d _ H => E cls d H) →
      MSs T (cxOf (L2N.CX P wo) P wo K mg base N x scope (He.ga K x) cdv A outer s H E) (fun cls d _ H => E cls d H) body m) : Df T P wo K mg base x (k + 1) ps (runF N.length m) := by
  refine ⟨⟨fd, F.ok S (fun vs H Q E ⟨w, ρ, h, ds, _, hl, rs, _, _⟩ => by rw [← rs.length]; exact hl) (fun cdv A outer s H vs Q E hr h => ?_), F.bindsN hb, fun_look F⟩, hg, F.kp⟩
  have B : Bd (cxOf (L2N.CX P wo) P wo K mg base N x scope (He.ga K x) cdv A outer s H E) (fun cls d _ H => E cls d H) := ⟨rfl, passes_of rfl, L2N.takes_of rfl rfl rfl rfl, S.nd⟩
  refine ⟨_, hbody cdv A outer s H E hr B, ?_⟩
  obtain ⟨w, ρ, h, ds, eg, hl, rs, rh, q⟩ := h
  refine ⟨w, ρ, _, h, ⟨eg, re_start rs, rh⟩, ?_⟩
  unfold runF at q
  cases e : m (ds.map some ++ List.replicate (N.length - ds.length) none) h with
  | nx env h' =>
    rw [e] at q
    intro ρ' H' σ' e1 r1 _
    exact pst_fin (σ := []) (Dd := ⟨fun _ _ => True, fun _ _ => True, fun _ _ => True, fun _ _ => True⟩) rh.len q ρ' H' .non e1 r1 rfl
  | rt v h' =>
    rw [e] at q
    intro ρ' H' y e1 r1 d1
    exact pst_fin (σ := []) (Dd := ⟨fun _ _ => True, fun _ _ => True, fun _ _ => True, fun _ _ => True⟩) rh.len q ρ' H' y e1 r1 d1
  | exc v h' =>
    rw [e] at q
    intro ρ' H' σ' e1 r1
    exact pst_finX (Q := Q) rh.len q ρ' H' e1 r1
  | bk env h' => rw [e] at q; exact q.elim
  | ct env h' => rw [e] at q; exact q.elim
  | stuck => rw [e] at q; exact q.elim
end
end Rf
namespace Rf
open PySem PySem.Spec PyProof.Rows L2

/-! ### operations on whole numbers -/
abbrev Op2 := D → D → Hh → O
def gI (C : Int → Int → Bool) (f : Int → Int → D) : Op2 := fun a b h => match a, b with
  | .int i, .int j => if C i j = true then some (f i j, h) else none
  | _, _ => none
def gOr (f g : Op2) : Op2 := fun a b h => match f a b h with
  | some p => some p
  | none => g a b h
def gNeg : D → Hh → O := fun a h => match a with
  | .int i => some (.int (-i), h)
  | _ => none
theorem gI_some {C : Int → Int → Bool} {f : Int → Int → D} {a b : D} {h : Hh} {p : D × Hh} (e : gI C f a b h = some p) : ∃ i j, a = .int i ∧ b = .int j ∧ C i j = true ∧ p = (f i j, h) := by
  unfold gI at e
  split at e
  · rename_i i j
    by_cases c : C i j = true
    · rw [if_pos c] at e; exact ⟨i, j, rfl, rfl, c, (Option.some.inj e).symm⟩
    · rw [if_neg c] at e; cases e
  · cases e
section
variable {T : List (Addr × Str)} {X : Cx} {W : WX}
theorem mop_of {f : Value → Value → Sem Value} {r : R2} {g : Op2} (ho : OpR X f r) (hi : ∀ x y H Q, rB T X g x y H Q → r x y H Q) : MOp T X f g :=
  fun pins s σ H x y v u Q I rx ry h => ho pins s σ H x y v u Q I rx ry (hi x y H Q h)
theorem mop_or {f : Value → Value → Sem Value} {g g' : Op2} (h1 : MOp T X f g) (h2 : MOp T X f g') : MOp T X f (gOr g g') :=
  fun pins s σ H x y v u Q I rx ry ⟨w, ρ, h, a, b, e1, rh, ra, rb, q⟩ => by
    unfold gOr at q
    cases e : g a b h with
    | some p => rw [e] at q; exact h1 pins s σ H x y v u Q I rx ry ⟨w, ρ, h, a, b, e1, rh, ra, rb, by rw [e]; exact q⟩
    | none => rw [e] at q; exact h2 pins s σ H x y v u Q I rx ry ⟨w, ρ, h, a, b, e1, rh, ra, rb, q⟩
theorem mfn_of {f : Value} {r : List V → Hp → VK → Prop} {g : List D → Hh → O} (ho : CallR X f r) (hi : ∀ x H Q, rF1 T X g x H Q → r x H Q) : MFn T X f g :=
  fun pins s σ H x v Q I rx h => ho pins s σ H x v Q I rx (hi x H Q h)
def fOr (f g : List D → Hh → O) : List D → Hh → O := fun a h => match f a h with
  | some p => some p
  | none => g a h
theorem mfn_or {f : Value} {g g' : List D → Hh → O} (h1 : MFn T X f g) (h2 : MFn T X f g') : MFn T X f (fOr g g') :=
  fun pins s σ H x v Q I rx ⟨w, ρ, h, a, e1, rh, ra, q⟩ => by
    unfold fOr at q
    cases e : g a h with
    | some p => rw [e] at q; exact h1 pins s σ H x v Q I rx ⟨w, ρ, h, a, e1, rh, ra, by rw [e]; exact q⟩
    | none => rw [e] at q; exact h2 pins s σ H x v Q I rx ⟨w, ρ, h, a, e1, rh, ra, q⟩
theorem mop_I {f : Value → Value → Sem Value} {C : Int → Int → Bool} {P : Int → Int → Prop} {d : Int → Int → D} {v : Int → Int → V} (ho : OpR X f (rI P v)) (hC : ∀ i j, C i j = true → P i j) (hv : ∀ w ρ H i j, RD w ρ H (d i j) (v i j)) : MOp T X f (gI C d) :=
  mop_of ho fun x y H Q ⟨w, ρ, h, a, b, e1, rh, ra, rb, q⟩ => by
    unfold Vst at q
    cases e : gI C d a b h with
    | none => rw [e] at q; exact q.elim
    | some p =>
      obtain ⟨i, j, rfl, rfl, c, rfl⟩ := gI_some e
      rw [e] at q
      exact ⟨i, j, ra, rb, hC i j c, q ρ H _ Ext.refl rh (hv w ρ H i j)⟩
theorem opr_I0 {f : Value → Value → Sem Value} {v : Int → Int → V} (ho : OpR X f (rI0 v)) : OpR X f (rI (fun _ _ => True) v) :=
  fun pins s σ H x y a b Q I rx ry ⟨i, j, e1, e2, _, q⟩ => ho pins s σ H x y a b Q I rx ry ⟨i, j, e1, e2, q⟩
theorem mop_I0 {f : Value → Value → Sem Value} {d : Int → Int → D} {v : Int → Int → V} (ho : OpR X f (rI0 v)) (hv : ∀ w ρ H i j, RD w ρ H (d i j) (v i j)) : MOp T X f (gI (fun _ _ => true) d) :=
  mop_I (opr_I0 ho) (fun _ _ _ => trivial) hv
def iAdd : Op2 := gI (fun _ _ => true) fun i j => .int (i + j)
def iSub : Op2 := gI (fun _ _ => true) fun i j => .int (i - j)
def lim64 (i : Int) : Bool := decide (-(2 ^ 64) < i) && decide (i < 2 ^ 64)
def iMul : Op2 := gI (fun i j => lim64 i || lim64 j || decide (i.natAbs.log2 + j.natAbs.log2 < 1000000)) fun i j => .int (i * j)
def iDiv : Op2 := gI (fun i j => (decide (0 < j) && decide (j.natAbs.log2 < 9000)) || (decide (j ≠ 0) && decide (j.natAbs < 1073741824))) fun i j => .int (i.fdiv j)
def iMod : Op2 := gI (fun _ j => decide (j ≠ 0)) fun i j => .int (i.fmod j)
def iPow : Op2 := gI (fun i j => decide (0 ≤ j) && decide (j ≤ 1000000) && decide (i.natAbs < 2 ^ 64)) fun i j => .int (i ^ j.toNat)
def iShl : Op2 := gI (fun i j => decide (0 ≤ j) && decide (j ≤ 1000000) && decide (i.natAbs < 2 ^ 64)) fun i j => .int (i * 2 ^ j.toNat)
def iLt : Op2 := gI (fun _ _ => true) fun i j => .bl (decide (i < j))
def iLe : Op2 := gI (fun _ _ => true) fun i j => .bl (decide (i ≤ j))
def iGt : Op2 := gI (fun _ _ => true) fun i j => .bl (decide (j < i))
def iGe : Op2 := gI (fun _ _ => true) fun i j => .bl (decide (j ≤ i))
theorem mop_add : MOp T X (binaryOp .Add) iAdd := mop_I0 op_add fun _ _ _ _ _ => rfl
theorem mop_sub : MOp T X (binaryOp .Sub) iSub := mop_I0 op_sub fun _ _ _ _ _ => rfl
theorem opr_or {f : Value → Value → Sem Value} {P P' : Int → Int → Prop} {v : Int → Int → V} (h1 : OpR X f (rI P v)) (h2 : OpR X f (rI P' v)) : OpR X f (rI (fun i j => P i j ∨ P' i j) v) :=
  fun pins s σ H x y a b Q I rx ry ⟨i, j, e1, e2, c, q⟩ => c.elim (fun c => h1 pins s σ H x y a b Q I rx ry ⟨i, j, e1, e2, c, q⟩) fun c => h2 pins s σ H x y a b Q I rx ry ⟨i, j, e1, e2, c, q⟩
theorem mop_mul : MOp T X (binaryOp .Mult) iMul := mop_I (opr_or op_mul op_mulW) (fun i j c => by
  simp only [Bool.or_eq_true, decide_eq_true_eq] at c
  rcases c with (c | c) | c
  · simp only [lim64, Bool.and_eq_true, decide_eq_true_eq] at c; exact .inl (.inl c)
  · simp only [lim64, Bool.and_eq_true, decide_eq_true_eq] at c; exact .inl (.inr c)
  · exact .inr c) fun _ _ _ _ _ => rfl
theorem fdiv_pos {i j : Int} (h : 0 < j) : i.fdiv j = i / j := Int.fdiv_eq_ediv_of_nonneg i (Int.le_of_lt h)
theorem opr_val {f : Value → Value → Sem Value} {P : Int → Int → Prop} {v v' : Int → Int → V} (h : OpR X f (rI P v)) (e : ∀ i j, P i j → v' i j = v i j) : OpR X f (rI P v') :=
  fun pins s σ H x y a b Q I rx ry ⟨i, j, e1, e2, c, q⟩ => h pins s σ H x y a b Q I rx ry ⟨i, j, e1, e2, c, by rw [← e i j c]; exact q⟩
theorem mop_div : MOp T X (binaryOp .FloorDiv) iDiv := mop_I (opr_or (opr_val op_fdivW fun i j (c : CDivW i j) => by rw [fdiv_pos c.1]) op_fdivN) (fun i j c => by
  simp only [Bool.or_eq_true, Bool.and_eq_true, decide_eq_true_eq] at c
  exact c) fun _ _ _ _ _ => rfl
theorem mop_mod : MOp T X (binaryOp .Mod) iMod := mop_I op_modN (fun i j c => by simpa using c) fun _ _ _ _ _ => rfl
theorem pow_c {i j : Int} (c : (decide (0 ≤ j) && decide (j ≤ 1000000) && decide (i.natAbs < 2 ^ 64)) = true) : CPow i j := by
  simp only [Bool.and_eq_true, decide_eq_true_eq] at c
  exact ⟨c.1.1, c.1.2, c.2⟩
theorem mop_pow : MOp T X (binaryOp .Pow) iPow := mop_I op_pow (fun _ _ c => pow_c c) fun _ _ _ _ _ => rfl
theorem mop_shl : MOp T X (binaryOp .LShift) iShl := mop_I op_shl (fun _ _ c => pow_c c) fun _ _ _ _ _ => rfl
theorem mop_lt : MOp T X (compareOp .Lt) iLt := mop_I0 op_lt fun _ _ _ _ _ => rfl
theorem mop_le : MOp T X (compareOp .LtE) iLe := mop_I0 op_le fun _ _ _ _ _ => rfl
theorem mop_gt : MOp T X (compareOp .Gt) iGt := mop_I0 op_gt fun _ _ _ _ _ => rfl
theorem mop_ge : MOp T X (compareOp .GtE) iGe := mop_I0 op_ge fun _ _ _ _ _ => rfl
theorem mop_inAdd : MOp T X (inplaceOp .Add) iAdd := mop_I0 iop_add fun _ _ _ _ _ => rfl
theorem mun_neg : MUn T X (unaryOp .USub) gNeg := fun pins s σ H x v Q I rx ⟨w, ρ, h, a, e1, rh, ra, q⟩ => by
  cases a with
  | int i => exact un_neg pins s σ H x v Q I rx ⟨i, ra, q ρ H _ Ext.refl rh rfl⟩
  | _ => exact q.elim
/-! ### is None -/
def gIsN : Op2 := fun a b h => match a, b with
  | .non, .non => some (.bl true, h)
  | .bl _, .non | .int _, .non | .str _, .non | .tup _, .non | .lst _, .non | .fn _, .non => some (.bl false, h)
  | _, _ => none
def gNotN : Op2 := fun a b h => match gIsN a b h with
  | some (.bl k, h') => some (.bl (!k), h')
  | _ => none
theorem isN_val {w : Wd} {ρ : List (Option Addr)} {h : Hh} {H : Hp} {a b : D} {x y : V} {p : D × Hh} (ra : RD w ρ H a x) (rb : RD w ρ H b y) (e : gIsN a b h = some p) : y = .non ∧ p = (.bl (decide (x = .non)), h) := by
  have hb : b = .non := by
    cases b <;> first | rfl | (exfalso; cases a <;> simp [gIsN] at e)
  subst hb
  refine ⟨rb, ?_⟩
  cases a with
  | non => have : x = .non := ra; subst this; simp [gIsN] at e; rw [← e]; rfl
  | bl k => have : x = .bl k := ra; subst this; simp [gIsN] at e; rw [← e]; simp
  | int k => have : x = .int k := ra; subst this; simp [gIsN] at e; rw [← e]; simp
  | str k => have : x = .str k := ra; subst this; simp [gIsN] at e; rw [← e]; simp
  | tup k => obtain ⟨_, _, rfl, _⟩ := ra; simp [gIsN] at e; rw [← e]; simp
  | lst k => obtain ⟨_, _, rfl, _⟩ := ra; simp [gIsN] at e; rw [← e]; simp
  | fn k => obtain ⟨_, rfl, _⟩ := ra; simp [gIsN] at e; rw [← e]; simp
  | ref k => simp [gIsN] at e
  | dct t k v => simp [gIsN] at e
theorem mop_is : MOp T X (compareOp .Is) gIsN := mop_of op_isN fun x y H Q ⟨w, ρ, h, a, b, e1, rh, ra, rb, q⟩ => by
  unfold Vst at q
  cases e : gIsN a b h with
  | none => rw [e] at q; exact q.elim
  | some p =>
    obtain ⟨hy, hp⟩ := isN_val ra rb e
    rw [e] at q
    subst hp
    exact ⟨hy, q ρ H _ Ext.refl rh rfl⟩
theorem mop_isnot : MOp T X (compareOp .IsNot) gNotN := mop_of op_notN fun x y H Q ⟨w, ρ, h, a, b, e1, rh, ra, rb, q⟩ => by
  unfold Vst gNotN at q
  cases e : gIsN a b h with
  | none => rw [e] at q; exact q.elim
  | some p =>
    obtain ⟨hy, hp⟩ := isN_val ra rb e
    rw [e] at q
    subst hp
    exact ⟨hy, q ρ H _ Ext.refl rh rfl⟩
end

/-! ### lists and tuples -/
section
variable {T : List (Addr × Str)} {w : Wd} {ρ : List (Option Addr)} {h : Hh} {H : Hp}
theorem rdL (rh : RH T w ρ h H) {d : D} {x : V} (r : RD w ρ H d x) {ds : List D} (e : getL h d = some ds) : ∃ a xs, x = .ref a ∧ Rd H a (.lst xs) ∧ RDs w ρ H ds xs := by
  cases d with
  | lst xs =>
    simp only [getL] at e
    cases e
    obtain ⟨a, ys, e1, _, e3, e4⟩ := r
    exact ⟨a, ys, e1, e3, e4⟩
  | ref n =>
    simp only [getL] at e
    cases e2 : h[n]? with
    | none => rw [e2] at e; cases e
    | some ob =>
      rw [e2] at e
      cases ob with
      | lst ys =>
        cases e
        obtain ⟨a, ha⟩ := rh.live n _ e2 (by intro z; cases z)
        obtain ⟨_, _, ob, h3, h4⟩ := rh.obj n a ha
        rw [e2] at h3; cases h3
        obtain ⟨xs, z, rs⟩ := h4
        exact ⟨a, xs, r.2 a ha, .inl z, rs⟩
      | gone => cases e
      | dct t k v => cases e
      | dcn k v => cases e
  | _ => simp [getL] at e
theorem rdS {K : PySem.W.Frag} (rh : RH T w ρ h H) {d : D} {x : V} (r : RD w ρ H d x) {ds : List D} (e : getS h d = some ds) : ∃ a xs, x = .ref a ∧ (SqL K H a xs ∨ SqT K H a xs) ∧ RDs w ρ H ds xs := by
  cases d with
  | tup xs =>
    simp only [getS] at e
    cases e
    obtain ⟨a, ys, e1, e3, e4⟩ := r
    exact ⟨a, ys, e1, .inr (rd_tup e3), e4⟩
  | _ =>
    obtain ⟨a, xs, e1, e2, e3⟩ := rdL rh r (by simpa [getS] using e)
    exact ⟨a, xs, e1, .inl (rd_lst e2), e3⟩
end
/-- list + list -/
def gCatL (mt : Bool) : Op2 := fun a b h => match getL h a, getL h b with
  | some xs, some ys => if xs.length + ys.length ≤ SZ then mk mt (xs ++ ys) h else none
  | _, _ => none
/-- tuple + tuple -/
def gCatT : Op2 := fun a b h => match a, b with
  | .tup xs, .tup ys => if xs.length + ys.length ≤ SZ then some (.tup (xs ++ ys), h) else none
  | _, _ => none
/-- list * int -/
def gRepL (mt : Bool) : Op2 := fun a b h => match a, b with
  | .lst xs, .int k => if (okR k && decide (xs.length * k.toNat ≤ SZ)) = true then mk mt (List.replicate k.toNat xs).flatten h else none
  | _, _ => none
def gRepT : Op2 := fun a b h => match a, b with
  | .tup xs, .int k => if (decide (xs ≠ []) && decide (2 ≤ k) && decide (k ≤ 1000) && decide (xs.length ≤ 1000)) = true then some (.tup (List.replicate k.toNat xs).flatten, h) else none
  | _, _ => none
section
variable {T : List (Addr × Str)} {X : Cx} {W : WX}
theorem lstO {X : Cx} {pins : List (Addr × Obj)} {σ : L2.St} {H : Hp} {s : Shared} {l : Addr} {xs : List V} (I : Inv X pins σ H s) (r : Rd H l (.lst xs)) : xs.length ≤ sizeLine ∧ ∃ (its : List Value) (n : Nat), Vals xs its ∧ xs.length = its.length ∧ s.heap.get? l = some { cls := .type "list", data := .seq its.toArray n } := by
  obtain ⟨z, its, n, r, e⟩ := r.ok I.hok
  exact ⟨z, its, n, r, r.length, e⟩
def rCat' : R2 := fun x y H Q => ∃ l b xs zs, x = .ref l ∧ y = .ref b ∧ Rd H l (.lst xs) ∧ Rd H b (.lst zs) ∧ xs.length + zs.length ≤ sizeLine ∧ ∀ p, H p = none → Q (.ref p) (L2.upd H p (.lst (xs ++ zs)))
theorem op_cat' : OpR X (binaryOp .Add) rCat' := by
  intro pins s σ H x y v u Q I rx ry h
  obtain ⟨l, b, xs, zs, rfl, rfl, hH, hB, hz, q⟩ := h
  cases rx
  cases ry
  obtain ⟨z, its, n, r, hl, e⟩ := lstO I hH
  obtain ⟨z2, its2, n2, r2, hl2, e2⟩ := lstO I hB
  refine PySem.P.add_list e e2 ?_ (by rw [List.size_toArray, List.size_toArray]; omega)
  have ea : its.toArray ++ its2.toArray = (its ++ its2).toArray := by simp
  rw [ea]
  exact ⟨.ref _, _, I.lnew (t' := s.toks) (r.append r2) (by rw [List.length_append]; omega), rfl, q _ I.fresh⟩
theorem mop_catL (mt : Bool) : MOp T X (binaryOp .Add) (gCatL mt) := mop_of op_cat' fun x y H Q ⟨w, ρ, h, a, b, e1, rh, ra, rb, q⟩ => by
  unfold Vst gCatL at q
  cases ea : getL h a with
  | none => rw [ea] at q; exact q.elim
  | some xs =>
    cases eb : getL h b with
    | none => rw [ea, eb] at q; exact q.elim
    | some ys =>
      rw [ea, eb] at q
      obtain ⟨l1, us, rfl, r1, q1⟩ := rdL rh ra ea
      obtain ⟨l2, vs, rfl, r2, q2⟩ := rdL rh rb eb
      dsimp only at q
      by_cases hl : xs.length + ys.length ≤ SZ
      · rw [if_pos hl] at q
        exact ⟨l1, l2, us, vs, rfl, rfl, r1, r2, by rw [← q1.length, ← q2.length, ← SZ_eq]; exact hl, fun p hp => mk_ok rh (q1.append q2) hp q⟩
      · rw [if_neg hl] at q; exact q.elim
theorem RDs.nil_iff {w : Wd} {ρ : List (Option Addr)} {H : Hp} {ds : List D} {xs : List V} (r : RDs w ρ H ds xs) : ds = [] ↔ xs = [] := by
  constructor
  · intro e; subst e; exact r
  · intro e; subst e
    cases ds with
    | nil => rfl
    | cons d ds => obtain ⟨_, _, e, _⟩ := r; cases e
theorem mop_catT : MOp T X (binaryOp .Add) gCatT := mop_of op_catA fun x y H Q ⟨w, ρ, h, a, b, e1, rh, ra, rb, q⟩ => by
  unfold Vst gCatT at q
  cases a with
  | tup ds =>
    cases b with
    | tup es =>
      dsimp only at q
      by_cases hl : ds.length + es.length ≤ SZ
      · rw [if_pos hl] at q
        obtain ⟨a, xs, rfl, ha, q1⟩ := ra
        obtain ⟨b, ys, rfl, hb, q2⟩ := rb
        refine ⟨a, b, xs, ys, rfl, rfl, rd_tup ha, rd_tup hb, by rw [← q1.length, ← q2.length, ← SZ_eq]; exact hl, fun hx => ?_, fun hx hy => ?_, fun hx hy p hp => ?_⟩
        · have := q1.nil_iff.mpr hx
          subst this
          exact q ρ H _ Ext.refl rh ⟨b, ys, rfl, hb, q2⟩
        · have := q2.nil_iff.mpr hy
          subst this
          refine q ρ H _ Ext.refl rh ⟨a, xs, rfl, ha, ?_⟩
          rw [List.append_nil]; exact q1
        · obtain ⟨e, r', f⟩ := rh.frz hp (.tup (xs ++ ys))
          exact q ρ _ _ e r' ⟨p, xs ++ ys, rfl, upd_same, (q1.append q2).mono e⟩
      · rw [if_neg hl] at q; exact q.elim
    | _ => exact q.elim
  | _ => exact q.elim
theorem RDs.rep {w : Wd} {ρ : List (Option Addr)} {H : Hp} {ds : List D} {xs : List V} (r : RDs w ρ H ds xs) : ∀ n : Nat, RDs w ρ H (List.replicate n ds).flatten (List.replicate n xs).flatten
  | 0 => rfl
  | n + 1 => by
    rw [List.replicate_succ, List.replicate_succ, List.flatten_cons, List.flatten_cons]
    exact r.append (RDs.rep r n)
theorem mop_repT : MOp T X (binaryOp .Mult) gRepT := mop_of op_repT fun x y H Q ⟨w, ρ, h, a, b, e1, rh, ra, rb, q⟩ => by
  unfold Vst gRepT at q
  cases a with
  | tup ds =>
    cases b with
    | int k =>
      dsimp only at q
      by_cases hl : (decide (ds ≠ []) && decide (2 ≤ k) && decide (k ≤ 1000) && decide (ds.length ≤ 1000)) = true
      · rw [if_pos hl] at q
        simp only [Bool.and_eq_true, decide_eq_true_eq] at hl
        obtain ⟨a, xs, rfl, ha, q1⟩ := ra
        refine ⟨a, k, xs, rfl, rb, rd_tup ha, fun z => hl.1.1.1 (q1.nil_iff.mpr z), hl.1.1.2, hl.1.2, by rw [← q1.length]; exact hl.2, fun p hp => ?_⟩
        obtain ⟨e, r', f⟩ := rh.frz hp (.tup (List.replicate k.toNat xs).flatten)
        exact q ρ _ _ e r' ⟨p, _, rfl, upd_same, (RDs.rep q1 _).mono e⟩
      · rw [if_neg hl] at q; exact q.elim
    | _ => exact q.elim
  | _ => exact q.elim
def rRep' : R2 := fun x y H Q => ∃ l k xs, x = .ref l ∧ y = .int k ∧ Rd H l (.lst xs) ∧ -(2 ^ 63) ≤ k ∧ k < 2 ^ 63 ∧ xs.length * k.toNat ≤ sizeLine ∧
  ∀ p, H p = none → Q (.ref p) (L2.upd H p (.lst (List.replicate k.toNat xs).flatten))
theorem op_rep' : OpR X (binaryOp .Mult) rRep' := by
  intro pins s σ H x y v u Q I rx ry h
  obtain ⟨l, k, xs, rfl, rfl, hH, h1, h2, hz, q⟩ := h
  cases rx
  obtain ⟨t, rfl⟩ := ry
  obtain ⟨z, its, n, r, hl, e⟩ := lstO I hH
  have hlen : its.toArray.size * k.toNat ≤ sizeLine := by rw [List.size_toArray, ← hl]; exact hz
  have hcap : ¬ its.toArray.size * k.toNat > (2 ^ 63 - 1) / 8 := by
    have : (sizeLine : Nat) ≤ (2 ^ 63 - 1) / 8 := by decide
    omega
  have hfit : ¬ (!Builtin.List.listFitsIndex k) = true := by
    rw [fitsIndex_both h1 h2]
    exact Bool.false_ne_true
  have hlong : ¬ Builtin.List.listTooLong (its.toArray.size * k.toNat) = true := by
    rw [notLongL hlen]
    exact Bool.false_ne_true
  have hnew : List.foldl (fun x1 x2 => x1 ++ x2) #[] (List.replicate (if its.toArray.isEmpty = true then 0 else k.toNat) its.toArray) = (List.replicate k.toNat its).flatten.toArray := by
    have f0 : ∀ m : Nat, List.foldl (fun x1 x2 => x1 ++ x2) #[] (List.replicate m its.toArray) = (List.replicate m its).flatten.toArray := fun m => by
      have := foldl_rep its m []
      rw [List.nil_append] at this
      exact this
    rw [f0]
    cases its with
    | nil => simp
    | cons a r' => rw [if_neg (by simp)]
  refine wpAny_binaryOp_repeat_ref (T := "list") (U := "int") (by decide) ⟨_, e, rfl⟩ (fun s' => typeIs_int s' k t) noFill_list_mul F.fills_int_mul F.slot_int_rmul repeat_list F.slot_int_index.lookup
    (call_meets F.slot_int_rmul (typeIs_int s k t) F.entry_int_rmul (F.args_int_rmul_2 _ _) (int___rmul___int_list k t l its.toArray n)
      ⟨e, rfl, ⟨_, e, rfl⟩, call_meets F.slot_list_mul ⟨_, e, rfl⟩ F.entry_list_mul (F.args_list_mul_2 _ _) (AutoListH.list___mul___list_int_3 l its.toArray n k t hfit hcap hlong) ⟨e, ?_⟩⟩)
  rw [hnew]
  exact ⟨.ref _, _, I.lnew (t' := s.toks) (r.rep k.toNat) (by rw [PyProof.Rows.lm_len_rep_flat, Nat.mul_comm]; exact hz), rfl, q _ I.fresh⟩
theorem mop_repL (mt : Bool) : MOp T X (binaryOp .Mult) (gRepL mt) := mop_of op_rep' fun x y H Q ⟨w, ρ, h, a, b, e1, rh, ra, rb, q⟩ => by
  unfold Vst gRepL at q
  cases a with
  | lst ds =>
    cases b with
    | int k =>
      dsimp only at q
      by_cases hl : (okR k && decide (ds.length * k.toNat ≤ SZ)) = true
      · rw [if_pos hl] at q
        simp only [Bool.and_eq_true, decide_eq_true_eq] at hl
        obtain ⟨a, xs, rfl, _, ha, q1⟩ := ra
        obtain ⟨o1, o2⟩ := okR_ok hl.1
        exact ⟨a, k, xs, rfl, rb, ha, by omega, by omega, by rw [← q1.length, ← SZ_eq]; exact hl.2, fun p hp => mk_ok rh (RDs.rep q1 _) hp q⟩
      · rw [if_neg hl] at q; exact q.elim
    | _ => exact q.elim
  | _ => exact q.elim
end
end Rf
namespace Rf
open PySem PySem.Spec PyProof.Rows L2

/-! ### equality of data -/
mutual
def eqD : D → D → Bool
  | .non, .non => true
  | .bl a, .bl b => a == b
  | .bl a, .int j => (if a then 1 else 0) == j
  | .int i, .bl b => i == (if b then 1 else 0)
  | .int i, .int j => i == j
  | .str x, .str y => x == y
  | .lst xs, .lst ys => eqDs xs ys
  | .tup xs, .tup ys => eqDs xs ys
  | _, _ => false
def eqDs : List D → List D → Bool
  | [], [] => true
  | x :: xs, y :: ys => eqD x y && eqDs xs ys
  | _, _ => false
end
mutual
def okE : Nat → D → Bool
  | _, .non => true
  | _, .bl _ => true
  | _, .int _ => true
  | _, .str x => PyData.strOk x
  | n + 1, .tup xs => okEs n xs
  | n + 1, .lst xs => okEs n xs
  | _, _ => false
def okEs : Nat → List D → Bool
  | _, [] => true
  | n, x :: xs => okE n x && okEs n xs
end
mutual
def pdD : D → PyData
  | .bl b => .bool b
  | .int i => .int i
  | .str x => .str x
  | .tup xs => .tuple (pdDs xs)
  | .lst xs => .list (pdDs xs)
  | _ => .none
def pdDs : List D → List PyData
  | [] => []
  | x :: xs => pdD x :: pdDs xs
end
mutual
theorem okE_can : ∀ {n : Nat} {d : D}, okE n d = true → (pdD d).canLay0 = true ∧ (pdD d).depth ≤ n
  | n, .non, _ => by simp [pdD, PyData.canLay0, PyData.depth]
  | n, .bl _, _ => by simp [pdD, PyData.canLay0, PyData.depth]
  | n, .int _, _ => by simp [pdD, PyData.canLay0, PyData.depth]
  | n, .str x, h => by simpa [okE, pdD, PyData.canLay0, PyData.depth] using h
  | 0, .tup xs, h => by simp [okE] at h
  | 0, .lst xs, h => by simp [okE] at h
  | n + 1, .tup xs, h => by
    obtain ⟨h1, h2⟩ := okEs_can (n := n) (ds := xs) (by simpa [okE] using h)
    simp only [pdD, PyData.canLay0, PyData.depth]
    exact ⟨h1, by omega⟩
  | n + 1, .lst xs, h => by
    obtain ⟨h1, h2⟩ := okEs_can (n := n) (ds := xs) (by simpa [okE] using h)
    simp only [pdD, PyData.canLay0, PyData.depth]
    exact ⟨h1, by omega⟩
  | n, .dct _ _ _, h => by cases n <;> simp [okE] at h
  | n, .ref _, h => by cases n <;> simp [okE] at h
  | n, .fn _, h => by cases n <;> simp [okE] at h
theorem okEs_can : ∀ {n : Nat} {ds : List D}, okEs n ds = true → PyData.canLayAll0 (pdDs ds) = true ∧ PyData.depthAll (pdDs ds) ≤ n
  | n, [], _ => by simp [pdDs, PyData.canLayAll0, PyData.depthAll]
  | n, x :: xs, h => by
    simp only [okEs, Bool.and_eq_true] at h
    obtain ⟨h1, h2⟩ := okE_can h.1
    obtain ⟨h3, h4⟩ := okEs_can h.2
    simp only [pdDs, PyData.canLayAll0, PyData.depthAll, Bool.and_eq_true]
    exact ⟨⟨h1, h3⟩, by omega⟩
end
mutual
theorem eqv_eqD : ∀ {n m : Nat} {a b : D}, okE n a = true → okE m b = true → PyData.eqv (pdD a) (pdD b) = eqD a b := by
  intro n m a b ha hb
  cases a with
  | tup xs =>
    cases b with
    | tup ys =>
      cases n with
      | zero => simp [okE] at ha
      | succ n =>
        cases m with
        | zero => simp [okE] at hb
        | succ m =>
          simp only [pdD, PyData.eqv, eqD]
          exact eqv_eqDs (by simpa [okE] using ha) (by simpa [okE] using hb)
    | dct _ _ _ => cases m <;> simp [okE] at hb
    | ref _ => cases m <;> simp [okE] at hb
    | fn _ => cases m <;> simp [okE] at hb
    | _ => simp [pdD, PyData.eqv, eqD]
  | lst xs =>
    cases b with
    | lst ys =>
      cases n with
      | zero => simp [okE] at ha
      | succ n =>
        cases m with
        | zero => simp [okE] at hb
        | succ m =>
          simp only [pdD, PyData.eqv, eqD]
          exact eqv_eqDs (by simpa [okE] using ha) (by simpa [okE] using hb)
    | dct _ _ _ => cases m <;> simp [okE] at hb
    | ref _ => cases m <;> simp [okE] at hb
    | fn _ => cases m <;> simp [okE] at hb
    | _ => simp [pdD, PyData.eqv, eqD]
  | dct _ _ _ => cases n <;> simp [okE] at ha
  | ref _ => cases n <;> simp [okE] at ha
  | fn _ => cases n <;> simp [okE] at ha
  | _ =>
    cases b with
    | dct _ _ _ => cases m <;> simp [okE] at hb
    | ref _ => cases m <;> simp [okE] at hb
    | fn _ => cases m <;> simp [okE] at hb
    | _ => simp [pdD, PyData.eqv, eqD]
theorem eqv_eqDs : ∀ {n m : Nat} {as bs : List D}, okEs n as = true → okEs m bs = true → PyData.eqvAll (pdDs as) (pdDs bs) = eqDs as bs
  | n, m, [], [], _, _ => by simp [pdDs, PyData.eqvAll, eqDs]
  | n, m, [], _ :: _, _, _ => by simp [pdDs, PyData.eqvAll, eqDs]
  | n, m, _ :: _, [], _, _ => by simp [pdDs, PyData.eqvAll, eqDs]
  | n, m, a :: as, b :: bs, ha, hb => by
    simp only [okEs, Bool.and_eq_true] at ha hb
    simp only [pdDs, PyData.eqvAll, eqDs]
    rw [eqv_eqD ha.1 hb.1, eqv_eqDs ha.2 hb.2]
end
section
variable {w : Wd} {ρ : List (Option Addr)} {H : Hp} {K : PySem.W.Frag}
mutual
theorem dp_of : ∀ {n : Nat} {d : D} {x : V}, okE n d = true → RD w ρ H d x → Dp K H x (pdD d)
  | n, .non, _, _, r => by
    have r : _ = V.non := r
    subst r; exact .non
  | n, .bl b, _, _, r => by
    have r : _ = V.bl b := r
    subst r; exact .bl b
  | n, .int b, _, _, r => by
    have r : _ = V.int b := r
    subst r; exact .int b
  | n, .str b, _, _, r => by
    have r : _ = V.str b := r
    subst r; exact .str b
  | 0, .tup xs, _, h, _ => by simp [okE] at h
  | 0, .lst xs, _, h, _ => by simp [okE] at h
  | n + 1, .tup xs, _, h, r => by
    obtain ⟨a, us, rfl, r1, q⟩ := r
    exact .tup (rd_tup r1) (dps_of (n := n) (by simpa [okE] using h) q)
  | n + 1, .lst xs, _, h, r => by
    obtain ⟨a, us, rfl, _, r1, q⟩ := r
    exact .lst (rd_lst r1) (dps_of (n := n) (by simpa [okE] using h) q)
  | n, .dct _ _ _, _, h, _ => by cases n <;> simp [okE] at h
  | n, .ref _, _, h, _ => by cases n <;> simp [okE] at h
  | n, .fn _, _, h, _ => by cases n <;> simp [okE] at h
theorem dps_of : ∀ {n : Nat} {ds : List D} {xs : List V}, okEs n ds = true → RDs w ρ H ds xs → DpAll K H xs (pdDs ds)
  | n, [], _, _, r => by
    have r : _ = [] := r
    subst r; exact .nil
  | n, d :: ds, _, h, r => by
    obtain ⟨x, us, rfl, r1, r2⟩ := r
    simp only [okEs, Bool.and_eq_true] at h
    exact .cons (dp_of h.1 r1) (dps_of h.2 r2)
end
end
/-- a value, a mutable list's items read -/
def resD (h : Hh) (d : D) : D := match d with
  | .ref n => match h[n]? with
    | some (.lst xs) => .lst xs
    | _ => d
  | _ => d
def dE : Nat := 30
def gEqD (neg : Bool) : Op2 := fun a b h => if (okE dE (resD h a) && okE dE (resD h b)) = true then some (.bl (eqD (resD h a) (resD h b) ^^ neg), h) else none
def gInS (neg : Bool) : Op2 := fun a b h => match getS h b with
  | some xs => if (okE dE a && okEs dE xs) = true then some (.bl ((xs.any fun y => eqD y a) ^^ neg), h) else none
  | none => none
section
variable {T : List (Addr × Str)} {X : Cx} {W : WX}
theorem dp_res {w : Wd} {ρ : List (Option Addr)} {h : Hh} {H : Hp} {K : PySem.W.Frag} {n : Nat} {d : D} {x : V} (rh : RH T w ρ h H) (r : RD w ρ H d x) (ok : okE n (resD h d) = true) : Dp K H x (pdD (resD h d)) := by
  cases d with
  | ref m =>
    unfold resD at ok ⊢
    dsimp only at ok ⊢
    revert ok
    cases e : h[m]? with
    | none => intro ok; cases n <;> simp [okE] at ok
    | some ob =>
      cases ob with
      | lst xs =>
        intro ok
        obtain ⟨a, us, rfl, r1, q⟩ := rdL rh r (ds := xs) (by simp [getL, e])
        cases n with
        | zero => simp [okE] at ok
        | succ n => exact .lst (rd_lst r1) (dps_of (n := n) (by simpa [okE] using ok) q)
      | gone => intro ok; cases n <;> simp [okE] at ok
      | dct t k v => intro ok; cases n <;> simp [okE] at ok
      | dcn k v => intro ok; cases n <;> simp [okE] at ok
  | _ => exact dp_of ok r
theorem shaped_of {d : D} (h : okE dE d = true) : SeqAt.shaped (pdD d) = true := by
  obtain ⟨h1, h2⟩ := okE_can h
  unfold SeqAt.shaped
  rw [h1, Bool.true_and]
  exact decide_eq_true (Nat.le_trans h2 (by decide))
theorem xor_false' (b : Bool) : (b ^^ false) = b := by cases b <;> rfl
theorem xor_true' (b : Bool) : (b ^^ true) = !b := by cases b <;> rfl
theorem mop_eq (hu : X.A.units + 100 < cLine) : MOp T X (compareOp .Eq) (gEqD false) := mop_of (op_eqD (by omega)) fun x y H Q ⟨w, ρ, h, a, b, e1, rh, ra, rb, q⟩ => by
  unfold Vst gEqD at q
  by_cases hk : (okE dE (resD h a) && okE dE (resD h b)) = true
  · rw [if_pos hk] at q
    simp only [Bool.and_eq_true] at hk
    refine ⟨_, _, dp_res rh ra hk.1, dp_res rh rb hk.2, shaped_of hk.1, shaped_of hk.2, ?_⟩
    rw [eqv_eqD hk.1 hk.2]
    dsimp only at q
    rw [xor_false'] at q
    exact q ρ H _ Ext.refl rh rfl
  · rw [if_neg hk] at q; exact q.elim
theorem mop_ne (hu : X.A.units + 100 < cLine) : MOp T X (compareOp .NotEq) (gEqD true) := mop_of (op_neD (by omega)) fun x y H Q ⟨w, ρ, h, a, b, e1, rh, ra, rb, q⟩ => by
  unfold Vst gEqD at q
  by_cases hk : (okE dE (resD h a) && okE dE (resD h b)) = true
  · rw [if_pos hk] at q
    simp only [Bool.and_eq_true] at hk
    refine ⟨_, _, dp_res rh ra hk.1, dp_res rh rb hk.2, shaped_of hk.1, shaped_of hk.2, ?_⟩
    rw [eqv_eqD hk.1 hk.2]
    dsimp only at q
    rw [xor_true'] at q
    exact q ρ H _ Ext.refl rh rfl
  · rw [if_neg hk] at q; exact q.elim
def rInA (K : PySem.W.Frag) (neg : Bool) : R2 := fun x y H Q => ∃ d ds, Dp K H x d ∧ (Dp K H y (.list ds) ∨ Dp K H y (.tuple ds)) ∧ SeqAt.shaped d = true ∧ PyData.canLayAll0 ds = true ∧ Q (.bl ((ds.any fun z => PyData.eqv z d) ^^ neg)) H
theorem op_inA (hu : X.A.units + 65 < cLine) : OpR X (compareOp .In) (rInA X.K false) := by
  intro pins s σ H x y v u Q I rx ry h
  obtain ⟨d, ds, hd, he, sd, se, q⟩ := h
  rw [xor_false'] at q
  obtain ⟨as, r1⟩ := Dp.reads I d x v hd rx
  rcases he with he | he
  · obtain ⟨bs, r2⟩ := Dp.reads I (.list ds) y u he ry
    exact SeqAt.in_list_reads r2 r1 se (SeqAt.canLay_of_shaped sd) (room_in_shaped sd hu) ⟨.bl _, H, I, rfl, q⟩
  · obtain ⟨bs, r2⟩ := Dp.reads I (.tuple ds) y u he ry
    exact SeqAt.in_tuple_reads r2 r1 se (SeqAt.canLay_of_shaped sd) (room_in_shaped sd hu) ⟨.bl _, H, I, rfl, q⟩
theorem op_notInA (hu : X.A.units + 65 < cLine) : OpR X (compareOp .NotIn) (rInA X.K true) := by
  intro pins s σ H x y v u Q I rx ry h
  obtain ⟨d, ds, hd, he, sd, se, q⟩ := h
  rw [xor_true'] at q
  obtain ⟨as, r1⟩ := Dp.reads I d x v hd rx
  rcases he with he | he
  · obtain ⟨bs, r2⟩ := Dp.reads I (.list ds) y u he ry
    exact SeqAt.notIn_list_reads r2 r1 se (SeqAt.canLay_of_shaped sd) (room_in_shaped sd hu) ⟨.bl _, H, I, rfl, q⟩
  · obtain ⟨bs, r2⟩ := Dp.reads I (.tuple ds) y u he ry
    exact SeqAt.notIn_tuple_reads r2 r1 se (SeqAt.canLay_of_shaped sd) (room_in_shaped sd hu) ⟨.bl _, H, I, rfl, q⟩
theorem anyD {n m : Nat} {a : D} (ha : okE m a = true) : ∀ {xs : List D}, okEs n xs = true → ((pdDs xs).any fun z => PyData.eqv z (pdD a)) = xs.any fun y => eqD y a
  | [], _ => rfl
  | x :: xs, h => by
    simp only [okEs, Bool.and_eq_true] at h
    simp only [pdDs, List.any_cons]
    rw [eqv_eqD h.1 ha, anyD ha h.2]
theorem in_imp {neg : Bool} {x y : V} {H : Hp} {Q : VK} (z : rB T X (gInS neg) x y H Q) : rInA X.K neg x y H Q := by
  obtain ⟨w, ρ, h, a, b, e1, rh, ra, rb, q⟩ := z
  unfold Vst gInS at q
  cases e : getS h b with
  | none => rw [e] at q; exact q.elim
  | some xs =>
    rw [e] at q
    dsimp only at q
    by_cases hk : (okE dE a && okEs dE xs) = true
    · rw [if_pos hk] at q
      simp only [Bool.and_eq_true] at hk
      obtain ⟨c, us, rfl, sq, rs⟩ := rdS (K := X.K) rh rb e
      refine ⟨_, pdDs xs, dp_of hk.1 ra, sq.imp (fun s => .lst s (dps_of hk.2 rs)) fun s => .tup s (dps_of hk.2 rs), shaped_of hk.1, (okEs_can hk.2).1, ?_⟩
      rw [anyD hk.1 hk.2]
      exact q ρ H _ Ext.refl rh rfl
    · rw [if_neg hk] at q; exact q.elim
theorem mop_inS (hu : X.A.units + 100 < cLine) : MOp T X (compareOp .In) (gInS false) := mop_of (op_inA (by omega)) fun x y H Q z => in_imp z
theorem mop_notinS (hu : X.A.units + 100 < cLine) : MOp T X (compareOp .NotIn) (gInS true) := mop_of (op_notInA (by omega)) fun x y H Q z => in_imp z

/-! ### o[i] of a list or a tuple -/
def gIx : Op2 := fun a b h => match getS h a, b with
  | some xs, .int i => (atI xs i).map fun d => (d, h)
  | _, _ => none
theorem RDs.atI {w : Wd} {ρ : List (Option Addr)} {H : Hp} {ds : List D} {xs : List V} (r : RDs w ρ H ds xs) {i : Int} {d : D} (e : atI ds i = some d) : ∃ x, L2.atI xs i = some x ∧ RD w ρ H d x := by
  unfold L2.atI at e ⊢
  rw [← r.length]
  cases e1 : ixN ds.length i with
  | none => rw [e1] at e; cases e
  | some j =>
    rw [e1] at e
    exact r.get e
theorem ix_imp {x y : V} {H : Hp} {Q : VK} (z : rB T X gIx x y H Q) : rIxL X.K x y H Q ∨ rIxT X.K x y H Q := by
  obtain ⟨w, ρ, h, a, b, e1, rh, ra, rb, q⟩ := z
  unfold Vst gIx at q
  cases e : getS h a with
  | none => rw [e] at q; exact q.elim
  | some xs =>
    rw [e] at q
    cases b with
    | int i =>
      dsimp only at q
      cases e2 : atI xs i with
      | none => rw [e2] at q; exact q.elim
      | some d =>
        rw [e2] at q
        obtain ⟨c, us, rfl, sq, rs⟩ := rdS (K := X.K) rh ra e
        obtain ⟨v, hv, rv⟩ := rs.atI e2
        rcases sq with s | s
        · exact .inl ⟨c, us, i, v, rfl, rb, s, hv, q ρ H v Ext.refl rh rv⟩
        · exact .inr ⟨c, us, i, v, rfl, rb, s, hv, q ρ H v Ext.refl rh rv⟩
    | _ => exact q.elim
/-- an operation where a subscript may stand -/
def MIx (T : List (Addr × Str)) (X : Cx) (g : Op2) : Prop := IxR X (rB T X g)
theorem mix_seq : MIx T X gIx := fun value slice pins s σ H x y v u Q I rx ry z hs => (ix_list.or ix_tup) value slice pins s σ H x y v u Q I rx ry (ix_imp z) hs
variable {a b c e : Expr} {es : List Expr} {ma mb mc : Me} {ta tb tc : Mt} {as : Ma} {pos : Pos}
theorem me_ix {g : Op2} (hr : MIx T X g) (ha : ME T X W a ma) (hb : ME T X W b mb) (hs : PlainIx b := by intro _ _; rfl) : ME T X W (.Subscript a b pos) (mB g ma mb) :=
  PE.imp (pe_ix hr ha hb hs) fun σ H Q ⟨w, ρ, env, h, s, q⟩ => by
    refine ⟨w, ρ, env, h, s, ?_⟩
    unfold mB at q
    cases e : ma env h with
    | stuck => rw [e] at q; exact q
    | exc x h1 => rw [e] at q; exact q
    | ok v h1 =>
      rw [e, R.bind_ok] at q
      intro ρ1 H1 x e1 r1 d1
      refine ⟨w, ρ1, env, h1, s.next e1 r1, ?_⟩
      cases e' : mb env h1 with
      | stuck => rw [e'] at q; exact q
      | exc x h2 => rw [e'] at q; exact Pst.ext (rel := RD) q e1
      | ok u h2 =>
        rw [e', R.bind_ok] at q
        intro ρ2 H2 y e2 r2 d2
        exact ⟨w, ρ2, h2, v, u, s.g, r2, d1.mono e2, d2, (Pst.ofO q).ext (e1.trans e2)⟩

/-! ### o[lo:hi] -/
def gPart : Option D → Option (Option Int)
  | none => some none
  | some (.int i) => some (some i)
  | some _ => none
def cutD (xs : List D) (lo hi : Option Int) : List D := (xs.drop (HT.sIx xs.length 0 lo)).take (HT.sIx xs.length xs.length hi - HT.sIx xs.length 0 lo)
/-- an optional bound -/
abbrev Mp := Ev → Hh → R (Option Int)
def pNo : Mp := fun _ h => .ok none h
def pYes (m : Me) : Mp := fun env h => (m env h).bind fun x h1 => match x with
  | .int i => .ok (some i) h1
  | _ => .stuck
def tPm (T : List (Addr × Str)) (X : Cx) (W : WX) (m : Mp) : TO := fun σ H Q => ∃ w ρ env h, Gd T (gw X) w ρ env h σ H ∧ Pst T w ρ H (fun _ _ _ a b => a = b) (m env h) Q fun e H' => W (clsV X.K e) none σ H'
def MP (T : List (Addr × Str)) (X : Cx) (W : WX) (e : Option Expr) (m : Mp) : Prop := PO X e (tPm T X W m)
theorem mp_no : MP T X W none pNo := ⟨fun pins s σ H Q I ⟨w, ρ, env, h, st, q⟩ => po_none.run pins s σ H Q I (q ρ H none Ext.refl st.h rfl)⟩
theorem mp_yes (p : ME T X W e ma) : MP T X W (some e) (pYes ma) := ⟨fun pins s σ H Q I ⟨w, ρ, env, h, st, q⟩ => (po_some p).run pins s σ H Q I ⟨w, ρ, env, h, st, by
  unfold pYes at q
  cases e : ma env h with
  | stuck => rw [e] at q; exact q
  | exc x h1 => rw [e] at q; exact q
  | ok v h1 =>
    rw [e, R.bind_ok] at q
    intro ρ1 H1 x e1 r1 d1
    cases v with
    | int i => exact ⟨i, d1, q ρ1 H1 _ e1 r1 rfl⟩
    | _ => exact q.elim⟩⟩
def gCut (mt : Bool) (d : D) (lo hi : Option Int) (h : Hh) : O := match d with
  | .tup xs => some (.tup (cutD xs lo hi), h)
  | d => match getL h d with
    | some xs => mk mt (cutD xs lo hi) h
    | none => none
def mCut (mt : Bool) (m : Me) (lo hi : Mp) : Me := fun env h => (m env h).bind fun x h1 => (lo env h1).bind fun l h2 => (hi env h2).bind fun u h3 => ofO (gCut mt x l u h3)
theorem RDs.cut {w : Wd} {ρ : List (Option Addr)} {H : Hp} {ds : List D} {xs : List V} (r : RDs w ρ H ds xs) (lo hi : Option Int) : RDs w ρ H (cutD ds lo hi) (cutV xs lo hi) := by
  unfold cutD cutV
  rw [r.length]
  exact (r.drop _).take _
theorem cut_whole {xs : List D} {lo hi : Option Int} (h : HT.sIx xs.length 0 lo = 0 ∧ HT.sIx xs.length xs.length hi = xs.length) : cutD xs lo hi = xs := by
  unfold cutD
  rw [h.1, h.2]
  simp
theorem me_cut (mt : Bool) {lo hi : Option Expr} {pl ph : Mp} {p2 : Pos} (he : ME T X W e ma) (hl : MP T X W lo pl) (hu : MP T X W hi ph) : ME T X W (.Subscript e (.Slice lo hi none p2) pos) (mCut mt ma pl ph) :=
  PE.imp (pe_slice (sl_list.or sl_tupA) he hl hu) fun σ H Q ⟨w, ρ, env, h, s, q⟩ => by
    refine ⟨w, ρ, env, h, s, ?_⟩
    unfold mCut at q
    cases e : ma env h with
    | stuck => rw [e] at q; exact q
    | exc x h1 => rw [e] at q; exact q
    | ok v h1 =>
      rw [e, R.bind_ok] at q
      intro ρ1 H1 x e1 r1 d1
      refine ⟨w, ρ1, env, h1, s.next e1 r1, ?_⟩
      cases e' : pl env h1 with
      | stuck => rw [e'] at q; exact q
      | exc x h2 => rw [e'] at q; exact Pst.ext (rel := RD) q e1
      | ok l h2 =>
        rw [e', R.bind_ok] at q
        intro ρ2 H2 l' e2 r2 el
        subst el
        refine ⟨w, ρ2, env, h2, (s.next e1 r1).next e2 r2, ?_⟩
        cases e'' : ph env h2 with
        | stuck => rw [e''] at q; exact q
        | exc x h2 => rw [e''] at q; exact Pst.ext (rel := RD) q (e1.trans e2)
        | ok u h3 =>
          rw [e'', R.bind_ok] at q
          intro ρ3 H3 u' e3 r3 eu
          subst eu
          have q := (Pst.ofO q).ext ((e1.trans e2).trans e3)
          have d3 := d1.mono (e2.trans e3)
          unfold gCut at q
          cases v with
          | tup ds =>
            obtain ⟨a, xs, rfl, ha, rs⟩ := d3
            refine .inr ⟨a, xs, rfl, rd_tup ha, fun hw => ?_, fun hw p hp => ?_⟩
            · rw [← rs.length] at hw
              dsimp only at q
              rw [cut_whole hw] at q
              exact q ρ3 H3 _ Ext.refl r3 ⟨a, xs, rfl, ha, rs⟩
            · obtain ⟨e, r', f⟩ := r3.frz hp (.tup (cutV xs l u))
              exact q ρ3 _ _ e r' ⟨p, _, rfl, upd_same, (rs.cut l u).mono e⟩
          | lst ds =>
            obtain ⟨a, xs, rfl, z, rs⟩ := rdL r3 d3 (ds := ds) rfl
            exact .inl ⟨a, xs, rfl, rd_lst z, fun p hp => mk_ok r3 (rs.cut l u) hp q⟩
          | ref n =>
            dsimp only at q
            cases eg : getL h3 (.ref n) with
            | none => rw [eg] at q; exact q.elim
            | some ds =>
              rw [eg] at q
              obtain ⟨a, xs, rfl, z, rs⟩ := rdL r3 d3 eg
              exact .inl ⟨a, xs, rfl, rd_lst z, fun p hp => mk_ok r3 (rs.cut l u) hp q⟩
          | _ => simp [getL] at q; exact q.elim
end
end Rf
namespace Rf
open PySem PySem.Spec PyProof.Rows L2

/-! ### lists of whole numbers, of truths -/
def intsD : List D → Option (List Int)
  | [] => some []
  | .int i :: r => (intsD r).map (i :: ·)
  | _ :: _ => none
def blsD : List D → Option (List Bool)
  | [] => some []
  | .bl i :: r => (blsD r).map (i :: ·)
  | _ :: _ => none
theorem intsD_some : ∀ {ds : List D} {ns : List Int}, intsD ds = some ns → ds = ns.map D.int
  | [], _, h => by simp [intsD] at h; subst h; rfl
  | d :: r, ns, h => by
    cases d with
    | int i =>
      simp only [intsD] at h
      obtain ⟨m, e1, rfl⟩ := Option.map_eq_some_iff.mp h
      simp [intsD_some e1]
    | _ => simp [intsD] at h
theorem blsD_some : ∀ {ds : List D} {ns : List Bool}, blsD ds = some ns → ds = ns.map D.bl
  | [], _, h => by simp [blsD] at h; subst h; rfl
  | d :: r, ns, h => by
    cases d with
    | bl i =>
      simp only [blsD] at h
      obtain ⟨m, e1, rfl⟩ := Option.map_eq_some_iff.mp h
      simp [blsD_some e1]
    | _ => simp [blsD] at h
@[simp] theorem intsD_map : ∀ (ns : List Int), intsD (ns.map D.int) = some ns
  | [] => rfl
  | n :: r => by simp [intsD, intsD_map r]
@[simp] theorem blsD_map : ∀ (ns : List Bool), blsD (ns.map D.bl) = some ns
  | [] => rfl
  | n :: r => by simp [blsD, blsD_map r]
theorem RDs.ints {w : Wd} {ρ : List (Option Addr)} {H : Hp} : ∀ {ns : List Int} {xs : List V}, RDs w ρ H (ns.map D.int) xs → xs = ns.map V.int
  | [], _, h => h
  | n :: r, _, h => by
    obtain ⟨x, s, rfl, h1, h2⟩ := h
    have h1 : x = .int n := h1
    rw [h1, RDs.ints h2, List.map_cons]
theorem RDs.bls {w : Wd} {ρ : List (Option Addr)} {H : Hp} : ∀ {ns : List Bool} {xs : List V}, RDs w ρ H (ns.map D.bl) xs → xs = ns.map V.bl
  | [], _, h => h
  | n :: r, _, h => by
    obtain ⟨x, s, rfl, h1, h2⟩ := h
    have h1 : x = .bl n := h1
    rw [h1, RDs.bls h2, List.map_cons]
theorem RDs.of_ints {w : Wd} {ρ : List (Option Addr)} {H : Hp} : ∀ (ns : List Int), RDs w ρ H (ns.map D.int) (ns.map V.int)
  | [] => rfl
  | n :: r => ⟨_, _, rfl, rfl, RDs.of_ints r⟩

/-! ### sorted -/
def insI (x : Int) : List Int → List Int
  | [] => [x]
  | y :: r => if x ≤ y then x :: y :: r else y :: insI x r
def sortI : List Int → List Int
  | [] => []
  | x :: r => insI x (sortI r)
theorem insI_perm (x : Int) : ∀ l : List Int, (insI x l).Perm (x :: l)
  | [] => .refl _
  | y :: r => by
    unfold insI
    by_cases h : x ≤ y
    · rw [if_pos h]
    · rw [if_neg h]
      exact ((insI_perm x r).cons y).trans (.swap x y r)
theorem sortI_perm : ∀ l : List Int, (sortI l).Perm l
  | [] => .refl _
  | x :: r => (insI_perm x (sortI r)).trans ((sortI_perm r).cons x)
theorem insI_sorted (x : Int) : ∀ {l : List Int}, l.Pairwise (· ≤ ·) → (insI x l).Pairwise (· ≤ ·)
  | [], _ => by simp [insI]
  | y :: r, h => by
    unfold insI
    rw [List.pairwise_cons] at h
    by_cases c : x ≤ y
    · rw [if_pos c]
      refine List.pairwise_cons.mpr ⟨fun z hz => ?_, List.pairwise_cons.mpr h⟩
      rcases List.mem_cons.mp hz with e | hz
      · omega
      · have := h.1 z hz; omega
    · rw [if_neg c]
      refine List.pairwise_cons.mpr ⟨fun z hz => ?_, insI_sorted x h.2⟩
      rcases List.mem_cons.mp ((insI_perm x r).mem_iff.mp hz) with e | hz
      · omega
      · exact h.1 z hz
theorem sortI_sorted : ∀ l : List Int, (sortI l).Pairwise (· ≤ ·)
  | [] => .nil
  | x :: r => insI_sorted x (sortI_sorted r)
theorem sortI_uniq {l m : List Int} (p : m.Perm l) (s : m.Pairwise (· ≤ ·)) : m = sortI l :=
  List.Perm.eq_of_pairwise (le := (· ≤ ·)) (fun a b _ _ h1 h2 => by omega) s (sortI_sorted l) (p.trans (sortI_perm l).symm)
def ddI : List Int → List Int
  | [] => []
  | x :: r => if x ∈ r then ddI r else x :: ddI r
theorem ddI_mem {a : Int} : ∀ {l : List Int}, a ∈ ddI l ↔ a ∈ l
  | [] => by simp [ddI]
  | x :: r => by
    unfold ddI
    by_cases h : x ∈ r
    · rw [if_pos h, ddI_mem]
      constructor
      · exact List.mem_cons_of_mem _
      · intro z
        rcases List.mem_cons.mp z with e | z
        · rw [e]; exact h
        · exact z
    · rw [if_neg h, List.mem_cons, List.mem_cons, ddI_mem]
theorem ddI_nodup : ∀ l : List Int, (ddI l).Nodup
  | [] => .nil
  | x :: r => by
    unfold ddI
    by_cases h : x ∈ r
    · rw [if_pos h]; exact ddI_nodup r
    · rw [if_neg h]; exact List.nodup_cons.mpr ⟨fun z => h (ddI_mem.mp z), ddI_nodup r⟩
/-- sorted, each once -/
def sortU (l : List Int) : List Int := sortI (ddI l)
theorem sortU_uniq {l m : List Int} (s : m.Pairwise (· < ·)) (hm : ∀ a, a ∈ m ↔ a ∈ l) : m = sortU l := by
  refine sortI_uniq ?_ (s.imp fun h => by omega)
  refine (List.perm_ext_iff_of_nodup (s.imp fun h => by omega) (ddI_nodup l)).mpr fun a => ?_
  rw [hm a, ddI_mem]

/-! ### least, greatest -/
def minI : Int → List Int → Int
  | a, [] => a
  | a, b :: r => minI (if b < a then b else a) r
def maxI : Int → List Int → Int
  | a, [] => a
  | a, b :: r => maxI (if a < b then b else a) r
theorem minI_le : ∀ {l : List Int} {a y : Int}, (y = a ∨ y ∈ l) → minI a l ≤ y
  | [], a, y, h => by
    rcases h with h | h
    · subst h; exact Int.le_refl _
    · cases h
  | b :: r, a, y, h => by
    unfold minI
    by_cases c : b < a
    · rw [if_pos c]
      rcases h with h | h
      · have := minI_le (l := r) (a := b) (.inl rfl); omega
      · rcases List.mem_cons.mp h with e | h
        · exact minI_le (.inl e)
        · exact minI_le (.inr h)
    · rw [if_neg c]
      rcases h with h | h
      · exact minI_le (.inl h)
      · rcases List.mem_cons.mp h with e | h
        · have := minI_le (l := r) (a := a) (.inl rfl); omega
        · exact minI_le (.inr h)
theorem minI_mem : ∀ {l : List Int} {a : Int}, minI a l = a ∨ minI a l ∈ l
  | [], a => .inl rfl
  | b :: r, a => by
    unfold minI
    by_cases c : b < a
    · rw [if_pos c]
      rcases minI_mem (l := r) (a := b) with e | e
      · exact .inr (by rw [e]; exact List.mem_cons_self)
      · exact .inr (List.mem_cons_of_mem _ e)
    · rw [if_neg c]
      rcases minI_mem (l := r) (a := a) with e | e
      · exact .inl e
      · exact .inr (List.mem_cons_of_mem _ e)
theorem maxI_le : ∀ {l : List Int} {a y : Int}, (y = a ∨ y ∈ l) → y ≤ maxI a l
  | [], a, y, h => by
    rcases h with h | h
    · subst h; exact Int.le_refl _
    · cases h
  | b :: r, a, y, h => by
    unfold maxI
    by_cases c : a < b
    · rw [if_pos c]
      rcases h with h | h
      · have := maxI_le (l := r) (a := b) (.inl rfl); omega
      · rcases List.mem_cons.mp h with e | h
        · exact maxI_le (.inl e)
        · exact maxI_le (.inr h)
    · rw [if_neg c]
      rcases h with h | h
      · exact maxI_le (.inl h)
      · rcases List.mem_cons.mp h with e | h
        · have := maxI_le (l := r) (a := a) (.inl rfl); omega
        · exact maxI_le (.inr h)
theorem maxI_mem : ∀ {l : List Int} {a : Int}, maxI a l = a ∨ maxI a l ∈ l
  | [], a => .inl rfl
  | b :: r, a => by
    unfold maxI
    by_cases c : a < b
    · rw [if_pos c]
      rcases maxI_mem (l := r) (a := b) with e | e
      · exact .inr (by rw [e]; exact List.mem_cons_self)
      · exact .inr (List.mem_cons_of_mem _ e)
    · rw [if_neg c]
      rcases maxI_mem (l := r) (a := a) with e | e
      · exact .inl e
      · exact .inr (List.mem_cons_of_mem _ e)

/-! ### the library's walks over a tuple of ints -/
section
variable {prog : Program} {w : World} {A : Around} {E : Value → Shared → Prop} {s : Shared} {l : Addr} {xs : Array (Int × Tok)} {its : List Value} {ns : List Int}
theorem iter_intTup {Q : Value → Shared → Prop} (hl : s.heap.IsTuple l (intItems xs))
    (h : ∀ s₂ : Shared, s₂ = { s with heap := s.heap.push { cls := .type "tuple_iterator", data := .fields #[.ref l, .int 0 0] } } →
      (s₂.heap.IsTupleIter s.heap.objs.size l 0 ∧ s₂.heap.IsTuple l (intItems xs)) → (∀ b ∈ [s.heap.objs.size, l], b < s₂.heap.objs.size) → l ≠ s.heap.objs.size → Q (.ref s.heap.objs.size) s₂) :
    wpAny (model prog w) A (pyIter (.ref l)) Q E s := by
  have hlt : l < s.heap.objs.size := by obtain ⟨_, e, _⟩ := hl; exact Heap.lt_size e
  refine wpAny_pyIter_tuple hl (h _ rfl ⟨⟨_, Heap.get?_push_size _ rfl, rfl, rfl⟩, hl.push _⟩ (fun b hb => ?_) (Nat.ne_of_lt hlt))
  show b < (s.heap.push _).objs.size
  rw [Heap.size_push]
  rcases List.mem_cons.mp hb with rfl | hb
  · exact Nat.lt_succ_self _
  · rcases List.mem_cons.mp hb with rfl | hb
    · exact Nat.lt_succ_of_lt hlt
    · cases hb
theorem old_keptT {o : Obj} {h' : Heap} (hk : ∀ b o', b ∉ [s.heap.objs.size] → (s.heap.push o).get? b = some o' → h'.get? b = some o') :
    ∀ b o', s.heap.get? b = some o' → h'.get? b = some o' := fun b o' e => by
  refine hk b o' (fun hm => ?_) (Heap.get?_push_of_some _ e)
  rcases List.mem_cons.mp hm with e1 | hm
  · exact absurd (e1 ▸ Heap.lt_size e) (Nat.lt_irrefl _)
  · cases hm
theorem max_rawT {Q : Value → Shared → Prop} (hh : A.handled = none) (hl : s.heap.IsTuple l its.toArray) (hi : IntsAre its ns) (hne : 0 < ns.length)
    (h : ∀ h' tk M t', (∀ b o, s.heap.get? b = some o → h'.get? b = some o) → M ∈ ns → (∀ a, a ∈ ns → a ≤ M) → Q (.int M t') { s with heap := h', toks := tk }) : wpAny (model prog w) A (call (.builtin "max") [.ref l]) Q E s := by
  obtain ⟨xs, e⟩ := hi.allInts.items
  have hn : numsOf (intItems xs).toList = ns := by rw [← e]; exact hi.numsOf
  rw [nums_intItems] at hn
  subst hn
  rw [e] at hl
  have hsz : 0 < xs.size := by simpa using hne
  refine call_max_walk (iter_intTup hl fun s₂ e st hfp hlI => ?_)
  subst e
  refine ⟨_, _, _, _, _, _, _, rfl, Walks.tuple (A := A.in1) hh _ l hlI (intItems xs), st, hfp, by simpa [intItems] using hsz, CmpOf.ints_gt (numAt xs) (fun _ _ => intItems_at), fun v h' tk hP hk => ?_⟩
  obtain ⟨t, rfl⟩ := intItems_at (show (intItems xs)[_]? = some v from hP)
  have z : (intItems xs).size = xs.size := by simp [intItems]
  rw [z]
  obtain ⟨h1, h2⟩ := argBest_gt (numAt xs) (xs.size - 1)
  refine h h' tk _ t (old_keptT hk) ?_ fun a ha => ?_
  · rw [numAt_eq]; exact PySem.getD_mem (by rw [List.length_map, Array.length_toList]; omega)
  · obtain ⟨j, hj, rfl⟩ := mem_getD ha
    rw [List.length_map, Array.length_toList] at hj
    rw [← numAt_eq]; exact h2 j (by omega)
theorem min_rawT {Q : Value → Shared → Prop} (hh : A.handled = none) (hl : s.heap.IsTuple l its.toArray) (hi : IntsAre its ns) (hne : 0 < ns.length)
    (h : ∀ h' tk M t', (∀ b o, s.heap.get? b = some o → h'.get? b = some o) → M ∈ ns → (∀ a, a ∈ ns → M ≤ a) → Q (.int M t') { s with heap := h', toks := tk }) : wpAny (model prog w) A (call (.builtin "min") [.ref l]) Q E s := by
  obtain ⟨xs, e⟩ := hi.allInts.items
  have hn : numsOf (intItems xs).toList = ns := by rw [← e]; exact hi.numsOf
  rw [nums_intItems] at hn
  subst hn
  rw [e] at hl
  have hsz : 0 < xs.size := by simpa using hne
  refine call_min_walk (iter_intTup hl fun s₂ e st hfp hlI => ?_)
  subst e
  refine ⟨_, _, _, _, _, _, _, rfl, Walks.tuple (A := A.in1) hh _ l hlI (intItems xs), st, hfp, by simpa [intItems] using hsz, CmpOf.ints_lt (numAt xs) (fun _ _ => intItems_at), fun v h' tk hP hk => ?_⟩
  obtain ⟨t, rfl⟩ := intItems_at (show (intItems xs)[_]? = some v from hP)
  have z : (intItems xs).size = xs.size := by simp [intItems]
  rw [z]
  obtain ⟨h1, h2⟩ := argBest_lt (numAt xs) (xs.size - 1)
  refine h h' tk _ t (old_keptT hk) ?_ fun a ha => ?_
  · rw [numAt_eq]; exact PySem.getD_mem (by rw [List.length_map, Array.length_toList]; omega)
  · obtain ⟨j, hj, rfl⟩ := mem_getD ha
    rw [List.length_map, Array.length_toList] at hj
    rw [← numAt_eq]; exact h2 j (by omega)
theorem sum_rawT {Q : Value → Shared → Prop} (hh : A.handled = none) (hl : s.heap.IsTuple l its.toArray) (hi : IntsAre its ns)
    (h : ∀ h' tk t', (∀ b o, s.heap.get? b = some o → h'.get? b = some o) → Q (.int ns.sum t') { s with heap := h', toks := tk }) : wpAny (model prog w) A (call (.builtin "sum") [.ref l]) Q E s := by
  obtain ⟨xs, e⟩ := hi.allInts.items
  have hn : numsOf (intItems xs).toList = ns := by rw [← e]; exact hi.numsOf
  rw [nums_intItems] at hn
  rw [e] at hl
  refine call_sum_walkG (iter_intTup hl fun s₂ e st hfp hlI => ?_)
  subst e
  refine ⟨_, _, _, _, _, _, numAt xs, rfl, Walks.tuple (A := A.in1) hh _ l hlI (intItems xs), st, hfp, (fun _ _ => intItems_at), fun h' tk t' hk => ?_⟩
  have := h h' tk t' (old_keptT hk)
  have z : (intItems xs).size = xs.size := by simp [intItems]
  rw [z, preSum_eq, List.take_of_length_le (by simp), hn]
  exact this
end
section
variable {X : Cx}
def rSumA (K : PySem.W.Frag) : List V → Hp → VK → Prop := fun vs H Q => ∃ (a : Addr) (ns : List Int), vs = [V.ref a] ∧ (SqL K H a (ns.map V.int) ∨ SqT K H a (ns.map V.int)) ∧ Q (.int ns.sum) H
theorem cr_sumA (hc : X.calm = true) : CallR X (.builtin "sum") (rSumA X.K) := by
  intro pins s σ H vs us Q I r h
  obtain ⟨a, ns, rfl, hs, q⟩ := h
  rcases hs with hs | hs
  · exact cr_sum hc pins s σ H _ us Q I r ⟨a, ns, rfl, hs, q⟩
  · obtain ⟨its, rv, hl, _⟩ := I.tuple hs
    rw [Vals.ref1 r]
    exact sum_rawT (I.ok.hd hc) (show s.heap.IsTuple a its.toArray from hl) rv.ints fun h' tk t' hk => ⟨.int _, H, I.kept hk, ⟨_, rfl⟩, q⟩
def rMaxA (K : PySem.W.Frag) : List V → Hp → VK → Prop := fun vs H Q => ∃ (a : Addr) (ns : List Int), vs = [V.ref a] ∧ (SqL K H a (ns.map V.int) ∨ SqT K H a (ns.map V.int)) ∧ 0 < ns.length ∧ ∀ m, m ∈ ns → (∀ y, y ∈ ns → y ≤ m) → Q (.int m) H
def rMinA (K : PySem.W.Frag) : List V → Hp → VK → Prop := fun vs H Q => ∃ (a : Addr) (ns : List Int), vs = [V.ref a] ∧ (SqL K H a (ns.map V.int) ∨ SqT K H a (ns.map V.int)) ∧ 0 < ns.length ∧ ∀ m, m ∈ ns → (∀ y, y ∈ ns → m ≤ y) → Q (.int m) H
theorem cr_maxA (hc : X.calm = true) : CallR X (.builtin "max") (rMaxA X.K) := by
  intro pins s σ H vs us Q I r h
  obtain ⟨a, ns, rfl, hs, hne, q⟩ := h
  rcases hs with hs | hs
  · exact cr_max hc pins s σ H _ us Q I r ⟨a, ns, rfl, hs, hne, q⟩
  · obtain ⟨its, rv, hl, _⟩ := I.tuple hs
    rw [Vals.ref1 r]
    exact max_rawT (I.ok.hd hc) (show s.heap.IsTuple a its.toArray from hl) rv.ints hne fun h' tk m t' hk h1 h2 => ⟨.int _, H, I.kept hk, ⟨_, rfl⟩, q m h1 h2⟩
theorem cr_minA (hc : X.calm = true) : CallR X (.builtin "min") (rMinA X.K) := by
  intro pins s σ H vs us Q I r h
  obtain ⟨a, ns, rfl, hs, hne, q⟩ := h
  rcases hs with hs | hs
  · exact cr_min hc pins s σ H _ us Q I r ⟨a, ns, rfl, hs, hne, q⟩
  · obtain ⟨its, rv, hl, _⟩ := I.tuple hs
    rw [Vals.ref1 r]
    exact min_rawT (I.ok.hd hc) (show s.heap.IsTuple a its.toArray from hl) rv.ints hne fun h' tk m t' hk h1 h2 => ⟨.int _, H, I.kept hk, ⟨_, rfl⟩, q m h1 h2⟩
end

/-! ### functions of values -/
abbrev Fn1 := List D → Hh → O
def f1 (g : D → Hh → O) : Fn1 := fun xs h => match xs with
  | [d] => g d h
  | _ => none
def f2 (g : D → D → Hh → O) : Fn1 := fun xs h => match xs with
  | [a, b] => g a b h
  | _ => none
def lenD (d : D) (h : Hh) : Option Nat := match d with
  | .dct false ks _ => some ks.length
  | .ref n => match h[n]? with
    | some (.dct false ks _) => some ks.length
    | some (.lst xs) => some xs.length
    | _ => none
  | d => (getS h d).map List.length
def fLen : Fn1 := f1 fun d h => (lenD d h).map fun n => (.int n, h)
def fTup : Fn1 := f1 fun d h => (getS h d).map fun xs => (.tup xs, h)
def fLst (mt : Bool) : Fn1 := f1 fun d h => (getS h d).bind fun xs => mk mt xs h
def intsOf (d : D) (h : Hh) : Option (List Int) := (getS h d).bind intsD
def fSum : Fn1 := f1 fun d h => (intsOf d h).map fun ns => (.int ns.sum, h)
def fMin : Fn1 := f1 fun d h => match intsOf d h with
  | some (a :: r) => some (.int (minI a r), h)
  | _ => none
def fMax : Fn1 := f1 fun d h => match intsOf d h with
  | some (a :: r) => some (.int (maxI a r), h)
  | _ => none
def fMin2 : Fn1 := f2 (gI (fun _ _ => true) fun i j => .int (if j < i then j else i))
def fMax2 : Fn1 := f2 (gI (fun _ _ => true) fun i j => .int (if i < j then j else i))
def blsOf (d : D) (h : Hh) : Option (List Bool) := (getL h d).bind blsD
def fAny : Fn1 := f1 fun d h => (blsOf d h).map fun bs => (.bl (bs.any id), h)
def fAll : Fn1 := f1 fun d h => (blsOf d h).map fun bs => (.bl (bs.all id), h)
def fAbs : Fn1 := f1 fun d h => match d with
  | .int i => some (.int (if i < 0 then -i else i), h)
  | _ => none
def fInt : Fn1 := f1 fun d h => match d with
  | .int i => some (.int i, h)
  | .bl b => some (.int (if b = true then 1 else 0), h)
  | _ => none
/-- sorted(xs) of a list of ints -/
def fSort (mt : Bool) : Fn1 := f1 fun d h => ((getL h d).bind intsD).bind fun ns => mk mt ((sortI ns).map D.int) h
/-- the keys of a dict, a mutable one's too -/
def keysOf (d : D) (h : Hh) : Option (List D) := match d with
  | .dct false ks _ => some ks
  | .ref n => match h[n]? with
    | some (.dct false ks _) => some ks
    | _ => none
  | _ => none
/-- sorted(d) of a dict of ints -/
def fSortD (mt : Bool) : Fn1 := f1 fun d h => ((keysOf d h).bind intsD).bind fun ns => if ns.length < 64 then mk mt ((sortI ns).map D.int) h else none
section
variable {T : List (Addr × Str)} {X : Cx} {W : WX}
theorem mfn_1 {f : Value} {r : List V → Hp → VK → Prop} {g : D → Hh → O} (ho : CallR X f r) (hi : ∀ w ρ h H d x Q, w.g = gw X → RH T w ρ h H → RD w ρ H d x → Vst T w ρ H (g d h) Q → r [x] H Q) : MFn T X f (f1 g) :=
  mfn_of ho fun xs H Q ⟨w, ρ, h, as, e1, rh, ra, q⟩ => by
    unfold f1 at q
    match as, q, ra with
    | [], q, ra => exact q.elim
    | _ :: _ :: _, q, ra => exact q.elim
    | [d], q, ra =>
      obtain ⟨x, r, rfl, h1, h2⟩ := ra
      have h2 : r = [] := h2
      subst h2
      exact hi w ρ h H d x Q e1 rh h1 q
theorem mfn_2 {f : Value} {r : List V → Hp → VK → Prop} {g : D → D → Hh → O} (ho : CallR X f r) (hi : ∀ w ρ h H a b x y Q, w.g = gw X → RH T w ρ h H → RD w ρ H a x → RD w ρ H b y → Vst T w ρ H (g a b h) Q → r [x, y] H Q) : MFn T X f (f2 g) :=
  mfn_of ho fun xs H Q ⟨w, ρ, h, as, e1, rh, ra, q⟩ => by
    unfold f2 at q
    match as, q, ra with
    | [], q, ra => exact q.elim
    | [_], q, ra => exact q.elim
    | _ :: _ :: _ :: _, q, ra => exact q.elim
    | [a, b], q, ra =>
      obtain ⟨x, r, rfl, h1, y, r2, rfl, h2, h3⟩ := ra
      have h3 : r2 = [] := h3
      subst h3
      exact hi w ρ h H a b x y Q e1 rh h1 h2 q
theorem mfn_2I {f : Value} {v : Int → Int → Int} {r : List V → Hp → VK → Prop} (ho : CallR X f r) (hr : ∀ i j H Q, Q (.int (v i j)) H → r [.int i, .int j] H Q) : MFn T X f (f2 (gI (fun _ _ => true) fun i j => .int (v i j))) :=
  mfn_2 ho fun w ρ h H a b x y Q e1 rh ra rb q => by
    unfold Vst at q
    cases e : gI (fun _ _ => true) (fun i j => D.int (v i j)) a b h with
    | none => rw [e] at q; exact q.elim
    | some p =>
      obtain ⟨i, j, rfl, rfl, c, rfl⟩ := gI_some e
      rw [e] at q
      have ra : x = .int i := ra
      have rb : y = .int j := rb
      subst ra rb
      exact hr i j H Q (q ρ H _ Ext.refl rh rfl)
theorem mfn_min2 (hc : X.calm = true) : MFn T X (.builtin "min") fMin2 := mfn_2I (call_min2 hc) fun i j H Q q => ⟨i, j, rfl, q⟩
theorem mfn_max2 (hc : X.calm = true) : MFn T X (.builtin "max") fMax2 := mfn_2I (call_max2 hc) fun i j H Q q => ⟨i, j, rfl, by
  have e : (if j > i then j else i) = if i < j then j else i := rfl
  rw [e]; exact q⟩
def rLenA (K : PySem.W.Frag) : List V → Hp → VK → Prop := fun xs H Q => ∃ a, xs = [V.ref a] ∧ ((∃ ys, (SqL K H a ys ∨ SqT K H a ys) ∧ Q (.int ys.length) H) ∨ ∃ kvs, Rd H a (.dK kvs) ∧ Q (.int kvs.length) H)
theorem call_lenA : CallR X (.builtin "len") (rLenA X.K) := by
  intro pins s σ H xs us Q I r h
  obtain ⟨a, rfl, ⟨ys, hq, q⟩ | ⟨kvs, hq, q⟩⟩ := h
  · exact call_len_seq pins s σ H _ us Q I r ⟨a, ys, rfl, hq, q⟩
  · rw [Vals.ref1 r]
    exact d_len I hq fun t s' I' => ⟨.int kvs.length, H, I', ⟨t, rfl⟩, q⟩
theorem rdK {w : Wd} {ρ : List (Option Addr)} {h : Hh} {H : Hp} (rh : RH T w ρ h H) {d : D} {x : V} (r : RD w ρ H d x) {ks : List D} (e : keysOf d h = some ks) : ∃ a ys xs, x = .ref a ∧ ks.mapM keyD = some ys ∧ ys.length = xs.length ∧ Rd H a (.dK (ys.zip xs)) := by
  cases d with
  | dct t ks' vs =>
    cases t with
    | true => simp [keysOf] at e
    | false =>
      simp only [keysOf] at e
      cases e
      obtain ⟨a, xs, ys, e1, _, e2, e3, e4, _⟩ := r
      exact ⟨a, ys, xs, e1, e2, e3, e4⟩
  | ref n =>
    simp only [keysOf] at e
    cases e2 : h[n]? with
    | none => rw [e2] at e; cases e
    | some ob =>
      rw [e2] at e
      cases ob with
      | dct t ks' vs =>
        cases t with
        | true => cases e
        | false =>
          cases e
          obtain ⟨a, ha⟩ := rh.live n _ e2 (by intro z; cases z)
          obtain ⟨_, _, ob, h3, h4⟩ := rh.obj n a ha
          rw [e2] at h3; cases h3
          obtain ⟨xs, ys, k, l, z, rs⟩ := h4
          exact ⟨a, ys, xs, r.2 a ha, k, l, .inl z⟩
      | gone => cases e
      | lst v => cases e
      | dcn k v => cases e
  | _ => simp [keysOf] at e
theorem lenD_ok {w : Wd} {ρ : List (Option Addr)} {h : Hh} {H : Hp} {K : PySem.W.Frag} (rh : RH T w ρ h H) {d : D} {x : V} (r : RD w ρ H d x) {n : Nat} (e : lenD d h = some n) :
    ∃ a, x = .ref a ∧ ((∃ ys, (SqL K H a ys ∨ SqT K H a ys) ∧ n = ys.length) ∨ ∃ kvs, Rd H a (.dK kvs) ∧ n = kvs.length) := by
  have seq : ∀ {xs : List D}, getS h d = some xs → n = xs.length → ∃ a, x = .ref a ∧ ((∃ ys, (SqL K H a ys ∨ SqT K H a ys) ∧ n = ys.length) ∨ ∃ kvs, Rd H a (.dK kvs) ∧ n = kvs.length) := fun {xs} e hn => by
    obtain ⟨a, ys, ex, sq, rs⟩ := rdS (K := K) rh r e
    exact ⟨a, ex, .inl ⟨ys, sq, by rw [hn, rs.length]⟩⟩
  have dct : ∀ {ks : List D}, keysOf d h = some ks → n = ks.length → ∃ a, x = .ref a ∧ ((∃ ys, (SqL K H a ys ∨ SqT K H a ys) ∧ n = ys.length) ∨ ∃ kvs, Rd H a (.dK kvs) ∧ n = kvs.length) := fun {ks} e hn => by
    obtain ⟨a, ys, xs, ex, hk, hl, hd⟩ := rdK rh r e
    refine ⟨a, ex, .inr ⟨_, hd, ?_⟩⟩
    rw [hn, List.length_zip, mapM_length hk]; omega
  cases d with
  | dct t ks vs =>
    cases t with
    | true => simp [lenD, getS, getL] at e
    | false => simp [lenD] at e; exact dct (ks := ks) rfl e.symm
  | ref m =>
    simp only [lenD] at e
    cases e2 : h[m]? with
    | none => rw [e2] at e; cases e
    | some ob =>
      rw [e2] at e
      cases ob with
      | gone => cases e
      | dcn k v => cases e
      | lst xs => cases e; exact seq (xs := xs) (by simp [getS, getL, e2]) rfl
      | dct t ks vs =>
        cases t with
        | true => cases e
        | false => cases e; exact dct (ks := ks) (by simp [keysOf, e2]) rfl
  | _ =>
    simp only [lenD] at e
    obtain ⟨xs, e1, e2⟩ := Option.map_eq_some_iff.mp e
    exact seq e1 e2.symm
theorem mfn_len : MFn T X (.builtin "len") fLen := mfn_1 call_lenA fun w ρ h H d x Q e1 rh ra q => by
  cases e : lenD d h with
  | none => rw [e] at q; exact q.elim
  | some n =>
    rw [e] at q
    obtain ⟨a, rfl, z⟩ := lenD_ok (K := X.K) rh ra e
    have q : Q (.int n) H := q ρ H _ Ext.refl rh rfl
    refine ⟨a, rfl, ?_⟩
    rcases z with ⟨ys, sq, rfl⟩ | ⟨kvs, hd, rfl⟩
    · exact .inl ⟨ys, sq, q⟩
    · exact .inr ⟨kvs, hd, q⟩
theorem mfn_tup : MFn T X (.type "tuple") fTup := mfn_1 call_tuple_of fun w ρ h H d x Q e1 rh ra q => by
  cases e : getS h d with
  | none => rw [e] at q; exact q.elim
  | some xs =>
    rw [e] at q
    cases d with
    | tup ds =>
      simp only [getS] at e
      cases e
      obtain ⟨a, us, rfl, z, rs⟩ := ra
      exact ⟨a, us, rfl, .inr ⟨rd_tup z, q ρ H _ Ext.refl rh ⟨a, us, rfl, z, rs⟩⟩⟩
    | _ =>
      obtain ⟨a, us, rfl, z, rs⟩ := rdL rh ra (by simpa [getS] using e)
      refine ⟨a, us, rfl, .inl ⟨rd_lst z, fun p hp => ?_⟩⟩
      obtain ⟨e, r', f⟩ := rh.frz hp (.tup us)
      exact q ρ _ _ e r' ⟨p, us, rfl, upd_same, rs.mono e⟩
theorem mfn_lst (mt : Bool) : MFn T X (.type "list") (fLst mt) := mfn_1 call_list_of fun w ρ h H d x Q e1 rh ra q => by
  cases e : getS h d with
  | none => rw [e] at q; exact q.elim
  | some xs =>
    rw [e] at q
    obtain ⟨a, us, rfl, sq, rs⟩ := rdS (K := X.K) rh ra e
    exact ⟨a, us, rfl, sq, fun p hp => mk_ok rh rs hp q⟩
theorem intsOf_ok {w : Wd} {ρ : List (Option Addr)} {h : Hh} {H : Hp} {K : PySem.W.Frag} (rh : RH T w ρ h H) {d : D} {x : V} (ra : RD w ρ H d x) {ns : List Int} (e : intsOf d h = some ns) : ∃ a, x = .ref a ∧ (SqL K H a (ns.map V.int) ∨ SqT K H a (ns.map V.int)) := by
  unfold intsOf at e
  obtain ⟨xs, e1, e2⟩ := Option.bind_eq_some_iff.mp e
  obtain ⟨a, us, rfl, sq, rs⟩ := rdS (K := K) rh ra e1
  rw [intsD_some e2] at rs
  rw [rs.ints] at sq
  exact ⟨a, rfl, sq⟩
theorem mfn_sum (hc : X.calm = true) : MFn T X (.builtin "sum") fSum := mfn_1 (cr_sumA hc) fun w ρ h H d x Q e1 rh ra q => by
  cases e : intsOf d h with
  | none => rw [e] at q; exact q.elim
  | some ns =>
    rw [e] at q
    obtain ⟨a, rfl, sq⟩ := intsOf_ok (K := X.K) rh ra e
    exact ⟨a, ns, rfl, sq, q ρ H _ Ext.refl rh rfl⟩
theorem mfn_min (hc : X.calm = true) : MFn T X (.builtin "min") fMin := mfn_1 (cr_minA hc) fun w ρ h H d x Q e1 rh ra q => by
  cases e : intsOf d h with
  | none => rw [e] at q; exact q.elim
  | some ns =>
    rw [e] at q
    cases ns with
    | nil => exact q.elim
    | cons n r =>
      obtain ⟨a, rfl, sq⟩ := intsOf_ok (K := X.K) rh ra e
      refine ⟨a, n :: r, rfl, sq, by simp, fun m hm hl => ?_⟩
      have em : minI n r = m := by
        have h1 := hl (minI n r) (by rcases minI_mem (l := r) (a := n) with z | z <;> simp [z])
        have h2 := minI_le (l := r) (a := n) (y := m) (List.mem_cons.mp hm)
        omega
      dsimp only at q
      rw [em] at q
      exact q ρ H _ Ext.refl rh rfl
theorem mfn_max (hc : X.calm = true) : MFn T X (.builtin "max") fMax := mfn_1 (cr_maxA hc) fun w ρ h H d x Q e1 rh ra q => by
  cases e : intsOf d h with
  | none => rw [e] at q; exact q.elim
  | some ns =>
    rw [e] at q
    cases ns with
    | nil => exact q.elim
    | cons n r =>
      obtain ⟨a, rfl, sq⟩ := intsOf_ok (K := X.K) rh ra e
      refine ⟨a, n :: r, rfl, sq, by simp, fun m hm hl => ?_⟩
      have em : maxI n r = m := by
        have h1 := hl (maxI n r) (by rcases maxI_mem (l := r) (a := n) with z | z <;> simp [z])
        have h2 := maxI_le (l := r) (a := n) (y := m) (List.mem_cons.mp hm)
        omega
      dsimp only at q
      rw [em] at q
      exact q ρ H _ Ext.refl rh rfl
theorem blsOf_ok {w : Wd} {ρ : List (Option Addr)} {h : Hh} {H : Hp} {K : PySem.W.Frag} (rh : RH T w ρ h H) {d : D} {x : V} (ra : RD w ρ H d x) {ns : List Bool} (e : blsOf d h = some ns) : ∃ a, x = .ref a ∧ SqL K H a (ns.map V.bl) := by
  unfold blsOf at e
  obtain ⟨xs, e1, e2⟩ := Option.bind_eq_some_iff.mp e
  obtain ⟨a, us, rfl, sq, rs⟩ := rdL rh ra e1
  rw [blsD_some e2] at rs
  rw [rs.bls] at sq
  exact ⟨a, rfl, rd_lst sq⟩
theorem mfn_any (hc : X.calm = true) : MFn T X (.builtin "any") fAny := mfn_1 (cr_any hc) fun w ρ h H d x Q e1 rh ra q => by
  cases e : blsOf d h with
  | none => rw [e] at q; exact q.elim
  | some ns =>
    rw [e] at q
    obtain ⟨a, rfl, sq⟩ := blsOf_ok (K := X.K) rh ra e
    exact ⟨a, ns, rfl, sq, q ρ H _ Ext.refl rh rfl⟩
theorem mfn_all (hc : X.calm = true) : MFn T X (.builtin "all") fAll := mfn_1 (cr_all hc) fun w ρ h H d x Q e1 rh ra q => by
  cases e : blsOf d h with
  | none => rw [e] at q; exact q.elim
  | some ns =>
    rw [e] at q
    obtain ⟨a, rfl, sq⟩ := blsOf_ok (K := X.K) rh ra e
    exact ⟨a, ns, rfl, sq, q ρ H _ Ext.refl rh rfl⟩
theorem mfn_abs : MFn T X (.builtin "abs") fAbs := mfn_1 call_abs fun w ρ h H d x Q e1 rh ra q => by
  cases d with
  | int i =>
    have ra : x = .int i := ra
    subst ra
    exact ⟨i, rfl, q ρ H _ Ext.refl rh rfl⟩
  | _ => exact q.elim
theorem mfn_int : MFn T X (.type "int") fInt := mfn_1 call_int1 fun w ρ h H d x Q e1 rh ra q => by
  cases d with
  | int i =>
    have ra : x = .int i := ra
    subst ra
    exact .inl ⟨i, rfl, q ρ H _ Ext.refl rh rfl⟩
  | bl i =>
    have ra : x = .bl i := ra
    subst ra
    exact .inr ⟨i, rfl, q ρ H _ Ext.refl rh rfl⟩
  | _ => exact q.elim
theorem mfn_sort (mt : Bool) : MFn T X (.builtin "sorted") (fSort mt) := mfn_1 cr_sortedI fun w ρ h H d x Q e1 rh ra q => by
  cases e : getL h d with
  | none => rw [e] at q; exact q.elim
  | some xs =>
    rw [e] at q
    simp only [Option.bind_some] at q
    cases e2 : intsD xs with
    | none => rw [e2] at q; exact q.elim
    | some ns =>
      rw [e2] at q
      simp only [Option.bind_some] at q
      obtain ⟨a, us, rfl, sq, rs⟩ := rdL rh ra e
      rw [intsD_some e2] at rs
      rw [rs.ints] at sq
      refine ⟨a, ns, rfl, rd_lst sq, fun ns' p pm pw hp => ?_⟩
      rw [sortI_uniq pm pw]
      exact mk_ok rh (RDs.of_ints _) hp q
theorem keys_ints : ∀ {ns : List Int} {ys : List Key}, (ns.map D.int).mapM keyD = some ys → ys = ns.map Sum.inl
  | [], ys, h => by
    rw [List.map_nil, List.mapM_nil] at h
    exact (Option.some.inj h).symm
  | n :: r, ys, h => by
    rw [List.map_cons] at h
    obtain ⟨b, s, e1, e2, rfl⟩ := mapM_cons_some h
    simp [keyD] at e1
    rw [keys_ints e2, ← e1, List.map_cons]
theorem mfn_sortD (hc : X.calm = true) (mt : Bool) : MFn T X (.builtin "sorted") (fSortD mt) := mfn_1 (call_sortedDI hc) fun w ρ h H d x Q e1 rh ra q => by
  cases e : keysOf d h with
  | none => rw [e] at q; exact q.elim
  | some xs =>
    rw [e] at q
    simp only [Option.bind_some] at q
    cases e2 : intsD xs with
    | none => rw [e2] at q; exact q.elim
    | some ns =>
      rw [e2] at q
      simp only [Option.bind_some] at q
      by_cases hl : ns.length < 64
      · rw [if_pos hl] at q
        obtain ⟨a, ys, us, rfl, hk, hz, hd⟩ := rdK rh ra e
        rw [intsD_some e2] at hk
        have ey := keys_ints hk
        refine ⟨a, _, ns, rfl, hd, ?_, hl, ?_⟩
        · rw [List.map_fst_zip (by omega), ey]
        · first
          | (intro ns' p pm pw hp; rw [sortI_uniq pm pw]; exact mk_ok rh (RDs.of_ints _) hp q)
          | (intro ns' p pm pw hp; rw [sortI_uniq pm (pw.imp fun h => by omega)]; exact mk_ok rh (RDs.of_ints _) hp q)
          | skip
      · rw [if_neg hl] at q; exact q.elim
end
end Rf
namespace Rf
open PySem PySem.Spec PyProof.Rows L2

/-! ### methods -/
abbrev Mth := D → List D → Hh → O
def mMeth (ty : D → Hh → Bool) (g : Mth) (m : Me) (as : Ma) : Me := fun env h => (m env h).bind fun x h1 => if ty x h1 = true then (as env h1).bind fun xs h2 => ofO (g x xs h2) else .stuck
def tyL (d : D) (h : Hh) : Bool := (getL h d).isSome
def rMt (T : List (Addr × Str)) (X : Cx) (g : Mth) : V → List V → Hp → VK → Prop := fun x xs H Q => ∃ w ρ h a as, w.g = gw X ∧ RH T w ρ h H ∧ RD w ρ H a x ∧ RDs w ρ H as xs ∧ Vst T w ρ H (g a as h) Q
def MMt (T : List (Addr × Str)) (X : Cx) (id : String) (g : Mth) : Prop := MtR X id (rMt T X g)
def gOrM (f g : Mth) : Mth := fun a as h => match f a as h with
  | some p => some p
  | none => g a as h
section
variable {T : List (Addr × Str)} {X : Cx} {W : WX} {a b c e o : Expr} {es : List Expr} {ma mb mc : Me} {ta tb tc : Mt} {as : Ma} {pos : Pos}
theorem mmt_or {id : String} {g g' : Mth} (h1 : MMt T X id g) (h2 : MMt T X id g') : MMt T X id (gOrM g g') :=
  fun pins s σ H x xs v us Q I rx rxs ⟨w, ρ, h, a, as, e1, rh, ra, rs, q⟩ => by
    unfold gOrM at q
    cases e : g a as h with
    | some p => rw [e] at q; exact h1 pins s σ H x xs v us Q I rx rxs ⟨w, ρ, h, a, as, e1, rh, ra, rs, by rw [e]; exact q⟩
    | none => rw [e] at q; exact h2 pins s σ H x xs v us Q I rx rxs ⟨w, ρ, h, a, as, e1, rh, ra, rs, q⟩
theorem meth_imp {Ty : String} {ty : D → Hh → Bool} {g : Mth} (ht : ∀ w ρ h H d x, RH T w ρ h H → RD w ρ H d x → ty d h = true → tyV X.K Ty x H) {σ : L2.St} {H : Hp} {Q : VK} (q : tM T X W (mMeth ty g ma as) σ H Q) : tBM X.K Ty (rMt T X g) (tM T X W ma) (tAm T X W as) σ H Q := by
  obtain ⟨w, ρ, env, h, s, q⟩ := q
  refine ⟨w, ρ, env, h, s, ?_⟩
  unfold mMeth at q
  cases e : ma env h with
  | stuck => rw [e] at q; exact q
  | exc x h1 => rw [e] at q; exact q
  | ok v h1 =>
    rw [e, R.bind_ok] at q
    intro ρ1 H1 x e1 r1 d1
    by_cases hy : ty v h1 = true
    · rw [if_pos hy] at q
      refine ⟨ht w ρ1 h1 H1 v x r1 d1 hy, w, ρ1, env, h1, s.next e1 r1, ?_⟩
      cases e' : as env h1 with
      | stuck => rw [e'] at q; exact q
      | exc x h2 => rw [e'] at q; exact Pst.ext (rel := RD) q e1
      | ok u h2 =>
        rw [e', R.bind_ok] at q
        intro ρ2 H2 y e2 r2 d2
        exact ⟨w, ρ2, h2, v, u, s.g, r2, d1.mono e2, d2, (Pst.ofO q).ext (e1.trans e2)⟩
    · rw [if_neg hy] at q; exact q.elim
theorem tyL_ok : ∀ (w : Wd) (ρ : List (Option Addr)) (h : Hh) (H : Hp) (d : D) (x : V), RH T w ρ h H → RD w ρ H d x → tyL d h = true → tyV X.K "list" x H := fun w ρ h H d x rh r hy => by
  unfold tyL at hy
  obtain ⟨xs, e⟩ := Option.isSome_iff_exists.mp hy
  obtain ⟨a, us, rfl, z, _⟩ := rdL rh r e
  exact .inl ⟨rfl, us, rd_lst z⟩
/-- o.name(e, ..), o a list -/
theorem me_meth {name : Str} {id : String} {apos cpos : Pos} {g : Mth} (slot : Slot "list" name id) (hty : typeOf (.builtin id) = pure (.type "method_descriptor")) (hm : MMt T X id g) (ho : ME T X W o ma) (ha : MA T X W (e :: es) as)
    (hbase : attributeBase o name X.env (eval o X.env) = eval o X.env := by rfl)
    (hfew : ((backTo cpos (starEach (e :: es) X.env)).all (fun x => !x.1) && (backToKw cpos (keywordEach [] X.env)).all (fun x => x.1.isSome)
      && decide ((e :: es).length + ([] : List Keyword).length + (if ([] : List Keyword).isEmpty then 0 else 1) < 30)) = true := by rfl)
    (hline : (apos.endLine == cpos.line) = true := by rfl) (hs : starEach (e :: es) X.env = (false, eval e X.env) :: starEach es X.env := by rfl) (hplain : (backTo cpos (starEach es X.env)).any (·.1) = false := by rfl) :
    ME T X W (.Call (.Attribute o name apos) (e :: es) [] cpos) (mMeth tyL g ma as) :=
  PE.imp (pe_bm F.plainAttrs_list slot hty hm ho ha hbase hfew hline hs hplain) fun σ H Q q => meth_imp tyL_ok q
theorem me_meth0 {name : Str} {id : String} {apos cpos : Pos} {g : Mth} (slot : Slot "list" name id) (hty : typeOf (.builtin id) = pure (.type "method_descriptor")) (hm : MMt T X id g) (ho : ME T X W o ma)
    (hbase : attributeBase o name X.env (eval o X.env) = eval o X.env := by rfl) (hline : (apos.endLine == cpos.line) = true := by rfl) : ME T X W (.Call (.Attribute o name apos) [] [] cpos) (mMeth tyL g ma aNil) :=
  PE.imp (pe_bm0 F.plainAttrs_list slot hty hm ho hbase hline) fun σ H Q q => by
    obtain ⟨w, ρ, env, h, s, q⟩ := q
    refine ⟨w, ρ, env, h, s, ?_⟩
    unfold mMeth at q
    cases e : ma env h with
    | stuck => rw [e] at q; exact q
    | exc x h1 => rw [e] at q; exact q
    | ok v h1 =>
      rw [e, R.bind_ok] at q
      intro ρ1 H1 x e1 r1 d1
      by_cases hy : tyL v h1 = true
      · rw [if_pos hy] at q
        refine ⟨tyL_ok w ρ1 h1 H1 v x r1 d1 hy, w, ρ1, h1, v, [], s.g, r1, d1, rfl, ?_⟩
        unfold aNil at q
        rw [R.bind_ok] at q
        exact (Pst.ofO q).ext e1
      · rw [if_neg hy] at q; exact q.elim

/-! ### a mutable list -/
theorem rdRef {w : Wd} {ρ : List (Option Addr)} {h : Hh} {H : Hp} (rh : RH T w ρ h H) {n : Nat} {x : V} (r : RD w ρ H (.ref n) x) {ds : List D} (e : h[n]? = some (.lst ds)) : ∃ a xs, x = .ref a ∧ ρ[n]? = some (some a) ∧ H a = some (.lst xs) ∧ RDs w ρ H ds xs := by
  obtain ⟨a, ha⟩ := rh.live n _ e (by intro z; cases z)
  obtain ⟨_, _, ob, h3, h4⟩ := rh.obj n a ha
  rw [e] at h3; cases h3
  obtain ⟨xs, z, rs⟩ := h4
  exact ⟨a, xs, r.2 a ha, ha, z, rs⟩
/-- a mutable list's items change -/
def onL (d : D) (h : Hh) (f : List D → Option (D × List D)) : O := match d with
  | .ref n => match h[n]? with
    | some (.lst xs) => (f xs).map fun p => (p.1, h.set n (.lst p.2))
    | _ => none
  | _ => none
theorem onL_ok {w : Wd} {ρ : List (Option Addr)} {h : Hh} {H : Hp} {Q : VK} {f : List D → Option (D × List D)} (rh : RH T w ρ h H) {d : D} {x : V} (r : RD w ρ H d x) (q : Vst T w ρ H (onL d h f) Q) :
    ∃ a ds xs p, x = .ref a ∧ H a = some (.lst xs) ∧ RDs w ρ H ds xs ∧ f ds = some p ∧ ∀ xs' y, RDs w ρ H p.2 xs' → RD w ρ H p.1 y → Q y (L2.upd H a (.lst xs')) := by
  unfold onL at q
  cases d with
  | ref n =>
    dsimp only at q
    cases e : h[n]? with
    | none => rw [e] at q; exact q.elim
    | some ob =>
      rw [e] at q
      cases ob with
      | lst ds =>
        dsimp only at q
        obtain ⟨a, xs, ex, ha, hH, rs⟩ := rdRef rh r e
        cases ef : f ds with
        | none => rw [ef] at q; exact q.elim
        | some p =>
          rw [ef] at q
          refine ⟨a, ds, xs, p, ex, hH, rs, ef, fun xs' y r1 r2 => ?_⟩
          obtain ⟨e1, r'⟩ := rh.write ha (o := .lst xs') (ob := .lst p.2) trivial fun e => ⟨xs', upd_same, r1.mono e⟩
          exact q _ _ y e1 r' (r2.mono e1)
      | _ => exact q.elim
  | _ => exact q.elim
def gAppend : Mth := fun d xs h => match xs with
  | [y] => onL d h fun l => if l.length < SZ then some (.non, l ++ [y]) else none
  | _ => none
def gPopL : Mth := fun d xs h => match xs with
  | [] => onL d h fun l => (l[l.length - 1]?).map fun y => (y, l.dropLast)
  | [.int i] => onL d h fun l => if okR i = true then (ixN l.length i).bind fun k => (l[k]?).map fun y => (y, l.eraseIdx k) else none
  | _ => none
def gInsert : Mth := fun d xs h => match xs with
  | [.int i, y] => onL d h fun l => if (decide (l.length < SZ) && decide (0 ≤ i) && decide (i < 2 ^ 62)) = true then some (.non, l.take i.toNat ++ [y] ++ l.drop i.toNat) else none
  | _ => none
theorem RDs.one_inv {w : Wd} {ρ : List (Option Addr)} {H : Hp} {d : D} {xs : List V} (r : RDs w ρ H [d] xs) : ∃ x, xs = [x] ∧ RD w ρ H d x := by
  obtain ⟨x, r, rfl, h1, h2⟩ := r
  have h2 : r = [] := h2
  subst h2
  exact ⟨x, rfl, h1⟩
theorem RDs.two_inv {w : Wd} {ρ : List (Option Addr)} {H : Hp} {d e : D} {xs : List V} (r : RDs w ρ H [d, e] xs) : ∃ x y, xs = [x, y] ∧ RD w ρ H d x ∧ RD w ρ H e y := by
  obtain ⟨x, r, rfl, h1, h2⟩ := r
  obtain ⟨y, rfl, h3⟩ := RDs.one_inv h2
  exact ⟨x, y, rfl, h1, h3⟩
theorem mmt_append : MMt T X "list.append" gAppend := fun pins s σ H x xs v us Q I rx rxs ⟨w, ρ, h, a, as, e1, rh, ra, rs, q⟩ => by
  unfold gAppend at q
  match as, rs, q with
  | [], _, q => exact q.elim
  | _ :: _ :: _, _, q => exact q.elim
  | [d], rs, q =>
    obtain ⟨y, rfl, ry⟩ := rs.one_inv
    obtain ⟨c, ds, vs, p, rfl, hH, r1, ef, q⟩ := onL_ok rh ra q
    by_cases hl : ds.length < SZ
    · rw [if_pos hl] at ef
      cases ef
      exact mt_append pins s σ H _ _ v us Q I rx rxs ⟨c, vs, y, rfl, rfl, hH, by rw [← r1.length, ← SZ_eq]; exact hl, q _ _ (r1.append (RDs.one ry)) rfl⟩
    · rw [if_neg hl] at ef; cases ef
theorem RDs.dropLast {w : Wd} {ρ : List (Option Addr)} {H : Hp} {ds : List D} {xs : List V} (r : RDs w ρ H ds xs) : RDs w ρ H ds.dropLast xs.dropLast := by
  rw [List.dropLast_eq_take, List.dropLast_eq_take, r.length]
  exact r.take _
theorem RDs.eraseIdx {w : Wd} {ρ : List (Option Addr)} {H : Hp} : ∀ {ds : List D} {xs : List V} (k : Nat), RDs w ρ H ds xs → RDs w ρ H (ds.eraseIdx k) (xs.eraseIdx k)
  | [], _, k, h => by
    have z : _ = [] := h
    subst z
    simp; exact rfl
  | a :: as, _, 0, h => by
    obtain ⟨x, r, rfl, h1, h2⟩ := h
    exact h2
  | a :: as, _, n + 1, h => by
    obtain ⟨x, r, rfl, h1, h2⟩ := h
    exact ⟨x, _, rfl, h1, RDs.eraseIdx n h2⟩
theorem mmt_pop : MMt T X "list.pop" gPopL := fun pins s σ H x xs v us Q I rx rxs ⟨w, ρ, h, a, as, e1, rh, ra, rs, q⟩ => by
  unfold gPopL at q
  match as, rs, q with
  | [], rs, q =>
    have rs : xs = [] := rs
    subst rs
    obtain ⟨c, ds, vs, p, rfl, hH, r1, ef, q⟩ := onL_ok rh ra q
    obtain ⟨d, e2, rfl⟩ := Option.map_eq_some_iff.mp ef
    obtain ⟨y, hy, ry⟩ := r1.get e2
    rw [r1.length] at hy
    exact mt_pop pins s σ H _ _ v us Q I rx rxs ⟨c, vs, y, rfl, rfl, hH, hy, q _ _ r1.dropLast ry⟩
  | [.int i], rs, q =>
    obtain ⟨y0, rfl, ry0⟩ := rs.one_inv
    have ry0 : y0 = .int i := ry0
    subst ry0
    obtain ⟨c, ds, vs, p, rfl, hH, r1, ef, q⟩ := onL_ok rh ra q
    by_cases hk : okR i = true
    · rw [if_pos hk] at ef
      obtain ⟨g1, g2⟩ := okR_ok hk
      obtain ⟨k, e2, e3⟩ := Option.bind_eq_some_iff.mp ef
      obtain ⟨d, e4, rfl⟩ := Option.map_eq_some_iff.mp e3
      obtain ⟨y, hy, ry⟩ := r1.get e4
      rw [r1.length] at e2
      exact mt_popAt pins s σ H _ _ v us Q I rx rxs ⟨c, vs, i, k, y, rfl, rfl, hH, by omega, by omega, (ixN_seq e2).1, hy, q _ _ (r1.eraseIdx k) ry⟩
    · rw [if_neg hk] at ef; cases ef
  | [.non], _, q | [.bl _], _, q | [.str _], _, q | [.tup _], _, q | [.lst _], _, q | [.dct _ _ _], _, q | [.ref _], _, q | [.fn _], _, q => exact q.elim
  | _ :: _ :: _, _, q => exact (by revert q; simp only; intro q; exact q.elim)
theorem mmt_insert : MMt T X "list.insert" gInsert := fun pins s σ H x xs v us Q I rx rxs ⟨w, ρ, h, a, as, e1, rh, ra, rs, q⟩ => by
  unfold gInsert at q
  split at q
  · rename_i i d
    obtain ⟨y0, y, rfl, ry0, ry⟩ := rs.two_inv
    have ry0 : y0 = .int i := ry0
    subst ry0
    obtain ⟨c, ds, vs, p, rfl, hH, r1, ef, q⟩ := onL_ok rh ra q
    by_cases hl : (decide (ds.length < SZ) && decide (0 ≤ i) && decide (i < 2 ^ 62)) = true
    · rw [if_pos hl] at ef
      cases ef
      simp only [Bool.and_eq_true, decide_eq_true_eq] at hl
      exact mt_insert pins s σ H _ _ v us Q I rx rxs ⟨c, vs, i, y, rfl, rfl, hH, by rw [← r1.length, ← SZ_eq]; exact hl.1.1, hl.1.2, by omega, q _ _ (((r1.take _).append (RDs.one ry)).append (r1.drop _)) rfl⟩
    · rw [if_neg hl] at ef; cases ef
  · exact q.elim

/-! ### o[i] = v -/
def gSetL : Mst := fun o i v h => match i with
  | .int k => (onL o h fun l => (ixN l.length k).map fun j => (.non, l.set j v)).map (·.2)
  | _ => none
def stOr (f g : Mst) : Mst := fun o i v h => match f o i v h with
  | some p => some p
  | none => g o i v h
theorem mst_or {g g' : Mst} (h1 : MSt T X g) (h2 : MSt T X g') : MSt T X (stOr g g') :=
  fun pins s σ H o i v ov iv u Q I ro ri rv ⟨w, ρ, h, a, b, c, e1, rh, ra, rb, rc, q⟩ => by
    unfold stOr at q
    cases e : g a b c h with
    | some p => rw [e] at q; exact h1 pins s σ H o i v ov iv u Q I ro ri rv ⟨w, ρ, h, a, b, c, e1, rh, ra, rb, rc, by rw [e]; exact q⟩
    | none => rw [e] at q; exact h2 pins s σ H o i v ov iv u Q I ro ri rv ⟨w, ρ, h, a, b, c, e1, rh, ra, rb, rc, q⟩
theorem onL_st {w : Wd} {ρ : List (Option Addr)} {h : Hh} {H : Hp} {Q : Hp → Prop} {o : O} (q : match o.map (·.2) with | some h' => ∀ ρ' H', Ext w ρ H ρ' H' → RH T w ρ' h' H' → Q H' | none => False) : Vst T w ρ H o (fun _ H' => Q H') := by
  cases o with
  | none => exact q
  | some p => exact fun ρ' H' x e r _ => q ρ' H' e r
theorem mst_list : MSt T X gSetL := fun pins s σ H o i v ov iv u Q I ro ri rv ⟨w, ρ, h, a, b, c, e1, rh, ra, rb, rc, q⟩ => by
  unfold gSetL at q
  cases b with
  | int k =>
    have rb : i = .int k := rb
    subst rb
    obtain ⟨x, ds, vs, p, rfl, hH, r1, ef, q⟩ := onL_ok rh ra (onL_st (h := h) q)
    obtain ⟨j, e2, rfl⟩ := Option.map_eq_some_iff.mp ef
    rw [r1.length] at e2
    exact set_list pins s σ H _ _ v ov iv u Q I ro ri rv ⟨x, vs, k, j, rfl, rfl, hH, e2, q _ .non (r1.set j rc) rfl⟩
  | _ => exact q.elim

/-! ### o[i] op= e -/
def MGt (T : List (Addr × Str)) (X : Cx) (g : Op2) : Prop := PGet X (rB T X g)
def sAugS (mo mi me : Me) (gg gop : Op2) (f : Mst) : Ms := fun env h => (mo env h).fl fun o h1 => (mi env h1).fl fun i h2 => match gg o i h2 with
  | none => .stuck
  | some x => (me env x.2).fl fun y h4 => match gop x.1 y h4 with
    | none => .stuck
    | some z => match f o i z.1 z.2 with
      | none => .stuck
      | some h6 => .nx env h6
theorem get_list {pins : List (Addr × Obj)} {s : Shared} {σ : L2.St} {H : Hp} {ov iv : Value} {x y : V} {Q : VK} (I : Inv X pins σ H s) (ro : RelV x ov) (ri : RelV y iv) (h : rIxL X.K x y H Q) : wpAny (model X.prog X.w) X.A (getItem ov iv) (EP X pins σ Q) X.xe s := by
  obtain ⟨p, xs, i, z, rfl, rfl, hq, he, q⟩ := h
  cases ro
  obtain ⟨t, rfl⟩ := ri
  obtain ⟨its, r, pl, hz⟩ := I.list hq
  obtain ⟨j, h1, h2, h3, h4, h5⟩ := atI_get he
  obtain ⟨w, ew, rw'⟩ := r.get h2
  have hl := r.length
  have hn := line63
  have fin : EP X pins σ Q w s := ⟨z, H, I, rw', q⟩
  by_cases h0 : 0 ≤ i
  · have hj : i.toNat = j := by
      rw [seqIndex_of h0 h5] at h1
      exact Option.some.inj h1
    exact wpAny_getItem_list pl.isList h0 (by omega) (by rw [hj]; simpa using ew) fin
  · have hj : (i + (its.toArray.size : Int)).toNat = j := by
      rw [seqIndex_neg (by omega) h4] at h1
      rw [List.size_toArray, ← hl]
      exact Option.some.inj h1
    exact wpAny_getItem_list_neg pl.isList (by omega) (by rw [List.size_toArray] <;> omega) (by omega) (by rw [hj]; simpa using ew) fin
theorem get_tup {pins : List (Addr × Obj)} {s : Shared} {σ : L2.St} {H : Hp} {ov iv : Value} {x y : V} {Q : VK} (I : Inv X pins σ H s) (ro : RelV x ov) (ri : RelV y iv) (h : rIxT X.K x y H Q) : wpAny (model X.prog X.w) X.A (getItem ov iv) (EP X pins σ Q) X.xe s := by
  obtain ⟨p, xs, i, z, rfl, rfl, hq, he, q⟩ := h
  cases ro
  obtain ⟨t, rfl⟩ := ri
  obtain ⟨its, r, pl, hz⟩ := I.tuple hq
  obtain ⟨j, h1, h2, h3, h4, h5⟩ := atI_get he
  obtain ⟨w, ew, rw'⟩ := r.get h2
  have hl := r.length
  have hn := line63
  exact getItem_tuple (j := j) pl (by omega) (by omega) (by rw [List.size_toArray, ← hl]; exact h1) (by simpa using ew) ⟨z, H, I, rw', q⟩
theorem mgt_seq : MGt T X gIx := fun pins s σ H o i ov iv Q I ro ri z => by
  rcases ix_imp z with z | z
  · exact get_list I ro ri z
  · exact get_tup I ro ri z
theorem mgt_or {g g' : Op2} (h1 : MGt T X g) (h2 : MGt T X g') : MGt T X (gOr g g') :=
  fun pins s σ H x y v u Q I rx ry ⟨w, ρ, h, a, b, e1, rh, ra, rb, q⟩ => by
    unfold gOr at q
    cases e : g a b h with
    | some p => rw [e] at q; exact h1 pins s σ H x y v u Q I rx ry ⟨w, ρ, h, a, b, e1, rh, ra, rb, by rw [e]; exact q⟩
    | none => rw [e] at q; exact h2 pins s σ H x y v u Q I rx ry ⟨w, ρ, h, a, b, e1, rh, ra, rb, q⟩
theorem mix_or {g g' : Op2} (h1 : MIx T X g) (h2 : MIx T X g') : MIx T X (gOr g g') :=
  fun va sl pins s σ H x y v u Q I rx ry ⟨w, ρ, h, a, b, e1, rh, ra, rb, q⟩ hs => by
    unfold gOr at q
    cases e : g a b h with
    | some p => rw [e] at q; exact h1 va sl pins s σ H x y v u Q I rx ry ⟨w, ρ, h, a, b, e1, rh, ra, rb, by rw [e]; exact q⟩ hs
    | none => rw [e] at q; exact h2 va sl pins s σ H x y v u Q I rx ry ⟨w, ρ, h, a, b, e1, rh, ra, rb, q⟩ hs
/-- o[i] op= e -/
theorem ms_augS {i : Expr} {mo mi me : Me} {gg gop : Op2} {f : Mst} {op : Operator} {tpos : Pos} (ho : ME T X W o mo) (hi : ME T X W i mi) (hg : MGt T X gg) (he : ME T X W e me) (hp : MOp T X (inplaceOp op) gop) (hs : MSt T X f)
    (ha : ∀ ov iv new, augStore i ov iv new = (do holding [new, ov, iv] (setItem ov iv new); release [new, ov, iv] []; pure .next) := by intros; rfl) : MS T X W (.AugAssign (.Subscript o i tpos) op e pos) (sAugS mo mi me gg gop f) :=
  PS.imp (ps_augS ho hi hg he hp hs ha) fun D σ H ⟨w, ρ, env, h, s, q⟩ => by
    refine ⟨w, ρ, env, h, s, ?_⟩
    unfold sAugS at q
    cases e : mo env h with
    | stuck => rw [e] at q; exact q
    | exc x h1 => rw [e] at q; exact fun ρ' H' e1 r1 => q ρ' H' σ e1 r1
    | ok v h1 =>
      rw [e, R.fl_ok] at q
      intro ρ1 H1 x e1 r1 d1
      refine ⟨w, ρ1, env, h1, s.next e1 r1, ?_⟩
      cases e' : mi env h1 with
      | stuck => rw [e'] at q; exact q
      | exc x h2 => rw [e'] at q; exact fun ρ' H' e2 r2 => q ρ' H' σ (e1.trans e2) r2
      | ok u h2 =>
        rw [e', R.fl_ok] at q
        intro ρ2 H2 y e2 r2 d2
        refine ⟨w, ρ2, h2, v, u, s.g, r2, d1.mono e2, d2, ?_⟩
        cases e3 : gg v u h2 with
        | none => rw [e3] at q; exact q.elim
        | some p =>
          rw [e3] at q
          dsimp only at q
          intro ρ3 H3 z e4 r3 d3
          have s3 := ((s.next e1 r1).next e2 r2).next e4 r3
          refine ⟨w, ρ3, env, p.2, s3, ?_⟩
          cases e5 : me env p.2 with
          | stuck => rw [e5] at q; exact q
          | exc x h2 => rw [e5] at q; exact fun ρ' H' e6 r6 => q ρ' H' σ (((e1.trans e2).trans e4).trans e6) r6
          | ok b h4 =>
            rw [e5, R.fl_ok] at q
            intro ρ4 H4 y4 e6 r4 d4
            refine ⟨w, ρ4, h4, p.1, b, s.g, r4, d3.mono e6, d4, ?_⟩
            cases e7 : gop p.1 b h4 with
            | none => rw [e7] at q; exact q.elim
            | some p5 =>
              rw [e7] at q
              dsimp only at q
              intro ρ5 H5 y5 e8 r5 d5
              have ee := e4.trans (e6.trans e8)
              refine ⟨w, ρ5, p5.2, v, u, p5.1, s.g, r5, d1.mono (e2.trans ee), d2.mono ee, d5, ?_⟩
              cases e9 : f v u p5.1 p5.2 with
              | none => rw [e9] at q; exact q.elim
              | some h6 =>
                rw [e9] at q
                intro ρ6 H6 e10 r6
                have et := (e1.trans e2).trans (ee.trans e10)
                exact q ρ6 H6 σ et r6 (s.e.mono et)
end
end Rf
namespace Rf
open PySem PySem.Spec PyProof.Rows L2

/-! ### dicts as lists -/
def dlook : List D → List D → D → Option D
  | k' :: ks, v :: vs, k => if k' = k then some v else dlook ks vs k
  | _, _, _ => none
def dupd (k v : D) : List D → List D → List D
  | k' :: ks, w :: vs => (if k' = k then v else w) :: dupd k v ks vs
  | _, _ => []
def dputK (ks : List D) (k : D) : List D := if k ∈ ks then ks else ks ++ [k]
def dputV (ks vs : List D) (k v : D) : List D := if k ∈ ks then dupd k v ks vs else vs ++ [v]
def ddelK (ks : List D) (k : D) : List D := ks.filter fun x => decide (x ≠ k)
def ddelV : List D → List D → D → List D
  | k' :: ks, w :: vs, k => if k' = k then ddelV ks vs k else w :: ddelV ks vs k
  | _, _, _ => []

theorem keyD_inj {a b : D} {y : Key} (h1 : keyD a = some y) (h2 : keyD b = some y) : a = b := by
  cases a <;> simp [keyD] at h1 <;> cases b <;> simp [keyD] at h2 <;> subst h1 <;> simp_all
theorem mapM_inj {α β : Type} {f : α → Option β} (hf : ∀ a b y, f a = some y → f b = some y → a = b) : ∀ {as bs : List α} {ys : List β}, as.mapM f = some ys → bs.mapM f = some ys → as = bs
  | [], [], _, _, _ => rfl
  | [], b :: bs, ys, h1, h2 => by
    have := mapM_length h1
    have := mapM_length h2
    simp at *; omega
  | a :: as, [], ys, h1, h2 => by
    have := mapM_length h1
    have := mapM_length h2
    simp at *; omega
  | a :: as, b :: bs, ys, h1, h2 => by
    obtain ⟨c, r, e1, e2, rfl⟩ := mapM_cons_some h1
    obtain ⟨c2, r2, e3, e4, e5⟩ := mapM_cons_some h2
    cases e5
    rw [hf a b c e1 e3, mapM_inj hf e2 e4]
theorem keyT_inj {a b : D} {y : List Key} (h1 : keyT a = some y) (h2 : keyT b = some y) : a = b := by
  cases a <;> simp [keyT] at h1
  cases b <;> simp [keyT] at h2
  rw [mapM_inj (fun a b y => keyD_inj) h1 h2]
mutual
theorem nkey_inj : ∀ {a b : D} {y : NestedKey}, nkey a = some y → nkey b = some y → a = b
  | .int i, b, y, h1, h2 => by
    simp only [nkey] at h1
    cases h1
    cases b <;> simp [nkey] at h2
    rw [h2]
  | .str i, b, y, h1, h2 => by
    simp only [nkey] at h1
    cases h1
    cases b <;> simp [nkey] at h2
    rw [h2]
  | .tup as, b, y, h1, h2 => by
    simp only [nkey] at h1
    obtain ⟨k1, e1, rfl⟩ := Option.map_eq_some_iff.mp h1
    cases b <;> simp [nkey] at h2
    rw [nkeys_inj e1 h2]
  | .non, _, _, h, _ | .bl _, _, _, h, _ | .lst _, _, _, h, _ | .dct _ _ _, _, _, h, _ | .ref _, _, _, h, _ | .fn _, _, _, h, _ => by simp [nkey] at h
theorem nkeys_inj : ∀ {as bs : List D} {ys : List NestedKey}, nkeys as = some ys → nkeys bs = some ys → as = bs
  | [], [], _, _, _ => rfl
  | [], b :: bs, ys, h1, h2 => by
    simp only [nkeys] at h1 h2
    cases h1
    obtain ⟨k, _, e⟩ := Option.bind_eq_some_iff.mp h2
    obtain ⟨r, _, e⟩ := Option.map_eq_some_iff.mp e
    cases e
  | a :: as, [], ys, h1, h2 => by
    simp only [nkeys] at h1 h2
    cases h2
    obtain ⟨k, _, e⟩ := Option.bind_eq_some_iff.mp h1
    obtain ⟨r, _, e⟩ := Option.map_eq_some_iff.mp e
    cases e
  | a :: as, b :: bs, ys, h1, h2 => by
    simp only [nkeys] at h1 h2
    obtain ⟨k, e1, e2⟩ := Option.bind_eq_some_iff.mp h1
    obtain ⟨r, e3, rfl⟩ := Option.map_eq_some_iff.mp e2
    obtain ⟨k', e4, e5⟩ := Option.bind_eq_some_iff.mp h2
    obtain ⟨r', e6, e7⟩ := Option.map_eq_some_iff.mp e5
    cases e7
    rw [nkey_inj e1 e4, nkeys_inj e3 e6]
end
def RO (w : Wd) (ρ : List (Option Addr)) (H : Hp) : Option D → Option V → Prop
  | some d, some v => RD w ρ H d v
  | none, none => True
  | _, _ => False
section
variable {w : Wd} {ρ : List (Option Addr)} {H : Hp} {κ : Type} [DecidableEq κ] {kf : D → Option κ}
theorem look_gen (hf : ∀ a b y, kf a = some y → kf b = some y → a = b) {k : D} {y : κ} (hk : kf k = some y) : ∀ {ks vs : List D} {ys : List κ} {xs : List V}, ks.mapM kf = some ys → ys.length = xs.length → RDs w ρ H vs xs → RO w ρ H (dlook ks vs k) (valV (ys.zip xs) y)
  | [], vs, ys, xs, h, l, r => by
    rw [List.mapM_nil] at h
    have : ([] : List κ) = ys := Option.some.inj h
    subst this
    simp only [dlook, List.zip_nil_left, valV_nil]
    trivial
  | k' :: ks, [], ys, xs, h, l, r => by
    have r : xs = [] := r
    subst r
    have := mapM_length h
    rw [l] at this
    simp at this
  | k' :: ks, v :: vs, ys, xs, h, l, r => by
    obtain ⟨y', ys', e1, e2, rfl⟩ := mapM_cons_some h
    obtain ⟨x, xs', rfl, r1, r2⟩ := r
    simp only [dlook, List.zip_cons_cons]
    by_cases e : k' = k
    · subst e
      rw [hk] at e1; cases e1
      rw [if_pos rfl, valV_pos rfl]
      exact r1
    · have ne : ¬ y' = y := fun z => e (hf _ _ y (by rw [← z]; exact e1) hk)
      rw [if_neg e, valV_neg ne]
      exact look_gen hf hk e2 (by simpa using l) r2
theorem any_gen (hf : ∀ a b y, kf a = some y → kf b = some y → a = b) {k : D} {y : κ} (hk : kf k = some y) : ∀ {ks : List D} {ys : List κ} {xs : List V}, ks.mapM kf = some ys → ys.length = xs.length → ((ys.zip xs).any fun kv => decide (kv.1 = y)) = decide (k ∈ ks)
  | [], ys, xs, h, l => by
    rw [List.mapM_nil] at h
    have : ([] : List κ) = ys := Option.some.inj h
    subst this
    simp
  | k' :: ks, ys, xs, h, l => by
    obtain ⟨y', ys', e1, e2, rfl⟩ := mapM_cons_some h
    cases xs with
    | nil => simp at l
    | cons x xs =>
      rw [List.zip_cons_cons, List.any_cons, any_gen hf hk e2 (by simpa using l)]
      have : decide (y' = y) = decide (k = k') := by
        by_cases e : k = k'
        · subst e
          rw [hk] at e1; cases e1
          simp
        · rw [decide_eq_false e, decide_eq_false]
          intro z
          exact e (hf _ _ y hk (by rw [← z]; exact e1))
      rw [this]
      by_cases h1 : k = k' <;> by_cases h2 : k ∈ ks <;> simp [h1, h2]
theorem upd_gen (hf : ∀ a b y, kf a = some y → kf b = some y → a = b) {k : D} {y : κ} (hk : kf k = some y) {v : D} {x : V} (rv : RD w ρ H v x) : ∀ {ks vs : List D} {ys : List κ} {xs : List V}, ks.mapM kf = some ys → ys.length = xs.length → RDs w ρ H vs xs →
    ∃ xs', (ys.zip xs).map (fun kv => if kv.1 = y then (kv.1, x) else kv) = ys.zip xs' ∧ ys.length = xs'.length ∧ RDs w ρ H (dupd k v ks vs) xs'
  | [], vs, ys, xs, h, l, r => by
    rw [List.mapM_nil] at h
    have : ([] : List κ) = ys := Option.some.inj h
    subst this
    exact ⟨[], rfl, rfl, rfl⟩
  | k' :: ks, [], ys, xs, h, l, r => by
    have r : xs = [] := r
    subst r
    have := mapM_length h
    rw [l] at this
    simp at this
  | k' :: ks, d :: vs, ys, xs, h, l, r => by
    obtain ⟨y', ys', e1, e2, rfl⟩ := mapM_cons_some h
    obtain ⟨u, us, rfl, r1, r2⟩ := r
    obtain ⟨xs', h1, h2, h3⟩ := upd_gen hf hk rv e2 (by simpa using l) r2
    simp only [dupd, List.zip_cons_cons, List.map_cons]
    by_cases e : k' = k
    · subst e
      rw [hk] at e1; cases e1
      exact ⟨x :: xs', by rw [if_pos rfl, h1]; rfl, by simp [h2], by rw [if_pos rfl]; exact ⟨x, xs', rfl, rv, h3⟩⟩
    · have ne : ¬ y' = y := fun z => e (hf _ _ y (by rw [← z]; exact e1) hk)
      exact ⟨u :: xs', by rw [if_neg ne, h1]; rfl, by simp [h2], by rw [if_neg e]; exact ⟨u, xs', rfl, r1, h3⟩⟩
theorem mapM_snoc {α β : Type} {f : α → Option β} {a : α} {b : β} (h2 : f a = some b) : ∀ {as : List α} {bs : List β}, as.mapM f = some bs → (as ++ [a]).mapM f = some (bs ++ [b])
  | [], bs, h => by
    rw [List.mapM_nil] at h
    have : ([] : List β) = bs := Option.some.inj h
    subst this
    rw [List.nil_append, List.mapM_cons, h2]
    rfl
  | x :: r, bs, h => by
    obtain ⟨c, s, e1, e2, rfl⟩ := mapM_cons_some h
    rw [List.cons_append, List.mapM_cons, e1, mapM_snoc h2 e2]
    rfl
theorem put_gen (hf : ∀ a b y, kf a = some y → kf b = some y → a = b) {k : D} {y : κ} (hk : kf k = some y) {v : D} {x : V} (rv : RD w ρ H v x) {ks vs : List D} {ys : List κ} {xs : List V} (h : ks.mapM kf = some ys) (l : ys.length = xs.length) (r : RDs w ρ H vs xs) :
    ∃ ys' xs', putK (ys.zip xs) y x = ys'.zip xs' ∧ (dputK ks k).mapM kf = some ys' ∧ ys'.length = xs'.length ∧ RDs w ρ H (dputV ks vs k v) xs' := by
  unfold putK dputK dputV
  rw [any_gen hf hk h l]
  by_cases m : k ∈ ks
  · rw [if_pos (decide_eq_true m), if_pos m, if_pos m]
    obtain ⟨xs', h1, h2, h3⟩ := upd_gen hf hk rv h l r
    exact ⟨ys, xs', h1, h, h2, h3⟩
  · rw [if_neg (by simp [m]), if_neg m, if_neg m]
    refine ⟨ys ++ [y], xs ++ [x], ?_, mapM_snoc hk h, by simp [l], r.append (RDs.one rv)⟩
    rw [List.zip_append l]
    rfl
theorem del_gen (hf : ∀ a b y, kf a = some y → kf b = some y → a = b) {k : D} {y : κ} (hk : kf k = some y) : ∀ {ks vs : List D} {ys : List κ} {xs : List V}, ks.mapM kf = some ys → ys.length = xs.length → RDs w ρ H vs xs →
    ∃ ys' xs', dropK (ys.zip xs) y = ys'.zip xs' ∧ (ddelK ks k).mapM kf = some ys' ∧ ys'.length = xs'.length ∧ RDs w ρ H (ddelV ks vs k) xs'
  | [], vs, ys, xs, h, l, r => by
    rw [List.mapM_nil] at h
    have : ([] : List κ) = ys := Option.some.inj h
    subst this
    exact ⟨[], [], rfl, rfl, rfl, rfl⟩
  | k' :: ks, [], ys, xs, h, l, r => by
    have r : xs = [] := r
    subst r
    have := mapM_length h
    rw [l] at this
    simp at this
  | k' :: ks, d :: vs, ys, xs, h, l, r => by
    obtain ⟨y', ys', e1, e2, rfl⟩ := mapM_cons_some h
    obtain ⟨u, us, rfl, r1, r2⟩ := r
    obtain ⟨ys2, xs2, h1, h2, h3, h4⟩ := del_gen hf hk e2 (by simpa using l) r2
    unfold dropK at h1 ⊢
    unfold ddelK at h2 ⊢
    simp only [ddelV, List.zip_cons_cons, List.filter_cons]
    by_cases e : k' = k
    · subst e
      rw [hk] at e1; cases e1
      simp only [ne_eq, not_true_eq_false, decide_false, Bool.false_eq_true, if_false, if_true]
      exact ⟨ys2, xs2, h1, h2, h3, h4⟩
    · have ne : ¬ y' = y := fun z => e (hf _ _ y (by rw [← z]; exact e1) hk)
      simp only [ne_eq, e, ne, not_false_eq_true, decide_true, if_true, if_false]
      refine ⟨y' :: ys2, u :: xs2, by rw [h1]; rfl, ?_, by simp [h3], u, xs2, rfl, r1, h4⟩
      rw [List.mapM_cons, e1, h2]
      rfl
end

/-! ### the dicts of the small heap -/
def dkv (h : Hh) : D → Option (Nat × List D × List D)
  | .dct false ks vs => some (0, ks, vs)
  | .dct true ks vs => some (1, ks, vs)
  | .ref n => match h[n]? with
    | some (.dct false ks vs) => some (0, ks, vs)
    | some (.dct true ks vs) => some (1, ks, vs)
    | some (.dcn ks vs) => some (2, ks, vs)
    | _ => none
  | _ => none
def keyN : D → Option NestedKey
  | .tup ds => (nkey (.tup ds)).bind fun n => if n.depth ≤ 8 then some n else none
  | _ => none
def keyOk : Nat → D → Bool
  | 0, k => (keyD k).isSome
  | 1, k => (keyT k).isSome
  | _, k => (keyN k).isSome
/-- what stands at a -/
def DK (w : Wd) (ρ : List (Option Addr)) (H : Hp) (a : Addr) (ks vs : List D) : Nat → Prop
  | 0 => ∃ xs ys, ks.mapM keyD = some ys ∧ ys.length = xs.length ∧ Rd H a (.dK (ys.zip xs)) ∧ RDs w ρ H vs xs
  | 1 => ∃ xs ys, ks.mapM keyT = some ys ∧ ys.length = xs.length ∧ Rd H a (.dT (ys.zip xs)) ∧ RDs w ρ H vs xs
  | _ => ObR w ρ H (.dcn ks vs) a
section
variable {T : List (Addr × Str)} {X : Cx} {pins : List (Addr × Obj)} {σ : L2.St} {s : Shared} {w : Wd} {ρ : List (Option Addr)} {h : Hh} {H : Hp}
theorem keyN_some {k : D} {n : NestedKey} (e : keyN k = some n) : ∃ ds, k = .tup ds ∧ nkey k = some n ∧ n.depth ≤ 8 := by
  cases k with
  | tup ds =>
    simp only [keyN] at e
    obtain ⟨m, e1, e2⟩ := Option.bind_eq_some_iff.mp e
    by_cases hd : m.depth ≤ 8
    · rw [if_pos hd] at e2
      cases e2
      exact ⟨ds, rfl, e1, hd⟩
    · rw [if_neg hd] at e2; cases e2
  | _ => simp [keyN] at e
theorem rdD (rh : RH T w ρ h H) {d : D} {x : V} (r : RD w ρ H d x) {kd : Nat} {ks vs : List D} (e : dkv h d = some (kd, ks, vs)) : ∃ a, x = .ref a ∧ DK w ρ H a ks vs kd := by
  cases d with
  | dct t ks' vs' =>
    cases t with
    | false =>
      simp only [dkv] at e
      cases e
      obtain ⟨a, xs, ys, e1, _, e2, e3, e4, e5⟩ := r
      exact ⟨a, e1, xs, ys, e2, e3, e4, e5⟩
    | true =>
      simp only [dkv] at e
      cases e
      obtain ⟨a, xs, ys, e1, _, e2, e3, e4, e5⟩ := r
      exact ⟨a, e1, xs, ys, e2, e3, e4, e5⟩
  | ref n =>
    simp only [dkv] at e
    cases e2 : h[n]? with
    | none => rw [e2] at e; cases e
    | some ob =>
      rw [e2] at e
      cases ob with
      | gone => cases e
      | lst _ => cases e
      | dct t ks' vs' =>
        obtain ⟨a, ha⟩ := rh.live n _ e2 (by intro z; cases z)
        obtain ⟨_, _, ob, h3, h4⟩ := rh.obj n a ha
        rw [e2] at h3; cases h3
        cases t with
        | false =>
          cases e
          obtain ⟨xs, ys, k, l, z, rs⟩ := h4
          exact ⟨a, r.2 a ha, xs, ys, k, l, .inl z, rs⟩
        | true =>
          cases e
          obtain ⟨xs, ys, k, l, z, rs⟩ := h4
          exact ⟨a, r.2 a ha, xs, ys, k, l, .inl z, rs⟩
      | dcn ks' vs' =>
        cases e
        obtain ⟨a, ha⟩ := rh.live n _ e2 (by intro z; cases z)
        obtain ⟨_, _, ob, h3, h4⟩ := rh.obj n a ha
        rw [e2] at h3; cases h3
        exact ⟨a, r.2 a ha, h4⟩
  | _ => simp [dkv] at e
theorem key_rds {ds : List D} : ∀ {kk : List Key} {xs : List V}, ds.mapM keyD = some kk → RDs w ρ H ds xs → xs = kk.map kV := by
  induction ds with
  | nil =>
    intro kk xs h r
    rw [List.mapM_nil] at h
    have : ([] : List Key) = kk := Option.some.inj h
    subst this
    exact r
  | cons d ds ih =>
    intro kk xs h r
    obtain ⟨y, ys, e1, e2, rfl⟩ := mapM_cons_some h
    obtain ⟨x, us, rfl, r1, r2⟩ := r
    rw [ih e2 r2, List.map_cons]
    congr 1
    cases d <;> simp [keyD] at e1
    · subst e1; exact r1
    · subst e1; exact r1
/-- a key and the value that is it -/
theorem keyD_v {k : D} {y : V} {kk : Key} (e : keyD k = some kk) (r : RD w ρ H k y) : y = kV kk := by
  cases k <;> simp [keyD] at e
  · subst e; exact r
  · subst e; exact r
theorem keyT_v {k : D} {y : V} {kk : List Key} (e : keyT k = some kk) (r : RD w ρ H k y) : ∃ b, y = .ref b ∧ H b = some (.tup (kk.map kV)) := by
  cases k <;> simp [keyT] at e
  obtain ⟨b, xs, e1, e2, e3⟩ := r
  rw [key_rds e e3] at e2
  exact ⟨b, e1, e2⟩
mutual
theorem nested_of (I : Inv X pins σ H s) : ∀ {k : D} {y : V} {u : Value} {n : NestedKey}, nkey k = some n → RD w ρ H k y → RelV y u → NestedIs s.heap n u
  | .int i, y, u, n, e, r, ru => by
    have r : y = .int i := r
    subst r
    simp only [nkey] at e; cases e
    obtain ⟨t, rfl⟩ := ru
    exact .int i t
  | .str i, y, u, n, e, r, ru => by
    have r : y = .str i := r
    subst r
    simp only [nkey] at e; cases e
    obtain ⟨t, rfl⟩ := ru
    exact .text i t
  | .tup ds, y, u, n, e, r, ru => by
    simp only [nkey] at e
    obtain ⟨ks, e1, rfl⟩ := Option.map_eq_some_iff.mp e
    obtain ⟨b, xs, rfl, hb, rs⟩ := r
    cases ru
    obtain ⟨its, rv, ⟨o, ho, hc, m, hd⟩, _⟩ := I.tuple (rd_tup hb)
    exact .tup ho hc hd (by simpa using nesteds_of I e1 rs rv)
  | .non, _, _, _, h, _, _ | .bl _, _, _, _, h, _, _ | .lst _, _, _, _, h, _, _ | .dct _ _ _, _, _, _, h, _, _ | .ref _, _, _, _, h, _, _ | .fn _, _, _, _, h, _, _ => by simp [nkey] at h
theorem nesteds_of (I : Inv X pins σ H s) : ∀ {ks : List D} {ys : List V} {us : List Value} {ns : List NestedKey}, nkeys ks = some ns → RDs w ρ H ks ys → Vals ys us → NestedAll s.heap ns us
  | [], ys, us, ns, e, r, ru => by
    have r : ys = [] := r
    subst r
    simp only [nkeys] at e; cases e
    cases ru
    exact .nil
  | k :: ks, ys, us, ns, e, r, ru => by
    simp only [nkeys] at e
    obtain ⟨n, e1, e2⟩ := Option.bind_eq_some_iff.mp e
    obtain ⟨m, e3, rfl⟩ := Option.map_eq_some_iff.mp e2
    obtain ⟨x, xs, rfl, r1, r2⟩ := r
    cases ru with
    | cons q1 q2 => exact .cons (nested_of I e1 r1 q1) (nesteds_of I e3 r2 q2)
end
/-- the dict of nested keys, as the library's rules want it -/
theorem dictN (I : Inv X pins σ H s) {wo : World} (hw : wo = X.w) {a : Addr} {ks : List D} {es : List (NestedKey × Addr × Value)} (e : H a = some (NdO wo a es)) (hk : ks.mapM nkey = some (es.map (·.1))) (rk : RDs w ρ H ks (es.map fun e => V.ref e.2.1))
    (nd : (es.map (·.1)).Nodup) (dp : ∀ e ∈ es, e.1.depth ≤ 8) : s.heap.DictOfH (nestedKind X.prog X.w) a es := by
  subst hw
  obtain ⟨⟨o, ep, tb, h1, h2, h3, h4⟩, _, _⟩ := I.hok a _ e
  refine ⟨o, tb, ep, h1, h2, h3, h4, fun x hx => ⟨?_, dp x hx⟩, nd⟩
  obtain ⟨i, hi⟩ := mem_get hx
  have e1 : (es.map (·.1))[i]? = some x.1 := by rw [List.getElem?_map, hi]; rfl
  have e2 : (es.map fun e => V.ref e.2.1)[i]? = some (V.ref x.2.1) := by rw [List.getElem?_map, hi]; rfl
  obtain ⟨k, k1, k2⟩ := rk.getR e2
  obtain ⟨n, n1, n2⟩ := mapM_get hk k1
  rw [e1] at n1
  cases n1
  exact nested_of I n2 k2 rfl
theorem look_n {k : D} {n : NestedKey} (hk : nkey k = some n) : ∀ {ks vs : List D} {es : List (NestedKey × Addr × Value)} {xs : List V}, ks.mapM nkey = some (es.map (·.1)) → Vals xs (es.map (·.2.2)) → RDs w ρ H vs xs →
    (∀ d, dlook ks vs k = some d → ∃ p x, atKey es n = some p ∧ RelV x p.2 ∧ RD w ρ H d x) ∧ (dlook ks vs k = none → atKey es n = none)
  | [], vs, es, xs, h, rv, r => by
    have := mapM_length h
    simp at this
    have ee : es = [] := List.eq_nil_of_length_eq_zero this.symm
    subst ee
    exact ⟨fun d z => by simp [dlook] at z, fun _ => rfl⟩
  | k' :: ks, [], es, xs, h, rv, r => by
    have r : xs = [] := r
    subst r
    have := mapM_length h
    cases es with
    | nil => simp at this
    | cons e es => cases rv
  | k' :: ks, v :: vs, es, xs, h, rv, r => by
    obtain ⟨x, us, rfl, r1, r2⟩ := r
    cases es with
    | nil => cases rv
    | cons e es =>
      rw [List.map_cons] at h rv
      cases rv with
      | cons q1 q2 =>
        obtain ⟨y', ys', e1, e2, e3⟩ := mapM_cons_some h
        cases e3
        obtain ⟨g1, g2⟩ := look_n hk e2 q2 r2
        simp only [dlook]
        by_cases c : k' = k
        · subst c
          rw [hk] at e1
          have ee : n = e.1 := Option.some.inj e1
          rw [if_pos rfl]
          exact ⟨fun d z => by cases z; exact ⟨e.2, x, by simp [atKey, ee], q1, r1⟩, fun z => by cases z⟩
        · have ne : ¬ e.1 = n := fun z => c (nkey_inj (y := n) (by rw [← z]; exact e1) hk)
          rw [if_neg c]
          have ea : atKey (e :: es) n = atKey es n := by simp [atKey, List.find?_cons, ne]
          rw [ea]
          exact ⟨g1, g2⟩
/-- y in / not in the dict -/
def lookOk (h : Hh) (d k : D) : Option (Option D) := (dkv h d).bind fun p => if keyOk p.1 k = true then some (dlook p.2.1 p.2.2 k) else none
/-- what a look-up finds -/
inductive Finds (X : Cx) (w : Wd) (ρ : List (Option Addr)) (H : Hp) (a : Addr) (y : V) : Option D → Prop
  | kt {ov : Option V} {o : Option D} (g : DGet H a y ov) (r : RO w ρ H o ov) : Finds X w ρ H a y o
  | n {o : Option D} {ks vs : List D} {k : D} {n : NestedKey} (ob : ObR w ρ H (.dcn ks vs) a) (hw : w.g.wo = X.w) (hk : keyN k = some n) (r : RD w ρ H k y) (e : o = dlook ks vs k) : Finds X w ρ H a y o
theorem finds (rh : RH T w ρ h H) (hw : w.g = gw X) {d k : D} {x y : V} (rd : RD w ρ H d x) (rk : RD w ρ H k y) {o : Option D} (e : lookOk h d k = some o) : ∃ a, x = .ref a ∧ Finds X w ρ H a y o := by
  unfold lookOk at e
  obtain ⟨⟨kd, ks, vs⟩, e1, e2⟩ := Option.bind_eq_some_iff.mp e
  obtain ⟨a, rfl, dk⟩ := rdD rh rd e1
  refine ⟨a, rfl, ?_⟩
  dsimp only at e2
  by_cases hk : keyOk kd k = true
  · rw [if_pos hk] at e2
    cases e2
    match kd, hk, dk with
    | 0, hk, dk =>
      obtain ⟨kk, ek⟩ := Option.isSome_iff_exists.mp hk
      obtain ⟨xs, ys, k1, l1, z, rs⟩ := dk
      exact .kt (.inl ⟨_, kk, z, keyD_v ek rk, rfl⟩) (look_gen (fun _ _ _ => keyD_inj) ek k1 l1 rs)
    | 1, hk, dk =>
      obtain ⟨kk, ek⟩ := Option.isSome_iff_exists.mp hk
      obtain ⟨xs, ys, k1, l1, z, rs⟩ := dk
      obtain ⟨b, e5, e6⟩ := keyT_v ek rk
      exact .kt (.inr ⟨_, kk, b, z, e5, e6, rfl⟩) (look_gen (fun _ _ _ => keyT_inj) ek k1 l1 rs)
    | n + 2, hk, dk =>
      obtain ⟨kk, ek⟩ := Option.isSome_iff_exists.mp hk
      exact .n dk (by rw [hw]; rfl) ek rk rfl
  · rw [if_neg hk] at e2; cases e2
theorem roomN {A : Around} (hu : A.units + 100 < cLine) : (nestedKind X.prog X.w).room A.in1 := by
  show A.units + 1 + 8 < cLine
  omega
theorem f_get {a : Addr} {y : V} {d : D} {u : Value} {Q : VK} (hu : X.A.units + 100 < cLine) (I : Inv X pins σ H s) (f : Finds X w ρ H a y (some d)) (ry : RelV y u) (q : ∀ x, RD w ρ H d x → Q x H) : wpAny (model X.prog X.w) X.A (getItem (.ref a) u) (EP X pins σ Q) X.xe s := by
  cases f with
  | @kt ov _ g r =>
    cases ov with
    | none => exact r.elim
    | some v => exact d_getItem (by omega) I g ry fun w' s' I' rw' => ⟨v, H, I', rw', q v r⟩
  | @n _ ks vs k n ob hw hk r e =>
    obtain ⟨es, xs, e1, k1, rk, rv, rs, l1, l2, nd, dp⟩ := ob
    obtain ⟨ds, rfl, hn, hd⟩ := keyN_some hk
    obtain ⟨b, bs, rfl, hb⟩ := id r
    cases ry
    obtain ⟨p, x, p1, p2, p3⟩ := (look_n hn k1 rv rs).1 d e.symm
    exact wpAny_getItem_heap (knd := nestedKind X.prog X.w) (roomN hu) ⟨nested_of I hn r rfl, hd⟩ (dictN I hw e1 k1 rk nd dp) p1 ⟨x, H, I.tok _, p2, q x p3⟩
theorem f_in {a : Addr} {y : V} {o : Option D} {u : Value} {Q : VK} (hu : X.A.units + 100 < cLine) (I : Inv X pins σ H s) (f : Finds X w ρ H a y o) (ry : RelV y u) (q : Q (.bl o.isSome) H) : wpAny (model X.prog X.w) X.A (compareOp .In u (.ref a)) (EP X pins σ Q) X.xe s := by
  cases f with
  | @kt ov _ g r =>
    refine d_in (by omega) I g ry fun s' I' => ⟨.bl ov.isSome, H, I', rfl, ?_⟩
    have : ov.isSome = o.isSome := by
      cases ov <;> cases o <;> first | rfl | exact r.elim
    rw [this]; exact q
  | @n _ ks vs k n ob hw hk r e =>
    obtain ⟨es, xs, e1, k1, rk, rv, rs, l1, l2, nd, dp⟩ := ob
    obtain ⟨ds, rfl, hn, hd⟩ := keyN_some hk
    obtain ⟨b, bs, rfl, hb⟩ := id r
    cases ry
    have lk := look_n hn k1 rv rs
    refine wpAny_in_heap (knd := nestedKind X.prog X.w) (roomN hu) ⟨nested_of I hn r rfl, hd⟩ l2 (dictN I hw e1 k1 rk nd dp) ⟨.bl (atKey es n).isSome, H, I.tok _, rfl, ?_⟩
    have : (atKey es n).isSome = o.isSome := by
      cases o with
      | none => rw [lk.2 e.symm]; rfl
      | some d => obtain ⟨p, x, p1, _⟩ := lk.1 d e.symm; rw [p1]; rfl
    rw [this]; exact q
theorem f_notin {a : Addr} {y : V} {o : Option D} {u : Value} {Q : VK} (hu : X.A.units + 100 < cLine) (I : Inv X pins σ H s) (f : Finds X w ρ H a y o) (ry : RelV y u) (q : Q (.bl (!o.isSome)) H) : wpAny (model X.prog X.w) X.A (compareOp .NotIn u (.ref a)) (EP X pins σ Q) X.xe s := by
  cases f with
  | @kt ov _ g r =>
    refine d_notIn (by omega) I g ry fun s' I' => ⟨.bl (!ov.isSome), H, I', rfl, ?_⟩
    have : ov.isSome = o.isSome := by
      cases ov <;> cases o <;> first | rfl | exact r.elim
    rw [this]; exact q
  | @n _ ks vs k n ob hw hk r e =>
    obtain ⟨es, xs, e1, k1, rk, rv, rs, l1, l2, nd, dp⟩ := ob
    obtain ⟨ds, rfl, hn, hd⟩ := keyN_some hk
    obtain ⟨b, bs, rfl, hb⟩ := id r
    cases ry
    have lk := look_n hn k1 rv rs
    refine wpAny_notIn_heap (knd := nestedKind X.prog X.w) (roomN hu) ⟨nested_of I hn r rfl, hd⟩ l2 (dictN I hw e1 k1 rk nd dp) ⟨.bl (!(atKey es n).isSome), H, I.tok _, rfl, ?_⟩
    have : (atKey es n).isSome = o.isSome := by
      cases o with
      | none => rw [lk.2 e.symm]; rfl
      | some d => obtain ⟨p, x, p1, _⟩ := lk.1 d e.symm; rw [p1]; rfl
    rw [this]; exact q
theorem RO.getD {o : Option D} {ov : Option V} {d : D} {v : V} (r : RO w ρ H o ov) (q : RD w ρ H d v) : RD w ρ H (o.getD d) (ov.getD v) := by
  cases o <;> cases ov <;> first | exact q | exact r | exact r.elim
theorem f_get2 {a : Addr} {y v : V} {d : D} {o : Option D} {u r : Value} {Q : VK} (hu : X.A.units + 100 < cLine) (I : Inv X pins σ H s) (f : Finds X w ρ H a y o) (ry : RelV y u) (rv' : RelV v r) (rd : RD w ρ H d v) (q : ∀ x, RD w ρ H (o.getD d) x → Q x H) : wpAny (model X.prog X.w) X.A (call (.builtin "dict.get") [.ref a, u, r]) (EP X pins σ Q) X.xe s := by
  cases f with
  | @kt ov _ g ro => exact d_get2 (by omega) I g ry rv' fun w' s' I' rw' => ⟨_, H, I', rw', q _ (ro.getD rd)⟩
  | @n _ ks vs k n ob hw hk rr e =>
    obtain ⟨es, xs, e1, k1, rk, rv, rs, l1, l2, nd, dp⟩ := ob
    obtain ⟨ds, rfl, hn, hd⟩ := keyN_some hk
    obtain ⟨b, bs, rfl, hb⟩ := id rr
    cases ry
    have lk := look_n hn k1 rv rs
    have dd := dictN I hw e1 k1 rk nd dp
    refine call_meetsIn PySem.F.slot_dict_get dd.typeIs PySem.F.entry_dict_get (PySem.F.args_dict_get_3 _ _ _) (meetsH_dict_get_default (nestedKind X.prog X.w) a b l2 r) ⟨roomN hu, n, es, ⟨nested_of I hn rr rfl, hd⟩, dd, ?_⟩
    cases o with
    | none =>
      rw [lk.2 e.symm]
      exact ⟨v, H, I.tok _, rv', q v rd⟩
    | some d' =>
      obtain ⟨p, x, p1, p2, p3⟩ := lk.1 d' e.symm
      rw [p1]
      exact ⟨x, H, I.tok _, p2, q x p3⟩
theorem f_get1 {a : Addr} {y : V} {o : Option D} {u : Value} {Q : VK} (hu : X.A.units + 100 < cLine) (I : Inv X pins σ H s) (f : Finds X w ρ H a y o) (ry : RelV y u) (q : ∀ x, RD w ρ H (o.getD .non) x → Q x H) : wpAny (model X.prog X.w) X.A (call (.builtin "dict.get") [.ref a, u]) (EP X pins σ Q) X.xe s := by
  cases f with
  | @kt ov _ g ro => exact d_get1 (by omega) I g ry fun w' s' I' rw' => ⟨_, H, I', rw', q _ (RO.getD (v := V.non) ro rfl)⟩
  | @n _ ks vs k n ob hw hk rr e =>
    obtain ⟨es, xs, e1, k1, rk, rv, rs, l1, l2, nd, dp⟩ := ob
    obtain ⟨ds, rfl, hn, hd⟩ := keyN_some hk
    obtain ⟨b, bs, rfl, hb⟩ := id rr
    cases ry
    have lk := look_n hn k1 rv rs
    have dd := dictN I hw e1 k1 rk nd dp
    refine call_meetsIn PySem.F.slot_dict_get dd.typeIs PySem.F.entry_dict_get (PySem.F.args_dict_get_2 _ _) (meetsH_dict_get (nestedKind X.prog X.w) a b l2) ⟨roomN hu, n, es, ⟨nested_of I hn rr rfl, hd⟩, dd, ?_⟩
    cases o with
    | none =>
      rw [lk.2 e.symm]
      exact ⟨.non, H, I.tok _, rfl, q .non rfl⟩
    | some d' =>
      obtain ⟨p, x, p1, p2, p3⟩ := lk.1 d' e.symm
      rw [p1]
      exact ⟨x, H, I.tok _, p2, q x p3⟩
end
end Rf
namespace Rf
open PySem PySem.Spec PyProof.Rows L2

def gInD (neg : Bool) : Op2 := fun k d h => (lookOk h d k).map fun o => (.bl (o.isSome ^^ neg), h)
def gDGet : Op2 := fun d k h => (lookOk h d k).bind fun o => o.map fun v => (v, h)
def tyD (d : D) (h : Hh) : Bool := (dkv h d).isSome
def gGetM : Mth := fun d xs h => match xs with
  | [k] => (lookOk h d k).map fun o => (o.getD .non, h)
  | [k, x] => (lookOk h d k).map fun o => (o.getD x, h)
  | _ => none
def gDPut : Mst := fun d k v h => match d with
  | .ref n => match h[n]? with
    | some (.dct false ks vs) => if (keyOk 0 k && decide (ks.length < SZ)) = true then some (h.set n (.dct false (dputK ks k) (dputV ks vs k v))) else none
    | some (.dct true ks vs) => if (keyOk 1 k && decide (ks.length < SZ)) = true then some (h.set n (.dct true (dputK ks k) (dputV ks vs k v))) else none
    | some (.dcn ks vs) => if (keyOk 2 k && decide (ks.length < SZ)) = true then some (h.set n (.dcn (dputK ks k) (dputV ks vs k v))) else none
    | _ => none
  | _ => none
def gDPop : Mth := fun d xs h => match d, xs with
  | .ref n, [k] => match h[n]? with
    | some (.dct false ks vs) => if keyOk 0 k = true then (dlook ks vs k).map fun v => (v, h.set n (.dct false (ddelK ks k) (ddelV ks vs k))) else none
    | _ => none
  | _, _ => none
section
variable {T : List (Addr × Str)} {X : Cx} {W : WX} {a b c e o : Expr} {es : List Expr} {ma mb mc : Me} {ta tb tc : Mt} {as : Ma} {pos : Pos}
theorem mop_inD (hu : X.A.units + 100 < cLine) : MOp T X (compareOp .In) (gInD false) := fun pins s σ H x y v u Q I rx ry ⟨w, ρ, h, a, b, e1, rh, ra, rb, q⟩ => by
  unfold gInD at q
  cases e : lookOk h b a with
  | none => rw [e] at q; exact q.elim
  | some o =>
    rw [e] at q
    obtain ⟨c, rfl, f⟩ := finds (X := X) rh e1 rb ra e
    cases ry
    have q := q ρ H (.bl (o.isSome ^^ false)) Ext.refl rh rfl
    rw [xor_false'] at q
    exact f_in hu I f rx q
theorem mop_notinD (hu : X.A.units + 100 < cLine) : MOp T X (compareOp .NotIn) (gInD true) := fun pins s σ H x y v u Q I rx ry ⟨w, ρ, h, a, b, e1, rh, ra, rb, q⟩ => by
  unfold gInD at q
  cases e : lookOk h b a with
  | none => rw [e] at q; exact q.elim
  | some o =>
    rw [e] at q
    obtain ⟨c, rfl, f⟩ := finds (X := X) rh e1 rb ra e
    cases ry
    have q := q ρ H (.bl (o.isSome ^^ true)) Ext.refl rh rfl
    rw [xor_true'] at q
    exact f_notin hu I f rx q
theorem mgt_dict (hu : X.A.units + 100 < cLine) : MGt T X gDGet := fun pins s σ H x y v u Q I rx ry ⟨w, ρ, h, a, b, e1, rh, ra, rb, q⟩ => by
  unfold gDGet at q
  cases e : lookOk h a b with
  | none => rw [e] at q; exact q.elim
  | some o =>
    rw [e] at q
    cases o with
    | none => exact q.elim
    | some d =>
      obtain ⟨c, rfl, f⟩ := finds (X := X) rh e1 ra rb e
      cases rx
      exact f_get hu I f ry fun x r => q ρ H x Ext.refl rh r
theorem finds_type {pins : List (Addr × Obj)} {σ : L2.St} {s : Shared} {w : Wd} {ρ : List (Option Addr)} {H : Hp} {a : Addr} {ks vs : List D} {kd : Nat} (I : Inv X pins σ H s) (dk : DK w ρ H a ks vs kd) : s.TypeIs (.ref a) "dict" ∧ ∀ b, Value.ref a = .ref b → ∃ ob, s.heap.get? b = some ob ∧ ob.dict = none := by
  match kd, dk with
  | 0, dk =>
    obtain ⟨xs, ys, _, _, z, _⟩ := dk
    exact ⟨(isD_at I (.inl ⟨_, z⟩)).1, (isD_at I (.inl ⟨_, z⟩)).2.1⟩
  | 1, dk =>
    obtain ⟨xs, ys, _, _, z, _⟩ := dk
    exact ⟨(isD_at I (.inr ⟨_, z⟩)).1, (isD_at I (.inr ⟨_, z⟩)).2.1⟩
  | n + 2, dk =>
    obtain ⟨es, xs, e1, _⟩ := dk
    obtain ⟨⟨ob, ep, tb, h1, h2, h3, h4⟩, _, _⟩ := I.hok a _ e1
    exact ⟨⟨ob, h1, h2.1⟩, fun b z => by cases z; exact ⟨ob, h1, h2.2.1⟩⟩
/-- d[k], as a value -/
theorem mix_dict (hu : X.A.units + 100 < cLine) : MIx T X gDGet := fun va sl pins s σ H x y v u Q I rx ry z hs => by
  have g := mgt_dict hu pins s σ H x y v u Q I rx ry z
  obtain ⟨w, ρ, h, a, b, e1, rh, ra, rb, q⟩ := z
  unfold gDGet at q
  cases e : lookOk h a b with
  | none => rw [e] at q; exact q.elim
  | some o =>
    unfold lookOk at e
    obtain ⟨⟨kd, ks, vs⟩, e1, e2⟩ := Option.bind_eq_some_iff.mp e
    obtain ⟨c, rfl, dk⟩ := rdD rh ra e1
    cases rx
    have hT := (finds_type I dk).1
    unfold subscriptTail
    refine wpAny_bind ?_
    rw [getitemInPython_of_ne hT.not_modules]
    refine wpAny_bind (wpAny_specialOf hT PySem.F.slot_dict_getitem.lookup ?_)
    have fin : wpAny (model X.prog X.w) X.A (subscripted sl false (.ref c) u) (fun r s₃ => wpAny (model X.prog X.w) X.A (letTemporaryGo va (.ref c) r >>= fun _ => pure r) (EP X pins σ Q) X.xe s₃) X.xe s := by
      rw [hs]
      exact wpAny_operating (wpAny_mono g (fun r s₃ h₃ => wpAny_bind (wpAny_letTemporaryGo (wpAny_pure h₃))) fun _ _ x => x)
    first
      | exact wpAny_pure (wpAny_bind fin)
      | exact wpAny_bind (wpAny_pure (wpAny_bind fin))
      | exact wpAny_bind fin
theorem mmt_get (hu : X.A.units + 100 < cLine) : MMt T X "dict.get" gGetM := fun pins s σ H x xs v us Q I rx rxs ⟨w, ρ, h, a, as, e1, rh, ra, rs, q⟩ => by
  unfold gGetM at q
  match as, rs, q with
  | [], _, q => exact q.elim
  | [k], rs, q =>
    obtain ⟨y, rfl, ry⟩ := rs.one_inv
    dsimp only at q
    cases e : lookOk h a k with
    | none => rw [e] at q; exact q.elim
    | some o =>
      rw [e] at q
      obtain ⟨c, rfl, f⟩ := finds (X := X) rh e1 ra ry e
      cases rx
      obtain ⟨u, rfl, ru⟩ := rxs.one
      exact f_get1 hu I f ru fun x r => q ρ H x Ext.refl rh r
  | [k, d], rs, q =>
    obtain ⟨y, z, rfl, ry, rz⟩ := rs.two_inv
    dsimp only at q
    cases e : lookOk h a k with
    | none => rw [e] at q; exact q.elim
    | some o =>
      rw [e] at q
      obtain ⟨c, rfl, f⟩ := finds (X := X) rh e1 ra ry e
      cases rx
      cases rxs with
      | cons r1 r2 =>
        obtain ⟨u, rfl, ru⟩ := Vals.one r2
        exact f_get2 hu I f r1 ru rz fun x r => q ρ H x Ext.refl rh r
  | _ :: _ :: _ :: _, _, q => exact q.elim
/-- o.name(e, ..), o a dict -/
theorem me_methD {name : Str} {id : String} {apos cpos : Pos} {g : Mth} (slot : Slot "dict" name id) (hty : typeOf (.builtin id) = pure (.type "method_descriptor")) (hm : MMt T X id g) (ho : ME T X W o ma) (ha : MA T X W (e :: es) as)
    (hbase : attributeBase o name X.env (eval o X.env) = eval o X.env := by rfl)
    (hfew : ((backTo cpos (starEach (e :: es) X.env)).all (fun x => !x.1) && (backToKw cpos (keywordEach [] X.env)).all (fun x => x.1.isSome)
      && decide ((e :: es).length + ([] : List Keyword).length + (if ([] : List Keyword).isEmpty then 0 else 1) < 30)) = true := by rfl)
    (hline : (apos.endLine == cpos.line) = true := by rfl) (hs : starEach (e :: es) X.env = (false, eval e X.env) :: starEach es X.env := by rfl) (hplain : (backTo cpos (starEach es X.env)).any (·.1) = false := by rfl) :
    ME T X W (.Call (.Attribute o name apos) (e :: es) [] cpos) (mMeth tyD g ma as) := by
  refine ⟨fun pins s σ H Q I ⟨w, ρ, env, h, st, q⟩ => ?_⟩
  unfold mMeth at q
  refine wpAny_Call_method_late hbase hfew hline rfl (thn (ho.run pins s σ H (fun x H1 => ∃ ρ1 h1 d, RH T w ρ1 h1 H1 ∧ Ext w ρ H ρ1 H1 ∧ RD w ρ1 H1 d x ∧ tyD d h1 = true ∧ Pst T w ρ H RD ((as env h1).bind fun xs h2 => ofO (g d xs h2)) Q fun e H' => W (clsV X.K e) none σ H') I ⟨w, ρ, env, h, st, ?_⟩) fun v s1 ⟨x, H1, I1, r1, ρ1, h1, d, rh1, e1, rd, hy, q1⟩ => ?_)
  · cases e : ma env h with
    | stuck => rw [e] at q; exact q
    | exc x h1 => rw [e] at q; exact q
    | ok v h1 =>
      rw [e, R.bind_ok] at q
      intro ρ1 H1 x e1 r1 d1
      by_cases hy : tyD v h1 = true
      · rw [if_pos hy] at q
        exact ⟨ρ1, h1, v, r1, e1, d1, hy, q⟩
      · rw [if_neg hy] at q; exact q.elim
  · obtain ⟨⟨kd, ks, vs⟩, e2⟩ := Option.isSome_iff_exists.mp hy
    obtain ⟨c, rfl, dk⟩ := rdD rh1 rd e2
    cases r1
    obtain ⟨t1, t2⟩ := finds_type I1 dk
    refine ⟨"dict", id, F.plainAttrs_dict, slot, hty, t1, t2, ?_⟩
    have hA := ha.run cpos pins s1 σ H1 (fun xs H2 => rMt T X g (.ref c) xs H2 Q) I1 ⟨w, ρ1, env, h1, st.next e1 rh1, by
      cases e' : as env h1 with
      | stuck => rw [e'] at q1; exact q1
      | exc x h2 => rw [e'] at q1; exact Pst.ext (rel := RD) q1 e1
      | ok u h2 =>
        rw [e', R.bind_ok] at q1
        intro ρ2 H2 y e2 r2 d2
        exact ⟨w, ρ2, h2, d, u, st.g, r2, rd.mono e2, d2, (Pst.ofO q1).ext (e1.trans e2)⟩⟩
    rw [hs] at hA ⊢
    refine Calls.callWith_builtin (by show (false || (backTo cpos (starEach es X.env)).any (·.1)) = false; rw [hplain] <;> rfl) (Calls.evalArgs_plain ?_)
    exact thn hA fun us s2 ⟨vs, H2, I2, r2, q2⟩ => hm pins s2 σ H2 (.ref c) vs (.ref c) us Q I2 (show L2.RelV (.ref c) (.ref c) from rfl) r2 q2

/-! ### d[k] = v -/
theorem mem_gen {κ : Type} {kf : D → Option κ} (hf : ∀ a b y, kf a = some y → kf b = some y → a = b) {k : D} {y : κ} (hk : kf k = some y) {ks : List D} {ys : List κ} (h : ks.mapM kf = some ys) : y ∈ ys ↔ k ∈ ks := by
  constructor
  · intro m
    obtain ⟨i, hi⟩ := mem_get m
    have hl := mapM_length h
    have hlt : i < ks.length := by rw [hl]; exact (List.getElem?_eq_some_iff.mp hi).1
    obtain ⟨z, z1, z2⟩ := mapM_get h (i := i) (a := ks[i]) (List.getElem?_eq_getElem hlt)
    rw [hi] at z1
    cases z1
    rw [hf _ _ _ hk z2]
    exact List.getElem_mem hlt
  · intro m
    obtain ⟨i, hi⟩ := mem_get m
    obtain ⟨z, z1, z2⟩ := mapM_get h hi
    rw [hk] at z2
    cases z2
    exact List.mem_of_getElem? z1
theorem dupd_n {w : Wd} {ρ : List (Option Addr)} {H : Hp} {k v : D} {n : NestedKey} {x : V} {u : Value} (hk : nkey k = some n) (rx : RelV x u) (rv : RD w ρ H v x) : ∀ {ks vs : List D} {es : List (NestedKey × Addr × Value)} {xs : List V}, ks.mapM nkey = some (es.map (·.1)) → Vals xs (es.map (·.2.2)) → RDs w ρ H vs xs →
    ∃ xs', Vals xs' ((es.map (putAt n u)).map (·.2.2)) ∧ RDs w ρ H (dupd k v ks vs) xs'
  | [], vs, es, xs, h, rvs, r => by
    have := mapM_length h
    simp at this
    have ee : es = [] := List.eq_nil_of_length_eq_zero this.symm
    subst ee
    exact ⟨[], .nil, rfl⟩
  | k' :: ks, [], es, xs, h, rvs, r => by
    have r : xs = [] := r
    subst r
    have := mapM_length h
    cases es with
    | nil => simp at this
    | cons e es => cases rvs
  | k' :: ks, d :: vs, es, xs, h, rvs, r => by
    obtain ⟨y, us, rfl, r1, r2⟩ := r
    cases es with
    | nil => cases rvs
    | cons e es =>
      rw [List.map_cons] at h rvs
      cases rvs with
      | cons q1 q2 =>
        obtain ⟨y', ys', e1, e2, e3⟩ := mapM_cons_some h
        cases e3
        obtain ⟨xs', g1, g2⟩ := dupd_n hk rx rv e2 q2 r2
        simp only [dupd, List.map_cons]
        by_cases c : k' = k
        · subst c
          rw [hk] at e1
          have ee : e.1 = n := (Option.some.inj e1).symm
          rw [if_pos rfl]
          have ep : (putAt n u e).2.2 = u := by unfold putAt; rw [if_pos ee]
          rw [ep]
          exact ⟨x :: xs', .cons rx g1, x, xs', rfl, rv, g2⟩
        · have ne : ¬ e.1 = n := fun z => c (nkey_inj (y := n) (by rw [← z]; exact e1) hk)
          rw [if_neg c]
          have ep : (putAt n u e).2.2 = e.2.2 := by unfold putAt; rw [if_neg ne]
          rw [ep]
          exact ⟨y :: xs', .cons q1 g1, y, xs', rfl, r1, g2⟩
theorem putAt_keys {n : NestedKey} {u : Value} : ∀ (es : List (NestedKey × Addr × Value)), (es.map (putAt n u)).map (·.1) = es.map (·.1) ∧ (es.map (putAt n u)).map (fun e => V.ref e.2.1) = es.map fun e => V.ref e.2.1
  | [] => ⟨rfl, rfl⟩
  | e :: es => by
    obtain ⟨h1, h2⟩ := putAt_keys (n := n) (u := u) es
    have a1 : (putAt n u e).1 = e.1 := by unfold putAt; split <;> rfl
    have a2 : (putAt n u e).2.1 = e.2.1 := by unfold putAt; split <;> rfl
    simp only [List.map_cons]
    rw [h1, h2, a1, a2]
    exact ⟨rfl, rfl⟩
theorem atKey_mem {n : NestedKey} : ∀ {es : List (NestedKey × Addr × Value)}, (atKey es n).isSome = true ↔ n ∈ es.map (·.1)
  | [] => by simp [atKey]
  | e :: es => by
    by_cases c : e.1 = n
    · simp [atKey, c]
    · have ea : atKey (e :: es) n = atKey es n := by simp [atKey, List.find?_cons, c]
      rw [ea, atKey_mem, List.map_cons, List.mem_cons]
      constructor
      · exact .inr
      · intro z; exact z.elim (fun z => absurd z.symm c) id
theorem put_n {w : Wd} {ρ : List (Option Addr)} {H H' : Hp} {ρ' : List (Option Addr)} {a b : Addr} {ks vs : List D} {k v : D} {n : NestedKey} {x : V} {u : Value} (e : Ext w ρ H ρ' H') {es : List (NestedKey × Addr × Value)} {xs : List V}
    (k1 : ks.mapM nkey = some (es.map (·.1))) (rk : RDs w ρ H ks (es.map fun e => V.ref e.2.1)) (rv : Vals xs (es.map (·.2.2))) (rs : RDs w ρ H vs xs) (l1 : es.length < sizeLine) (l2 : (a == sysModules) = false) (nd : (es.map (·.1)).Nodup) (dp : ∀ e ∈ es, e.1.depth ≤ 8)
    (hk : nkey k = some n) (hd : n.depth ≤ 8) (rkb : RD w ρ H k (.ref b)) (rx : RelV x u) (rvx : RD w ρ H v x) (hH : H' a = some (NdO w.g.wo a (storedH es n b u))) : ObR w ρ' H' (.dcn (dputK ks k) (dputV ks vs k v)) a := by
  have mem : (atKey es n).isSome = true ↔ k ∈ ks := atKey_mem.trans (mem_gen (fun _ _ _ => nkey_inj) hk k1)
  unfold dputK dputV
  by_cases m : k ∈ ks
  · rw [if_pos m, if_pos m]
    have es' : storedH es n b u = es.map (putAt n u) := by unfold storedH; rw [if_pos (mem.mpr m)]
    obtain ⟨xs', g1, g2⟩ := dupd_n hk rx rvx k1 rv rs
    obtain ⟨p1, p2⟩ := putAt_keys (n := n) (u := u) es
    refine ⟨storedH es n b u, xs', hH, by rw [es', p1]; exact k1, by rw [es', p2]; exact rk.mono e, by rw [es']; exact g1, g2.mono e, by rw [es', List.length_map]; omega, l2, by rw [es', p1]; exact nd, fun z hz => ?_⟩
    rw [es'] at hz
    obtain ⟨y, hy, rfl⟩ := List.mem_map.mp hz
    have a1 : (putAt n u y).1 = y.1 := by unfold putAt; split <;> rfl
    rw [a1]
    exact dp y hy
  · rw [if_neg m, if_neg m]
    have es' : storedH es n b u = es ++ [(n, b, u)] := by unfold storedH; rw [if_neg (fun z => m (mem.mp z))]
    refine ⟨storedH es n b u, xs ++ [x], hH, ?_, ?_, ?_, (rs.append (RDs.one rvx)).mono e, by rw [es', List.length_append]; simp; omega, l2, ?_, fun z hz => ?_⟩
    · rw [es', List.map_append]; exact mapM_snoc hk k1
    · rw [es', List.map_append]; exact (rk.append (RDs.one rkb)).mono e
    · rw [es', List.map_append]; exact rv.append (.cons rx .nil)
    · rw [es', List.map_append, List.nodup_append]
      refine ⟨nd, by simp, fun p hp q hq => ?_⟩
      simp at hq
      subst hq
      intro z
      subst z
      exact m ((mem_gen (fun _ _ _ => nkey_inj) hk k1).mp hp)
    · rw [es'] at hz
      rcases List.mem_append.mp hz with hz | hz
      · exact dp z hz
      · simp at hz; subst hz; exact hd
theorem length_zipK {κ : Type} {ks : List D} {kf : D → Option κ} {ys : List κ} {xs : List V} (h : ks.mapM kf = some ys) (l : ys.length = xs.length) : (ys.zip xs).length = ks.length := by
  rw [List.length_zip, mapM_length h]; omega
theorem mst_dict (hu : X.A.units + 100 < cLine) : MSt T X gDPut := fun pins s σ H o i v ov iv u Q I ro ri rv ⟨w, ρ, h, a, b, c, e1, rh, ra, rb, rc, q⟩ => by
  unfold gDPut at q
  cases a with
  | ref n =>
    dsimp only at q
    cases e2 : h[n]? with
    | none => rw [e2] at q; exact q.elim
    | some ob =>
      rw [e2] at q
      cases ob with
      | gone => exact q.elim
      | lst _ => exact q.elim
      | dct t ks vs =>
        obtain ⟨p, hp⟩ := rh.live n _ e2 (by intro z; cases z)
        obtain ⟨_, _, ob, h3, h4⟩ := rh.obj n p hp
        rw [e2] at h3; cases h3
        have ro' : o = .ref p := ra.2 p hp
        subst ro'
        cases ro
        cases t with
        | false =>
          dsimp only at q
          by_cases hk : (keyOk 0 b && decide (ks.length < SZ)) = true
          · rw [if_pos hk] at q
            simp only [Bool.and_eq_true, decide_eq_true_eq] at hk
            obtain ⟨kk, ek⟩ := Option.isSome_iff_exists.mp hk.1
            obtain ⟨xs, ys, k1, l, z, rs⟩ := h4
            have hi := keyD_v ek rb
            subst hi
            obtain ⟨ys', xs', g1, g2, g3, g4⟩ := put_gen (fun _ _ _ => keyD_inj) ek rc k1 l rs
            refine d_setItem (by omega) I (DPut.k z (by rw [length_zipK k1 l, ← SZ_eq]; exact hk.2)) ri rv fun s' I' => ⟨_, I', ?_⟩
            rw [g1]
            obtain ⟨e, r'⟩ := rh.write hp (o := .dK (ys'.zip xs')) (ob := .dct false (dputK ks b) (dputV ks vs b c)) trivial fun e => ⟨xs', ys', g2, g3, upd_same, g4.mono e⟩
            exact q _ _ e r'
          · rw [if_neg hk] at q; exact q.elim
        | true =>
          dsimp only at q
          by_cases hk : (keyOk 1 b && decide (ks.length < SZ)) = true
          · rw [if_pos hk] at q
            simp only [Bool.and_eq_true, decide_eq_true_eq] at hk
            obtain ⟨kk, ek⟩ := Option.isSome_iff_exists.mp hk.1
            obtain ⟨xs, ys, k1, l, z, rs⟩ := h4
            obtain ⟨b', rfl, hb⟩ := keyT_v ek rb
            obtain ⟨ys', xs', g1, g2, g3, g4⟩ := put_gen (fun _ _ _ => keyT_inj) ek rc k1 l rs
            refine d_setItem (by omega) I (DPut.t z hb (by rw [length_zipK k1 l, ← SZ_eq]; exact hk.2)) ri rv fun s' I' => ⟨_, I', ?_⟩
            rw [g1]
            obtain ⟨e, r'⟩ := rh.write hp (o := .dT (ys'.zip xs')) (ob := .dct true (dputK ks b) (dputV ks vs b c)) trivial fun e => ⟨xs', ys', g2, g3, upd_same, g4.mono e⟩
            exact q _ _ e r'
          · rw [if_neg hk] at q; exact q.elim
      | dcn ks vs =>
        obtain ⟨p, hp⟩ := rh.live n _ e2 (by intro z; cases z)
        obtain ⟨_, _, ob, h3, h4⟩ := rh.obj n p hp
        rw [e2] at h3; cases h3
        have ro' : o = .ref p := ra.2 p hp
        subst ro'
        cases ro
        dsimp only at q
        by_cases hk : (keyOk 2 b && decide (ks.length < SZ)) = true
        · rw [if_pos hk] at q
          simp only [Bool.and_eq_true, decide_eq_true_eq] at hk
          obtain ⟨kk, ek⟩ := Option.isSome_iff_exists.mp hk.1
          obtain ⟨es, xs, z, k1, rk, rvs, rs, l1, l2, nd, dp⟩ := h4
          obtain ⟨ds, rfl, hn, hd⟩ := keyN_some ek
          obtain ⟨b', bs, rfl, hb⟩ := id rb
          cases ri
          have hw : w.g.wo = X.w := by rw [e1]; rfl
          have dd := dictN I hw z k1 rk nd dp
          have hl : es.length < sizeLine := by
            have := mapM_length k1
            rw [List.length_map] at this
            rw [← this, ← SZ_eq]; exact hk.2
          refine wpAny_setItem_heap (knd := nestedKind X.prog X.w) (roomN hu) ⟨nested_of I hn rb rfl, hd⟩ dd (fun h' dd' sb => ?_) (by omega)
          obtain ⟨ob, tb, ep, hq, g2, g3, g4, _, g5⟩ := dd'
          have zz : H p = some (NdO w.g.wo p es) := z
          have new : ObjOk X.prog X.w (L2.upd H p (NdO w.g.wo p (storedH es kk b' u))) h' p (NdO w.g.wo p (storedH es kk b' u)) := by
            rw [hw]
            exact ⟨⟨ob, ep, tb, hq, g2, g3, g4⟩, ⟨ob, hq⟩, fun h1 h2 ⟨o, ep, tb, a1, a2⟩ st => ⟨o, ep, tb, st _ a1, a2⟩⟩
          refine ⟨_, d_write I (by rw [zz]; exact True.intro) sb ⟨ob, hq⟩ new, ?_⟩
          obtain ⟨e, r'⟩ := rh.write hp (o := NdO w.g.wo p (storedH es kk b' u)) (ob := .dcn (dputK ks (.tup ds)) (dputV ks vs (.tup ds) c)) (ndO_ok (ndO_any _ _ _)) fun e => put_n e k1 rk rvs rs hl l2 nd dp hn hd rb rv rc upd_same
          exact q _ _ e r'
        · rw [if_neg hk] at q; exact q.elim
  | _ => exact q.elim
theorem mmt_dpop : MMt T X "dict.pop" gDPop := fun pins s σ H x xs v us Q I rx rxs ⟨w, ρ, h, a, as, e1, rh, ra, rs, q⟩ => by
  unfold gDPop at q
  cases a with
  | ref n =>
    match as, rs, q with
    | [], _, q => exact q.elim
    | _ :: _ :: _, _, q => exact q.elim
    | [k], rs, q =>
      obtain ⟨y, rfl, ry⟩ := rs.one_inv
      dsimp only at q
      cases e2 : h[n]? with
      | none => rw [e2] at q; exact q.elim
      | some ob =>
        rw [e2] at q
        cases ob with
        | gone => exact q.elim
        | lst _ => exact q.elim
        | dcn _ _ => exact q.elim
        | dct t ks vs =>
          cases t with
          | true => exact q.elim
          | false =>
            dsimp only at q
            by_cases hk : keyOk 0 k = true
            · rw [if_pos hk] at q
              cases ed : dlook ks vs k with
              | none => rw [ed] at q; exact q.elim
              | some d =>
                rw [ed] at q
                obtain ⟨p, hp⟩ := rh.live n _ e2 (by intro z; cases z)
                obtain ⟨_, _, ob, h3, h4⟩ := rh.obj n p hp
                rw [e2] at h3; cases h3
                have rx' : x = .ref p := ra.2 p hp
                subst rx'
                cases rx
                obtain ⟨kk, ek⟩ := Option.isSome_iff_exists.mp hk
                obtain ⟨xs, ys, k1, l, z, rsv⟩ := h4
                have hi := keyD_v ek ry
                subst hi
                obtain ⟨u, rfl, ru⟩ := rxs.one
                have ro := look_gen (w := w) (ρ := ρ) (H := H) (fun _ _ _ => keyD_inj) ek k1 l rsv
                rw [ed] at ro
                cases ev : valV (ys.zip xs) kk with
                | none => rw [ev] at ro; exact ro.elim
                | some v0 =>
                  rw [ev] at ro
                  obtain ⟨ys', xs', g1, g2, g3, g4⟩ := del_gen (w := w) (ρ := ρ) (H := H) (fun _ _ _ => keyD_inj) ek k1 l rsv
                  refine d_pop I z ru ev (.inl rfl) fun w' s' I' rw' => ⟨v0, _, I', rw', ?_⟩
                  rw [g1]
                  obtain ⟨e, r'⟩ := rh.write hp (o := .dK (ys'.zip xs')) (ob := .dct false (ddelK ks k) (ddelV ks vs k)) trivial fun e => ⟨xs', ys', g2, g3, upd_same, g4.mono e⟩
                  exact q _ _ _ e r' (RD.mono e ro)
            · rw [if_neg hk] at q; exact q.elim
  | _ => exact q.elim
end
end Rf
namespace Rf
open PySem PySem.Spec PyProof.Rows L2

/-- a new empty dict: kind 0 keys ints and texts, 1 tuples of these, 2 tuples of any depth -/
def mkd (kd : Nat) (mt : Bool) (h : Hh) : O := match kd with
  | 0 => if mt = true then some (.ref h.length, h ++ [.dct false [] []]) else some (.dct false [] [], h)
  | 1 => if mt = true then some (.ref h.length, h ++ [.dct true [] []]) else some (.dct true [] [], h)
  | _ => some (.ref h.length, h ++ [.dcn [] []])
def mDct0 (kd : Nat) (mt : Bool) : Me := fun _ h => ofO (mkd kd mt h)
/-- {k: v} -/
def mkd1 (kd : Nat) (mt : Bool) (k v : D) (h : Hh) : O := match kd with
  | 0 => if keyOk 0 k = true then (if mt = true then some (.ref h.length, h ++ [.dct false [k] [v]]) else some (.dct false [k] [v], h)) else none
  | 2 => if keyOk 2 k = true then some (.ref h.length, h ++ [.dcn [k] [v]]) else none
  | _ => none
def mDct1 (kd : Nat) (mt : Bool) (mk mv : Me) : Me := fun env h => (mk env h).bind fun k h1 => (mv env h1).bind fun v h2 => ofO (mkd1 kd mt k v h2)
/-- (*a, ..) -/
def aStar (m : Me) (r : Ma) : Ma := fun env h => (m env h).bind fun x h1 => match getS h1 x with
  | some xs => (r env h1).bind fun ys h2 => .ok (xs ++ ys) h2
  | none => .stuck
/-- sorted(set(x)), x a tuple of ints -/
def mSortSet (mt : Bool) (m : Me) : Me := fun env h => (m env h).bind fun x h1 => match x with
  | .tup xs => match intsD xs with
    | some ns => if ns.length < 64 then ofO (mk mt ((sortU ns).map D.int) h1) else .stuck
    | none => .stuck
  | _ => .stuck
/-- the pairs of a dict of nested keys, which is locked from now on -/
def srcN (m : Me) : Ev → Hh → R Src := fun env h => (m env h).bind fun d h1 => match d with
  | .ref n => match h1[n]? with
    | some (.dcn ks vs) => .ok (zipD ks vs, none) (h1.set n .gone)
    | _ => .stuck
  | _ => .stuck
section
variable {T : List (Addr × Str)} {w : Wd} {ρ ρ' : List (Option Addr)} {h h' : Hh} {H H' : Hp}
theorem sys_ne {X : Cx} {pins : List (Addr × Obj)} {σ : L2.St} {H : Hp} {s : Shared} (I : Inv X pins σ H s) : (s.heap.objs.size == sysModules) = false := by
  have := I.big
  exact beq_eq_false_iff_ne.mpr (fun z => by rw [z] at this; exact Nat.lt_irrefl _ this)
theorem ndO_new {P : Program} {wo : World} {H : Hp} {h : Heap} {a : Addr} {es : List (NestedKey × Addr × Value)} (hd : ∃ (o : Obj) (ep : Nat) (tb : Array DictEntry), h.get? a = some o ∧ o.ExactDict ∧ o.data = .dict tb ep ∧ tb.toList = es.map (nent wo)) : ObjOk P wo H h a (NdO wo a es) := by
  obtain ⟨o, ep, tb, h1, h2⟩ := id hd
  exact ⟨hd, ⟨o, h1⟩, fun h1 h2 ⟨o, ep, tb, a1, a2⟩ st => ⟨o, ep, tb, st _ a1, a2⟩⟩
theorem mapM_nil_some {α β : Type} {f : α → Option β} : ([] : List α).mapM f = some [] := rfl
theorem mapM_one {α β : Type} {f : α → Option β} {a : α} {b : β} (h : f a = some b) : [a].mapM f = some [b] := by
  rw [List.mapM_cons, h]
  rfl
end
section
variable {T : List (Addr × Str)} {X : Cx} {W : WX} {a b c e k v : Expr} {es : List Expr} {ma mb mc mk' mv' : Me} {as : Ma} {pos : Pos}
theorem me_dct0 (kd : Nat) (mt : Bool) : ME T X W (.Dict [] [] pos) (mDct0 kd mt) := by
  refine ⟨fun pins s σ H Q I ⟨w, ρ, env, h, st, q⟩ => ?_⟩
  unfold mDct0 mkd at q
  refine wpAny_Dict_empty ?_
  have hp := I.hok.fresh (Nat.le_refl s.heap.objs.size)
  have rh := st.h
  have hk : ∀ b u, s.heap.get? b = some u → (s.heap.push { cls := .type "dict", data := .dict #[] }).get? b = some u := fun _ _ q => Heap.get?_push_of_some _ q
  split at q
  · have I1 := I.laid (a := s.heap.objs.size) (o := .dK []) (t' := s.toks) hk (Nat.le_refl _) (dk_empty s.heap I.big)
    cases mt with
    | true =>
      rw [if_pos rfl] at q
      obtain ⟨e, r', d⟩ := rh.mut (o := .dK []) (ob := .dct false [] []) hp fun e => ⟨[], [], rfl, rfl, upd_same, rfl⟩
      exact ⟨.ref s.heap.objs.size, _, I1, rfl, q _ _ _ e r' d⟩
    | false =>
      rw [if_neg (by decide)] at q
      obtain ⟨e, r', f⟩ := rh.frz hp (.dK [])
      exact ⟨.ref s.heap.objs.size, _, I1, rfl, q _ _ _ e r' ⟨_, [], [], rfl, f, rfl, rfl, .inl upd_same, rfl⟩⟩
  · have I1 := I.laid (a := s.heap.objs.size) (o := .dT []) (t' := s.toks) hk (Nat.le_refl _) (dt_empty s.heap I.big)
    cases mt with
    | true =>
      rw [if_pos rfl] at q
      obtain ⟨e, r', d⟩ := rh.mut (o := .dT []) (ob := .dct true [] []) hp fun e => ⟨[], [], rfl, rfl, upd_same, rfl⟩
      exact ⟨.ref s.heap.objs.size, _, I1, rfl, q _ _ _ e r' d⟩
    | false =>
      rw [if_neg (by decide)] at q
      obtain ⟨e, r', f⟩ := rh.frz hp (.dT [])
      exact ⟨.ref s.heap.objs.size, _, I1, rfl, q _ _ _ e r' ⟨_, [], [], rfl, f, rfl, rfl, .inl upd_same, rfl⟩⟩
  · have hw : w.g.wo = X.w := by rw [st.g]; rfl
    have I1 := I.laid (a := s.heap.objs.size) (o := NdO X.w s.heap.objs.size []) (t' := s.toks) hk (Nat.le_refl _) (ndO_new ⟨_, 0, #[], Heap.get?_push_size _ rfl, ⟨rfl, rfl, rfl⟩, rfl, rfl⟩)
    obtain ⟨e, r', d⟩ := rh.mut (o := NdO X.w s.heap.objs.size []) (ob := .dcn [] []) hp fun e => ⟨[], [], by rw [upd_same, hw], rfl, rfl, .nil, rfl, Nat.zero_le _, sys_ne I, .nil, fun e he => absurd he (by simp)⟩
    exact ⟨.ref s.heap.objs.size, _, I1, rfl, q _ _ _ e r' d⟩
/-- evaluation while something new stands at p -/
theorem pst_prt {α β : Type} {T : List (Addr × Str)} {w : Wd} {ρ : List (Option Addr)} {H : Hp} {p : Addr} {o : HO} {rel : Rel α β} {r : R α} {Q : β → Hp → Prop} {W W' : Ex → Hp → Prop} (hp : H p = none)
    (hx : ∀ x h', r = .exc x h' → ∀ ρ' H', Ext w ρ H ρ' H' → RH T w ρ' h' H' → W' x H') (hs : r ≠ .stuck) (hv : ∀ d h' ρ' H' x, r = .ok d h' → Ext (w.prt p) ρ (L2.upd H p o) ρ' H' → RH T (w.prt p) ρ' h' H' → rel (w.prt p) ρ' H' d x → Q x H') : Pst T (w.prt p) ρ (L2.upd H p o) rel r Q W' := by
  cases e : r with
  | ok d h' => exact fun ρ' H' x e1 r1 d1 => hv d h' ρ' H' x e e1 r1 d1
  | exc x h' => exact fun ρ' H' e1 r1 => hx x h' e ρ' H' (Ext.unmkg hp e1.wk) r1.unprt
  | stuck => exact absurd e hs
/-- what the pair leads to -/
theorem dct1_imp {kd : Nat} {mt : Bool} {w : Wd} {ρ : List (Option Addr)} {env : Ev} {h : Hh} {σ : L2.St} {H : Hp} {Q : VK} {p : Addr} {o : HO} (st : Gd T (gw X) w ρ env h σ H) (hp : H p = none) (ho : okO o)
    (q : Pst T w ρ H RD (mDct1 kd mt mk' mv' env h) Q fun e H' => W (clsV X.K e) none σ H') {R2 : V → V → Hp → Prop}
    (fin : ∀ ρ2 h2 H2 dk dv x y, Ext (w.prt p) ρ (L2.upd H p o) ρ2 H2 → RH T (w.prt p) ρ2 h2 H2 → RD (w.prt p) ρ2 H2 dk x → RD (w.prt p) ρ2 H2 dv y → H2 p = some o → Vst T w ρ H (mkd1 kd mt dk dv h2) Q → R2 x y H2) :
    tM T X W mk' σ (L2.upd H p o) (fun x H1 => tM T X W mv' σ H1 fun y H2 => R2 x y H2) := by
  have np : some p ∉ ρ := (st.h.fz_new hp).1
  have nd : ¬ (w.prt p).δ p := (st.h.fz_new hp).2.2
  unfold mDct1 at q
  refine ⟨w.prt p, ρ, env, h, ⟨st.g, st.e.prt hp, st.h.prt hp o⟩, ?_⟩
  refine pst_prt hp (W := fun e H' => W (clsV X.K e) none σ H') (fun x h' e => ?_) (fun e => ?_) fun dk h1 ρ1 H1 x e e1 r1 d1 => ?_
  · rw [e] at q; exact q
  · rw [e] at q; exact q
  rw [e, R.bind_ok] at q
  refine ⟨w.prt p, ρ1, env, h1, ⟨st.g, (st.e.prt hp).mono e1, r1⟩, ?_⟩
  cases e' : mv' env h1 with
  | stuck => rw [e'] at q; exact q
  | exc z h2 =>
    rw [e'] at q
    exact fun ρ' H' e2 r2 => q ρ' H' (Ext.unmkg hp (e1.trans e2).wk) r2.unprt
  | ok dv h2 =>
    rw [e', R.bind_ok] at q
    intro ρ2 H2 y e2 r2 d2
    have ee := e1.trans e2
    exact fin ρ2 h2 H2 dk dv x y ee r2 (d1.mono e2) d2 (ee.keepP p _ upd_same (.inr rfl) np nd (fun ps z => by subst z; exact ho)) (Pst.ofO q)
theorem adopt_at {w : Wd} {ρ ρ2 : List (Option Addr)} {h2 : Hh} {H H3 : Hp} {p : Addr} {o : HO} {ob : Ob} {Q : VK} {h : Hh} (rh : RH T w ρ h H) (hp : H p = none) (e : Ext (w.mkg p) ρ (L2.upd H p o) ρ2 H3) (r : RH T (w.prt p) ρ2 h2 H3) (q : ObR (w.prt p) ρ2 H3 ob p)
    (v : Vst T w ρ H (some (.ref h2.length, h2 ++ [ob])) Q) : Q (.ref p) H3 := by
  have f := rh.fz_new hp
  have e' := Ext.unmkg hp e
  exact v _ _ _ (e'.adopt hp) (r.adopt f.2.1 f.2.2 q) ⟨by simp [r.len], fun a z => by rw [← r.len] at z; simp at z; rw [z]⟩
theorem me_dct1K (mt : Bool) (hk : ME T X W k mk') (hv : ME T X W v mv') : ME T X W (.Dict [some k] [v] pos) (mDct1 0 mt mk' mv') :=
  PE.imp (pe_disp (trs := [(tM T X W mk', tM T X W mv')]) (pps_cons hk hv pps_nil) rfl rfl (by simp) (by simp)) fun σ H Q ⟨w, ρ, env, h, st, q⟩ p hp => by
    refine dct1_imp st hp (o := .dK []) trivial q fun ρ2 h2 H2 dk dv x y e r rk rv hH v => ?_
    unfold mkd1 at v
    refine ⟨hH, ?_⟩
    by_cases hk : keyOk 0 dk = true
    · rw [if_pos hk] at v
      obtain ⟨kk, ek⟩ := Option.isSome_iff_exists.mp hk
      have hx := keyD_v ek rk
      refine ⟨[(kk, y)], by rw [hx]; rfl, by simp, ?_⟩
      have em : mergeK [] [(kk, y)] = [kk].zip [y] := rfl
      rw [em]
      obtain ⟨eg, rg⟩ := r.grow (o := .dK ([kk].zip [y])) hH trivial
      have rv' := RD.monoX eg rv
      cases mt with
      | true =>
        rw [if_pos rfl] at v
        exact adopt_at (ob := .dct false [dk] [dv]) st.h hp (e.wk.trans eg) rg ⟨[y], [kk], mapM_one ek, rfl, upd_same, RDs.one rv'⟩ v
      | false =>
        rw [if_neg (by decide)] at v
        have f := st.h.fz_new hp
        have np : some p ∉ ρ2 := fun z => by
          obtain ⟨n, e⟩ := mem_get z
          exact (rg.obj n p e).1 (.inr rfl)
        exact v _ _ _ (Ext.unmkg hp (e.wk.trans eg)) rg.unprt ⟨p, [y], [kk], rfl, ⟨np, f.2.1, f.2.2⟩, mapM_one ek, rfl, .inl upd_same, RDs.one (RD.unprt rv')⟩
    · rw [if_neg hk] at v; exact v.elim
theorem me_dct1N (hu : X.A.units + 100 < cLine) (hk : ME T X W k mk') (hv : ME T X W v mv') : ME T X W (.Dict [some k] [v] pos) (mDct1 2 true mk' mv') := by
  refine ⟨fun pins s σ H Q I ⟨w, ρ, env, h, st, q⟩ => ?_⟩
  have hp := I.hok.fresh (Nat.le_refl s.heap.objs.size)
  have hw : w.g.wo = X.w := by rw [st.g]; rfl
  have I1 := I.laid (a := s.heap.objs.size) (o := NdO X.w s.heap.objs.size []) (h' := s.heap.push { cls := .type "dict", data := .dict #[] }) (t' := s.toks) (fun _ _ q => Heap.get?_push_of_some _ q) (Nat.le_refl _) (ndO_new ⟨_, 0, #[], Heap.get?_push_size _ rfl, ⟨rfl, rfl, rfl⟩, rfl, rfl⟩)
  have hlt : s.heap.objs.size < s.heap.objs.size + 1 := Nat.lt_succ_self _
  rw [arm_eval_Dict, show (evalEachOpt [some k] X.env).zip ((evalEach [v] X.env).map fun v => do let x ← v; standAt pos; pure x) = (pairTrees [some k] [v] X.env pos).map fun p => (some p.1, p.2) from rfl, dictDisplay_pairs (pairTrees [some k] [v] X.env pos) (by simp [pairTrees]) (by simp [pairTrees])]
  refine wpAny_bind (wpAny_standAt (wpAny_bind (wpAny_subDictH (knd := nestedKind X.prog X.w) (by show X.A.units + 8 < cLine; omega) (by simp [pairTrees]) ?_)))
  have hR := dct1_imp (W := W) (X := X) (R2 := fun x y H2 => ∃ dk n b, keyN dk = some n ∧ x = .ref b ∧ (∃ w' ρ', RD w' ρ' H2 dk x) ∧ H2 s.heap.objs.size = some (NdO X.w s.heap.objs.size []) ∧ ∀ u, RelV y u → Q (.ref s.heap.objs.size) (L2.upd H2 s.heap.objs.size (NdO X.w s.heap.objs.size [(n, b, u)]))) st hp (o := NdO X.w s.heap.objs.size []) (ndO_ok (ndO_any _ _ _)) q fun ρ2 h2 H2 dk dv x y e r rk rv hH v => by
    unfold mkd1 at v
    by_cases hk : keyOk 2 dk = true
    · rw [if_pos hk] at v
      obtain ⟨n, ek⟩ := Option.isSome_iff_exists.mp (show (keyN dk).isSome = true from hk)
      obtain ⟨ds, rfl, hn, hd⟩ := keyN_some ek
      obtain ⟨b, bs, rfl, hb⟩ := id rk
      refine ⟨.tup ds, n, b, ek, rfl, ⟨_, _, rk⟩, hH, fun u ru => ?_⟩
      obtain ⟨eg, rg⟩ := r.grow (o := NdO X.w s.heap.objs.size [(n, b, u)]) hH (ndO_ok (ndO_any _ _ _))
      refine adopt_at (ob := .dcn [.tup ds] [dv]) st.h hp (e.wk.trans eg) rg ⟨[(n, b, u)], [y], by rw [upd_same]; show some (NdO X.w _ _) = some (NdO w.g.wo _ _); rw [hw], mapM_one hn, RDs.one (RD.monoX eg rk), .cons ru .nil, RDs.one (RD.monoX eg rv), by rw [sizeLine_eq]; simp, sys_ne I, by simp, fun z hz => ?_⟩ v
      simp at hz; subst hz; exact hd
    · rw [if_neg hk] at v; exact v.elim
  refine pairTrees_cons_walk (thn (hk.run pins _ σ _ _ I1 hR) fun u s1 ⟨x, H1, I1', rx, q1⟩ => thn (hv.run pins s1 σ H1 _ I1' q1) fun w2 s2 ⟨y, H2, I2, ry, q2⟩ => pairTrees_nil_walk ?_)
  obtain ⟨dk, n, b, ek, rfl, ⟨w', ρ', rk⟩, hH, q3⟩ := q2
  obtain ⟨ds, rfl, hn, hd⟩ := keyN_some ek
  cases rx
  have dd := dictN (ks := []) I2 rfl hH rfl (w := w') (ρ := ρ') rfl .nil (fun e he => absurd he (by simp))
  refine ⟨[(n, b, w2)], ⟨rfl, rfl, ⟨nested_of I2 hn rk rfl, hd⟩, trivial⟩, dd, fun h' tk dd' sb => ?_⟩
  obtain ⟨ob, tb, ep, hq, g2, g3, g4, _, g5⟩ := dd'
  have g4 : tb.toList = [(n, b, w2)].map (nent X.w) := g4
  refine wpAny_pure ⟨.ref s.heap.objs.size, _, d_write (t' := tk) I2 (by rw [hH]; exact True.intro) sb ⟨ob, hq⟩ (ndO_new ⟨ob, ep, tb, hq, g2, g3, g4⟩), rfl, q3 w2 ry⟩
theorem ma_star {p : Pos} (ha : ME T X W e ma) (hr : MA T X W es as) (hs : starEach (.Starred e p :: es) X.env = (true, eval e X.env) :: starEach es X.env := by rfl) : MA T X W (.Starred e p :: es) (aStar ma as) :=
  PA.imp (StX.pa_star ha hr hs) fun σ H Q ⟨w, ρ, env, h, s, q⟩ => by
    refine ⟨w, ρ, env, h, s, ?_⟩
    unfold aStar at q
    cases e : ma env h with
    | stuck => rw [e] at q; exact q
    | exc x h1 => rw [e] at q; exact q
    | ok v h1 =>
      rw [e, R.bind_ok] at q
      intro ρ1 H1 x e1 r1 d1
      cases eg : getS h1 v with
      | none => rw [eg] at q; exact q.elim
      | some ds =>
        rw [eg] at q
        obtain ⟨a, xs, rfl, sq, rs⟩ := rdS (K := X.K) r1 d1 eg
        refine ⟨a, xs, rfl, sq.symm, w, ρ1, env, h1, s.next e1 r1, ?_⟩
        dsimp only at q
        cases e' : as env h1 with
        | stuck => rw [e'] at q; exact q
        | exc x h2 => rw [e'] at q; exact Pst.ext (rel := RDs) q e1
        | ok u h2 =>
          rw [e', R.bind_ok] at q
          intro ρ2 H2 y e2 r2 d2
          exact q ρ2 H2 _ (e1.trans e2) r2 ((rs.mono e2).append d2)
theorem me_sortSet (hc : X.calm = true) (mt : Bool) {p p2 q : Pos} (hg : Gl X "sorted") (hm : X.mg "sorted" = none) (hg2 : Gl X "set") (hm2 : X.mg "set" = none) (ha : ME T X W a ma) (na : starEach [a] X.env = (false, eval a X.env) :: starEach [] X.env := by rfl) :
    ME T X W (.Call (.Name "sorted" p) [.Call (.Name "set" p2) [a] [] q] [] pos) (mSortSet mt ma) := by
  refine ⟨fun pins s σ H Q I ⟨w, ρ, env, h, st, qq⟩ => ?_⟩
  refine Call_ (ld_blt I hg hm PyProof.Rows.boot_sorted ?_)
  refine PyProof.Rows.callWith_builtin1 (PyProof.Rows.args_cons ?_ rfl) rfl rfl
  refine Call_ (ld_blt I hg2 hm2 PyProof.Rows.boot_set ?_)
  refine PyProof.Rows.callWith_type1 (PyProof.Rows.args_cons (thn (ha.run pins s σ H (fun x H1 => ∃ l ns, x = .ref l ∧ SqT X.K H1 l (ns.map V.int) ∧ ns.length < 64 ∧ ∀ p, H1 p = none → Q (.ref p) (L2.upd H1 p (.lst ((sortU ns).map V.int)))) I ⟨w, ρ, env, h, st, ?_⟩) fun v s1 ⟨x, H1, I1, r1, q1⟩ => PyProof.Rows.args_nil ?_) na) na rfl
  · unfold mSortSet at qq
    cases e : ma env h with
    | stuck => rw [e] at qq; exact qq
    | exc x h1 => rw [e] at qq; exact qq
    | ok v h1 =>
      rw [e, R.bind_ok] at qq
      intro ρ1 H1 x e1 r1 d1
      cases v with
      | tup xs =>
        dsimp only at qq
        cases ei : intsD xs with
        | none => rw [ei] at qq; exact qq.elim
        | some ns =>
          rw [ei] at qq
          dsimp only at qq
          by_cases hl : ns.length < 64
          · rw [if_pos hl] at qq
            obtain ⟨l, us, rfl, hl', rs⟩ := d1
            rw [intsD_some ei] at rs
            rw [rs.ints] at hl'
            exact ⟨l, ns, rfl, rd_tup hl', hl, fun p hp => mk_ok r1 (RDs.of_ints _) hp ((Pst.ofO qq).ext e1)⟩
          · rw [if_neg hl] at qq; exact qq.elim
      | _ => exact qq.elim
  · obtain ⟨l, ns, rfl, hq, hl, q1⟩ := q1
    cases r1
    obtain ⟨its, r, pl, hz⟩ := I1.tuple hq
    refine call_set_tupI (P := X.prog) (w := X.w) ns (I1.ok.hd hc) (show s1.heap.IsTuple l its.toArray from pl) (by simpa using r.ints) (by unfold scanBound; omega) fun h' tk c R hcl k => ?_
    have I2 : Inv X pins σ H1 { s1 with heap := h', toks := tk } := I1.kept k
    refine PyProof.Rows.args_nil ?_
    refine sorted_set (P := X.prog) R (I2.ok.hd hc) (by omega) fun s' p out c' ms k2 g o hp hg hi hs hm hlm => ?_
    have e : ms = sortU ns := sortU_uniq hs fun a => by rw [hm a]; simp
    subst e
    have hlen : ((sortU ns).map V.int).length ≤ sizeLine := by rw [List.length_map, hlm, sizeLine_eq]; omega
    have hn : H1 p = none := I2.hok.fresh hp
    have J : Inv X pins σ (L2.upd H1 p (.lst ((sortU ns).map V.int))) { ({ s1 with heap := h', toks := tk } : Shared) with heap := s'.heap, gens := s'.gens, drawn := s'.drawn, toks := s'.toks } :=
      I2.call (ch := []) (Un.laid k2 hp hn) (I2.hok.laid k2 hp ⟨hlen, out.toList, c', vals_of_ints hi, hg⟩) (by rw [g]; exact I2.bare) (fun _ z => nomatch z)
    have es : s' = { ({ s1 with heap := h', toks := tk } : Shared) with heap := s'.heap, gens := s'.gens, drawn := s'.drawn, toks := s'.toks } := by
      cases s'
      cases s1
      cases o
      rfl
    rw [es]
    exact ⟨.ref p, _, J, rfl, q1 p hn⟩
end
end Rf
namespace Rf
open PySem PySem.Spec PyProof.Rows L2

/-- the pairs of a locked dict of nested keys -/
def IteN (wo : World) (d : Addr) (od : Obj) (es : List (NestedKey × Addr × Value)) (xs : List V) : It :=
  ⟨fun i H => H d = some (.frz od (NdO wo d es)) ∧ i < es.length,
   fun i H v H' => ∃ T e x, v = .ref T ∧ H T = none ∧ es[i]? = some e ∧ xs[i]? = some x ∧ H' = L2.upd H T (.tup [.ref e.2.1, x]),
   fun i H => H d = some (.frz od (NdO wo d es)) ∧ es.length ≤ i⟩
theorem rawN {X : Cx} {pins : List (Addr × Obj)} {σ : L2.St} {s : Shared} {H : Hp} (I : Inv X pins σ H s) {wo : World} {d : Addr} {od : Obj} {es : List (NestedKey × Addr × Value)} (e : H d = some (.frz od (NdO wo d es))) :
    ∃ tb ep, od.data = .dict tb ep ∧ DT.Raw s.heap d tb ep ∧ tb.toList = es.map (nent wo) := by
  obtain ⟨h1, ⟨o, ep, tb, h2, h3, h4, h5⟩, _, _⟩ := I.hok d _ e
  rw [h1] at h2
  cases h2
  exact ⟨tb, ep, h4, ⟨od, h1, h3, h4⟩, h5⟩
theorem turn_itemsN {P : Program} {w wo : World} {K : PySem.W.Frag} {elts : List Expr} {kk : Nat} {tpos : Pos} {d : Addr} {od : Obj} {es : List (NestedKey × Addr × Value)} {xs : List V} {tb : Array DictEntry} {ep : Nat} (it : Addr) (rv : Vals xs (es.map (·.2.2))) (hod : od.data = .dict tb ep) :
    Turn P w K (.Tuple elts kk tpos) (IteN wo d od es xs) [it] it (fun i h => ∃ ok ov, IsItemIter h it d i tb.size ep ok ov) where
  mem := by simp
  obj := fun i h st b hb => by
    have e : b = it := by simpa using hb
    subst e
    obtain ⟨ok, ov, e⟩ := st
    exact ⟨_, e, fun v z => nomatch z⟩
  keep := fun i h h' st k => let ⟨ok, ov, e⟩ := st; ⟨ok, ov, k it (by simp) _ e⟩
  item := by
    intro X hP hw hK hc i pins s σ H E I hf st hg
    subst hP hw hK
    obtain ⟨hd, hi⟩ := hg
    obtain ⟨tb', ep', hdt, hm, ht⟩ := rawN I hd
    rw [hod] at hdt
    cases hdt
    obtain ⟨ok, ov, he⟩ := st
    have hl : tb.size = es.length := by
      have := congrArg List.length ht
      simpa using this
    have hit : i < tb.size := by omega
    have hlt : it < s.heap.objs.size := Heap.lt_size he
    have hge : tb[i] = nent wo es[i] := by
      have h1 : tb.toList[i]? = (es.map (nent wo))[i]? := by rw [ht]
      rw [List.getElem?_map, List.getElem?_eq_getElem hi] at h1
      rw [Array.getElem?_toList, Array.getElem?_eq_getElem hit] at h1
      exact Option.some.inj h1
    have hxl : i < xs.length := by rw [rv.length, List.length_map]; exact hi
    obtain ⟨u, hu, ru⟩ := rv.get (List.getElem?_eq_getElem hxl)
    rw [List.getElem?_map, List.getElem?_eq_getElem hi] at hu
    have hu : es[i].2.2 = u := Option.some.inj hu
    refine DT.nextI he hm hit fun h' ho hT hz hk => ?_
    rw [hge] at ho hT
    have ek : (nent wo es[i]).key = .ref es[i].2.1 := rfl
    have ev : (nent wo es[i]).val = es[i].2.2 := rfl
    rw [ek, ev, hu] at ho hT
    refine ⟨_, rfl, wpAny_letOwnedTupleGo_items (s := { s with heap := h' }) ho fun h'' he' sb => ?_⟩
    have hT2 : h''.get? s.heap.objs.size = some { cls := .type "tuple", data := .seq #[.ref es[i].2.1, u] } := (sb.2 _ (Nat.ne_of_gt hlt)).trans hT
    have new : ObjOk X.prog X.w (L2.upd H s.heap.objs.size (.tup [.ref es[i].2.1, xs[i]])) h'' s.heap.objs.size (.tup [.ref es[i].2.1, xs[i]]) :=
      ⟨by show 2 ≤ sizeLine; decide, [.ref es[i].2.1, u], .cons rfl (.cons ru .nil), ⟨_, hT2, rfl, _, rfl⟩⟩
    have I1 : Inv X pins σ (L2.upd H s.heap.objs.size (.tup [.ref es[i].2.1, xs[i]])) { s with heap := h'' } :=
      I.turnedNew (t' := s.toks) (ch := [it]) (fun b ob hb e => (sb.2 b (by simpa using hb)).trans (hk b ob (by simpa using hb) e)) hf (Nat.le_refl _) new
    refine ⟨.ref s.heap.objs.size, _, I1, rfl, ⟨_, es[i], xs[i], rfl, I.hok.fresh (Nat.le_refl _), List.getElem?_eq_getElem hi, List.getElem?_eq_getElem hxl, rfl⟩, ⟨_, _, he'⟩, fun b hb => ?_⟩
    have e : b = it := by simpa using hb
    rw [e, upd_ne (Nat.ne_of_lt hlt)]
    exact (hf it (by simp)).1
  done := by
    intro X hP hw hK hc i pins s σ H E I hf st hg
    subst hP hw hK
    obtain ⟨hd, hi⟩ := hg
    obtain ⟨f0, f1, f2, f3, f4, f5⟩ := hf it (by simp)
    obtain ⟨tb', ep', hdt, hm, ht⟩ := rawN I hd
    rw [hod] at hdt
    cases hdt
    obtain ⟨ok, ov, he⟩ := st
    have hl : tb.size = es.length := by
      have := congrArg List.length ht
      simpa using this
    exact DT.endI (I.ok.hd hc) he hm (by omega) fun h' eb => ⟨rfl, I.turned (t' := s.toks) (fun b ob hb e => eb b ob hb e) f0 f1 f3 f4 f5⟩
  self := fun A i s Q E st h => let ⟨_, _, e⟩ := st; PySem.W.kcp_self e h
section
variable {T : List (Addr × Str)} {X : Cx} {W : WX} {e : Expr} {ma : Me}
/-- for a, b in d.items(), d a dict of nested keys -/
theorem mi_itemsN {elts : List Expr} {kk : Nat} {tpos apos cpos : Pos} (p : ME T X W e ma) (hbase : attributeBase e "items" X.env (eval e X.env) = eval e X.env := by rfl) (hline : (apos.endLine == cpos.line) = true := by rfl) : MI T X W (.Tuple elts kk tpos) (.Call (.Attribute e "items" apos) [] [] cpos) (srcN ma) := by
  refine ⟨fun pins s σ H Rr I ⟨w, ρ, env, h, st, q⟩ => ?_⟩
  refine wpAny_Call_method (T := "dict") (id := "dict.items") hbase rfl hline F.plainAttrs_dict F.slot_dict_items F.type_dict_items (thn (p.run pins s σ H (fun x H1 => ∃ d es xs, x = .ref d ∧ H1 d = some (NdO X.w d es) ∧ Vals xs (es.map (·.2.2)) ∧ (d == sysModules) = false ∧ ∀ od, Rr (IteN X.w d od es xs) (L2.upd H1 d (.frz od (NdO X.w d es)))) I ⟨w, ρ, env, h, st, ?_⟩) fun u s1 ⟨x, H1, I1, rx, d, es, xs, ex, hd, rv, hs, q⟩ => ?_)
  · unfold srcN at q
    cases e : ma env h with
    | stuck => rw [e] at q; exact q
    | exc x h1 => rw [e] at q; exact fun ρ' H' e1 r1 => q ρ' H' e1 r1
    | ok d h1 =>
      rw [e, R.bind_ok] at q
      intro ρ1 H1 x e1 r1 d1
      cases d with
      | ref n =>
        dsimp only at q
        cases e2 : h1[n]? with
        | none => rw [e2] at q; exact q.elim
        | some ob =>
          rw [e2] at q
          cases ob with
          | gone => exact q.elim
          | lst _ => exact q.elim
          | dct _ _ _ => exact q.elim
          | dcn ks vs =>
            obtain ⟨a, ha⟩ := r1.live n _ e2 (by intro z; cases z)
            obtain ⟨na, nb, ob, h3, h4⟩ := r1.obj n a ha
            rw [e2] at h3; cases h3
            have hw : w.g.wo = X.w := by rw [st.g]; rfl
            obtain ⟨es, xs, z, k1, rk, rvs, rs, l1, l2, nd, dp⟩ := h4
            rw [hw] at z
            refine ⟨a, es, xs, d1.2 a ha, z, rvs, l2, fun od => ?_⟩
            obtain ⟨e3, r3⟩ := r1.freeze n
            have fz : Fz w (ρ1.set n none) a := ⟨fun m => by
              obtain ⟨j, hj⟩ := mem_get m
              by_cases hjn : j = n
              · subst hjn
                by_cases hl : j < ρ1.length
                · rw [List.getElem?_set_self hl] at hj; cases hj
                · rw [List.getElem?_eq_none (by simpa using hl)] at hj; cases hj
              · rw [List.getElem?_set_ne (Ne.symm hjn)] at hj
                exact hjn (r1.inj j n a hj ha), na, nb⟩
            obtain ⟨e4, r4⟩ := r3.lock (od := od) fz z (ndO_ok (ndO_any _ _ _))
            refine q _ _ _ ((e1.trans e3).trans e4) r4 ?_
            have rk' := rk.mono (e3.trans e4)
            have rs' := rs.mono (e3.trans e4)
            intro w' wx Hb nn i ρ2 h2 H2 ex rh hc
            have hz := nn.frz ex (a := a) (od := od) (u := NdO X.w a es) upd_same
            have rk2 := nn.rds ex rk'
            have rs2 := nn.rds ex rs'
            have lk := rk.length
            have lv := rs.length
            have lx := rvs.length
            rw [List.length_map] at lk lx
            refine ⟨fun k hk => ?_, fun hi => ⟨hz, by rw [zipD_length] at hi; omega⟩⟩
            obtain ⟨kd, vd, h5, h6, rfl⟩ := zipD_get hk
            obtain ⟨x1, hx1, rx1⟩ := rk2.get h5
            obtain ⟨x2, hx2, rx2⟩ := rs2.get h6
            have hi : i < ks.length := (List.getElem?_eq_some_iff.mp h5).1
            refine ⟨⟨hz, by omega⟩, fun y H3 hy => ?_⟩
            obtain ⟨T0, e0, x0, rfl, hT, g1, g2, rfl⟩ := hy
            rw [List.getElem?_map, g1] at hx1
            cases hx1
            rw [hx2] at g2
            cases g2
            exact pair_new rh hT rx1 rx2
      | _ => exact q.elim
  · subst ex
    obtain rfl : u = Value.ref d := rx
    obtain ⟨od, I2⟩ := I1.lock hd (by trivial)
    have hz : L2.upd H1 d (.frz od (NdO X.w d es)) d = some (.frz od (NdO X.w d es)) := upd_same
    obtain ⟨tb, ep, hdt, hm, ht⟩ := rawN I2 hz
    obtain ⟨o, ho, hc, hdat⟩ := id hm
    refine ⟨⟨o, ho, hc.1⟩, fun b z => by cases z; exact ⟨o, ho, hc.2.1⟩, ?_⟩
    have I3 : Inv X pins σ (L2.upd H1 d (.frz od (NdO X.w d es))) { s1 with heap := s1.heap.push { cls := .type "dict_items", data := .fields #[.ref d] } } := I2.kept (t' := s1.toks) fun b ob q => Heap.get?_push_of_some _ q
    have fin : wpAny (model X.prog X.w) X.A (pyIter (.ref s1.heap.objs.size)) (PIE X pins σ (.Tuple elts kk tpos) Rr) X.xe { s1 with heap := s1.heap.push { cls := .type "dict_items", data := .fields #[.ref d] } } := by
      refine DT.iterI (d := d) ⟨_, Heap.get?_push_size _ rfl, rfl, rfl⟩ (hm.push _) (pi_one (tk := s1.toks) I3 _ (turn_itemsN _ rv hdt) ⟨.none, .none, ?_⟩ (q od))
      exact Heap.get?_push_size _ rfl
    exact Calls.callWith_builtin rfl (PySem.evalArgs_none (DT.callItems hs hm fin))
end
end Rf
namespace Rf
open PySem PySem.Spec PyProof.Rows L2 L2H

/-! ### a comprehension where an exception is handled -/
section
variable {X : Cx}
theorem lc_coreH {px : Addr × Obj} {pins : List (Addr × Obj)} {s : Shared} {σ : L2.St} {H : Hp} {Q : VK} {elt tg iter : Expr} {ifs : List Expr} {scope : Scope} {own : List (Str × Nat)} {pos pos' : Pos} {wi : TI} {g : TG} {tt : TT} {te : TE} {use : Option (Value → Sem Unit)} {Qf : Value → Shared → Prop}
    (hot : Hot1 X.A px) (hpx : px ∈ X.pn) (hN : X.N.Nodup) (I : Inv X pins σ H s) (hi : PIH X tg iter wi) (ok : BlkOk X.N X.env.scope scope own)
    (hg : ∀ (s : Shared) (H : Hp) (C : Addr) (cl : List (Str × Addr)) (fp : List Addr), PG ((X.blk s H scope (compEnvC scope cl C X.env) fp).tr [px] (fun _ _ => False)) tg g) (ht : ∀ (s : Shared) (H : Hp) (C : Addr) (cl : List (Str × Addr)) (fp : List Addr), PTs ((X.blk s H scope (compEnvC scope cl C X.env) fp).tr [px] (fun _ _ => False)) ifs tt)
    (he : ∀ (s : Shared) (H : Hp) (C : Addr) (cl : List (Str × Addr)) (fp : List Addr), PE ((X.blk s H scope (compEnvC scope cl C X.env) fp).tr [px] (fun _ _ => False)) elt te) (hs : ∀ x, foldedSetIterable iter X.env x = pure x)
    (h : tLc wi g tt te (own.map (·.2)) σ H Q)
    (hRR : ∀ D C s' m H', Inv X pins σ H' s' → Q (.ref D) H' → s'.heap.Ns C m → FpOk X pins H' C → compPost (model X.prog X.w) X.A X.xe use Qf (.ref D) C (.ok .next) s') :
    wpAny (model X.prog X.w) X.A (comprehension (.ListComp elt [⟨tg, iter, ifs, 0⟩] scope pos) scope X.env pos' (newList []) false (eval iter X.env) use) Qf X.xe s := by
  have hfree : ∀ y ∈ scope.names, y.2 = .free → ∃ c, X.env.cells.lookup y.1 = some c := fun y hy e => by
    rcases ok.free y hy e with k | k
    · exact I.ok.has _ (.inl k)
    · exact I.ok.has _ (.inr k)
  refine wpAny_comprehension_free (use := use) rfl hs (closure_ok hfree) ok.kind (fun y hy e => by rw [ok.uniq y hy, e])
    (thn (hi.run pins s σ H _ I h) fun xv s1 hx => thn hx fun itv s2 h2 => ?_)
  obtain ⟨it, fp, tn, J, H2, e, I2, T, st2, f2, q⟩ := h2
  subst e
  refine wpAny_newObj_type (newEnv_comp ?_) (by show 0 ≤ sizeLine; decide)
  generalize hD : s2.heap.objs.size = D
  have hDn : H2 D = none := I2.hok.fresh (Nat.le_of_eq hD)
  obtain ⟨W, ⟨m0, w0⟩, turn⟩ := q D hDn
  -- the new list
  generalize hs3 : ({ s2 with heap := s2.heap.push { cls := .type "list", data := .seq ([] : List Value).toArray } } : Shared) = s3
  have I3 : Inv X pins σ (upd H2 D (.lst [])) s3 := by
    rw [← hs3]
    refine I2.laid (t' := s2.toks) (fun b o e => Heap.get?_push_of_some _ e) (Nat.le_of_eq hD) ⟨Nat.zero_le _, [], 0, .nil, ?_⟩
    rw [← hD]
    exact Heap.get?_push_size _ rfl
  have h3 : s3.heap = s2.heap.push { cls := .type "list", data := .seq ([] : List Value).toArray } := by rw [← hs3]
  have sz : ∀ b ∈ fp, b < s2.heap.objs.size := fun b hb => by
    obtain ⟨o, e, _⟩ := T.obj _ _ st2 b hb
    exact Heap.lt_size e
  have f3 : ∀ b ∈ fp, FpOk X pins (upd H2 D (.lst [])) b ∧ b < s3.heap.objs.size := fun b hb => by
    have hlt := sz b hb
    refine ⟨⟨?_, (f2 b hb).2⟩, by rw [h3, Heap.size_push]; exact Nat.lt_succ_of_lt hlt⟩
    rw [upd_ne (by rw [← hD]; exact Nat.ne_of_lt hlt)]
    exact (f2 b hb).1
  have st3 : tn 0 s3.heap := T.keep _ _ _ st2 fun b _ o e => by rw [h3]; exact Heap.get?_push_of_some _ e
  have I4 := block_start I3 ok hN f3
  have pg := hg s3 (upd H2 D (.lst [])) s3.heap.objs.size (cellsFrom (s3.heap.objs.size + 1) scope.names (cloFrom X.env.cells scope.names [])) fp
  have pt := ht s3 (upd H2 D (.lst [])) s3.heap.objs.size (cellsFrom (s3.heap.objs.size + 1) scope.names (cloFrom X.env.cells scope.names [])) fp
  have pe := he s3 (upd H2 D (.lst [])) s3.heap.objs.size (cellsFrom (s3.heap.objs.size + 1) scope.names (cloFrom X.env.cells scope.names [])) fp
  show codeAny _ _ (.compStart (.ListComp elt [⟨tg, iter, ifs, 0⟩] scope pos) 0 (.ref it) (.ref D) (compEnvC scope (cellsFrom (s3.heap.objs.size + 1) scope.names (cloFrom X.env.cells scope.names [])) s3.heap.objs.size X.env)) (compPost (model X.prog X.w) X.A X.xe use Qf (.ref D) s3.heap.objs.size) { s3 with heap := pushCells (s3.heap.push { cls := .type "dict", data := .dict #[] }) scope.names }
  have nfp : ∀ b ∈ fp, (upd H2 D (.lst [])) b = none := fun b hb => (f3 b hb).1.1
  generalize hce : compEnvC scope (cellsFrom (s3.heap.objs.size + 1) scope.names (cloFrom X.env.cells scope.names [])) s3.heap.objs.size X.env = ce at I4 pg pt pe ⊢
  have cL : ce.locals = s3.heap.objs.size := by subst hce; rfl
  generalize hH3 : upd H2 D (.lst []) = H3 at I3 I4 pg pt pe w0 nfp f3
  have pin3 := I3.pin px (List.mem_append_left _ hpx)
  have I4 : Inv ((X.blk s3 H3 scope ce fp).tr [px] (fun _ _ => False)) [] (wipe σ (own.map (·.2))) H3 { s3 with heap := pushCells (s3.heap.push { cls := .type "dict", data := .dict #[] }) scope.names } :=
    (I4.pins_of (pins' := [px]) fun p hp => by
      have e : p = px := by simpa using hp
      subst e
      refine ⟨pushCells_keeps _ _ _ _ (Heap.get?_push_of_some _ pin3.1), pin3.2.1, fun z => ?_, fun z => ?_, pin3.2.2.2.2⟩
      · have z : p.1 = ce.locals := z
        rw [cL] at z
        have := Heap.lt_size pin3.1
        rw [z] at this
        exact Nat.lt_irrefl _ this
      · rcases List.mem_cons.mp (I3.stkSub _ z) with e | e
        · exact pin3.2.2.1 e
        · exact pin3.2.2.2.1 e).toTry _
  generalize hs4 : ({ s3 with heap := pushCells (s3.heap.push { cls := .type "dict", data := .dict #[] }) scope.names } : Shared) = s4 at I4 ⊢
  have st4 : tn 0 s4.heap := T.keep _ _ _ st3 fun b _ o e => by rw [← hs4]; exact pushCells_keeps _ _ _ _ (Heap.get?_push_of_some _ e)
  have stat : ∀ {σ' : L2.St} {H' : Hp} {s' : Shared}, Inv ((X.blk s3 H3 scope ce fp).tr [px] (fun _ _ => False)) [] σ' H' s' → (∀ b ∈ fp, H' b = none) → ∀ b ∈ fp, FpOk ((X.blk s3 H3 scope ce fp).tr [px] (fun _ _ => False)) [] H' b := fun {σ' H' s'} I' hn b hb =>
    ⟨hn b hb, (I'.ok.exf b hb).1, I'.ok.exfs b hb, .inl hb, fun x c e => (I'.ok.exf b hb).2 x c e, fun p hp => by
      have e : p = px := by simpa using hp
      rw [e]
      exact (f3 b hb).1.2.2.2.2.2 px (List.mem_append_left _ hpx)⟩
  have loop : codeAny (model X.prog X.w) X.A (.compLoop (.ListComp elt [⟨tg, iter, ifs, 0⟩] scope pos) 0 (.ref it) (.ref D) ce) (compPost (model X.prog X.w) X.A X.xe use Qf (.ref D) s3.heap.objs.size) s4 := by
    refine compLoop_any (fun n s' => ∃ i H', Inv ((X.blk s3 H3 scope ce fp).tr [px] (fun _ _ => False)) [] (wipe σ (own.map (·.2))) H' s' ∧ tn i s'.heap ∧ (∀ b ∈ fp, H' b = none) ∧ W i n H') ?_ m0 ⟨0, H3, I4, st4, nfp, w0⟩
    rintro n s5 ⟨i, H5, I5, st5, n5, w5⟩
    rcases turn i n H5 w5 with ⟨stop, qq⟩ | ⟨go, Nx, hNx, step⟩
    · have td := T.done ((X.blk s3 H3 scope ce fp).tr [px] (fun _ _ => False)) rfl rfl rfl ⟨px, hot, List.mem_singleton.mpr rfl⟩ i [] s5 _ H5 (fun _ _ => False) I5 (stat I5 n5) st5 stop
      refine thnF td fun r s6 ⟨hr, I6⟩ => ?_
      subst hr
      -- back in the def's context
      have I7 : Inv X pins σ H5 s6 := I3.call' (ch := fp) I6.os I6.base I6.hok I6.bare fun b hb => ⟨(f3 b hb).1.2.2.2.1, (f3 b hb).1.2.1, (f3 b hb).1.2.2.2.2.1, (f3 b hb).1.2.2.2.2.2⟩
      have nC : H5 s3.heap.objs.size = none := by
        have z : H5 ce.locals = none := I6.free
        rw [cL] at z
        exact z
      obtain ⟨m, hn, _⟩ := I6.loc
      have hn : s6.heap.Ns ce.locals m := hn
      rw [cL] at hn
      exact hRR D s3.heap.objs.size s6 m H5 I7 qq hn (I3.fpOk (Nat.le_refl _) nC)
    · have ti := T.item ((X.blk s3 H3 scope ce fp).tr [px] (fun _ _ => False)) rfl rfl rfl ⟨px, hot, List.mem_singleton.mpr rfl⟩ i [] s5 _ H5 (fun _ _ => False) I5 (stat I5 n5) st5 go
      refine thnF ti fun r s6 ⟨u, hr, h6⟩ => ?_
      subst hr
      refine thnF h6 fun _ s7 ⟨x, H7, I7, r7, y7, st7, n7⟩ => ?_
      have I7' := I7.pinned (stat I7 n7) (T.obj _ _ st7)
      refine thnF (pg.run _ s7 _ H7 x u _ I7' r7 (step x H7 y7)) fun _ s8 ⟨σ8, H8, I8, hw8, q8⟩ => ?_
      refine thnF (pt.run _ s8 σ8 H8 _ I8 q8) fun b s9 ⟨H9, I9, q9⟩ => ?_
      -- the turn's end
      have fin : ∀ {s' : Shared} {H' : Hp}, Inv ((X.blk s3 H3 scope ce fp).tr [px] (fun _ _ => False)) ([] ++ pinsAt fp s7.heap) σ8 H' s' → Nx H' → ∃ m, m < n ∧ ∃ i H', Inv ((X.blk s3 H3 scope ce fp).tr [px] (fun _ _ => False)) [] (wipe σ (own.map (·.2))) H' s' ∧ tn i s'.heap ∧ (∀ b ∈ fp, H' b = none) ∧ W i m H' := fun {s' H'} I' nx => by
        obtain ⟨m', hm, w'⟩ := hNx H' nx
        have pin' : ∀ b ∈ fp, ∀ o, s7.heap.get? b = some o → s'.heap.get? b = some o ∧ H' b = none := fun b hb o e =>
          let z := I'.pin (b, o) (List.mem_append_right _ (List.mem_append_right _ (mem_pinsAt hb e)))
          ⟨z.1, z.2.1⟩
        have hl : (wipe σ (own.map (·.2))).length = σ8.length := by rw [← hw8, wipe_length]
        refine ⟨m', hm, i + 1, H', (I'.unpinned (pins := [])).weak hl (fun j v e => ?_), T.keep _ _ _ st7 fun b hb o e => (pin' b hb o e).1, fun b hb => ?_, w'⟩
        · rw [← hw8] at e
          exact (wipe_some e).1
        · obtain ⟨o, e, _⟩ := T.obj _ _ st7 b hb
          exact (pin' b hb o e).2
      cases b with
      | false =>
        simp only [Bool.false_eq_true, if_false] at q9 ⊢
        exact fin I9 q9
      | true =>
        simp only [if_true] at q9 ⊢
        refine thnF (pe.run _ s9 σ8 H9 _ I9 q9) fun z s10 ⟨yv, H10, I10, r10, acc, hD10, hz10, nx⟩ => ?_
        exact app_ok (X := (X.blk s3 H3 scope ce fp).tr [px] (fun _ _ => False)) I10 hD10 hz10 r10 fun s11 I11 => fin I11 nx
  exact codeAny_compStart_list loop (T.self X.A 0 _ _ _ st4 loop)

end
section
variable {T : List (Addr × Str)} {X : Cx} {W : WX} {as : Ma} {tg : Expr} {pos : Pos}
theorem mi_range1H {a : Expr} {p : Pos} (hg : Gl X "range") (hm : X.mg "range" = none) (ha : MA T X W [a] as) (hs : starEach [a] X.env = [(false, eval a X.env)] := by rfl) : PIH X tg (.Call (.Name "range" p) [a] [] pos) (tIm T X W (srcR1 as)) :=
  ⟨fun pins s σ H Rr I ⟨w, ρ, env, h, st, q⟩ => (pi_range1H hg hm ha hs).run pins s σ H Rr I (by
    refine ⟨w, ρ, env, h, st, ?_⟩
    unfold srcR1 at q
    cases e : as env h with
    | stuck => rw [e] at q; exact q
    | exc x h1 => rw [e] at q; exact fun ρ' H' e1 r1 => q ρ' H' e1 r1
    | ok d h1 =>
      rw [e, R.bind_ok] at q
      intro ρ1 H1 x e1 r1 d1
      cases ei : int1 d with
      | none => rw [ei] at q; exact q.elim
      | some j =>
        rw [ei] at q
        rw [int1_some ei] at d1
        dsimp only at q
        obtain ⟨x1, r, rfl, dj, er⟩ := d1
        have er : r = [] := er
        have dj : x1 = .int j := dj
        subst er dj
        by_cases hj : okR j = true
        · rw [if_pos hj] at q
          obtain ⟨g1, g2⟩ := okR_ok hj
          exact ⟨j, rfl, g1, g2, q ρ1 H1 _ e1 r1 it_range⟩
        · rw [if_neg hj] at q; exact q.elim)⟩
theorem me_lcH {px : Addr × Obj} {elt iter : Expr} {ifs : List Expr} {scope : Scope} {own : List (Str × Nat)} {is : List Nat} {src : Ev → Hh → R Src} {g : Mg} {t : Mt} {m : Me} (mt : Bool) (hot : Hot1 X.A px) (hpx : px ∈ X.pn) (hN : X.N.Nodup) (hi : PIH X tg iter (tIm T X W src)) (ok : BlkOk X.N X.env.scope scope own)
    (hg : ∀ (s : Shared) (H : Hp) (C : Addr) (cl : List (Str × Addr)) (fp : List Addr), MG T ((X.blk s H scope (compEnvC scope cl C X.env) fp).tr [px] (fun _ _ => False)) is tg g) (ht : ∀ (s : Shared) (H : Hp) (C : Addr) (cl : List (Str × Addr)) (fp : List Addr), MTs T ((X.blk s H scope (compEnvC scope cl C X.env) fp).tr [px] (fun _ _ => False)) W0 ifs t)
    (he : ∀ (s : Shared) (H : Hp) (C : Addr) (cl : List (Str × Addr)) (fp : List Addr), ME T ((X.blk s H scope (compEnvC scope cl C X.env) fp).tr [px] (fun _ _ => False)) W0 elt m) (his : ∀ i ∈ is, i ∈ own.map (·.2) := by decide) (hs : ∀ x, foldedSetIterable iter X.env x = pure x := by intro _; rfl) :
    ME T X W (.ListComp elt [⟨tg, iter, ifs, 0⟩] scope pos) (mComp mt src g t m (own.map (·.2))) := by
  refine ⟨fun pins s σ H Q I h => ?_⟩
  rw [eval_ListComp]
  have h2 := comp_imp (is := is) his h
  refine lc_coreH (g := tG T X is g) (tt := tTm T X W0 t) (te := tM T X W0 m) hot hpx hN I hi ok hg ht he hs h2 fun D C s' m H' I' q hn f => ⟨m, hn, fun h'' sb => ?_⟩
  obtain ⟨f0, f1, f2, f3, f4, f5⟩ := f
  exact ⟨.ref D, H', I'.turned (t' := s'.toks) (fun b o hb e => (sb.2 b hb).trans e) f0 f1 f3 f4 f5, rfl, q⟩
end
end Rf
namespace Rf
open PySem PySem.Spec PyProof.Rows L2 LamX

/-! ### a lambda handed to a def: no parameter, or one that has its default -/
/-- all but the tables stay, nothing goes -/
def ExtT (H H' : Hp) : Prop := ExtN H H' ∧ ∀ b, H b ≠ none → H' b ≠ none
/-- its names: captured ones, globals, and its parameter -/
structure LamS1 (N : List Str) (sc scope : Scope) : Prop where
  kind : scope.kind = .function
  co : scope.isCoroutine = false
  gen : scope.isGenerator = false
  own : ∀ y ∈ scope.names, y.2 ≠ .cell ∧ (y.2 = .local → y.1 ∉ N)
  free : ∀ y ∈ scope.names, y.2 = .free → sc.names.lookup y.1 = some .cell ∨ sc.names.lookup y.1 = some .free
def lamS1B (N : List Str) (sc scope : Scope) : Bool :=
  decide (scope.kind = .function) && !scope.isCoroutine && !scope.isGenerator && scope.names.all fun y => !decide (y.2 = .cell) && (!decide (y.2 = .local) || !decide (y.1 ∈ N)) && (!decide (y.2 = .free) || decide (sc.names.lookup y.1 = some .cell) || decide (sc.names.lookup y.1 = some .free))
theorem lamS1_by {N : List Str} {sc scope : Scope} (h : lamS1B N sc scope = true) : LamS1 N sc scope := by
  unfold lamS1B at h
  simp only [Bool.and_eq_true, Bool.or_eq_true, Bool.not_eq_true', decide_eq_true_eq, decide_eq_false_iff_not, List.all_eq_true] at h
  obtain ⟨⟨⟨h1, h2⟩, h3⟩, h4⟩ := h
  refine ⟨h1, h2, h3, fun y hy => ⟨(h4 y hy).1.1, fun e => ?_⟩, fun y hy e => ?_⟩
  · exact (h4 y hy).1.2.elim (fun z => absurd e z) id
  · rcases (h4 y hy).2 with (z | z) | z
    · exact absurd e z
    · exact .inl z
    · exact .inr z
/-- its parameters -/
inductive LamP (params : Arguments) (body : Expr) (scope : Scope) : List Str → Prop
  | no (hd : params.defaults = []) (hk : params.kw_defaults = []) (hb : ∀ (q : Str) (cl : List (Str × Addr)) (doc pm cv ctv : Value), bindArgs (PySem.W.kdv_fn "<lambda>" q params (.expr body) scope cl .none doc pm cv ctv) ⟨[], []⟩ = pure []) : LamP params body scope []
  | one (a : Str) (i : Int) (j : Nat) (p : Pos) (hd : params.defaults = [.Constant (.int i) j p]) (hk : params.kw_defaults = [])
      (hb : ∀ (q : Str) (cl : List (Str × Addr)) (dV doc pm cv ctv : Value), ∃ k : Option (Array Value) → Sem (List (Str × Value)), bindArgs (PySem.W.kdv_fn "<lambda>" q params (.expr body) scope cl dV doc pm cv ctv) ⟨[], []⟩ = seqItems? dV >>= k ∧ ∀ v : Value, k (some #[v]) = pure [(a, v)])
      (hl : scope.names.lookup a = some .local) : LamP params body scope [a]
/-- its defaults' tuple -/
def DfOk (H : Hp) (h : Heap) (fs : List Addr) (dV : Value) : List Str → Prop
  | [] => dV = .none
  | _ => ∃ (T0 : Addr) (v : Value), dV = .ref T0 ∧ h.get? T0 = some (PySem.W.kdv_tup [v]) ∧ H T0 = none ∧ T0 ∉ fs
abbrev lamObj (qual : Str) (params : Arguments) (body : Expr) (scope : Scope) (cl : List (Str × Addr)) (dV doc pm : Value) (c' : Addr) (ctv : Value) : Obj := PySem.W.kdv_obj "<lambda>" qual params (.expr body) scope cl dV doc pm c' ctv
section
variable {X : Cx} {pins : List (Addr × Obj)} {σ : L2.St} {H : Hp} {s : Shared}
theorem defaultsOf0 {params : Arguments} {env : Env} (hd : params.defaults = []) (hk : params.kw_defaults = []) : defaultsOf params env = ([], []) := by
  rw [defaultsOf_eq, hd, hk]; rfl
/-- the tail of its making -/
theorem lam_tail {T : List (Addr × Str)} {c P : Addr} {params : Arguments} {body : Expr} {scope : Scope} {pos : Pos} {dV : Value} {E : Value → Shared → Prop} {Q : Value → Shared → Prop} (I : Inv X pins σ H s) (TB : TabB X.base X.mg c P) (hcode : X.env.code = .ref c)
    (hm : (P, X.env.qual ++ "<lambda>") ∈ T) (hu : ∀ p ∈ T, p.1 = P → p.2 = X.env.qual ++ "<lambda>") (hT : Tabs T H) (hfree : ∀ y ∈ scope.names, y.2 = .free → ∃ c, X.env.cells.lookup y.1 = some c)
    (h : ∀ (f c' : Addr) (doc pm ctv : Value) (H1 : Hp) (s' : Shared), Inv X pins σ H1 s' → ExtT H H1 → Tabs T H1 → (∀ b o, s.heap.get? b = some o → H b = none → s'.heap.get? b = some o ∧ H1 b = none) →
      s'.heap.get? f = some (lamObj (X.env.qual ++ "<lambda>") params body scope (cloFrom X.env.cells scope.names []) dV doc pm c' ctv) → H1 f = none → f ∉ frs X.stack → H1 c' = some (CodeO c' (X.env.qual ++ "<lambda>")) → Q (.ref f) s') :
    wpAny (model X.prog X.w) X.A (makeTail "<lambda>" (X.env.qual ++ "<lambda>") params (.expr body) scope X.env dV .none none pos pos.line) Q E s := by
  obtain ⟨ps, hP, ht, ha⟩ := hT _ hm
  have bP : s.heap.BuiltinsAt X.mg P := TB.bm.keeps I.bk
  have hP' : s.heap.get? P = some { cls := .none, data := .fields ps } := I.hok P _ hP
  have nofr : ∀ f, s.heap.objs.size ≤ f → f ∉ frs X.stack := fun f hf z => by
    rcases List.mem_cons.mp (I.stkSub _ z) with e | e
    · have h1 := I.lt
      rw [← e] at h1
      exact Nat.lt_irrefl _ (Nat.lt_of_lt_of_le h1 hf)
    · exact I.nofs hf e
  cases hc : codeAmong pos ps.toList with
  | none =>
    refine PySem.W.kdv_makeTail (mg := X.mg) (c := c) (P := P) (ps := ps) (closure_ok hfree) I.ok.glob (I.mod.glob.keeps I.bk) hcode (TB.code.keeps I.bk) hP' ht hc TB.gP bP fun c' ctv doc h' tk hx hge hlt hrec htb => ?_
    obtain ⟨c2, oc, vs, t, e2, hoc, hd, hv⟩ := hrec
    cases e2
    have hsz : s.heap.objs.size ≤ h'.objs.size := Nat.le_trans hge (Nat.le_of_lt hlt)
    have nC : H c' = none := I.hok.fresh hge
    have I1 := inv_table (t' := tk) (more := #[rawInt pos.line, rawInt pos.col, .ref c']) (h' := h'.push (lamObj (X.env.qual ++ "<lambda>") params body scope (cloFrom X.env.cells scope.names []) dV doc ((X.mg "__name__").getD .none) c' ctv)) I hP
      (fun b o hb e => Heap.get?_push_of_some _ (hx b o hb e)) (Heap.get?_push_of_some _ htb) hge ⟨oc, vs, t, Heap.get?_push_of_some _ hoc, hd, hv⟩
    have hE : ExtN H (L2.upd (L2.upd H P (.tbl (ps ++ #[rawInt pos.line, rawInt pos.col, .ref c']))) c' (CodeO c' (X.env.qual ++ "<lambda>"))) := fun b o e n => by
      rw [upd_ne (ne_of_none e nC), upd_ne (fun z => n ps (Option.some.inj (e.symm.trans (by rw [z]; exact hP))))]
      exact e
    have eL : (ps ++ #[rawInt pos.line, rawInt pos.col, .ref c']).toList = ps.toList ++ [rawInt pos.line, rawInt pos.col, .ref c'] := by simp
    refine h h'.objs.size c' doc ((X.mg "__name__").getD .none) ctv _ _ I1 ⟨hE, fun b hb => ?_⟩ (fun p hp => ?_) (fun b o e n => ⟨Heap.get?_push_of_some _ (hx b o (fun z => by rw [z, hP] at n; cases n) e), ?_⟩) (Heap.get?_push_size _ rfl) ?_ (nofr _ hsz) upd_same
    · by_cases e1 : b = c'
      · rw [e1, upd_same]; simp
      · rw [upd_ne e1]
        by_cases e2 : b = P
        · rw [e2, upd_same]; simp
        · rw [upd_ne e2]; exact hb
    · by_cases hb : p.1 = P
      · rw [hu p hp hb, hb]
        refine ⟨_, by rw [upd_ne (ne_of_none hP nC), upd_same], by rw [eL]; exact PySem.TriplesOk_snoc _ _ _ _ ht, fun p' cv hcv => ?_⟩
        rw [eL] at hcv
        rcases among_app _ ht hcv with z | z
        · obtain ⟨c0, e1, e2⟩ := ha p' cv z
          exact ⟨c0, e1, hE _ _ e2 codeO_ne⟩
        · exact ⟨c', z, upd_same⟩
      · obtain ⟨ps', a1, a2, a3⟩ := hT p hp
        refine ⟨ps', by rw [upd_ne (ne_of_none a1 nC), upd_ne hb]; exact a1, a2, fun p' cv hcv => ?_⟩
        obtain ⟨c0, e1, e2⟩ := a3 p' cv hcv
        exact ⟨c0, e1, hE _ _ e2 codeO_ne⟩
    · have n1 : b ≠ c' := fun z => by
        have := Heap.lt_size e
        rw [z] at this
        exact Nat.lt_irrefl _ (Nat.lt_of_lt_of_le this hge)
      rw [upd_ne n1, upd_ne (fun z => by rw [z, hP] at n; cases n)]
      exact n
    · have n1 : h'.objs.size ≠ c' := Nat.ne_of_gt hlt
      have n2 : h'.objs.size ≠ P := Nat.ne_of_gt (Nat.lt_of_lt_of_le (Heap.lt_size hP') hsz)
      rw [upd_ne n1, upd_ne n2]
      exact I.hok.fresh hsz
  | some cv =>
    obtain ⟨c', e, hco⟩ := ha pos cv hc
    subst e
    refine PySem.W.kdv_makeTailHit (mg := X.mg) (c := c) (P := P) (ps := ps) (closure_ok hfree) I.ok.glob (I.mod.glob.keeps I.bk) hcode (TB.code.keeps I.bk) hP' ht hc bP fun ctv doc h' tk hx hsz => ?_
    have I1 : Inv X pins σ H { s with heap := h'.push (lamObj (X.env.qual ++ "<lambda>") params body scope (cloFrom X.env.cells scope.names []) dV doc ((X.mg "__name__").getD .none) c' ctv), toks := tk } := I.kept fun b o e => Heap.get?_push_of_some _ (hx b o e)
    exact h h'.objs.size c' doc ((X.mg "__name__").getD .none) ctv H _ I1 ⟨ExtN.refl H, fun _ z => z⟩ hT (fun b o e n => ⟨Heap.get?_push_of_some _ (hx b o e), n⟩) (Heap.get?_push_size _ rfl) (I.hok.fresh hsz) (nofr _ hsz) hco
theorem lam_make3 {T : List (Addr × Str)} {c P : Addr} {params : Arguments} {body : Expr} {scope : Scope} {pos : Pos} {as : List Str} {E : Value → Shared → Prop} {Q : Value → Shared → Prop} (I : Inv X pins σ H s) (TB : TabB X.base X.mg c P) (hcode : X.env.code = .ref c)
    (hm : (P, X.env.qual ++ "<lambda>") ∈ T) (hu : ∀ p ∈ T, p.1 = P → p.2 = X.env.qual ++ "<lambda>") (hT : Tabs T H) (hp : LamP params body scope as) (hfree : ∀ y ∈ scope.names, y.2 = .free → ∃ c, X.env.cells.lookup y.1 = some c)
    (h : ∀ (f c' : Addr) (dV doc pm ctv : Value) (H1 : Hp) (s' : Shared), Inv X pins σ H1 s' → ExtT H H1 → Tabs T H1 → DfOk H1 s'.heap (frs X.stack) dV as →
      s'.heap.get? f = some (lamObj (X.env.qual ++ "<lambda>") params body scope (cloFrom X.env.cells scope.names []) dV doc pm c' ctv) → H1 f = none → f ∉ frs X.stack → H1 c' = some (CodeO c' (X.env.qual ++ "<lambda>")) → Q (.ref f) s') :
    wpAny (model X.prog X.w) X.A (eval (.Lambda params body scope pos) X.env) Q E s := by
  cases hp with
  | no hd hk hb =>
    refine PySem.W.kla_eval (defaultsOf0 hd hk) ?_
    rw [makeFunction_eq]
    simp only [List.zip_nil_right, List.filterMap_nil, List.isEmpty_nil, if_true, pure_bind]
    exact lam_tail I TB hcode hm hu hT hfree fun f c' doc pm ctv H1 s' I1 eT T1 _ hf hfn hfr hco => h f c' .none doc pm ctv H1 s' I1 eT T1 rfl hf hfn hfr hco
  | one a i j p hd hk hb hl =>
    refine PySem.W.kdv_lam (by rw [hd]; rfl) hk ?_
    rw [hd]
    refine PySem.W.kdv_all1 (wpAny_Constant_int (PySem.W.kdv_all0 ?_))
    rw [makeFunction_eq]
    simp only [List.zip_nil_right, List.filterMap_nil, List.isEmpty_nil, if_true, pure_bind, List.isEmpty_cons, Bool.false_eq_true, if_false]
    refine wpAny_bind (wpAny_newTextTuple ?_)
    have I0 := I.tok (s.toks + 1)
    have I1 : Inv X pins σ H { s with heap := s.heap.push { cls := .type "tuple", data := .seq [Value.int i s.toks].toArray }, toks := s.toks + 1 } := I.kept (t' := s.toks + 1) fun b o e => Heap.get?_push_of_some _ e
    have nofr : s.heap.objs.size ∉ frs X.stack := fun z => by
      rcases List.mem_cons.mp (I.stkSub _ z) with e | e
      · have h1 := I.lt
        rw [← e] at h1
        exact Nat.lt_irrefl _ h1
      · exact I.nofs (Nat.le_refl _) e
    refine lam_tail I1 TB hcode hm hu hT hfree fun f c' doc pm ctv H1 s' I2 eT T1 kp hf hfn hfr hco => h f c' _ doc pm ctv H1 s' I2 eT T1 ?_ hf hfn hfr hco
    obtain ⟨k1, k2⟩ := kp s.heap.objs.size _ (Heap.get?_push_size _ rfl) (I.hok.fresh (Nat.le_refl _))
    exact ⟨s.heap.objs.size, .int i s.toks, rfl, k1, k2, nofr⟩
end
/-- the context of the lambda's body, its exceptions bear no context -/
def lamCxN (X : Cx) (A : Around) (outer : List Env) (s : Shared) (H : Hp) (E : XK) (scope : Scope) (f c' : Addr) : Cx :=
  { lamCx X A outer s H E scope f c' with
    xe := fun e s' => wpAny (model X.prog X.w) (A.deeper (lamEnv X scope s.heap.objs.size f c')) (leaving (lamEnv X scope s.heap.objs.size f c') e) (fun _ s'' => L2N.CX X.prog X.w outer H s E e s'') (fun e' s'' => L2N.CX X.prog X.w outer H s E e' s'') s' }
section
variable {X : Cx} {pins : List (Addr × Obj)} {σ : L2.St} {H HZ : Hp} {s s1 : Shared}
theorem lam_start3 {A : Around} {outer : List Env} {E : XK} {scope : Scope} {f c' : Addr} {h₁ : Heap} {tk : Nat} {binds : List (Str × Value)} (I : Inv X pins σ H s) (L : LamS1 X.N X.env.scope scope) (e0 : Env0 X.prog X.w X.K X.mg X.base A outer s1 HZ) (hd : A.handled = none)
    (un : Un (frs X.stack) [] H HZ s.heap s1.heap) (hns : h₁.Ns s1.heap.objs.size fun y => binds.reverse.lookup y) (kp : ∀ b o, s1.heap.get? b = some o → h₁.get? b = some o) :
    Inv (lamCxN X A outer s1 HZ E scope f c') [] σ HZ { s1 with heap := h₁, toks := tk } := by
  have hfree : ∀ y ∈ scope.names, y.2 = .free → ∃ c, X.env.cells.lookup y.1 = some c := fun y hy e => by
    rcases L.free y hy e with k | k
    · exact I.ok.has _ (.inl k)
    · exact I.ok.has _ (.inr k)
  have cm : ∀ {y c}, (cloFrom X.env.cells scope.names []).lookup y = some c → X.env.cells.lookup y = some c := fun {y c} e => by
    rcases cloFrom_mem (PySem.mem_of_lookup e) with hm | ⟨h1, h2⟩
    · cases hm
    · obtain ⟨c1, hc⟩ := hfree _ h1 rfl
      have hc : X.env.cells.lookup y = some c1 := hc
      have e2 : c = c1 := by
        rw [h2, hc] <;> rfl
      rw [e2]
      exact hc
  have look : ∀ {y}, scope.names.lookup y = some .free → ∃ c, (cloFrom X.env.cells scope.names []).lookup y = some c := fun {y} hl => by
    have hy : (y, NameKind.free) ∈ scope.names := PySem.mem_of_lookup hl
    exact mem_lookup (cloFrom_has (cells := X.env.cells) (acc := []) hy)
  have cellK : ∀ {c : Addr} {v : Option Value}, H c = none → s.heap.IsCell c v → h₁.IsCell c v := fun {c v} n ⟨o, ho, hd⟩ => by
    obtain ⟨sl, q⟩ := un.any ho n (by simp)
    exact ⟨_, kp _ _ q, hd⟩
  have noA : ∀ b : Addr, b ∉ (lamCxN X A outer s1 HZ E scope f c').ex := fun b z => absurd (show b ∈ ([] : List Addr) from z) (by simp)
  refine ⟨⟨e0.mod, L.kind, rfl, rfl, Nat.le_refl _, fun y z c e1 e2 => I.ok.inj y z c (cm e1) (cm e2), fun y hy => ?_, fun y c z _ => ?_, fun _ => hd, Around.frames_deeper e0.frames, .inr ⟨rfl, rfl⟩, fun b z => absurd z (noA b), e0.bs, e0.bsz, fun b _ _ => noA b,
      fun b z => absurd z (noA b), e0.funs, e0.frf⟩,
    rfl, e0.bare, Un.kept kp, ⟨_, hns, fun i y v e1 e2 e3 => ?_⟩, fun y c e => ?_, e0.hok.fresh (Nat.le_refl _), fun y c e => ?_, fun q hq => absurd (show q ∈ ([] : List (Addr × Obj)) ++ [] from hq) (by simp), e0.hok.kept kp, I.len⟩
  · have hy : scope.names.lookup y = some .cell ∨ scope.names.lookup y = some .free := hy
    rcases hy with hy | hy
    · exact absurd rfl (L.own _ (PySem.mem_of_lookup hy)).1
    · exact look hy
  · have z : false = true := z
    cases z
  · have e3 : Vis scope y := e3
    have e1 : X.N[i]? = some y := e1
    rcases e3 with k | k | k
    · exact absurd (List.mem_of_getElem? e1) ((L.own _ (PySem.mem_of_lookup k)).2 rfl)
    · exact absurd rfl (L.own _ (PySem.mem_of_lookup k)).1
    · obtain ⟨m, hn, hl⟩ := I.loc
      have hvis : Vis X.env.scope y := (L.free _ (PySem.mem_of_lookup k) rfl).elim (fun k => .inr (.inl k)) (fun k => .inr (.inr k))
      obtain ⟨w', r, q⟩ := hl i y v e1 e2 hvis
      obtain ⟨c2, h2⟩ := look k
      refine ⟨w', r, .inr ⟨.inr k, c2, h2, ?_⟩⟩
      have c1 := cm h2
      rcases q with ⟨k', _⟩ | ⟨_, c3, e', z⟩
      · have k' : X.env.scope.names.lookup y = some .local := k'
        rcases L.free _ (PySem.mem_of_lookup k) rfl with k2 | k2 <;> rw [show X.env.scope.names.lookup y = _ from k2] at k' <;> cases k'
      · rw [c1] at e'
        cases e'
        exact cellK (I.freeC y _ c1) z
  · obtain ⟨w', z⟩ := I.cell y c (cm e)
    exact ⟨w', cellK (I.freeC y c (cm e)) z⟩
  · obtain ⟨v, o, ho, hd⟩ := I.cell y c (cm e)
    exact un.free c o ho (I.freeC y c (cm e)) (by simp)
/-- x(), in the def that got the lambda -/
theorem pe_act3 {CXg : CXT} {Eg : XK} {Ng : List Str} {qg : Str} {sg : Scope} {g f c' : Addr} {cdg dV doc pm ctv : Value} {params : Arguments} {body : Expr} {scope : Scope} {as : List Str} {k i : Nat} {a : Str} {pn : List (Addr × Obj)} {xe : Value → Shared → Prop} {W : WX} {E : XK} {tb : TE} {p1 p2 : Pos}
    (I : Inv X pins σ H s) (L : LamS1 X.N X.env.scope scope) (lp : LamP params body scope as) (df : DfOk H s.heap (frs X.stack) dV as) (hf : s.heap.get? f = some (lamObj (X.env.qual ++ "<lambda>") params body scope (cloFrom X.env.cells scope.names []) dV doc pm c' ctv)) (hfn : H f = none) (hfr : f ∉ frs X.stack)
    (tk : L2N.Takes ((cxOf CXg X.prog X.w X.K X.mg X.base Ng qg sg g cdg X.A X.stack s H Eg).tr pn xe) W) (hW : ∀ cls d σ' H', E cls d H' → W cls d σ' H') (hr : Room (k + 1) (X.A.deeper (envOfC qg sg s.heap.objs.size g cdg)))
    (hbody : ∀ (A : Around) (outer : List Env) (s : Shared) (H : Hp), Room k (A.deeper (lamEnv X scope s.heap.objs.size f c')) → PE (lamCxN X A outer s H E scope f c') body tb)
    (hN : Ng[i]? = some a) (hv : Vis sg a) (hd : (a == ("__debug__" : Str)) = false := by decide) (hcd : (a == ("__classdict__" : Str)) = false := by decide) :
    PE ((cxOf CXg X.prog X.w X.K X.mg X.base Ng qg sg g cdg X.A X.stack s H Eg).tr pn xe) (.Call (.Name a p1) [] [] p2)
      (fun σZ HZ Q => σZ[i]? = some (some (.ref f)) ∧ HZ c' = some (CodeO c' (X.env.qual ++ "<lambda>")) ∧ tb σ HZ Q) := by
  refine ⟨fun pinsZ sZ σZ HZ Q IZ h => ?_⟩
  obtain ⟨hs, hc, ht⟩ := h
  refine wpAny_Call_Name_kw (thn ((pe_var (pos := p1) (i := i) hN hv hd hcd).run pinsZ sZ σZ HZ (fun v H1 => v = .ref f ∧ H1 = HZ) IZ ⟨.ref f, hs, rfl, rfl⟩) fun u s1 ⟨v, H1, I1, r1, q1⟩ => ?_)
  obtain ⟨ev, eH⟩ := q1
  subst ev
  rw [eH] at I1
  obtain rfl : u = Value.ref f := r1
  have keep : ∀ b o, s.heap.get? b = some o → H b = none → b ∉ frs X.stack → s1.heap.get? b = some o := fun b o e n nf => I1.base.keep b o e n nf (fun z => nomatch (show b ∈ ([] : List Addr) from z))
  have of1 : s1.heap.get? f = some (lamObj (X.env.qual ++ "<lambda>") params body scope (cloFrom X.env.cells scope.names []) dV doc pm c' ctv) := keep f _ hf hfn hfr
  refine PySem.W.callWith_F0 ⟨_, _, _, _, of1⟩ ?_
  have un : Un (frs X.stack) [] H HZ s.heap s1.heap := I1.base
  obtain ⟨⟨oc, vs, t, hoc, hdc, hvc⟩, _, _⟩ := I1.hok c' _ hc
  have binds : ∃ bs : List (Str × Value), BindsTo s1 (PySem.W.kdv_fn "<lambda>" (X.env.qual ++ "<lambda>") params (.expr body) scope (cloFrom X.env.cells scope.names []) dV doc pm (.ref c') ctv) ⟨[], []⟩ bs ∧ ∀ y ∈ bs, scope.names.lookup y.1 = some .local := by
    cases lp with
    | no hd hk hb =>
      have df : dV = .none := df
      subst df
      exact ⟨[], .of_eq (hb _ _ _ _ _ _), fun y hy => absurd hy (by simp)⟩
    | one a i j p hd hk hb hl =>
      obtain ⟨T0, v, rfl, g1, g2, g3⟩ := df
      obtain ⟨k, b1, b2⟩ := hb (X.env.qual ++ "<lambda>") (cloFrom X.env.cells scope.names []) (.ref T0) doc pm (.ref c') ctv
      exact ⟨[(a, v)], .of_defaults rfl (keep _ _ g1 g2 g3) rfl b1 (b2 v), fun y hy => by
        have : y = (a, v) := by simpa using hy
        rw [this]; exact hl⟩
  obtain ⟨bs, hbs, hloc⟩ := binds
  have rc : codeAny (model X.prog X.w) (X.A.deeper (envOfC qg sg s.heap.objs.size g cdg)) (.call (.ref f) ⟨[], []⟩) (CR (L2N.CX X.prog X.w) (envOfC qg sg s.heap.objs.size g cdg :: X.stack) X.prog X.w HZ s1 Q E) s1 := by
    refine PySem.W.kla_callFunE hr.depth of1 rfl L.co L.gen rfl ⟨c', oc, vs, t, rfl, hoc, hdc, hvc⟩ ?_
    refine hbs _ _ _ _ (wpAny_newFunctionEnv (fun y hy => (L.own y hy).1) hloc (fun h₁ hns hsb => ⟨I1.nolimit.fresh _ hsb, ?_⟩) L.kind)
    show codeAny _ _ (.expr body (lamEnv X scope s1.heap.objs.size f c')) _ _
    have kp : ∀ b o, s1.heap.get? b = some o → h₁.get? b = some o := fun b o e => hsb.extBut b o (Nat.ne_of_lt (Heap.lt_size e)) (Heap.get?_push_of_some _ e)
    have J : Inv (lamCxN X (X.A.deeper (envOfC qg sg s.heap.objs.size g cdg)) (envOfC qg sg s.heap.objs.size g cdg :: X.stack) s1 HZ E scope f c') [] σ HZ { s1 with heap := h₁, toks := s1.toks + bs.length } :=
      lam_start3 I L I1.env0 hr.hd un hns kp
    refine PySem.W.kla_codeExpr (wpAny_mono ((hbody _ _ s1 HZ (hr.deeper _)).run [] _ _ HZ Q J ht) (fun v s' hq => ?_) fun e s' hq => hq)
    obtain ⟨w', H', J', rv, q⟩ := hq
    exact ⟨w', H', J'.os, J'.bare, J'.base, J'.hok, rv, q⟩
  have hx : Passes (L2N.CX X.prog X.w) ((cxOf CXg X.prog X.w X.K X.mg X.base Ng qg sg g cdg X.A X.stack s H Eg).tr pn xe) E := L2N.passes_call tk hW
  refine wpAny_call (codeAny_mono rc fun r s' hq => ?_)
  cases r with
  | error e => exact hx pinsZ σZ HZ s1 e s' I1 hq
  | ok fl =>
    cases fl with
    | ret u => exact I1.after hq
    | next => exact False.elim hq
    | brk => exact False.elim hq
    | cont => exact False.elim hq
end
/-- the def that calls what it got -/
def Gives3 (X : Cx) (Ng : List Str) (x : Str) (sg : Scope) (g : Addr) (cdg : Value) (bg : List Stmt) (a : Str) (q : Str) (TT : (XK → Hp → VK → Prop) → Hp → VK → Prop) : Prop :=
  ∀ (f c' : Addr) (s : Shared) (H : Hp) (Q : VK) (tl : XK → Hp → VK → Prop),
    (∀ (W : WX) (pn : List (Addr × Obj)) (xe : Value → Shared → Prop) (E : XK) (p1 p2 : Pos), L2N.Takes ((cxOf C8.CX0 X.prog X.w X.K X.mg X.base Ng x sg g cdg X.A X.stack s H C8.E0).tr pn xe) W → (∀ cls d σ' H', E cls d H' → W cls d σ' H') →
      PE ((cxOf C8.CX0 X.prog X.w X.K X.mg X.base Ng x sg g cdg X.A X.stack s H C8.E0).tr pn xe) (.Call (.Name a p1) [] [] p2) (fun σZ HZ Q => σZ[0]? = some (some (.ref f)) ∧ HZ c' = some (CodeO c' q) ∧ tl E HZ Q)) →
    H c' = some (CodeO c' q) → TT tl H Q →
    ∃ t, PSs (cxOf C8.CX0 X.prog X.w X.K X.mg X.base Ng x sg g cdg X.A X.stack s H C8.E0).nox bg t ∧ t { nx := fun _ H' => Q .non H', rt := Q } (L2.start Ng [.ref f]) H
def tLam3 (T : List (Addr × Str)) (TT : (XK → Hp → VK → Prop) → Hp → VK → Prop) (t : XK → TE) : TE := fun σ H Q => Tabs T H ∧ ∀ H1, ExtT H H1 → Tabs T H1 → TT (fun E H' Q' => t E σ H' Q') H1 Q
section
variable {X : Cx}
theorem pe_lamcall3 {T : List (Addr × Str)} {TT : (XK → Hp → VK → Prop) → Hp → VK → Prop} {x a : Str} {g c P : Addr} {k : Nat} {pg : Arguments} {bg : List Stmt} {sg : Scope} {dV kV doc pm cdv ct oc : Value} {an od : Option Addr} {osl : Array (Option Value)} {Ng : List Str}
    {params : Arguments} {body : Expr} {scope : Scope} {as : List Str} {t : XK → TE} {p lpos pos : Pos} (hg : Gl X x) (hm : X.mg x = some (.ref g)) (hk : PySem.W.keepIn X.K (.ref g) = true)
    (lk : X.K.lookup g = some ⟨oc, od, .func (PySem.W.fnOf x x pg bg sg dV kV doc pm an cdv ct), osl⟩) (hcg : PySem.W.codeIn X.K cdv x = true) (hb : L2.Binds X.K (PySem.W.fnOf x x pg bg sg dV kV doc pm an cdv ct) [a] []) (Sg : FnScope Ng [a] sg) (hNg : Ng[0]? = some a) (hva : Vis sg a)
    (hG : Gives3 X Ng x sg g cdv bg a (X.env.qual ++ "<lambda>") TT)
    (TB : TabB X.base X.mg c P) (hcode : X.env.code = .ref c) (hmT : (P, X.env.qual ++ "<lambda>") ∈ T) (hu : ∀ p ∈ T, p.1 = P → p.2 = X.env.qual ++ "<lambda>") (hr : Room (k + 2) X.A) (L : LamS1 X.N X.env.scope scope) (lp : LamP params body scope as)
    (hbody : ∀ (A : Around) (outer : List Env) (s : Shared) (H : Hp) (E : XK) (f c' : Addr), Room k (A.deeper (lamEnv X scope s.heap.objs.size f c')) → PE (lamCxN X A outer s H E scope f c') body (t E))
    (hdb : (x == ("__debug__" : Str)) = false := by decide) (hd : (a == ("__debug__" : Str)) = false := by decide) (hcd : (a == ("__classdict__" : Str)) = false := by decide) :
    PE X (.Call (.Name x p) [.Lambda params body scope lpos] [] pos) (tLam3 T TT t) := by
  refine ⟨fun pins s σ H Q I h => ?_⟩
  obtain ⟨hT, h⟩ := h
  have hfree : ∀ y ∈ scope.names, y.2 = .free → ∃ c, X.env.cells.lookup y.1 = some c := fun y hy e => by
    rcases L.free y hy e with k | k
    · exact I.ok.has _ (.inl k)
    · exact I.ok.has _ (.inr k)
  refine wpAny_Call_Name_kw (ld_glob I hg hm ?_ hdb)
  refine PySem.W.callWith_K (h₀ := X.base) I.ok.mod.kin hk ?_ (by rfl) (by rfl)
  show wpAny _ _ (spliced ((false, eval (.Lambda params body scope lpos) X.env) :: backTo pos (starEach [] X.env))) _ _ s
  refine Calls.spliced_cons (lam_make3 I TB hcode hmT hu hT lp hfree fun f c' dV' doc' pm' ctv H1 s' I1 eN T1 df hf hfn hfr hco => ?_)
  refine Calls.spliced_nil ⟨I1.kIn, ?_⟩
  have rc : codeAny (model X.prog X.w) X.A (.call (.ref g) ⟨[.ref f], []⟩) (CR C8.CX0 X.stack X.prog X.w H1 s' Q C8.E0) s' := by
    refine run_ofS (N := Ng) (ps := [a]) (us := [.ref f]) (vs := [.ref f]) lk hcg Sg hr I1.env0 (hb s' [.ref f] I1.kIn rfl) (.cons rfl .nil) rfl fun hr' => ?_
    obtain ⟨t', ht', hq'⟩ := hG f c' s' H1 Q (fun E H' Q' => t E σ H' Q') (fun W pn xe E p1 p2 tk hW => pe_act3 (i := 0) I1 L lp df hf hfn hfr tk hW hr' (fun A outer s H hr2 => hbody A outer s H E f c' hr2) hNg hva hd hcd) hco (h H1 eN T1)
    exact ⟨t', ht'.nox, hq'⟩
  refine wpAny_call (codeAny_mono rc fun r s2 hq => ?_)
  cases r with
  | error e => exact (show False from hq).elim
  | ok fl =>
    cases fl with
    | ret u => exact I1.after hq
    | next => exact False.elim hq
    | brk => exact False.elim hq
    | cont => exact False.elim hq
end
end Rf
namespace Rf
open PySem PySem.Spec PyProof.Rows L2 LamX

def exT : Ex → Str
  | .na => "refused" | .tl => "large" | .mi => "missing" | .bp => "paper"
/-- what _law_told makes of a lambda -/
def mTold (m : Me) : Me := fun env h => match m env h with
  | .ok v h' => .ok (.tup [.str "told", v]) h'
  | .exc e h' => .ok (.tup [.str (exT e)]) h'
  | .stuck => .stuck
theorem extT_ext {T : List (Addr × Str)} {w : Wd} {ρ : List (Option Addr)} {h : Hh} {H H1 : Hp} (r : RH T w ρ h H) (e : ExtT H H1) (t : Tabs T H1) : Ext w ρ H ρ H1 ∧ RH T w ρ h H1 := by
  have ex : Ext w ρ H ρ H1 := ⟨Nat.le_refl _, fun _ _ _ z => z, fun _ z => .inl z, e.2, fun a u z k => e.1 a u z (fun ps q => by subst q; exact k), fun a u z _ _ nt => by
    rcases z with z | ⟨o, z⟩
    · exact .inl (e.1 a u z nt)
    · exact .inr ⟨o, e.1 a _ z (fun ps q => by cases q)⟩, fun a u z _ _ _ nt => e.1 a u z nt⟩
  refine ⟨ex, r.len, r.inj, fun n a z => ?_, r.live, fun a z => e.2 a (r.trk a z), t⟩
  obtain ⟨h1, h2, ob, h3, h4⟩ := r.obj n a z
  obtain ⟨u, eu, ok⟩ := h4.ok
  exact ⟨h1, h2, ob, h3, h4.mono ex (by rw [eu]; exact e.1 a u eu (fun ps q => by subst q; exact ok))⟩
def TTold3 (T : List (Addr × Str)) (X : Cx) : (XK → Hp → VK → Prop) → Hp → VK → Prop := fun tl H Q => ∃ w ρ h, w.g = gw X ∧ RH T w ρ h H ∧
  tl (fun cls d H' => ∃ e w' ρ' h', cls = clsV X.K e ∧ d = none ∧ w'.g = gw X ∧ RH T w' ρ' h' H' ∧ ∀ ρ'' H'' x, Ext w' ρ' H' ρ'' H'' → RH T w' ρ'' h' H'' → RD w' ρ'' H'' (.tup [.str (exT e)]) x → Q x H'') H (fun v H' => [V.str "told", v].length ≤ sizeLine ∧ ∀ p, H' p = none → Q (.ref p) (L2.upd H' p (.tup [.str "told", v])))
section
variable {T : List (Addr × Str)} {X : Cx} {W : WX}
/-- _law_told(lambda: body) -/
theorem me_told {x a : Str} {g c P : Addr} {k : Nat} {pg : Arguments} {bg : List Stmt} {sg : Scope} {dV kV doc pm cdv ct oc : Value} {an od : Option Addr} {osl : Array (Option Value)} {Ng : List Str}
    {params : Arguments} {body : Expr} {scope : Scope} {as : List Str} {m : Me} {p lpos pos : Pos} (hg : Gl X x) (hm : X.mg x = some (.ref g)) (hk : PySem.W.keepIn X.K (.ref g) = true)
    (lk : X.K.lookup g = some ⟨oc, od, .func (PySem.W.fnOf x x pg bg sg dV kV doc pm an cdv ct), osl⟩) (hcg : PySem.W.codeIn X.K cdv x = true) (hb : L2.Binds X.K (PySem.W.fnOf x x pg bg sg dV kV doc pm an cdv ct) [a] []) (Sg : FnScope Ng [a] sg) (hNg : Ng[0]? = some a) (hva : Vis sg a)
    (hG : Gives3 X Ng x sg g cdv bg a (X.env.qual ++ "<lambda>") (TTold3 T X))
    (TB : TabB X.base X.mg c P) (hcode : X.env.code = .ref c) (hmT : (P, X.env.qual ++ "<lambda>") ∈ T) (hu : ∀ p ∈ T, p.1 = P → p.2 = X.env.qual ++ "<lambda>") (hr : Room (k + 2) X.A) (L : LamS1 X.N X.env.scope scope) (lp : LamP params body scope as)
    (hbody : ∀ (A : Around) (outer : List Env) (s : Shared) (H : Hp) (E : XK) (f c' : Addr), Room k (A.deeper (lamEnv X scope s.heap.objs.size f c')) → ME T (lamCxN X A outer s H E scope f c') (fun cls d _ H => E cls d H) body m)
    (hdb : (x == ("__debug__" : Str)) = false := by decide) (hd : (a == ("__debug__" : Str)) = false := by decide) (hcd : (a == ("__classdict__" : Str)) = false := by decide) :
    ME T X W (.Call (.Name x p) [.Lambda params body scope lpos] [] pos) (mTold m) :=
  PE.imp (pe_lamcall3 (T := T) (t := fun E => tM T X (fun cls d _ H => E cls d H) m) hg hm hk lk hcg hb Sg hNg hva hG TB hcode hmT hu hr L lp hbody hdb hd hcd) fun σ H Q ⟨w, ρ, env, h, s, q⟩ => by
    refine ⟨s.h.tabs, fun H1 eT T1 => ?_⟩
    obtain ⟨e0, r0⟩ := extT_ext s.h eT T1
    refine ⟨w, ρ, h, s.g, r0, w, ρ, env, h, s.next e0 r0, ?_⟩
    unfold mTold at q
    cases e : m env h with
    | stuck => rw [e] at q; exact q
    | exc x h1 =>
      rw [e] at q
      exact fun ρ' H' e1 r1 => ⟨x, w, ρ', h1, rfl, rfl, s.g, r1, fun ρ'' H'' y e2 r2 d2 => q ρ'' H'' y ((e0.trans e1).trans e2) r2 d2⟩
    | ok v h1 =>
      rw [e] at q
      intro ρ1 H1 x e1 r1 d1
      refine ⟨by rw [sizeLine_eq]; simp, fun p hp => ?_⟩
      obtain ⟨e2, r2, f2⟩ := r1.frz hp (.tup [.str "told", x])
      exact q ρ1 _ _ ((e0.trans e1).trans e2) r2 ⟨p, [.str "told", x], rfl, upd_same, .str "told", [x], rfl, rfl, x, [], rfl, d1.mono e2, rfl⟩
/-- what its suite does -/
def tSuite (T : List (Addr × Str)) (X : Cx) (n ie : Nat) (a : Addr) (e : Ex) : TS := fun D σ H => ∃ w ρ h, w.g = gw X ∧ RH T w ρ h H ∧ σ[ie]? = some (some (.ref a)) ∧ σ.length = n ∧
  ∀ ρ'' H'' x, Ext w ρ H ρ'' H'' → RH T w ρ'' h H'' → RD w ρ'' H'' (.tup [.str (exT e)]) x → D.rt x H''
theorem told_gives3 {Ng : List Str} {x a n ex q : Str} {sg : Scope} {g CS : Addr} {cdg : Value} {j kt ie : Nat} {b₀ : Stmt} {suite : List Stmt} {p1 p2 p3 p4 p5 p6 p7 p8 : Pos} (hNd : Ng.Nodup) (hie : Ng[ie]? = some n) (hln : sg.names.lookup n = some .local)
    (hge : sg.names.lookup ex = some .globalImplicit) (hme : X.mg ex = some (.ref CS)) (hde : (ex == ("__debug__" : Str)) = false) (hl : 0 < Ng.length) (hi0 : ie ≠ 0) (hEx : ∀ e, PySem.W.exmOne X.K (clsV X.K e) (.ref CS) = some true)
    (hsu : ∀ (s : Shared) (H : Hp) (a' : Addr) (oe : Obj) (e : Ex) (pn : List (Addr × Obj)), L2N.Zn (clsV X.K e) none oe → (∃ vs, oe.data = .fields vs) →
      PSs ((cxOf C8.CX0 X.prog X.w X.K X.mg X.base Ng x sg g cdg X.A X.stack s H C8.E0).nox.suite a' ((a', oe) :: pn)) (b₀ :: suite) (tSuite T X Ng.length ie a' e)) :
    Gives3 X Ng x sg g cdg [.Try [.Return (some (.Tuple [.Constant (.str "told") j p1, .Call (.Name a p2) [] [] p3] kt p4)) p5] [.ExceptHandler (some (.Name ex p6)) (some n) (b₀ :: suite) p7] [] [] p8] a q (TTold3 T X) := by
  intro f c' s H Q tl act hc ⟨w0, ρ0, h0, hw0, rh0, h⟩
  have hgl : Gl (cxOf C8.CX0 X.prog X.w X.K X.mg X.base Ng x sg g cdg X.A X.stack s H C8.E0).nox ex := hge
  have hst : (L2.start Ng [V.ref f])[0]? = some (some (V.ref f)) := by
    unfold L2.start
    rfl
  have hlen : (L2.start Ng [V.ref f]).length = Ng.length := by unfold L2.start; simp; omega
  refine ⟨_, pss_one (L2N.ps_try_as (X := (cxOf C8.CX0 X.prog X.w X.K X.mg X.base Ng x sg g cdg X.A X.stack s H C8.E0).nox) (c := .ref CS) (i := ie) (Wout := fun _ _ _ _ => False)
      (tb := fun W D σ H => ∃ Ech : XK, (∀ cls d σ' H', σ'.length = Ng.length → Ech cls d H' → W cls d σ' H') ∧ σ[0]? = some (some (.ref f)) ∧ σ.length = Ng.length ∧ H c' = some (CodeO c' q) ∧ tl Ech H (fun v H' => [V.str "told", v].length ≤ sizeLine ∧ ∀ p, H' p = none → D.rt (.ref p) (L2.upd H' p (.tup [.str "told", v]))))
      (ts := fun a' cls d D σ H => ∃ e, cls = clsV X.K e ∧ d = none ∧ tSuite T X Ng.length ie a' e D σ H)
      rfl rfl hNd hie hln ⟨hgl, hde, .inl hme⟩ (fun _ _ x => ?_) (fun W pn xe tk _ => ?_) (fun a' oe cls d pn hz hf => ?_)), ?_⟩
  · obtain ⟨_, _, _, _, _, _, _, _, _, _, _, _, _, _, _, _, z⟩ := x
    exact z.elim
  · refine ⟨fun pins s' σ H' D I h' => ?_⟩
    obtain ⟨Ech, hW, h1, h2, h3, h4⟩ := h'
    have tk' : L2N.Takes ((cxOf C8.CX0 X.prog X.w X.K X.mg X.base Ng x sg g cdg X.A X.stack s H C8.E0).tr pn xe) (fun cls d _ H' => ∀ σ' : L2.St, σ'.length = Ng.length → W cls d σ' H') := fun u s'' z => by
      obtain ⟨a1, B, sI, pins', σ1, H1, cls, d, e1, J, k1, k2, k3, k4, k5, k6, k7⟩ := z
      exact tk u s'' ⟨a1, B, sI, pins', σ1, H1, cls, d, e1, J, k1, k2, k3, k4, k5, k6, k7 σ1 J.len⟩
    have hp := act (fun cls d _ H' => ∀ σ' : L2.St, σ'.length = Ng.length → W cls d σ' H') pn xe Ech p2 p3 tk' (fun cls d σ' H' hh σ'' hl' => hW cls d σ'' H' hl' hh)
    have hq := pss_one (ps_ret (pos := p5) (pe_tup (pos := p4) (x1 := kt) (pa_cons (pe_str (x := "told") (j := j) (pos := p1)) (pa_cons hp pa_nil))))
    refine hq.run pins s' σ H' D I ?_
    exact ⟨h1, h3, h4⟩
  · refine ⟨fun pins s' σ H' D I h' => ?_⟩
    obtain ⟨e, rfl, rfl, h2⟩ := h'
    exact (hsu s H a' oe e pn hz hf).run pins s' σ H' D I h2
  · refine ⟨fun cls d H' => ∃ e w' ρ' h', cls = clsV X.K e ∧ d = none ∧ w'.g = gw X ∧ RH T w' ρ' h' H' ∧ ∀ ρ'' H'' x, Ext w' ρ' H' ρ'' H'' → RH T w' ρ'' h' H'' → RD w' ρ'' H'' (.tup [.str (exT e)]) x → Q x H'', ?_, hst, hlen, hc, h⟩
    rintro cls d σ' H' hσ ⟨e, w', ρ', h', rfl, rfl, g1, g2, g3⟩
    refine ⟨true, hEx e, fun _ a1 _ => ⟨e, rfl, rfl, w', ρ', h', g1, g2, ?_, by simp [hσ], g3⟩, fun z => nomatch z⟩
    rw [List.getElem?_set_self (by rw [hσ]; exact (List.getElem?_eq_some_iff.mp hie).1)]
end
end Rf
namespace Rf
open PySem PySem.Spec PyProof.Rows L2

/-! ### names of a context, by one check of the kernel -/
structure SC (X : Cx) (vis loc : List (Nat × Str)) (gls : List Str) : Prop where
  v : ∀ p ∈ vis, X.N[p.1]? = some p.2 ∧ Vis X.env.scope p.2 ∧ (p.2 == ("__debug__" : Str)) = false ∧ (p.2 == ("__classdict__" : Str)) = false
  l : ∀ p ∈ loc, X.N[p.1]? = some p.2 ∧ Loc X.env.scope p.2 ∧ (X.fn p.2 = true ∨ X.env.scope.names.lookup p.2 = some .local)
  g : ∀ x ∈ gls, Gl X x ∧ (x == ("__debug__" : Str)) = false
def visB (N : List Str) (sc : Scope) (vis : List (Nat × Str)) : Bool := vis.all fun p => decide (N[p.1]? = some p.2) && (decide (sc.names.lookup p.2 = some .local) || decide (sc.names.lookup p.2 = some .cell) || decide (sc.names.lookup p.2 = some .free)) && !(p.2 == ("__debug__" : Str)) && !(p.2 == ("__classdict__" : Str))
/-- fl: cells count (those made at the entry) -/
def locB (N : List Str) (sc : Scope) (fl : Str → Bool) (loc : List (Nat × Str)) : Bool := loc.all fun p => decide (N[p.1]? = some p.2) && (decide (sc.names.lookup p.2 = some .local) || (decide (sc.names.lookup p.2 = some .cell) && fl p.2))
def glB (sc : Scope) (gls : List Str) : Bool := gls.all fun x => decide (sc.names.lookup x = some .globalImplicit) && !(x == ("__debug__" : Str))
def scB (N : List Str) (sc : Scope) (fl : Str → Bool) (vis loc : List (Nat × Str)) (gls : List Str) : Bool := visB N sc vis && locB N sc fl loc && glB sc gls
theorem sc_by {X : Cx} {N : List Str} {sc : Scope} {fl : Str → Bool} {vis loc : List (Nat × Str)} {gls : List Str} (hN : X.N = N) (hs : X.env.scope = sc) (hf : ∀ x, fl x = true → X.fn x = true) (h : scB N sc fl vis loc gls = true) : SC X vis loc gls := by
  unfold scB visB locB glB at h
  simp only [Bool.and_eq_true, List.all_eq_true, decide_eq_true_eq, Bool.or_eq_true, Bool.not_eq_true'] at h
  obtain ⟨⟨h1, h2⟩, h3⟩ := h
  subst hN hs
  refine ⟨fun p hp => ?_, fun p hp => ?_, fun x hx => h3 x hx⟩
  · obtain ⟨⟨⟨a, b⟩, c⟩, d⟩ := h1 p hp
    refine ⟨a, ?_, c, d⟩
    rcases b with (b | b) | b
    · exact .inl b
    · exact .inr (.inl b)
    · exact .inr (.inr b)
  · obtain ⟨a, b⟩ := h2 p hp
    rcases b with b | ⟨b, c⟩
    · exact ⟨a, .inl b, .inr b⟩
    · exact ⟨a, .inr b, .inl (hf _ c)⟩
/-- of a comprehension's block -/
theorem sc_blk {X : Cx} {s : Shared} {H : Hp} {scope sc : Scope} {C : Addr} {cl : List (Str × Addr)} {fp : List Addr} {N : List Str} {vis loc : List (Nat × Str)} {gls : List Str} (hN : X.N = N) (hs : X.env.scope = sc)
    (h : scB N (relS scope sc) (fun x => scope.names.lookup x == some .cell) vis loc gls = true) : SC (X.blk s H scope (compEnvC scope cl C X.env) fp) vis loc gls :=
  sc_by (N := N) (sc := relS scope sc) (fl := fun x => scope.names.lookup x == some .cell) hN (by subst hs; rfl) (fun _ h => h) h
theorem SC.tr {X : Cx} {vis loc : List (Nat × Str)} {gls : List Str} (S : SC X vis loc gls) (pn : List (Addr × Obj)) (xe : Value → Shared → Prop) : SC (X.tr pn xe) vis loc gls := ⟨S.v, S.l, S.g⟩
theorem SC.suite {X : Cx} {vis loc : List (Nat × Str)} {gls : List Str} (S : SC X vis loc gls) (a : Addr) (pn : List (Addr × Obj)) : SC (X.suite a pn) vis loc gls := ⟨S.v, S.l, S.g⟩
/-- of a lambda -/
theorem sc_lam {X : Cx} {A : Around} {outer : List Env} {s : Shared} {H : Hp} {E : XK} {scope : Scope} {f c' : Addr} {N : List Str} {vis : List (Nat × Str)} {gls : List Str} (hN : X.N = N) (h : scB N scope (fun _ => false) vis [] gls = true) : SC (lamCxN X A outer s H E scope f c') vis [] gls :=
  sc_by (N := N) (sc := scope) (fl := fun _ => false) hN rfl (fun _ h => nomatch h) h
/-- what holds within a context's block too -/
structure Bq (X : Cx) : Prop where
  calm : X.calm = true
  nd : X.N.Nodup
  un : X.A.units + 100 < cLine
theorem Bq.blk {X : Cx} (B : Bq X) (s : Shared) (H : Hp) (scope : Scope) (env : Env) (fp : List Addr) : Bq (X.blk s H scope env fp) := ⟨B.calm, B.nd, B.un⟩
theorem takes_blk {X : Cx} {s : Shared} {H : Hp} {scope : Scope} {env : Env} {fp : List Addr} : L2N.Takes (X.blk s H scope env fp) W0 := fun _ _ x => by
  obtain ⟨_, _, _, _, _, _, _, _, _, _, _, _, _, _, _, _, z⟩ := x
  exact z.elim
section
variable {T : List (Addr × Str)} {X : Cx} {W : WX} {vis loc : List (Nat × Str)} {gls : List Str} {a b c e : Expr} {es : List Expr} {ma mb mc : Me} {as : Ma} {pos : Pos}
theorem SC.at_v (S : SC X vis loc gls) (j : Nat) {i : Nat} {x : Str} (h : vis[j]? = some (i, x)) : X.N[i]? = some x ∧ Vis X.env.scope x ∧ (x == ("__debug__" : Str)) = false ∧ (x == ("__classdict__" : Str)) = false := S.v (i, x) (List.mem_of_getElem? h)
theorem SC.at_l (S : SC X vis loc gls) (j : Nat) {i : Nat} {x : Str} (h : loc[j]? = some (i, x)) : X.N[i]? = some x ∧ Loc X.env.scope x ∧ (X.fn x = true ∨ X.env.scope.names.lookup x = some .local) := S.l (i, x) (List.mem_of_getElem? h)
theorem SC.at_g (S : SC X vis loc gls) (j : Nat) {x : Str} (h : gls[j]? = some x) : Gl X x := (S.g x (List.mem_of_getElem? h)).1
theorem me_v (S : SC X vis loc gls) (j : Nat) {i : Nat} {x : Str} (h : vis[j]? = some (i, x)) : ME T X W (.Name x pos) (mVar i) :=
  let ⟨h1, h2, h3, h4⟩ := S.at_v j h
  me_var h1 h2 h3 h4
theorem mg_v (S : SC X vis loc gls) (B : Bq X) (j : Nat) {i : Nat} {x : Str} {is : List Nat} (h : loc[j]? = some (i, x)) (hm : i ∈ is := by decide) : MG T X is (.Name x pos) (gN i) :=
  let ⟨h1, h2, h3⟩ := S.at_l j h
  mg_name B.nd h1 h2 h3 hm
theorem ms_setv (S : SC X vis loc gls) (B : Bq X) (j : Nat) {i : Nat} {x : Str} {pos' : Pos} (h : loc[j]? = some (i, x)) (he : ME T X W e ma) (hs : swapsWith e (some (.Name x pos')) pos.line X.env = pure false) : MS T X W (.Assign [.Name x pos'] e pos) (sAsg ma (gN i)) :=
  let ⟨h1, h2, h3⟩ := S.at_l j h
  ms_set B.nd h1 h2 he hs h3
theorem ms_augv (S : SC X vis loc gls) (B : Bq X) (j : Nat) {i : Nat} {x : Str} {op : Operator} {g : D → D → Hh → O} {pos' : Pos} (h : loc[j]? = some (i, x)) (he : ME T X W e ma) (ho : MOp T X (inplaceOp op) g) : MS T X W (.AugAssign (.Name x pos') op e pos) (sAug i ma g) :=
  let ⟨h1, h2, h3⟩ := S.at_l j h
  ms_aug B.nd h1 h2 he ho h3
end
/-! ### built-ins' names -/
theorem bt_len : bootBuiltins "len" = some (.builtin "len") := by decide +kernel
theorem bt_sum : bootBuiltins "sum" = some (.builtin "sum") := by decide +kernel
theorem bt_min : bootBuiltins "min" = some (.builtin "min") := by decide +kernel
theorem bt_max : bootBuiltins "max" = some (.builtin "max") := by decide +kernel
theorem bt_any : bootBuiltins "any" = some (.builtin "any") := by decide +kernel
theorem bt_all : bootBuiltins "all" = some (.builtin "all") := by decide +kernel
theorem bt_abs : bootBuiltins "abs" = some (.builtin "abs") := by decide +kernel
theorem bt_sorted : bootBuiltins "sorted" = some (.builtin "sorted") := by decide +kernel
theorem bt_isinstance : bootBuiltins "isinstance" = some (.builtin "isinstance") := by decide +kernel
theorem bt_int : bootBuiltins "int" = some (.type "int") := by decide +kernel
theorem bt_tuple : bootBuiltins "tuple" = some (.type "tuple") := by decide +kernel
theorem bt_list : bootBuiltins "list" = some (.type "list") := by decide +kernel
theorem bt_dict : bootBuiltins "dict" = some (.type "dict") := by decide +kernel
theorem tm_append : typeOf (.builtin "list.append") = pure (.type "method_descriptor") := F.type_list_append
theorem tm_pop : typeOf (.builtin "list.pop") = pure (.type "method_descriptor") := F.type_list_pop
theorem tm_insert : typeOf (.builtin "list.insert") = pure (.type "method_descriptor") := F.type_list_insert
theorem tm_get : typeOf (.builtin "dict.get") = pure (.type "method_descriptor") := F.type_dict_get
theorem tm_dpop : typeOf (.builtin "dict.pop") = pure (.type "method_descriptor") := F.type_dict_pop
/-- a whole number of the module's -/
def GInt (mg : Str → Option Value) (x : Str) (i : Int) : Prop := ∃ t, mg x = some (.int i t)
theorem Df.mono {T : List (Addr × Str)} {P : Program} {w : World} {K : PySem.W.Frag} {mg : Str → Option Value} {base : Heap} {x : Str} {k k' : Nat} {ps : List Str} {F : List D → Hh → R D} (d : Df T P w K mg base x k ps F) (h : k ≤ k') : Df T P w K mg base x k' ps F := by
  obtain ⟨⟨fd, ok, b⟩, g, kp⟩ := d
  exact ⟨⟨fd, ok.mono h, b⟩, g, kp⟩
end Rf
namespace Rf
open PySem PySem.Spec PyProof.Rows L2

/-! ### the rules as a printed derivation uses them -/
def aAdd (mt : Bool) : Op2 := gOr iAdd (gOr gCatT (gCatL mt))
def aMul (mt : Bool) : Op2 := gOr iMul (gOr (gRepL mt) gRepT)
def aIn (neg : Bool) : Op2 := gOr (gInS neg) (gInD neg)
def aIx : Op2 := gOr gIx gDGet
def aSet : Mst := stOr gSetL gDPut
/-- the module's exceptions -/
structure ExF (K : PySem.W.Frag) (mg : Str → Option Value) : Prop where
  ok : ∀ e : Ex, PySem.W.excIn K (He.ga K (exN e)) [.type "Exception", .type "BaseException", .type "object"] "Exception.__new__" = true
  sub : ∀ e : Ex, PySem.W.subIn K (clsV K e) (.type "BaseException") = some true
  ty : ∀ e : Ex, PySem.W.typeIn K (clsV K e) = some (.type "type")
  kp : ∀ e : Ex, PySem.W.keepIn K (clsV K e) = true
  mg : ∀ e : Ex, mg (exN e) = some (clsV K e)
section
variable {T : List (Addr × Str)} {X : Cx} {W : WX} {vis loc : List (Nat × Str)} {gls : List Str} {a b c e : Expr} {es : List Expr} {ma mb mc : Me} {as : Ma} {pos : Pos}
theorem o_add (mt : Bool) : MOp T X (binaryOp .Add) (aAdd mt) := mop_or mop_add (mop_or mop_catT (mop_catL mt))
theorem o_mul (mt : Bool) : MOp T X (binaryOp .Mult) (aMul mt) := mop_or mop_mul (mop_or (mop_repL mt) mop_repT)
theorem o_in (B : Bq X) : MOp T X (compareOp .In) (aIn false) := mop_or (mop_inS B.un) (mop_inD B.un)
theorem o_notin (B : Bq X) : MOp T X (compareOp .NotIn) (aIn true) := mop_or (mop_notinS B.un) (mop_notinD B.un)
theorem o_eq (B : Bq X) : MOp T X (compareOp .Eq) (gEqD false) := mop_eq B.un
theorem o_ne (B : Bq X) : MOp T X (compareOp .NotEq) (gEqD true) := mop_ne B.un
theorem x_ix (B : Bq X) : MIx T X aIx := mix_or mix_seq (mix_dict B.un)
theorem g_ix (B : Bq X) : MGt T X aIx := mgt_or mgt_seq (mgt_dict B.un)
theorem s_set (B : Bq X) : MSt T X aSet := mst_or mst_list (mst_dict B.un)
theorem an_nil (env : Ev) (h : Hh) (xs : List D) (h' : Hh) (e : aNil env h = .ok xs h') : xs.length = 0 := by
  unfold aNil at e
  cases e; rfl
theorem an_cons {ma : Me} {as : Ma} {n : Nat} (p : ∀ env h xs h', as env h = .ok xs h' → xs.length = n) (env : Ev) (h : Hh) (xs : List D) (h' : Hh) (e : aCons ma as env h = .ok xs h') : xs.length = n + 1 := by
  unfold aCons at e
  cases e1 : ma env h with
  | stuck => rw [e1] at e; cases e
  | exc x h1 => rw [e1] at e; cases e
  | ok v h1 =>
    rw [e1, R.bind_ok] at e
    cases e2 : as env h1 with
    | stuck => rw [e2] at e; cases e
    | exc x h1 => rw [e2] at e; cases e
    | ok u h2 =>
      rw [e2, R.bind_ok] at e
      cases e
      simp [p _ _ _ _ e2]
theorem me_callD {x : Str} {k k' : Nat} {ps : List Str} {F : List D → Hh → R D} {p : Pos} (S : SC X vis loc gls) (j : Nat) (d : Df T X.prog X.w X.K X.mg X.base x k ps F) (hk : k ≤ k') (hr : Room k' X.A) (tk : L2N.Takes X W) (hg : gls[j]? = some x) (ha : MA T X W (e :: es) as) (hn : ∀ env h xs h', as env h = .ok xs h' → xs.length = ps.length)
    (he : starEach (e :: es) X.env = (false, eval e X.env) :: starEach es X.env := by rfl) (hpl : (backTo pos (starEach es X.env)).any (·.1) = false := by rfl) :
    ME T X W (.Call (.Name x p) (e :: es) [] pos) (mCall F as) := me_call d (hr.mono hk) tk (S.at_g j hg) ha hn (S.g x (List.mem_of_getElem? hg)).2 he hpl
theorem me_B {id : String} {x : Str} {p : Pos} {g : List D → Hh → O} (S : SC X vis loc gls) (j : Nat) (hg : gls[j]? = some x) (hm : X.mg x = none) (hv : bootBuiltins x = some (.builtin id)) (hc : MFn T X (.builtin id) g) (ha : MA T X W (e :: es) as) (hn : x ≠ "__name__" := by decide)
    (he : starEach (e :: es) X.env = (false, eval e X.env) :: starEach es X.env := by rfl) (hpl : (backTo pos (starEach es X.env)).any (·.1) = false := by rfl) : ME T X W (.Call (.Name x p) (e :: es) [] pos) (mF g as) :=
  me_callB hc (S.at_g j hg) hm hv ha hn (S.g x (List.mem_of_getElem? hg)).2 he hpl
theorem me_Ty {id : String} {x : Str} {p : Pos} {g : List D → Hh → O} (S : SC X vis loc gls) (j : Nat) (hg : gls[j]? = some x) (hm : X.mg x = none) (hv : bootBuiltins x = some (.type id)) (hc : MFn T X (.type id) g) (ha : MA T X W (e :: es) as) (hn : x ≠ "__name__" := by decide)
    (he : starEach (e :: es) X.env = (false, eval e X.env) :: starEach es X.env := by rfl) (hpl : (backTo pos (starEach es X.env)).any (·.1) = false := by rfl) : ME T X W (.Call (.Name x p) (e :: es) [] pos) (mF g as) :=
  me_callTy hc (S.at_g j hg) hm hv ha hn (S.g x (List.mem_of_getElem? hg)).2 he hpl
theorem me_G {x : Str} {i : Int} (S : SC X vis loc gls) (j : Nat) (hg : gls[j]? = some x) (hm : ∃ t, X.mg x = some (.int i t)) : ME T X W (.Name x pos) (mC (.int i)) := me_gint (S.at_g j hg) hm (S.g x (List.mem_of_getElem? hg)).2
theorem me_lcS {elt tg iter : Expr} {ifs : List Expr} {scope : Scope} {own : List (Str × Nat)} {is : List Nat} {src : Ev → Hh → R Src} {g : Mg} {t : Mt} {m : Me} (mt : Bool) (B : Bq X) (hi : MI T X W tg iter src) (ok : BlkOk X.N X.env.scope scope own)
    (hS : ∀ (s : Shared) (H : Hp) (C : Addr) (cl : List (Str × Addr)) (fp : List Addr), SC (X.blk s H scope (compEnvC scope cl C X.env) fp) vis loc gls)
    (hg : ∀ (s : Shared) (H : Hp) (C : Addr) (cl : List (Str × Addr)) (fp : List Addr), SC (X.blk s H scope (compEnvC scope cl C X.env) fp) vis loc gls → Bq (X.blk s H scope (compEnvC scope cl C X.env) fp) → MG T (X.blk s H scope (compEnvC scope cl C X.env) fp) is tg g)
    (ht : ∀ (s : Shared) (H : Hp) (C : Addr) (cl : List (Str × Addr)) (fp : List Addr), SC (X.blk s H scope (compEnvC scope cl C X.env) fp) vis loc gls → Bq (X.blk s H scope (compEnvC scope cl C X.env) fp) → MTs T (X.blk s H scope (compEnvC scope cl C X.env) fp) W0 ifs t)
    (he : ∀ (s : Shared) (H : Hp) (C : Addr) (cl : List (Str × Addr)) (fp : List Addr), SC (X.blk s H scope (compEnvC scope cl C X.env) fp) vis loc gls → Bq (X.blk s H scope (compEnvC scope cl C X.env) fp) → ME T (X.blk s H scope (compEnvC scope cl C X.env) fp) W0 elt m)
    (his : ∀ i ∈ is, i ∈ own.map (·.2) := by decide) (hs : ∀ x, foldedSetIterable iter X.env x = pure x := by intro _; rfl) :
    ME T X W (.ListComp elt [⟨tg, iter, ifs, 0⟩] scope pos) (mComp mt src g t m (own.map (·.2))) :=
  me_lc mt B.calm B.nd hi ok (fun s H C cl fp => hg s H C cl fp (hS s H C cl fp) (B.blk s H scope _ fp)) (fun s H C cl fp => ht s H C cl fp (hS s H C cl fp) (B.blk s H scope _ fp)) (fun s H C cl fp => he s H C cl fp (hS s H C cl fp) (B.blk s H scope _ fp)) his hs
theorem ms_setLcS {i : Nat} {y : Str} {py : Pos} {elt tg iter : Expr} {ifs : List Expr} {scope : Scope} {own : List (Str × Nat)} {is : List Nat} {spos : Pos} {src : Ev → Hh → R Src} {g : Mg} {t : Mt} {m : Me} {vis1 loc1 : List (Nat × Str)} {gls1 : List Str} (mt : Bool) (B : Bq X) (S1 : SC X vis1 loc1 gls1) (j : Nat) (hj : loc1[j]? = some (i, y)) (hyl : X.env.scope.names.lookup y = some .local)
    (hsw : swapsWith (.ListComp elt [⟨tg, iter, ifs, 0⟩] scope pos) (some (.Name y py)) spos.line X.env = pure true) (hi : MI T X W tg iter src) (ok : BlkOk X.N X.env.scope scope own)
    (hS : ∀ (s : Shared) (H : Hp) (C : Addr) (cl : List (Str × Addr)) (fp : List Addr), SC (X.blk s H scope (compEnvC scope cl C X.env) fp) vis loc gls)
    (hg : ∀ (s : Shared) (H : Hp) (C : Addr) (cl : List (Str × Addr)) (fp : List Addr), SC (X.blk s H scope (compEnvC scope cl C X.env) fp) vis loc gls → Bq (X.blk s H scope (compEnvC scope cl C X.env) fp) → MG T (X.blk s H scope (compEnvC scope cl C X.env) fp) is tg g)
    (ht : ∀ (s : Shared) (H : Hp) (C : Addr) (cl : List (Str × Addr)) (fp : List Addr), SC (X.blk s H scope (compEnvC scope cl C X.env) fp) vis loc gls → Bq (X.blk s H scope (compEnvC scope cl C X.env) fp) → MTs T (X.blk s H scope (compEnvC scope cl C X.env) fp) W0 ifs t)
    (he : ∀ (s : Shared) (H : Hp) (C : Addr) (cl : List (Str × Addr)) (fp : List Addr), SC (X.blk s H scope (compEnvC scope cl C X.env) fp) vis loc gls → Bq (X.blk s H scope (compEnvC scope cl C X.env) fp) → ME T (X.blk s H scope (compEnvC scope cl C X.env) fp) W0 elt m)
    (his : ∀ i ∈ is, i ∈ own.map (·.2) := by decide) (hs : ∀ x, foldedSetIterable iter X.env x = pure x := by intro _; rfl) :
    MS T X W (.Assign [.Name y py] (.ListComp elt [⟨tg, iter, ifs, 0⟩] scope pos) spos) (sAsg (mComp mt src g t m (own.map (·.2))) (gN i)) :=
  ms_setLc mt B.calm B.nd (S1.at_l j hj).1 hyl hsw hi ok (fun s H C cl fp => hg s H C cl fp (hS s H C cl fp) (B.blk s H scope _ fp)) (fun s H C cl fp => ht s H C cl fp (hS s H C cl fp) (B.blk s H scope _ fp)) (fun s H C cl fp => he s H C cl fp (hS s H C cl fp) (B.blk s H scope _ fp)) his hs
theorem ms_raiseE {x m : Str} (k : Ex) {j : Nat} {p p2 pos2 : Pos} (B : Bd X W) (E : ExF X.K X.mg) (S : SC X vis loc gls) (i : Nat) (hg : gls[i]? = some x) (he : x = exN k) :
    MS T X W (.Raise (some (.Call (.Name x p) [.Constant (.str m) j p2] [] pos)) none pos2) (sRaise k) :=
  ms_raise B he (E.ok k) (E.mg k) (E.kp k) (raises_own (E.sub k) (E.ty k)) (S.at_g i hg) (S.g x (List.mem_of_getElem? hg)).2
theorem mg_t {is : List Nat} {k : Nat} {gs : List D → Ev → Hh → Option (Ev × Hh)} {n : Nat} (B : Bq X) (h : MGs T X is es gs) (hn : (assignEach es X.env).length = n := by rfl) (hst : (assignEach es X.env).findIdx? (·.1) = none := by rfl) : MG T X is (.Tuple es k pos) (gTup n gs) := mg_tup B.calm h hn hst
end
end Rf
namespace Rf
open PySem PySem.Spec PyProof.Rows L2
/-- a def of the module's text -/
def FnP (K : PySem.W.Frag) (mg : Str → Option Value) (x : Str) (st : Stmt) : Prop := (∃ fd, FunD K x x (defArgs st) (defBody st) (defScope st) [] [] (He.ga K x) fd) ∧ mg x = some (.ref (He.ga K x))
abbrev cxD (P : Program) (wo : World) (K : PySem.W.Frag) (mg : Str → Option Value) (base : Heap) (N : List Str) (x : Str) (st : Stmt) (cdv : Value) (A : Around) (outer : List Env) (s : Shared) (H : Hp) (E : XK) : Cx := cxOf (L2N.CX P wo) P wo K mg base N x (defScope st) (He.ga K x) cdv A outer s H E
/-- THE RULE of a def, its names checked -/
theorem df_ofS {T : List (Addr × Str)} {P : Program} {wo : World} {K : PySem.W.Frag} {mg : Str → Option Value} {base : Heap} {x : Str} {st : Stmt} {N ps : List Str} {vis loc : List (Nat × Str)} {gls : List Str} {k : Nat} {m : Ms}
    (F : FnP K mg x st) (hS : C8.scC N ps (defScope st) = true) (hV : scB N (defScope st) (fun _ => true) vis loc gls = true)
    (hb : ∀ (kV doc pm : Value) (an : Option Addr) (cdv ct : Value) (us : List Value), us.length = ps.length → bindArgs (PySem.W.fnOf x x (defArgs st) (defBody st) (defScope st) .none kV doc pm an cdv ct) ⟨us, []⟩ = pure (ps.zip us))
    (hbody : ∀ (cdv : Value) (A : Around) (outer : List Env) (s : Shared) (H : Hp) (E : XK), Room k (cxD P wo K mg base N x st cdv A outer s H E).A →
      Bd (cxD P wo K mg base N x st cdv A outer s H E) (fun cls d _ H => E cls d H) → Bq (cxD P wo K mg base N x st cdv A outer s H E) → SC (cxD P wo K mg base N x st cdv A outer s H E) vis loc gls →
      MSs T (cxD P wo K mg base N x st cdv A outer s H E) (fun cls d _ H => E cls d H) (defBody st) m) : Df T P wo K mg base x (k + 1) ps (runF N.length m) := by
  obtain ⟨⟨fd, F⟩, hg⟩ := F
  refine df_of F (C8.fnScope_by hS) hg hb fun cdv A outer s H E hr B => ?_
  exact hbody cdv A outer s H E hr B ⟨B.calm, B.nd, by have := hr.un; show (A.deeper _).units + 100 < cLine; omega⟩ (sc_by (N := N) (sc := defScope st) (fl := fun _ => true) rfl rfl (fun _ _ => rfl) hV)
end Rf
namespace Rf
open PySem PySem.Spec PyProof.Rows L2
theorem mt_chain {T : List (Addr × Str)} {X : Cx} {W : WX} {a b c : Expr} {ma mb mc : Me} {pos : Pos} {op op' : CmpOp} {f g : D → D → Hh → O} (ho : MOp T X (compareOp op) f) (ho' : MOp T X (compareOp op') g) (ha : ME T X W a ma) (hb : ME T X W b mb) (hc : ME T X W c mc)
    (hm : lastMarks [op, op'] [b, c] = false := by with_unfolding_all rfl) : MT T X W (.Compare a [op, op'] [b, c] pos) (tV (mChain f g ma mb mc)) :=
  PT.imp (pt_chain ho ho' ha hb hc hm) fun σ H Q ⟨w, ρ, env, h, s, q⟩ => by
    refine ⟨w, ρ, env, h, s, ?_⟩
    unfold tV mChain at q
    cases e : ma env h with
    | stuck => rw [e] at q; exact q
    | exc x h1 => rw [e] at q; exact q
    | ok v h1 =>
      rw [e, R.bind_ok] at q
      intro ρ1 H1 x e1 r1 d1
      refine ⟨w, ρ1, env, h1, s.next e1 r1, ?_⟩
      cases e' : mb env h1 with
      | stuck => rw [e'] at q; exact q
      | exc x h2 => rw [e'] at q; exact Pst.ext (rel := fun _ _ _ a b => a = b) q e1
      | ok u h2 =>
        rw [e', R.bind_ok] at q
        intro ρ2 H2 y e2 r2 d2
        refine ⟨w, ρ2, h2, v, u, s.g, r2, d1.mono e2, d2, ?_⟩
        cases e3 : f v u h2 with
        | none => rw [e3] at q; exact q
        | some p =>
          rw [e3, ofO_some, R.bind_ok] at q
          cases e4 : toB p.1 with
          | none => rw [e4] at q; exact q.elim
          | some k =>
            rw [e4] at q
            intro ρ3 H3 z e5 r3 d3
            rw [toB_some e4] at d3
            refine ⟨k, d3, ?_⟩
            cases k with
            | true =>
              rw [if_pos rfl]
              refine ⟨w, ρ3, env, p.2, (s.next e1 r1).next (e2.trans e5) r3, ?_⟩
              dsimp only at q
              cases e6 : mc env p.2 with
              | stuck => rw [e6] at q; exact q
              | exc x h2 => rw [e6] at q; exact Pst.ext (rel := fun _ _ _ a b => a = b) q ((e1.trans e2).trans e5)
              | ok t h4 =>
                rw [e6, R.bind_ok] at q
                intro ρ4 H4 t' e7 r4 d4
                refine ⟨w, ρ4, h4, u, t, s.g, r4, d2.mono (e5.trans e7), d4, ?_⟩
                cases e8 : g u t h4 with
                | none => rw [e8] at q; exact q
                | some p5 =>
                  rw [e8, ofO_some, R.bind_ok] at q
                  cases e9 : toB p5.1 with
                  | none => rw [e9] at q; exact q.elim
                  | some k5 =>
                    rw [e9] at q
                    intro ρ5 H5 z5 e10 r5 d5
                    rw [toB_some e9] at d5
                    exact ⟨k5, d5, q ρ5 H5 k5 ((((e1.trans e2).trans e5).trans e7).trans e10) r5 rfl⟩
            | false => rw [if_neg (by decide)]; exact ⟨false, rfl, q ρ3 H3 _ ((e1.trans e2).trans e5) r3 rfl⟩
end Rf
namespace Rf
open PySem PySem.Spec PyProof.Rows L2 LamX

/-- the table that a def's lambdas are put in -/
def TabX (T : List (Addr × Str)) (X : Cx) : Prop := ∃ c P, X.env.code = .ref c ∧ TabB X.base X.mg c P ∧ (P, X.env.qual ++ "<lambda>") ∈ T ∧ ∀ p ∈ T, p.1 = P → p.2 = X.env.qual ++ "<lambda>"
/-- THE RULE of a def, its names checked, its code object known -/
theorem df_ofC {T : List (Addr × Str)} {P : Program} {wo : World} {K : PySem.W.Frag} {mg : Str → Option Value} {base : Heap} {x : Str} {st : Stmt} {N ps : List Str} {vis loc : List (Nat × Str)} {gls : List Str} {k : Nat} {m : Ms}
    (F : FnP K mg x st) (hS : C8.scC N ps (defScope st) = true) (hV : scB N (defScope st) (fun _ => true) vis loc gls = true)
    (hb : ∀ (kV doc pm : Value) (an : Option Addr) (cdv ct : Value) (us : List Value), us.length = ps.length → bindArgs (PySem.W.fnOf x x (defArgs st) (defBody st) (defScope st) .none kV doc pm an cdv ct) ⟨us, []⟩ = pure (ps.zip us))
    (hbody : ∀ (cdv : Value) (A : Around) (outer : List Env) (s : Shared) (H : Hp) (E : XK), cdv = .ref (He.codeOf K (x, none)) → Room k (cxD P wo K mg base N x st cdv A outer s H E).A →
      Bd (cxD P wo K mg base N x st cdv A outer s H E) (fun cls d _ H => E cls d H) → Bq (cxD P wo K mg base N x st cdv A outer s H E) → SC (cxD P wo K mg base N x st cdv A outer s H E) vis loc gls →
      MSs T (cxD P wo K mg base N x st cdv A outer s H E) (fun cls d _ H => E cls d H) (defBody st) m) : Df T P wo K mg base x (k + 1) ps (runF N.length m) := by
  obtain ⟨⟨fd, F⟩, hg⟩ := F
  have Sc := C8.fnScope_by hS
  obtain ⟨oc, od, dV, kV, doc, pm, an, cdv, ct, osl, efd, lk, hcd, _, _⟩ := id F.ex
  obtain ⟨c, rfl⟩ := He.codeIn_ref hcd
  have ec : He.codeOf K (x, none) = c := by subst efd; exact He.codeOf_eq (p := (x, none)) lk rfl
  refine ⟨⟨fd, ?_, F.bindsN hb, fun_look F⟩, hg, F.kp⟩
  subst efd
  refine fn_of lk hcd Sc (fun vs H Q E ⟨w, ρ, h, ds, _, hl, rs, _, _⟩ => by rw [← rs.length]; exact hl) fun A outer s H vs Q E hr h => ?_
  have B : Bd (cxD P wo K mg base N x st (.ref c) A outer s H E) (fun cls d _ H => E cls d H) := ⟨rfl, passes_of rfl, L2N.takes_of rfl rfl rfl rfl, Sc.nd⟩
  refine ⟨_, hbody (.ref c) A outer s H E (by rw [ec]) hr B ⟨B.calm, B.nd, by have := hr.un; show (A.deeper _).units + 100 < cLine; omega⟩ (sc_by (N := N) (sc := defScope st) (fl := fun _ => true) rfl rfl (fun _ _ => rfl) hV), ?_⟩
  obtain ⟨w, ρ, h, ds, eg, hl, rs, rh, q⟩ := h
  refine ⟨w, ρ, _, h, ⟨eg, re_start rs, rh⟩, ?_⟩
  unfold runF at q
  cases e : m (ds.map some ++ List.replicate (N.length - ds.length) none) h with
  | nx env h' =>
    rw [e] at q
    intro ρ' H' σ' e1 r1 _
    exact pst_fin (σ := []) (Dd := ⟨fun _ _ => True, fun _ _ => True, fun _ _ => True, fun _ _ => True⟩) rh.len q ρ' H' .non e1 r1 rfl
  | rt v h' =>
    rw [e] at q
    intro ρ' H' y e1 r1 d1
    exact pst_fin (σ := []) (Dd := ⟨fun _ _ => True, fun _ _ => True, fun _ _ => True, fun _ _ => True⟩) rh.len q ρ' H' y e1 r1 d1
  | exc v h' =>
    rw [e] at q
    intro ρ' H' σ' e1 r1
    exact pst_finX (Q := Q) rh.len q ρ' H' e1 r1
  | bk env h' => rw [e] at q; exact q.elim
  | ct env h' => rw [e] at q; exact q.elim
  | stuck => rw [e] at q; exact q.elim
/-- what is known of the def that calls the lambdas -/
def ToldOk (T : List (Addr × Str)) (X : Cx) (x : Str) : Prop :=
  ∃ (a : Str) (g : Addr) (pg : Arguments) (bg : List Stmt) (sg : Scope) (dV kV doc pm cdv ct oc : Value) (an od : Option Addr) (osl : Array (Option Value)) (Ng : List Str), X.mg x = some (.ref g) ∧ PySem.W.keepIn X.K (.ref g) = true ∧
    X.K.lookup g = some ⟨oc, od, .func (PySem.W.fnOf x x pg bg sg dV kV doc pm an cdv ct), osl⟩ ∧ PySem.W.codeIn X.K cdv x = true ∧ L2.Binds X.K (PySem.W.fnOf x x pg bg sg dV kV doc pm an cdv ct) [a] [] ∧ FnScope Ng [a] sg ∧ Ng[0]? = some a ∧ Vis sg a ∧
    (∀ q, Gives3 X Ng x sg g cdv bg a q (TTold3 T X)) ∧ (a == ("__debug__" : Str)) = false ∧ (a == ("__classdict__" : Str)) = false
theorem takes_lam {X : Cx} {A : Around} {outer : List Env} {s : Shared} {H : Hp} {E : XK} {scope : Scope} {f c' : Addr} : L2N.Takes (lamCxN X A outer s H E scope f c') (fun cls d _ H => E cls d H) := L2N.takes_of rfl rfl rfl rfl
section
variable {T : List (Addr × Str)} {X : Cx} {W : WX} {vis loc : List (Nat × Str)} {gls : List Str}
theorem me_toldS {x : Str} {k k' : Nat} {params : Arguments} {body : Expr} {scope : Scope} {as : List Str} {m : Me} {p lpos pos : Pos} {vis1 : List (Nat × Str)} {gls1 : List Str} (S : SC X vis loc gls) (j : Nat) (hg : gls[j]? = some x) (D : ToldOk T X x) (L : TabX T X) (hr : Room k' X.A) (hk : k + 2 ≤ k') (B : Bq X) (ls : LamS1 X.N X.env.scope scope) (lp : LamP params body scope as)
    (hS : ∀ (A : Around) (outer : List Env) (s : Shared) (H : Hp) (E : XK) (f c' : Addr), SC (lamCxN X A outer s H E scope f c') vis1 [] gls1)
    (hbody : ∀ (A : Around) (outer : List Env) (s : Shared) (H : Hp) (E : XK) (f c' : Addr), Room k (lamCxN X A outer s H E scope f c').A → SC (lamCxN X A outer s H E scope f c') vis1 [] gls1 → Bq (lamCxN X A outer s H E scope f c') → L2N.Takes (lamCxN X A outer s H E scope f c') (fun cls d _ H => E cls d H) →
      ME T (lamCxN X A outer s H E scope f c') (fun cls d _ H => E cls d H) body m) : ME T X W (.Call (.Name x p) [.Lambda params body scope lpos] [] pos) (mTold m) := by
  obtain ⟨a, g, pg, bg, sg, dV, kV, doc, pm, cdv, ct, oc, an, od, osl, Ng, h1, h2, h3, h4, h5, h6, h7, h8, h9, h10, h11⟩ := D
  obtain ⟨c, P, t1, t2, t3, t4⟩ := L
  exact me_told (S.at_g j hg) h1 h2 h3 h4 h5 h6 h7 h8 (h9 _) t2 t1 t3 t4 (hr.mono hk) ls lp (fun A outer s H E f c' hr' => hbody A outer s H E f c' hr' (hS A outer s H E f c') ⟨rfl, B.nd, by have := hr'.un; show (A.deeper _).units + 100 < cLine; omega⟩ takes_lam) (S.g x (List.mem_of_getElem? hg)).2 h10 h11
end

/-! ### told's suite -/
/-- what isinstance knows of the module's exceptions -/
structure ExI (K : PySem.W.Frag) : Prop where
  c : ∀ e : Ex, ExcC K (He.ga K (exN e))
  one : ∀ e k : Ex, PySem.W.kitOne K (clsV K e) (clsV K k) = some (decide (e = k))
def allEx (f : Ex → D) : List D := [f .na, f .tl, f .mi, f .bp]
section
variable {T : List (Addr × Str)} {X : Cx} {vis loc : List (Nat × Str)} {gls : List Str} {a : Addr} {oe : Obj} {pn : List (Addr × Obj)} {e : Ex}
theorem pe_isE (k : Ex) {ie : Nat} {en cn : Str} {p1 p2 p3 pos : Pos} {i1 i2 : Nat} (S : SC (X.suite a ((a, oe) :: pn)) vis loc gls) (j : Nat) (hv : vis[j]? = some (ie, en)) (hz : L2N.Zn (clsV X.K e) none oe) (hf : ∃ vs, oe.data = .fields vs) (I : ExI X.K) (F : ExF X.K X.mg)
    (hg1 : gls[i1]? = some ("isinstance" : Str)) (hm : X.mg "isinstance" = none) (hg2 : gls[i2]? = some cn) (hc : cn = exN k) :
    PE (X.suite a ((a, oe) :: pn)) (.Call (.Name "isinstance" p1) [.Name en p2, .Name cn p3] [] pos) (fun σ H Q => σ[ie]? = some (some (.ref a)) ∧ Q (.bl (decide (e = k))) H) := by
  subst hc
  obtain ⟨v1, v2, v3, v4⟩ := S.at_v j hv
  have h := pe_callB (pos := pos) (p := p1) (call_isE (X := X) (I.c e) hz.zc hf) (S.at_g i1 hg1) hm bt_isinstance (pa_cons (pe_var (pos := p2) v1 v2 v3 v4) (pa_cons (pe_glob (pos := p3) (v := .ref (He.ga X.K (exN k))) (S.at_g i2 hg2) (F.mg k) rfl (S.g _ (List.mem_of_getElem? hg2)).2) pa_nil))
  exact PE.imp h fun σ H Q ⟨h1, h2⟩ => ⟨.ref a, h1, .ref (He.ga X.K (exN k)), _, _, rfl, fun u r => r, I.one e k, h2⟩
/-- kinds = [isinstance(e, ..), ..] -/
theorem pss_kinds {W : WX} {m : Ms} {n ie ik : Nat} {en kn : Str} {p1 p2 p3 pos kp lp sp q1 q2 q3 qq r1 r2 r3 rr u1 u2 u3 uu : Pos} {i1 : Nat} {c1 c2 c3 c4 : Str} {j1 j2 j3 j4 : Nat} {rest : List Stmt} (S : SC (X.suite a ((a, oe) :: pn)) vis loc gls) (j : Nat) (hv : vis[j]? = some (ie, en)) (jl : Nat) (hl : loc[jl]? = some (ik, kn)) (hN : X.N.Nodup) (hn : X.N.length = n)
    (hz : L2N.Zn (clsV X.K e) none oe) (hf : ∃ vs, oe.data = .fields vs) (I : ExI X.K) (F : ExF X.K X.mg) (hg1 : gls[i1]? = some ("isinstance" : Str)) (hm : X.mg "isinstance" = none) (h1 : gls[j1]? = some c1) (h2 : gls[j2]? = some c2) (h3 : gls[j3]? = some c3) (h4 : gls[j4]? = some c4)
    (e1 : c1 = exN .na) (e2 : c2 = exN .tl) (e3 : c3 = exN .mi) (e4 : c4 = exN .bp)
    (hs : swapsWith (.List [.Call (.Name "isinstance" p1) [.Name en p2, .Name c1 p3] [] pos, .Call (.Name "isinstance" q1) [.Name en q2, .Name c2 q3] [] qq, .Call (.Name "isinstance" r1) [.Name en r2, .Name c3 r3] [] rr, .Call (.Name "isinstance" u1) [.Name en u2, .Name c4 u3] [] uu] lp) (some (.Name kn kp)) sp.line (X.suite a ((a, oe) :: pn)).env = pure false)
    (hr : MSs T (X.suite a ((a, oe) :: pn)) W0 rest m) (hm2 : ∀ h, m ((List.replicate n none).set ik (some (.lst (allEx fun k => .bl (decide (e = k)))))) h = .rt (.tup [.str (exT e)]) h) :
    PSs (X.suite a ((a, oe) :: pn)) (.Assign [.Name kn kp] (.List [.Call (.Name "isinstance" p1) [.Name en p2, .Name c1 p3] [] pos, .Call (.Name "isinstance" q1) [.Name en q2, .Name c2 q3] [] qq, .Call (.Name "isinstance" r1) [.Name en r2, .Name c3 r3] [] rr, .Call (.Name "isinstance" u1) [.Name en u2, .Name c4 u3] [] uu] lp) sp :: rest) (tSuite T X n ie a e) := by
  obtain ⟨l1, l2, l3⟩ := S.at_l jl hl
  have P1 := pe_isE (pos := pos) (p1 := p1) (p2 := p2) (p3 := p3) .na S j hv hz hf I F hg1 hm h1 e1
  have P2 := pe_isE (pos := qq) (p1 := q1) (p2 := q2) (p3 := q3) .tl S j hv hz hf I F hg1 hm h2 e2
  have P3 := pe_isE (pos := rr) (p1 := r1) (p2 := r2) (p3 := r3) .mi S j hv hz hf I F hg1 hm h3 e3
  have P4 := pe_isE (pos := uu) (p1 := u1) (p2 := u2) (p3 := u3) .bp S j hv hz hf I F hg1 hm h4 e4
  have Q := ps_set (X := X.suite a ((a, oe) :: pn)) (pos := sp) (pos' := kp) hN l1 l2 (pe_lst (pos := lp) (pa_cons P1 (pa_cons P2 (pa_cons P3 (pa_cons P4 pa_nil))))) hs l3
  refine PSs.imp (pss_cons Q hr) fun D σ H ⟨w, ρ, h, hw, rh, ha, hσ, q⟩ => ?_
  refine ⟨ha, ha, ha, ha, by rw [sizeLine_eq]; simp, fun p hp => ?_⟩
  obtain ⟨e5, r5, f5⟩ := rh.frz hp (.lst [.bl (decide (e = .na)), .bl (decide (e = .tl)), .bl (decide (e = .mi)), .bl (decide (e = .bp))])
  refine ⟨w, ρ, (List.replicate n none).set ik (some (.lst (allEx fun k => .bl (decide (e = k))))), h, ⟨hw, ?_, r5⟩, ?_⟩
  · have re : RE w ρ (L2.upd H p (.lst [.bl (decide (e = .na)), .bl (decide (e = .tl)), .bl (decide (e = .mi)), .bl (decide (e = .bp))])) (List.replicate n none) σ := ⟨by rw [List.length_replicate]; exact hσ.symm, fun i d z => by
      rw [List.getElem?_replicate] at z
      split at z <;> cases z⟩
    exact re.set ik ⟨p, _, rfl, f5, .inl upd_same, _, _, rfl, rfl, _, _, rfl, rfl, _, _, rfl, rfl, _, _, rfl, rfl, rfl⟩
  · rw [hm2 h]
    exact fun ρ' H' x e6 r6 d6 => q ρ' H' x (e5.trans e6) r6 d6
end
end Rf
namespace Rf
open PySem PySem.Spec PyProof.Rows L2 LamX L2H

section
variable {T : List (Addr × Str)} {X : Cx} {W : WX} {pos : Pos} {vis loc vis1 loc1 : List (Nat × Str)} {gls gls1 : List Str}
theorem ms_setLcH {px : Addr × Obj} {i : Nat} {y : Str} {py : Pos} {elt tg iter : Expr} {ifs : List Expr} {scope : Scope} {own : List (Str × Nat)} {is : List Nat} {spos : Pos} {src : Ev → Hh → R Src} {g : Mg} {t : Mt} {m : Me} (mt : Bool) (hot : Hot1 X.A px) (hpx : px ∈ X.pn) (hN : X.N.Nodup) (hy : X.N[i]? = some y) (hyl : X.env.scope.names.lookup y = some .local)
    (hsw : swapsWith (.ListComp elt [⟨tg, iter, ifs, 0⟩] scope pos) (some (.Name y py)) spos.line X.env = pure true) (hi : PIH X tg iter (tIm T X W src)) (ok : BlkOk X.N X.env.scope scope own)
    (hS : ∀ (s : Shared) (H : Hp) (C : Addr) (cl : List (Str × Addr)) (fp : List Addr), SC (X.blk s H scope (compEnvC scope cl C X.env) fp) vis loc gls)
    (hg : ∀ (s : Shared) (H : Hp) (C : Addr) (cl : List (Str × Addr)) (fp : List Addr), SC ((X.blk s H scope (compEnvC scope cl C X.env) fp).tr [px] (fun _ _ => False)) vis loc gls → MG T ((X.blk s H scope (compEnvC scope cl C X.env) fp).tr [px] (fun _ _ => False)) is tg g)
    (ht : ∀ (s : Shared) (H : Hp) (C : Addr) (cl : List (Str × Addr)) (fp : List Addr), SC ((X.blk s H scope (compEnvC scope cl C X.env) fp).tr [px] (fun _ _ => False)) vis loc gls → MTs T ((X.blk s H scope (compEnvC scope cl C X.env) fp).tr [px] (fun _ _ => False)) W0 ifs t)
    (he : ∀ (s : Shared) (H : Hp) (C : Addr) (cl : List (Str × Addr)) (fp : List Addr), SC ((X.blk s H scope (compEnvC scope cl C X.env) fp).tr [px] (fun _ _ => False)) vis loc gls → ME T ((X.blk s H scope (compEnvC scope cl C X.env) fp).tr [px] (fun _ _ => False)) W0 elt m)
    (his : ∀ i ∈ is, i ∈ own.map (·.2) := by decide) (hs : ∀ x, foldedSetIterable iter X.env x = pure x := by intro _; rfl) :
    MS T X W (.Assign [.Name y py] (.ListComp elt [⟨tg, iter, ifs, 0⟩] scope pos) spos) (sAsg (mComp mt src g t m (own.map (·.2))) (gN i)) := by
  refine ⟨fun pins s σ H D I h0 => ?_⟩
  have h : tLc (tIm T X W src) (tG T X is g) (tTm T X W0 t) (tM T X W0 m) (own.map (·.2)) σ H (fun x H1 => gName i x σ H1 D.nx) := by
    obtain ⟨w, ρ, env, h, s, z⟩ := asg_imp (is := [i]) h0
    refine comp_imp (mt := mt) his ⟨w, ρ, env, h, s, ?_⟩
    cases e : mComp mt src g t m (own.map (·.2)) env h with
    | stuck => rw [e] at z; exact z
    | exc x h1 => rw [e] at z; exact z
    | ok v h1 =>
      rw [e] at z
      intro ρ1 H1 x e1 r1 d1
      obtain ⟨w2, ρ2, env2, h2, d2, s2, r2, z2⟩ := z ρ1 H1 x e1 r1 d1
      exact z2 ρ2 H1 _ Ext.refl s2.h (s2.e.set i r2) (Agree.set (by simp))
  rw [exec_Assign_Name_used _ _ _ _ hsw]
  refine wpAny_bind (wpAny_standAt (wpAny_bind ?_))
  show wpAny _ X.A (do let _ ← comprehension (.ListComp elt [⟨tg, iter, ifs, 0⟩] scope pos) scope X.env (firstIterPos [⟨tg, iter, ifs, 0⟩] pos) (newList []) false (eval iter X.env) (some (assign (.Name y py) X.env))) _ _ s
  refine wpAny_bind (thn (lc_coreH (g := tG T X is g) (tt := tTm T X W0 t) (te := tM T X W0 m) (Qf := fun _ s' => SP X pins D .next s') hot hpx hN I hi ok (fun s H C cl fp => hg s H C cl fp ((hS s H C cl fp).tr _ _)) (fun s H C cl fp => ht s H C cl fp ((hS s H C cl fp).tr _ _)) (fun s H C cl fp => he s H C cl fp ((hS s H C cl fp).tr _ _)) hs h fun L C s' m H' I' q hn f => ?_) fun _ s' hq => wpAny_pure (wpAny_pure hq))
  show wpAny _ _ (assign (.Name y py) X.env (.ref L)) _ _ _
  refine wpAny_assign_Name (store_ok2 (v := V.ref L) I' hN hy (.inl hyl) rfl (fun s2 I2 ⟨a, sb, ha⟩ => ?_) (.inr hyl))
  obtain ⟨f0, f1, f2, f3, f4, f5⟩ := f
  have haC : C ≠ a := by
    rcases ha with z | z
    · rw [z]; exact f1
    · exact fun e => f4 y a z e.symm
  refine ⟨m, hn.sameBut sb haC, fun h3 sb3 => ?_⟩
  exact ⟨_, H', I2.turned (t' := s2.toks) (fun b o hb e => (sb3.2 b hb).trans e) f0 f1 f3 f4 f5, q⟩
end
/-- the def that calls the lambdas keeps its promise: what is left to be shown is its suite -/
theorem told_ok {T : List (Addr × Str)} {X : Cx} {x a n ex : Str} {st : Stmt} {Ng : List Str} {ie j kt : Nat} {b₀ : Stmt} {suite : List Stmt} {p1 p2 p3 p4 p5 p6 p7 p8 : Pos} {CS : Addr}
    (F : FnP X.K X.mg x st) (hS : C8.scC Ng [a] (defScope st) = true) (hB : defBody st = [.Try [.Return (some (.Tuple [.Constant (.str "told") j p1, .Call (.Name a p2) [] [] p3] kt p4)) p5] [.ExceptHandler (some (.Name ex p6)) (some n) (b₀ :: suite) p7] [] [] p8])
    (hb : ∀ (kV doc pm : Value) (an : Option Addr) (cdv ct : Value) (us : List Value), us.length = ([a] : List Str).length → bindArgs (PySem.W.fnOf x x (defArgs st) (defBody st) (defScope st) .none kV doc pm an cdv ct) ⟨us, []⟩ = pure (([a] : List Str).zip us))
    (h0 : Ng[0]? = some a) (hva : Vis (defScope st) a) (hie : Ng[ie]? = some n) (hi0 : ie ≠ 0) (hln : (defScope st).names.lookup n = some .local) (hge : (defScope st).names.lookup ex = some .globalImplicit) (hme : X.mg ex = some (.ref CS)) (hde : (ex == ("__debug__" : Str)) = false) (hd1 : (a == ("__debug__" : Str)) = false) (hd2 : (a == ("__classdict__" : Str)) = false)
    (hEx : ∀ e, PySem.W.exmOne X.K (clsV X.K e) (.ref CS) = some true)
    (hsu : ∀ (cdv : Value) (s : Shared) (H : Hp) (a' : Addr) (oe : Obj) (e : Ex) (pn : List (Addr × Obj)), L2N.Zn (clsV X.K e) none oe → (∃ vs, oe.data = .fields vs) →
      PSs ((cxOf C8.CX0 X.prog X.w X.K X.mg X.base Ng x (defScope st) (He.ga X.K x) cdv X.A X.stack s H C8.E0).nox.suite a' ((a', oe) :: pn)) (b₀ :: suite) (tSuite T X Ng.length ie a' e)) : ToldOk T X x := by
  obtain ⟨⟨fd, F⟩, hg⟩ := F
  have Sc := C8.fnScope_by hS
  obtain ⟨oc, od, dV, kV, doc, pm, an, cdv, ct, osl, efd, lk, hcd, _, _⟩ := id F.ex
  have B := F.bindsN hb
  subst efd
  exact ⟨a, _, _, _, _, dV, kV, doc, pm, cdv, ct, oc, an, od, osl, Ng, hg, F.kp, lk, hcd, B, Sc, h0, hva, fun q => by
    rw [hB]
    exact told_gives3 Sc.nd hie hln hge hme hde (List.getElem?_eq_some_iff.mp h0).1 hi0 hEx (hsu cdv), hd1, hd2⟩
theorem hot_suite {X : Cx} {a : Addr} {oe : Obj} {cls : Value} {pn : List (Addr × Obj)} (hz : L2N.Zn cls none oe) (hf : ∃ vs, oe.data = .fields vs) : Hot1 (X.suite a ((a, oe) :: pn)).A (a, oe) := by
  obtain ⟨vs, h⟩ := hf
  exact ⟨rfl, vs, h, hz.2.2 vs h⟩
end Rf
namespace Rf
open PySem PySem.Spec PyProof.Rows L2
def gEqI : Op2 := gI (fun _ _ => true) fun i j => .bl (decide (i = j))
theorem mop_eqI {T : List (Addr × Str)} {X : Cx} : MOp T X (compareOp .Eq) gEqI := mop_of op_eq fun x y H Q ⟨w, ρ, h, a, b, e1, rh, ra, rb, q⟩ => by
  unfold Vst gEqI at q
  cases e : gI (fun _ _ => true) (fun i j => D.bl (decide (i = j))) a b h with
  | none => rw [e] at q; exact q.elim
  | some p =>
    obtain ⟨i, j, rfl, rfl, c, rfl⟩ := gI_some e
    rw [e] at q
    have ra : x = .int i := ra
    have rb : y = .int j := rb
    subst ra rb
    have ee : decide (V.int i = V.int j) = decide (i = j) := by simp
    exact ⟨rfl, by rw [ee]; exact q ρ H _ Ext.refl rh rfl⟩
end Rf
namespace Rf
open PySem PySem.Spec PyProof.Rows L2 LamX
/-! ### defs that hold lambdas -/
/-- the def's code object has its table -/
def TabY (T : List (Addr × Str)) (K : PySem.W.Frag) (mg : Str → Option Value) (base : Heap) (x : Str) : Prop :=
  ∃ Pt, TabB base mg (He.codeOf K (x, none)) Pt ∧ (Pt, (x ++ ".<locals>.") ++ "<lambda>") ∈ T ∧ ∀ p ∈ T, p.1 = Pt → p.2 = (x ++ ".<locals>.") ++ "<lambda>"
theorem tabX_of {T : List (Addr × Str)} {P : Program} {wo : World} {K : PySem.W.Frag} {mg : Str → Option Value} {base : Heap} {N : List Str} {x : Str} {st : Stmt} {cdv : Value} {A : Around} {outer : List Env} {s : Shared} {H : Hp} {E : XK} (h : TabY T K mg base x) (e : cdv = .ref (He.codeOf K (x, none))) :
    TabX T (cxD P wo K mg base N x st cdv A outer s H E) := by
  obtain ⟨Pt, h1, h2, h3⟩ := h
  exact ⟨_, Pt, e, h1, h2, h3⟩
/-- _law_told in a given world -/
def ToldIn (T : List (Addr × Str)) (P : Program) (wo : World) (K : PySem.W.Frag) (mg : Str → Option Value) (base : Heap) (x : Str) : Prop :=
  ∀ X : Cx, X.prog = P → X.w = wo → X.K = K → X.mg = mg → X.base = base → ToldOk T X x
end Rf
namespace Rf
open PySem PySem.Spec PyProof.Rows L2 LamX

/-! ### what the head must say besides -/
def allE : List Ex := [.na, .tl, .mi, .bp]
theorem mem_allE (e : Ex) : e ∈ allE := by cases e <;> decide
def noLstB (K : PySem.W.Frag) : Bool := K.all fun q => !decide (q.2.cls = .type "list")
def exFB (K : PySem.W.Frag) : Bool := allE.all fun e => PySem.W.excIn K (He.ga K (exN e)) [.type "Exception", .type "BaseException", .type "object"] "Exception.__new__" && (decide (PySem.W.subIn K (clsV K e) (.type "BaseException") = some true) && (decide (PySem.W.typeIn K (clsV K e) = some (.type "type")) && PySem.W.keepIn K (clsV K e)))
def excCB (K : PySem.W.Frag) (D : Addr) : Bool := decide (PySem.W.findIn K (.ref D) "__getattribute__" = some (some (.builtin "BaseException.__getattribute__"))) && (decide (PySem.W.findIn K (.ref D) "__getattr__" = some none) && (decide (PySem.W.subIn K (.ref D) (.type "BaseException") = some true) && (PySem.W.hasDictIn K D && (decide (PySem.W.findIn K (.ref D) "__class__" = some (some (.builtin "object.__class__"))) &&
  (decide (PySem.W.specialIn K (.builtin "object.__class__") "__get__" = some (some (.builtin "getset_descriptor.__get__"))) && (decide (PySem.W.takesIn K (.builtin "object.__class__") = some true) && decide (PySem.W.mroIn K D (.type "object") = some true)))))))
def exIB (K : PySem.W.Frag) : Bool := (allE.all fun e => excCB K (He.ga K (exN e))) && allE.all fun e => allE.all fun k => decide (PySem.W.kitOne K (clsV K e) (clsV K k) = some (decide (e = k)))
def exmB (K : PySem.W.Frag) : Bool := allE.all fun e => decide (PySem.W.exmOne K (clsV K e) (.ref (He.ga K "FlatError")) = some true)
def tabAt (K : PySem.W.Frag) (x : Str) : Addr := (He.cT K (x, none)).2
def tabsT (K : PySem.W.Frag) (xs : List Str) : List (Addr × Str) := xs.map fun x => (tabAt K x, (x ++ ".<locals>.") ++ "<lambda>")
def exAll (xs : List Str) (K : PySem.W.Frag) : Bool := noLstB K && (exFB K && (exIB K && (exmB K && (decide (xs.map (tabAt K)).Nodup && decide (mainGlobals ∉ xs.map (tabAt K))))))
structure Ex0 (xs : List Str) (K : PySem.W.Frag) : Prop where
  nol : noLstB K = true
  f : exFB K = true
  i : exIB K = true
  m : exmB K = true
  nd : (xs.map (tabAt K)).Nodup
  g : mainGlobals ∉ xs.map (tabAt K)
theorem ex0 {xs : List Str} {K : PySem.W.Frag} (h : exAll xs K = true) : Ex0 xs K := by
  unfold exAll at h
  simp only [Bool.and_eq_true, decide_eq_true_eq] at h
  exact ⟨h.1, h.2.1, h.2.2.1, h.2.2.2.1, h.2.2.2.2.1, h.2.2.2.2.2⟩
theorem exF_of {K : PySem.W.Frag} {mg : Str → Option Value} (h : exFB K = true) (hm : ∀ e : Ex, mg (exN e) = some (clsV K e)) : ExF K mg := by
  unfold exFB at h
  simp only [Bool.and_eq_true, List.all_eq_true, decide_eq_true_eq] at h
  exact ⟨fun e => (h e (mem_allE e)).1, fun e => (h e (mem_allE e)).2.1, fun e => (h e (mem_allE e)).2.2.1, fun e => (h e (mem_allE e)).2.2.2, hm⟩
theorem exI_of {K : PySem.W.Frag} (h : exIB K = true) : ExI K := by
  unfold exIB excCB at h
  simp only [Bool.and_eq_true, List.all_eq_true, decide_eq_true_eq] at h
  refine ⟨fun e => ?_, fun e k => h.2 e (mem_allE e) k (mem_allE k)⟩
  obtain ⟨h1, h2, h3, h4, h5, h6, h7, h8⟩ := h.1 e (mem_allE e)
  exact ⟨h1, h2, h3, h4, h5, h6, h7, h8⟩
theorem exm_of {K : PySem.W.Frag} (h : exmB K = true) (e : Ex) : PySem.W.exmOne K (clsV K e) (.ref (He.ga K "FlatError")) = some true := by
  unfold exmB at h
  simp only [List.all_eq_true, decide_eq_true_eq] at h
  exact h e (mem_allE e)
theorem tabY_of {K : PySem.W.Frag} {mg : Str → Option Value} {base : Heap} {xs : List Str} {x : Str} (h : Ex0 xs K) (hx : x ∈ xs) (hT : ∀ p ∈ xs.map fun x => He.cT K (x, none), TabB base mg p.1 p.2) : TabY (tabsT K xs) K mg base x := by
  refine ⟨tabAt K x, hT _ (List.mem_map.mpr ⟨x, hx, rfl⟩), List.mem_map.mpr ⟨x, hx, rfl⟩, fun p hp e => ?_⟩
  obtain ⟨y, hy, rfl⟩ := List.mem_map.mp hp
  have ey : y = x := by
    have nd := h.nd
    clear h hT hp
    induction xs with
    | nil => cases hx
    | cons a r ih =>
      rw [List.map_cons, List.nodup_cons] at nd
      rcases List.mem_cons.mp hx with e1 | e1 <;> rcases List.mem_cons.mp hy with e2 | e2
      · rw [e1, e2]
      · subst e1
        exact absurd (List.mem_map.mpr ⟨y, e2, e⟩) nd.1
      · subst e2
        exact absurd (List.mem_map.mpr ⟨x, e1, e.symm⟩) nd.1
      · exact ih e1 e2 nd.2
  rw [ey]
theorem mem_lookA {K : PySem.W.Frag} {a : Addr} {o : Obj} (e : K.lookup a = some o) : (a, o) ∈ K := by
  induction K with
  | nil => cases e
  | cons p r ih =>
    obtain ⟨b, u⟩ := p
    rw [List.lookup_cons] at e
    split at e
    · rename_i q
      cases e
      rw [eq_of_beq q]
      exact List.mem_cons_self
    · exact List.mem_cons_of_mem _ (ih e)
theorem noLst_out {K : PySem.W.Frag} (h : noLstB K = true) {a : Addr} {o : Obj} (e : K.lookup a = some o) : o.cls ≠ .type "list" := by
  unfold noLstB at h
  simp only [List.all_eq_true, Bool.not_eq_true', decide_eq_false_iff_not] at h
  exact h (a, o) (mem_lookA e)
theorem tabs0 {K : PySem.W.Frag} {xs : List Str} {H : Hp} (h : ∀ p ∈ xs.map fun x => He.cT K (x, none), H p.2 = some (.tbl #[])) : Tabs (tabsT K xs) H := fun p hp => by
  obtain ⟨y, hy, rfl⟩ := List.mem_map.mp hp
  exact ⟨#[], h _ (List.mem_map.mpr ⟨y, hy, rfl⟩), trivial, fun pos cv hcv => by cases hcv⟩
theorem rds_ints {w : Wd} {ρ : List (Option Addr)} {H : Hp} : ∀ ns : List Int, RDs w ρ H (ns.map D.int) (ns.map V.int)
  | [] => rfl
  | n :: r => ⟨.int n, r.map V.int, rfl, rfl, rds_ints r⟩
theorem cx_false {P : Program} {w : World} {H : Hp} {s : Shared} {e : Value} {s' : Shared} (z : L2N.CX P w [] H s (fun _ _ _ => False) e s') : False := by
  obtain ⟨_, _, _, _, _, _, _, _, _, _, _, _, f⟩ := z
  exact f
/-- the law's promise, from what its meaning tells -/
theorem law_sp {K : PySem.W.Frag} {mg : Str → Option Value} {wo : World} {xs : List Str} {F : List D → Hh → R D} (h0 : noLstB K = true) {n : Nat} (hF : ∀ ns : List Int, ns.length ≤ n → (∀ z ∈ ns, Builtin.Int.intBits z ≤ 1048576) → F [.lst (ns.map .int)] [] = .ok (.bl true) [])
    (H : Hp) (a : Addr) (ns : List Int) (hl : ns.length ≤ n) (hb : ∀ z ∈ ns, Builtin.Int.intBits z ≤ 1048576) (hH : ∀ p ∈ xs.map fun x => He.cT K (x, none), H p.2 = some (.tbl #[])) (hS : SqL K H a (ns.map V.int)) :
    spF (tabsT K xs) K mg wo 1 F [.ref a] H (fun v _ => v = .bl true) fun _ _ _ => False := by
  have hR : Rd H a (.lst (ns.map V.int)) := by
    rcases hS with z | ⟨o, its, m, h1, h2, _⟩
    · exact z
    · exact absurd h2 (noLst_out h0 h1)
  refine ⟨⟨⟨mg, wo⟩, fun _ => False, fun _ => False⟩, [], [], [.lst (ns.map .int)], rfl, rfl, ⟨_, _, rfl, ⟨a, _, rfl, ⟨by simp, id, id⟩, hR, rds_ints ns⟩, rfl⟩, ⟨rfl, fun n m a z => by simp at z, fun n a z => by simp at z, fun n ob z => by simp at z, fun a z => z.elim id id |>.elim, tabs0 hH⟩, ?_⟩
  rw [hF ns hl hb]
  intro ρ' H' x e1 r1 d1
  exact d1
theorem lawAt_of {l : PySem.W.OpenLaw} {w : World} {K : PySem.W.Frag} {k n : Nat} {x : Str} {mg : Str → Option Value} {fa : Addr} {h : Heap} {xs : List Str} {F : List D → Hh → R D} {st : Stmt} (KX : K.In h) (c : exAll xs K = true) (hd : ∀ p ∈ xs.map (fun n => ((n, none) : He.Defn)), PySem.W.codeHdIn K (He.cT K p).1 (He.cT K p).2 = true)
    (out : ∀ p ∈ xs.map (fun n => ((n, none) : He.Defn)), K.lookup (He.cT K p).2 = none) (empty : ∀ p ∈ xs.map (fun n => ((n, none) : He.Defn)), h.get? (He.cT K p).2 = some { cls := .none, data := .fields #[] })
    (hf : FnP K mg "law" st) (hmg : mg "law" = some (.ref fa)) (hb : ∀ (kV doc pm : Value) (an : Option Addr) (cdv ct : Value) (us : List Value), us.length = ([x] : List Str).length → bindArgs (PySem.W.fnOf "law" "law" (defArgs st) (defBody st) (defScope st) .none kV doc pm an cdv ct) ⟨us, []⟩ = pure (([x] : List Str).zip us))
    (hF : ∀ ns : List Int, ns.length ≤ n → (∀ z ∈ ns, Builtin.Int.intBits z ≤ 1048576) → F [.lst (ns.map .int)] [] = .ok (.bl true) [])
    (hD : ∀ base : Heap, K.In base → base.Ns mainGlobals mg → (∀ p ∈ xs.map (fun x => He.cT K (x, none)), TabB base mg p.1 p.2) → Df (tabsT K xs) l.prog w K mg base "law" k [x] F) : LawAtS l w K (L2N.CX l.prog w) k n x mg fa h := by
  have E0 := ex0 c
  obtain ⟨⟨fd, F1⟩, hg⟩ := hf
  have e := hmg.symm.trans hg
  cases e
  have b := FunD.bindsA (ps := [x]) F1 hb
  have tr : ∀ {P : Addr × Addr → Prop}, (∀ p ∈ xs.map (fun n => ((n, none) : He.Defn)), P (He.cT K p)) → ∀ p ∈ xs.map (fun x => He.cT K (x, none)), P p := fun {P} q p hp => by
    obtain ⟨y, hy, rfl⟩ := List.mem_map.mp hp
    exact q (y, none) (List.mem_map.mpr ⟨y, hy, rfl⟩)
  refine ⟨fd, xs.map (fun x => He.cT K (x, none)), _, tr empty, tr out, tr fun p hp => PySem.W.codeHd_of_K KX (hd p hp), fun s v => b s [v] rfl, fun H a ns hl hbz hH hS => law_sp (mg := mg) (wo := w) (xs := xs) (F := F) E0.nol hF H a ns hl hbz hH hS, fun base h1 h2 h3 => ?_⟩
  obtain ⟨fd', ok, _, oc, od, osl, lk⟩ := (hD base h1 h2 h3).ok
  obtain ⟨oc2, od2, osl2, lk2⟩ := fun_look F1
  rw [lk2] at lk
  cases lk
  exact ok
end Rf
namespace Rf
open PySem PySem.Spec PyProof.Rows L2

/-! ### running the small semantics -/
def getV (o : Option (Option D)) (h : Hh) : R D := match o with
  | some (some d) => .ok d h
  | _ => .stuck
@[simp] theorem getV_some (d : D) (h : Hh) : getV (some (some d)) h = .ok d h := (rfl)
def tvS (o : Option Bool) (h : Hh) : R Bool := match o with
  | some b => .ok b h
  | none => .stuck
@[simp] theorem tvS_some (b : Bool) (h : Hh) : tvS (some b) h = .ok b h := (rfl)
def notS (o : Option Bool) (h : Hh) : R D := match o with
  | some b => .ok (.bl (!b)) h
  | none => .stuck
@[simp] theorem notS_some (b : Bool) (h : Hh) : notS (some b) h = .ok (.bl (!b)) h := (rfl)
def andS (o : Option Bool) (k : Hh → R D) (h : Hh) : R D := match o with
  | some true => k h
  | some false => .ok (.bl false) h
  | none => .stuck
@[simp] theorem andS_true (k : Hh → R D) (h : Hh) : andS (some true) k h = k h := (rfl)
@[simp] theorem andS_false (k : Hh → R D) (h : Hh) : andS (some false) k h = .ok (.bl false) h := (rfl)
/-- when the right side is calm -/
theorem andS_ok {b c : Bool} {k : Hh → R D} {h : Hh} (e : b = true → k h = .ok (.bl c) h) : andS (some b) k h = .ok (.bl (b && c)) h := by
  cases b with
  | true => exact e rfl
  | false => rfl
def orS (o : Option Bool) (k : Hh → R D) (h : Hh) : R D := match o with
  | some true => .ok (.bl true) h
  | some false => k h
  | none => .stuck
@[simp] theorem orS_true (k : Hh → R D) (h : Hh) : orS (some true) k h = .ok (.bl true) h := (rfl)
@[simp] theorem orS_false (k : Hh → R D) (h : Hh) : orS (some false) k h = k h := (rfl)
def starS (o : Option (List D)) (r : Hh → R (List D)) (h : Hh) : R (List D) := match o with
  | some xs => (r h).bind fun ys h2 => .ok (xs ++ ys) h2
  | none => .stuck
@[simp] theorem starS_some (xs : List D) (r : Hh → R (List D)) (h : Hh) : starS (some xs) r h = (r h).bind fun ys h2 => .ok (xs ++ ys) h2 := (rfl)
def toldS (r : R D) : R D := match r with
  | .ok v h' => .ok (.tup [.str "told", v]) h'
  | .exc e h' => .ok (.tup [.str (exT e)]) h'
  | .stuck => .stuck
@[simp] theorem toldS_ok (v : D) (h : Hh) : toldS (.ok v h) = .ok (.tup [.str "told", v]) h := (rfl)
@[simp] theorem toldS_exc (e : Ex) (h : Hh) : toldS (.exc e h) = .ok (.tup [.str (exT e)]) h := (rfl)
def yesS (x : D) (h : Hh) : R (Option Int) := match x with
  | .int i => .ok (some i) h
  | _ => .stuck
@[simp] theorem yesS_int (i : Int) (h : Hh) : yesS (.int i) h = .ok (some i) h := (rfl)
def sortS (mt : Bool) (x : D) (h : Hh) : R D := match x with
  | .tup xs => match intsD xs with
    | some ns => if ns.length < 64 then ofO (mk mt ((sortU ns).map D.int) h) else .stuck
    | none => .stuck
  | _ => .stuck
theorem sortS_ok {mt : Bool} {ns : List Int} {h : Hh} (e : ns.length < 64) : sortS mt (.tup (ns.map .int)) h = ofO (mk mt ((sortU ns).map D.int) h) := by
  simp only [sortS, intsD_map]
  exact if_pos e
def rngS (o : Option Int) (h : Hh) : R Src := match o with
  | some j => if okR j = true then .ok (rng 0 j.toNat, none) h else .stuck
  | none => .stuck
@[simp] theorem rngS_ok {j : Int} {h : Hh} (e : okR j = true) : rngS (some j) h = .ok (rng 0 j.toNat, none) h := by
  exact if_pos e
def rngS2 (o : Option (Int × Int)) (h : Hh) : R Src := match o with
  | some p => if (okR p.1 && okR p.2) = true then .ok (rng p.1 (p.2 - p.1).toNat, none) h else .stuck
  | none => .stuck
@[simp] theorem rngS2_ok {i j : Int} {h : Hh} (e1 : okR i = true) (e2 : okR j = true) : rngS2 (some (i, j)) h = .ok (rng i (j - i).toNat, none) h := by
  exact if_pos (by rw [e1, e2] <;> rfl)
def enS (o : Option (List D)) (h : Hh) : R Src := match o with
  | some xs => .ok (enumD 0 xs, none) h
  | none => .stuck
@[simp] theorem enS_some (xs : List D) (h : Hh) : enS (some xs) h = .ok (enumD 0 xs, none) h := (rfl)
def zpS (o : Option (List D × List D)) (h : Hh) : R Src := match o with
  | some p => .ok (zipD p.1 p.2, none) h
  | none => .stuck
@[simp] theorem zpS_some (p : List D × List D) (h : Hh) : zpS (some p) h = .ok (zipD p.1 p.2, none) h := (rfl)
def nstS (d : D) (h1 : Hh) : R Src := match d with
  | .ref n => match h1[n]? with
    | some (.dcn ks vs) => .ok (zipD ks vs, none) (h1.set n .gone)
    | _ => .stuck
  | _ => .stuck
theorem nstS_ref {n : Nat} {h : Hh} {ks vs : List D} (e : h[n]? = some (.dcn ks vs)) : nstS (.ref n) h = .ok (zipD ks vs, none) (h.set n .gone) := by
  unfold nstS
  simp only [e]
def parS (i j : Nat) (env : Ev) (vs : List D) (h : Hh) : Fl := match vs with
  | [v, w] => .nx ((env.set i (some v)).set j (some w)) h
  | _ => .stuck
@[simp] theorem parS_two (i j : Nat) (env : Ev) (v w : D) (h : Hh) : parS i j env [v, w] h = .nx ((env.set i (some v)).set j (some w)) h := (rfl)
theorem le_SZ {n : Nat} (h : n ≤ 1000000) : n ≤ SZ := Nat.le_trans h (by decide)
@[simp] theorem le_SZ0 : 0 ≤ SZ := Nat.zero_le _
@[simp] theorem le_SZ1 : 1 ≤ SZ := le_SZ (by decide)
@[simp] theorem le_SZ2 : 2 ≤ SZ := le_SZ (by decide)
@[simp] theorem le_SZ3 : 3 ≤ SZ := le_SZ (by decide)
@[simp] theorem le_SZ4 : 4 ≤ SZ := le_SZ (by decide)
@[simp] theorem le_SZ5 : 5 ≤ SZ := le_SZ (by decide)
@[simp] theorem le_SZ6 : 6 ≤ SZ := le_SZ (by decide)
@[simp] theorem le_SZ7 : 7 ≤ SZ := le_SZ (by decide)
@[simp] theorem le_SZ8 : 8 ≤ SZ := le_SZ (by decide)
section
variable (env : Ev) (h : Hh)
@[simp] theorem run_mC (d : D) : mC d env h = .ok d h := (rfl)
@[simp] theorem run_mVar (i : Nat) : mVar i env h = getV env[i]? h := (rfl)
@[simp] theorem run_mU (g : D → Hh → O) (a : Me) : mU g a env h = (a env h).bind fun x h1 => ofO (g x h1) := (rfl)
@[simp] theorem run_mB (g : D → D → Hh → O) (a b : Me) : mB g a b env h = (a env h).bind fun x h1 => (b env h1).bind fun y h2 => ofO (g x y h2) := (rfl)
@[simp] theorem run_mIf (t : Mt) (a b : Me) : mIf t a b env h = (t env h).bind fun c h1 => if c = true then a env h1 else b env h1 := (rfl)
@[simp] theorem toB_bl (b : Bool) : toB (.bl b) = some b := (rfl)
@[simp] theorem run_tV (a : Me) : tV a env h = (a env h).bind fun x h1 => tvS (toB x) h1 := (rfl)
@[simp] theorem run_tAnd (a b : Mt) : tAndM a b env h = (a env h).bind fun c h1 => if c = true then b env h1 else .ok false h1 := (rfl)
@[simp] theorem run_tOr (a b : Mt) : tOrM a b env h = (a env h).bind fun c h1 => if c = true then .ok true h1 else b env h1 := (rfl)
@[simp] theorem run_tNot (a : Mt) : tNotM a env h = (a env h).bind fun c h1 => .ok (!c) h1 := (rfl)
@[simp] theorem run_tYes : tYesM env h = .ok true h := (rfl)
@[simp] theorem run_mNot (a : Me) : mNot a env h = (a env h).bind fun x h1 => notS (toB x) h1 := (rfl)
@[simp] theorem run_mAnd (a b : Me) : mAnd a b env h = (a env h).bind fun x h1 => andS (toB x) (fun h1 => b env h1) h1 := by
  unfold mAnd andS
  rfl
@[simp] theorem run_mOr (a b : Me) : mOr a b env h = (a env h).bind fun x h1 => orS (toB x) (fun h1 => b env h1) h1 := by
  unfold mOr orS
  rfl
@[simp] theorem run_mChain (f g : D → D → Hh → O) (a b c : Me) : mChain f g a b c env h = (a env h).bind fun x h1 => (b env h1).bind fun y h2 => (ofO (f x y h2)).bind fun z h3 => andS (toB z) (fun h3 => (c env h3).bind fun w h4 => ofO (g y w h4)) h3 := by
  unfold mChain andS
  rfl
@[simp] theorem run_aNil : aNil env h = .ok [] h := (rfl)
@[simp] theorem run_aCons (a : Me) (r : Ma) : aCons a r env h = (a env h).bind fun x h1 => (r env h1).bind fun xs h2 => .ok (x :: xs) h2 := (rfl)
@[simp] theorem run_aStar (m : Me) (r : Ma) : aStar m r env h = (m env h).bind fun x h1 => starS (getS h1 x) (fun h1 => r env h1) h1 := by
  unfold aStar starS
  rfl
@[simp] theorem run_mF (g : List D → Hh → O) (a : Ma) : mF g a env h = (a env h).bind fun xs h1 => ofO (g xs h1) := (rfl)
@[simp] theorem run_mCall (F : List D → Hh → R D) (a : Ma) : mCall F a env h = (a env h).bind fun xs h1 => F xs h1 := (rfl)
@[simp] theorem run_mTup (a : Ma) : mTup a env h = (a env h).bind fun xs h1 => ofO (if xs.length ≤ SZ then some (.tup xs, h1) else none) := (rfl)
@[simp] theorem run_mLst (mt : Bool) (a : Ma) : mLst mt a env h = (a env h).bind fun xs h1 => ofO (if xs.length ≤ SZ then mk mt xs h1 else none) := (rfl)
@[simp] theorem run_mTold (m : Me) : mTold m env h = toldS (m env h) := (rfl)
@[simp] theorem run_mCut (mt : Bool) (m : Me) (lo hi : Mp) : mCut mt m lo hi env h = (m env h).bind fun x h1 => (lo env h1).bind fun l h2 => (hi env h2).bind fun u h3 => ofO (gCut mt x l u h3) := (rfl)
@[simp] theorem run_pNo : pNo env h = .ok none h := (rfl)
@[simp] theorem run_pYes (m : Me) : pYes m env h = (m env h).bind fun x h1 => yesS x h1 := (rfl)
@[simp] theorem run_mMeth (ty : D → Hh → Bool) (g : Mth) (m : Me) (as : Ma) : mMeth ty g m as env h = (m env h).bind fun x h1 => if ty x h1 = true then (as env h1).bind fun xs h2 => ofO (g x xs h2) else .stuck := (rfl)
@[simp] theorem run_mDct0 (kd : Nat) (mt : Bool) : mDct0 kd mt env h = ofO (mkd kd mt h) := (rfl)
@[simp] theorem run_mDct1 (kd : Nat) (mt : Bool) (mk mv : Me) : mDct1 kd mt mk mv env h = (mk env h).bind fun k h1 => (mv env h1).bind fun v h2 => ofO (mkd1 kd mt k v h2) := (rfl)
@[simp] theorem run_mSortSet (mt : Bool) (m : Me) : mSortSet mt m env h = (m env h).bind fun x h1 => sortS mt x h1 := (rfl)
@[simp] theorem run_mComp (mt : Bool) (src : Ev → Hh → R Src) (g : Mg) (t : Mt) (m : Me) (vs : List Nat) : mComp mt src g t m vs env h = (src env h).bind fun s h1 => (compI g t m s.2 s.1 (wipeE env vs) s.1 [] h1).bind fun acc h2 => ofO (mk mt acc h2) := (rfl)
@[simp] theorem run_sNil : sNil env h = .nx env h := (rfl)
@[simp] theorem run_sSeq (a b : Ms) : sSeq a b env h = (a env h).then b := (rfl)
@[simp] theorem run_sExpr (m : Me) : sExpr m env h = (m env h).fl fun _ h1 => .nx env h1 := (rfl)
@[simp] theorem run_sAsg (m : Me) (g : Mg) : sAsg m g env h = (m env h).fl fun v h1 => gFl (g v env h1) := (rfl)
@[simp] theorem run_sRet (m : Me) : sRet m env h = (m env h).fl fun v h1 => .rt v h1 := (rfl)
@[simp] theorem run_sRetN : sRetN env h = .rt .non h := (rfl)
@[simp] theorem run_sIf (t : Mt) (a b : Ms) : sIf t a b env h = (t env h).fl fun c h1 => if c = true then a env h1 else b env h1 := (rfl)
@[simp] theorem run_sBreak : sBreak env h = .bk env h := (rfl)
@[simp] theorem run_sCont : sCont env h = .ct env h := (rfl)
@[simp] theorem run_sRaise (e : Ex) : sRaise e env h = .exc e h := (rfl)
@[simp] theorem run_gN (i : Nat) (d : D) : gN i d env h = some (env.set i (some d), h) := (rfl)
@[simp] theorem run_gsNil : gsNil [] env h = some (env, h) := (rfl)
@[simp] theorem run_gsCons (g : Mg) (r : List D → Ev → Hh → Option (Ev × Hh)) (d : D) (ds : List D) : gsCons g r (d :: ds) env h = (g d env h).bind fun p => r ds p.1 p.2 := (rfl)
@[simp] theorem run_gTup (n : Nat) (gs : List D → Ev → Hh → Option (Ev × Hh)) (ds : List D) : gTup n gs (.tup ds) env h = if ds.length = n then gs ds env h else none := (rfl)
@[simp] theorem run_gSubM (o i : Me) (f : Mst) (d : D) : gSubM o i f d env h = (ofR (o env h)).bind fun p => (ofR (i env p.2)).bind fun q => (f p.1 q.1 d q.2).map fun h' => (env, h') := (rfl)
@[simp] theorem ofR_ok (d : D) : ofR (.ok d h) = some (d, h) := (rfl)
@[simp] theorem run_sFor (src : Ev → Hh → R Src) (g : Mg) (b : Ms) : sFor src g b env h = (src env h).fl fun s h1 => sForI g b s.2 s.1 s.1 env h1 := (rfl)
@[simp] theorem run_srcM (m : Me) : srcM m env h = (m env h).bind fun d h1 => ofS (srcOf h1 d) h1 := (rfl)
@[simp] theorem ofS_some (s : Src) : ofS (some s) h = .ok s h := (rfl)
@[simp] theorem srcOf_tup (xs : List D) : srcOf h (.tup xs) = some (xs, none) := (rfl)
@[simp] theorem srcOf_lst (xs : List D) : srcOf h (.lst xs) = some (xs, none) := (rfl)
@[simp] theorem run_srcR1 (as : Ma) : srcR1 as env h = (as env h).bind fun vs h1 => rngS (int1 vs) h1 := by
  unfold srcR1 rngS
  rfl
@[simp] theorem run_srcR2 (as : Ma) : srcR2 as env h = (as env h).bind fun vs h1 => rngS2 (int2 vs) h1 := by
  unfold srcR2 rngS2
  rfl
@[simp] theorem run_srcEn (as : Ma) : srcEn as env h = (as env h).bind fun vs h1 => enS ((one1 vs).bind frzS) h1 := (rfl)
@[simp] theorem run_srcZip (as : Ma) : srcZip as env h = (as env h).bind fun vs h1 => zpS ((two2 vs).bind zipS) h1 := (rfl)
@[simp] theorem run_srcN (m : Me) : srcN m env h = (m env h).bind fun d h1 => nstS d h1 := (rfl)
@[simp] theorem int1_int (i : Int) : int1 [.int i] = some i := (rfl)
@[simp] theorem int2_int (i j : Int) : int2 [.int i, .int j] = some (i, j) := (rfl)
@[simp] theorem one1_d (d : D) : one1 [d] = some d := (rfl)
@[simp] theorem two2_d (d e : D) : two2 [d, e] = some (d, e) := (rfl)
@[simp] theorem frzS_tup (xs : List D) : frzS (.tup xs) = some xs := (rfl)
@[simp] theorem frzS_lst (xs : List D) : frzS (.lst xs) = some xs := (rfl)
@[simp] theorem zipS_lst (xs ys : List D) : zipS (.lst xs, .lst ys) = some (xs, ys) := (rfl)
@[simp] theorem zipS_tup (xs ys : List D) : zipS (.tup xs, .tup ys) = some (xs, ys) := (rfl)
@[simp] theorem run_sPar (i j : Nat) (as : Ma) : sPar i j as env h = (as env h).fl fun vs h1 => parS i j env vs h1 := (rfl)
@[simp] theorem run_sAug (i : Nat) (m : Me) (g : D → D → Hh → O) : sAug i m g env h = (getV env[i]? h).fl fun x _ => (m env h).fl fun y h1 => (ofO (g x y h1)).fl fun v h2 => .nx (env.set i (some v)) h2 := by
  unfold sAug getV
  cases env[i]? with
  | none => rfl
  | some o =>
    cases o with
    | none => rfl
    | some x =>
      cases e : m env h with
      | ok y h1 => simp only [R.fl_ok, e]; cases g x y h1 <;> rfl
      | exc _ _ => simp only [R.fl_ok, R.fl_exc, e]
      | stuck => simp only [R.fl_ok, R.fl_stuck, e]
@[simp] theorem run_sAugS (mo mi me : Me) (gg gop : Op2) (f : Mst) : sAugS mo mi me gg gop f env h = (mo env h).fl fun o h1 => (mi env h1).fl fun i h2 => (ofO (gg o i h2)).fl fun x h3 => (me env h3).fl fun y h4 => (ofO (gop x y h4)).fl fun z h5 => gFl ((f o i z h5).map fun h6 => (env, h6)) := by
  unfold sAugS
  congr 1; funext o h1; congr 1; funext i h2
  cases gg o i h2 with
  | none => rfl
  | some x =>
    show (me env x.2).fl _ = (me env x.2).fl _
    congr 1; funext y h4
    cases gop x.1 y h4 with
    | none => rfl
    | some z =>
      show (match f o i z.1 z.2 with | none => Fl.stuck | some h6 => .nx env h6) = gFl ((f o i z.1 z.2).map fun h6 => (env, h6))
      cases f o i z.1 z.2 <;> rfl
@[simp] theorem wipeE_nil : wipeE env [] = env := (rfl)
@[simp] theorem wipeE_cons (v : Nat) (vs : List Nat) : wipeE env (v :: vs) = (wipeE env vs).set v none := (rfl)
end
@[simp] theorem mk_false (xs : List D) (h : Hh) : mk false xs h = some (.lst xs, h) := (rfl)
@[simp] theorem mk_true (xs : List D) (h : Hh) : mk true xs h = some (.ref h.length, h ++ [.lst xs]) := (rfl)
@[simp] theorem getS_tup (h : Hh) (xs : List D) : getS h (.tup xs) = some xs := (rfl)
@[simp] theorem getS_lst (h : Hh) (xs : List D) : getS h (.lst xs) = some xs := (rfl)
@[simp] theorem getL_lst (h : Hh) (xs : List D) : getL h (.lst xs) = some xs := (rfl)
theorem getL_ref {h : Hh} {n : Nat} {xs : List D} (e : h[n]? = some (.lst xs)) : getL h (.ref n) = some xs := by
  simp only [getL, e]
theorem getS_ref {h : Hh} {n : Nat} {xs : List D} (e : h[n]? = some (.lst xs)) : getS h (.ref n) = some xs := getL_ref e
/-! ### operators -/
section
variable (i j : Int) (h : Hh) (mt : Bool)
@[simp] theorem iAdd_int : iAdd (.int i) (.int j) h = some (.int (i + j), h) := (rfl)
@[simp] theorem aAdd_int : aAdd mt (.int i) (.int j) h = some (.int (i + j), h) := (rfl)
@[simp] theorem iSub_int : iSub (.int i) (.int j) h = some (.int (i - j), h) := (rfl)
@[simp] theorem iLt_int : iLt (.int i) (.int j) h = some (.bl (decide (i < j)), h) := (rfl)
@[simp] theorem iLe_int : iLe (.int i) (.int j) h = some (.bl (decide (i ≤ j)), h) := (rfl)
@[simp] theorem iGt_int : iGt (.int i) (.int j) h = some (.bl (decide (j < i)), h) := (rfl)
@[simp] theorem iGe_int : iGe (.int i) (.int j) h = some (.bl (decide (j ≤ i)), h) := (rfl)
@[simp] theorem gNeg_int : gNeg (.int i) h = some (.int (-i), h) := (rfl)
@[simp] theorem gEqI_int : gEqI (.int i) (.int j) h = some (.bl (decide (i = j)), h) := (rfl)
def mulOk (i j : Int) : Prop := (lim64 i || lim64 j || decide (i.natAbs.log2 + j.natAbs.log2 < 1000000)) = true
theorem iMul_int {i j : Int} (hc : mulOk i j) : iMul (.int i) (.int j) h = some (.int (i * j), h) := if_pos hc
theorem aMul_int {i j : Int} (hc : mulOk i j) : aMul mt (.int i) (.int j) h = some (.int (i * j), h) := by
  unfold aMul gOr; rw [iMul_int h hc]
theorem mulOk_l {i j : Int} (h1 : -(2 ^ 64) < i) (h2 : i < 2 ^ 64) : mulOk i j := by
  have e : lim64 i = true := by simp only [lim64, Bool.and_eq_true, decide_eq_true_eq]; exact ⟨h1, h2⟩
  unfold mulOk
  rw [e] <;> rfl
theorem mulOk_r {i j : Int} (h1 : -(2 ^ 64) < j) (h2 : j < 2 ^ 64) : mulOk i j := by
  have e : lim64 j = true := by simp only [lim64, Bool.and_eq_true, decide_eq_true_eq]; exact ⟨h1, h2⟩
  unfold mulOk
  rw [e, Bool.or_true] <;> rfl
theorem iDiv_int {i j : Int} (h1 : 0 < j) (h2 : j < 1073741824) : iDiv (.int i) (.int j) h = some (.int (i.fdiv j), h) := by
  refine if_pos ?_
  simp only [Bool.or_eq_true, Bool.and_eq_true, decide_eq_true_eq]
  exact .inr ⟨by omega, by omega⟩
theorem iMod_int {i j : Int} (h1 : j ≠ 0) : iMod (.int i) (.int j) h = some (.int (i.fmod j), h) := if_pos (decide_eq_true h1)
theorem iPow_int {i j : Int} (h1 : 0 ≤ j) (h2 : j ≤ 1000000) (h3 : i.natAbs < 2 ^ 64) : iPow (.int i) (.int j) h = some (.int (i ^ j.toNat), h) := by
  refine if_pos ?_
  simp only [Bool.and_eq_true, decide_eq_true_eq]
  exact ⟨⟨h1, h2⟩, h3⟩
@[simp] theorem resD_int : resD h (.int i) = .int i := (rfl)
@[simp] theorem resD_str (s : Str) : resD h (.str s) = .str s := (rfl)
@[simp] theorem resD_bl (b : Bool) : resD h (.bl b) = .bl b := (rfl)
@[simp] theorem resD_tup (xs : List D) : resD h (.tup xs) = .tup xs := (rfl)
@[simp] theorem resD_lst (xs : List D) : resD h (.lst xs) = .lst xs := (rfl)
@[simp] theorem gEqD_int (neg : Bool) : gEqD neg (.int i) (.int j) h = some (.bl (decide (i = j) ^^ neg), h) := by
  simp only [gEqD, resD_int, okE, eqD, Bool.and_self, if_true, Option.some.injEq, Prod.mk.injEq, and_true, D.bl.injEq]
  by_cases e : i = j
  · simp [e]
  · have e2 : (i == j) = false := by simpa using e
    rw [e2]; simp [e]
@[simp] theorem gIx_tup (xs : List D) : gIx (.tup xs) (.int i) h = (L2.atI xs i).map fun d => (d, h) := (rfl)
@[simp] theorem gIx_lst (xs : List D) : gIx (.lst xs) (.int i) h = (L2.atI xs i).map fun d => (d, h) := (rfl)
theorem aIx_tup {xs : List D} {i : Int} {d : D} (e : L2.atI xs i = some d) : aIx (.tup xs) (.int i) h = some (d, h) := by unfold aIx gOr; rw [gIx_tup, e]; rfl
theorem aIx_lst {xs : List D} {i : Int} {d : D} (e : L2.atI xs i = some d) : aIx (.lst xs) (.int i) h = some (d, h) := by unfold aIx gOr; rw [gIx_lst, e]; rfl
theorem aIx_ref {h : Hh} {n : Nat} {xs : List D} {i : Int} {d : D} (e1 : h[n]? = some (.lst xs)) (e : L2.atI xs i = some d) : aIx (.ref n) (.int i) h = some (d, h) := by
  unfold aIx gOr gIx
  rw [getS_ref e1]
  show (match (L2.atI xs i).map fun d => (d, h) with | some p => some p | none => _) = _
  rw [e] <;> rfl
theorem aAdd_tup {xs ys : List D} (e : xs.length + ys.length ≤ SZ) : aAdd mt (.tup xs) (.tup ys) h = some (.tup (xs ++ ys), h) := by
  unfold aAdd gOr
  have e1 : iAdd (.tup xs) (.tup ys) h = none := rfl
  rw [e1]
  have e2 : gCatT (.tup xs) (.tup ys) h = some (.tup (xs ++ ys), h) := if_pos e
  simp only [gOr, e2]
theorem aAdd_lst {a b : D} {xs ys : List D} (e1 : getL h a = some xs) (e2 : getL h b = some ys) (e : xs.length + ys.length ≤ SZ) : aAdd mt a b h = mk mt (xs ++ ys) h := by
  unfold aAdd gOr
  have n1 : iAdd a b h = none := by
    cases a <;> first | rfl | (simp [getL] at e1)
  have n2 : gCatT a b h = none := by
    cases a <;> first | rfl | (simp [getL] at e1)
  rw [n1]
  simp only [gOr, n2, gCatL, e1, e2, if_pos e]
theorem aMul_lst {xs : List D} {k : Int} (h1 : okR k = true) (h2 : xs.length * k.toNat ≤ SZ) : aMul mt (.lst xs) (.int k) h = mk mt (List.replicate k.toNat xs).flatten h := by
  unfold aMul gOr
  have n1 : iMul (.lst xs) (.int k) h = none := rfl
  rw [n1]
  simp only [gOr, gRepL, h1, h2, decide_true, Bool.and_self, if_true]
  cases mt <;> rfl
theorem aMul_tup {xs : List D} {k : Int} (h0 : xs ≠ []) (h1 : 2 ≤ k) (h2 : k ≤ 1000) (h3 : xs.length ≤ 1000) : aMul mt (.tup xs) (.int k) h = some (.tup (List.replicate k.toNat xs).flatten, h) := by
  unfold aMul gOr
  have n1 : iMul (.tup xs) (.int k) h = none := rfl
  have n2 : gRepL mt (.tup xs) (.int k) h = none := rfl
  rw [n1]
  simp only [gOr, n2, gRepT]
  rw [if_pos (by simp [h0, h1, h2, h3])]
end
/-! ### equality of like things -/
mutual
/-- no truth value (which == takes for a number), no ref -/
def simpleD : D → Bool
  | .non => true
  | .int _ => true
  | .str _ => true
  | .tup xs => simpleDs xs
  | .lst xs => simpleDs xs
  | _ => false
def simpleDs : List D → Bool
  | [] => true
  | a :: r => simpleD a && simpleDs r
end
mutual
theorem eqD_iff : ∀ {a b : D}, simpleD a = true → simpleD b = true → (eqD a b = true ↔ a = b)
  | .non, b, _, _ => by cases b <;> simp [eqD]
  | .bl a, b, h, k => by cases b <;> simp_all [eqD, simpleD]
  | .int a, b, h, k => by cases b <;> simp_all [eqD, simpleD]
  | .str a, b, h, k => by cases b <;> simp_all [eqD, simpleD]
  | .tup a, b, h, k => by
    cases b <;> simp only [eqD, reduceCtorEq, Bool.false_eq_true, D.tup.injEq]
    exact eqDs_iff h k
  | .lst a, b, h, k => by
    cases b <;> simp only [eqD, reduceCtorEq, Bool.false_eq_true, D.lst.injEq]
    exact eqDs_iff h k
  | .dct _ _ _, b, h, _ => by simp [simpleD] at h
  | .ref _, b, h, _ => by simp [simpleD] at h
  | .fn _, b, h, _ => by simp [simpleD] at h
theorem eqDs_iff : ∀ {a b : List D}, simpleDs a = true → simpleDs b = true → (eqDs a b = true ↔ a = b)
  | [], b, _, _ => by cases b <;> simp [eqDs]
  | a :: r, b, h, k => by
    cases b with
    | nil => simp [eqDs]
    | cons x s =>
      simp only [simpleDs, Bool.and_eq_true] at h k
      simp only [eqDs, Bool.and_eq_true, List.cons.injEq, eqD_iff h.1 k.1, eqDs_iff h.2 k.2]
end
end Rf
namespace Rf
open PySem PySem.Spec PyProof.Rows L2

/-! ### loops -/
/-- a loop that may break -/
theorem for_brk {g : Mg} {b : Ms} {all : List D} (Q : Ev → Hh → Prop) : ∀ {ds : List D} {env : Ev} {h : Hh} (P : Nat → Ev → Hh → Prop), P 0 env h →
    (∀ (k : Nat) (hk : k < ds.length) (env : Ev) (h : Hh), P k env h → ∃ e1 h1 e2 h2, g ds[k] env h = some (e1, h1) ∧ (((b e1 h1 = .nx e2 h2 ∨ b e1 h1 = .ct e2 h2) ∧ P (k + 1) e2 h2) ∨ (b e1 h1 = .bk e2 h2 ∧ Q e2 h2))) →
    ∃ e' h', sForI g b none all ds env h = .nx e' h' ∧ (P ds.length e' h' ∨ Q e' h')
  | [], env, h, P, h0, _ => ⟨env, h, rfl, .inl h0⟩
  | d :: ds, env, h, P, h0, step => by
    obtain ⟨e1, h1, e2, h2, eg, q⟩ := step 0 (by simp) env h h0
    have eg : g d env h = some (e1, h1) := eg
    rcases q with ⟨q | q, p⟩ | ⟨q, p⟩
    · obtain ⟨e', h', e3, p'⟩ := for_brk (g := g) (b := b) (all := all) Q (ds := ds) (env := e2) (h := h2) (fun k => P (k + 1)) p fun k hk env h pk => step (k + 1) (by simpa using hk) env h pk
      refine ⟨e', h', ?_, p'⟩
      rw [← e3]
      simp only [sForI, chk, eg, q]
    · obtain ⟨e', h', e3, p'⟩ := for_brk (g := g) (b := b) (all := all) Q (ds := ds) (env := e2) (h := h2) (fun k => P (k + 1)) p fun k hk env h pk => step (k + 1) (by simpa using hk) env h pk
      refine ⟨e', h', ?_, p'⟩
      rw [← e3]
      simp only [sForI, chk, eg, q]
    · exact ⟨e2, h2, by simp only [sForI, chk, eg, q], .inr p⟩
theorem for_inv {g : Mg} {b : Ms} {all ds : List D} {env : Ev} {h : Hh} (P : Nat → Ev → Hh → Prop) (h0 : P 0 env h)
    (step : ∀ (k : Nat) (hk : k < ds.length) (env : Ev) (h : Hh), P k env h → ∃ e1 h1 e2 h2, g ds[k] env h = some (e1, h1) ∧ (b e1 h1 = .nx e2 h2 ∨ b e1 h1 = .ct e2 h2) ∧ P (k + 1) e2 h2) :
    ∃ e' h', sForI g b none all ds env h = .nx e' h' ∧ P ds.length e' h' := by
  obtain ⟨e', h', e, p⟩ := for_brk (g := g) (b := b) (all := all) (fun _ _ => False) P h0 fun k hk env h pk => by
    obtain ⟨e1, h1, e2, h2, a, c, d⟩ := step k hk env h pk
    exact ⟨e1, h1, e2, h2, a, .inl ⟨c, d⟩⟩
  exact ⟨e', h', e, p.resolve_right id⟩
/-- over a typed list -/
theorem for_map {α : Type} {g : Mg} {b : Ms} {all : List D} {enc : α → D} {l : List α} {env : Ev} {h : Hh} (P : Nat → Ev → Hh → Prop) (h0 : P 0 env h)
    (step : ∀ (k : Nat) (hk : k < l.length) (env : Ev) (h : Hh), P k env h → ∃ e1 h1 e2 h2, g (enc l[k]) env h = some (e1, h1) ∧ (b e1 h1 = .nx e2 h2 ∨ b e1 h1 = .ct e2 h2) ∧ P (k + 1) e2 h2) :
    ∃ e' h', sForI g b none all (l.map enc) env h = .nx e' h' ∧ P l.length e' h' := by
  have := for_inv (g := g) (b := b) (all := all) (ds := l.map enc) P h0 fun k hk env h pk => by
    obtain ⟨e1, h1, e2, h2, a, r⟩ := step k (by simpa using hk) env h pk
    exact ⟨e1, h1, e2, h2, by rw [List.getElem_map]; exact a, r⟩
  rwa [List.length_map] at this
theorem rng_len (lo : Int) (n : Nat) : (rng lo n).length = n := by simp [rng]
theorem rng_get (lo : Int) (n k : Nat) (hk : k < (rng lo n).length) : (rng lo n)[k] = .int (lo + k) := by simp [rng]
/-- for k in range(n) -/
theorem for_rng {g : Mg} {b : Ms} {all : List D} {n : Nat} {lo : Int} {env : Ev} {h : Hh} (P : Nat → Ev → Hh → Prop) (h0 : P 0 env h)
    (step : ∀ (k : Nat) (hk : k < n) (env : Ev) (h : Hh), P k env h → ∃ e1 h1 e2 h2, g (.int (lo + k)) env h = some (e1, h1) ∧ (b e1 h1 = .nx e2 h2 ∨ b e1 h1 = .ct e2 h2) ∧ P (k + 1) e2 h2) :
    ∃ e' h', sForI g b none all (rng lo n) env h = .nx e' h' ∧ P n e' h' := by
  have := for_inv (g := g) (b := b) (all := all) (ds := rng lo n) P h0 fun k hk env h pk => by
    obtain ⟨e1, h1, e2, h2, a, r⟩ := step k (by simpa [rng] using hk) env h pk
    exact ⟨e1, h1, e2, h2, by rw [rng_get]; exact a, r⟩
  rwa [rng_len] at this
/-! ### the same, as conditions to be computed -/
def endP (f : Fl) (P Q : Ev → Hh → Prop) : Prop := match f with
  | .nx e h => P e h
  | .ct e h => P e h
  | .bk e h => Q e h
  | _ => False
@[simp] theorem endP_nx (e : Ev) (h : Hh) (P Q : Ev → Hh → Prop) : endP (.nx e h) P Q = P e h := (rfl)
@[simp] theorem endP_ct (e : Ev) (h : Hh) (P Q : Ev → Hh → Prop) : endP (.ct e h) P Q = P e h := (rfl)
@[simp] theorem endP_bk (e : Ev) (h : Hh) (P Q : Ev → Hh → Prop) : endP (.bk e h) P Q = Q e h := (rfl)
def stepP (o : Option (Ev × Hh)) (b : Ms) (P Q : Ev → Hh → Prop) : Prop := match o with
  | some p => endP (b p.1 p.2) P Q
  | none => False
@[simp] theorem stepP_some (p : Ev × Hh) (b : Ms) (P Q : Ev → Hh → Prop) : stepP (some p) b P Q = endP (b p.1 p.2) P Q := (rfl)
def noQ : Ev → Hh → Prop := fun _ _ => False
theorem stepP_un {o : Option (Ev × Hh)} {b : Ms} {P Q : Ev → Hh → Prop} (s : stepP o b P Q) : ∃ e1 h1 e2 h2, o = some (e1, h1) ∧ (((b e1 h1 = .nx e2 h2 ∨ b e1 h1 = .ct e2 h2) ∧ P e2 h2) ∨ (b e1 h1 = .bk e2 h2 ∧ Q e2 h2)) := by
  cases o with
  | none => exact s.elim
  | some p =>
    obtain ⟨e1, h1⟩ := p
    rw [stepP_some] at s
    cases e : b e1 h1 <;> rw [e] at s <;> first | exact s.elim | skip
    · exact ⟨e1, h1, _, _, rfl, .inl ⟨.inl e, s⟩⟩
    · exact ⟨e1, h1, _, _, rfl, .inr ⟨e, s⟩⟩
    · exact ⟨e1, h1, _, _, rfl, .inl ⟨.inr e, s⟩⟩
theorem forB {g : Mg} {b : Ms} {all ds : List D} {env : Ev} {h : Hh} (P : Nat → Ev → Hh → Prop) (Q : Ev → Hh → Prop) (h0 : P 0 env h)
    (step : ∀ (k : Nat) (hk : k < ds.length) (env : Ev) (h : Hh), P k env h → stepP (g ds[k] env h) b (P (k + 1)) Q) : ∃ e' h', sForI g b none all ds env h = .nx e' h' ∧ (P ds.length e' h' ∨ Q e' h') :=
  for_brk Q P h0 fun k hk env h pk => stepP_un (step k hk env h pk)
theorem forP {g : Mg} {b : Ms} {all ds : List D} {env : Ev} {h : Hh} (P : Nat → Ev → Hh → Prop) (h0 : P 0 env h)
    (step : ∀ (k : Nat) (hk : k < ds.length) (env : Ev) (h : Hh), P k env h → stepP (g ds[k] env h) b (P (k + 1)) noQ) : ∃ e' h', sForI g b none all ds env h = .nx e' h' ∧ P ds.length e' h' := by
  obtain ⟨e', h', e, p⟩ := forB (g := g) (b := b) (all := all) P noQ h0 step
  exact ⟨e', h', e, p.resolve_right id⟩
theorem forM {α : Type} {g : Mg} {b : Ms} {all : List D} {enc : α → D} {l : List α} {env : Ev} {h : Hh} (P : Nat → Ev → Hh → Prop) (h0 : P 0 env h)
    (step : ∀ (k : Nat) (hk : k < l.length) (env : Ev) (h : Hh), P k env h → stepP (g (enc l[k]) env h) b (P (k + 1)) noQ) : ∃ e' h', sForI g b none all (l.map enc) env h = .nx e' h' ∧ P l.length e' h' := by
  have := forP (g := g) (b := b) (all := all) (ds := l.map enc) P h0 fun k hk env h pk => by
    rw [List.getElem_map]
    exact step k (by simpa using hk) env h pk
  rwa [List.length_map] at this
theorem forR {g : Mg} {b : Ms} {all : List D} {n : Nat} {lo : Int} {env : Ev} {h : Hh} (P : Nat → Ev → Hh → Prop) (h0 : P 0 env h)
    (step : ∀ (k : Nat) (hk : k < n) (env : Ev) (h : Hh), P k env h → stepP (g (.int (lo + k)) env h) b (P (k + 1)) noQ) : ∃ e' h', sForI g b none all (rng lo n) env h = .nx e' h' ∧ P n e' h' := by
  have := forP (g := g) (b := b) (all := all) (ds := rng lo n) P h0 fun k hk env h pk => by
    rw [rng_get]
    exact step k (by simpa [rng] using hk) env h pk
  rwa [rng_len] at this
theorem forRB {g : Mg} {b : Ms} {all : List D} {n : Nat} {lo : Int} {env : Ev} {h : Hh} (P : Nat → Ev → Hh → Prop) (Q : Ev → Hh → Prop) (h0 : P 0 env h)
    (step : ∀ (k : Nat) (hk : k < n) (env : Ev) (h : Hh), P k env h → stepP (g (.int (lo + k)) env h) b (P (k + 1)) Q) : ∃ e' h', sForI g b none all (rng lo n) env h = .nx e' h' ∧ (P n e' h' ∨ Q e' h') := by
  have := forB (g := g) (b := b) (all := all) (ds := rng lo n) P Q h0 fun k hk env h pk => by
    rw [rng_get]
    exact step k (by simpa [rng] using hk) env h pk
  rwa [rng_len] at this
/-! ### and with what follows -/
theorem rt_forR {n : Nat} {lo : Int} {g : Mg} {b : Ms} {all : List D} {env : Ev} {h : Hh} {k : Ev → Hh → Fl} {r : Hh → Fl} (P : Nat → Ev → Hh → Prop) (h0 : P 0 env h) (step : ∀ (k : Nat) (hk : k < n) (env : Ev) (h : Hh), P k env h → stepP (g (.int (lo + k)) env h) b (P (k + 1)) noQ)
    (fin : ∀ e h, P n e h → ∃ h', k e h = r h') : ∃ h', (sForI g b none all (rng lo n) env h).then k = r h' := by
  obtain ⟨e', h', e, p⟩ := forR (g := g) (b := b) (all := all) P h0 step
  rw [e]
  exact fin _ _ p
theorem end_forR {n : Nat} {lo : Int} {g : Mg} {b : Ms} {all : List D} {env : Ev} {h : Hh} {k : Ev → Hh → Fl} {A B : Ev → Hh → Prop} (P : Nat → Ev → Hh → Prop) (h0 : P 0 env h) (step : ∀ (k : Nat) (hk : k < n) (env : Ev) (h : Hh), P k env h → stepP (g (.int (lo + k)) env h) b (P (k + 1)) noQ)
    (fin : ∀ e h, P n e h → endP (k e h) A B) : endP ((sForI g b none all (rng lo n) env h).then k) A B := by
  obtain ⟨e', h', e, p⟩ := forR (g := g) (b := b) (all := all) P h0 step
  rw [e]
  exact fin _ _ p
theorem endl_forR {n : Nat} {lo : Int} {g : Mg} {b : Ms} {all : List D} {env : Ev} {h : Hh} {A B : Ev → Hh → Prop} (P : Nat → Ev → Hh → Prop) (h0 : P 0 env h) (step : ∀ (k : Nat) (hk : k < n) (env : Ev) (h : Hh), P k env h → stepP (g (.int (lo + k)) env h) b (P (k + 1)) noQ)
    (fin : ∀ e h, P n e h → A e h) : endP (sForI g b none all (rng lo n) env h) A B := by
  obtain ⟨e', h', e, p⟩ := forR (g := g) (b := b) (all := all) P h0 step
  rw [e]
  exact fin _ _ p
theorem rt_forM {α : Type} {enc : α → D} {l : List α} {g : Mg} {b : Ms} {all : List D} {env : Ev} {h : Hh} {k : Ev → Hh → Fl} {r : Hh → Fl} (P : Nat → Ev → Hh → Prop) (h0 : P 0 env h) (step : ∀ (k : Nat) (hk : k < l.length) (env : Ev) (h : Hh), P k env h → stepP (g (enc l[k]) env h) b (P (k + 1)) noQ)
    (fin : ∀ e h, P l.length e h → ∃ h', k e h = r h') : ∃ h', (sForI g b none all (l.map enc) env h).then k = r h' := by
  obtain ⟨e', h', e, p⟩ := forM (g := g) (b := b) (all := all) P h0 step
  rw [e]
  exact fin _ _ p
theorem end_forM {α : Type} {enc : α → D} {l : List α} {g : Mg} {b : Ms} {all : List D} {env : Ev} {h : Hh} {k : Ev → Hh → Fl} {A B : Ev → Hh → Prop} (P : Nat → Ev → Hh → Prop) (h0 : P 0 env h) (step : ∀ (k : Nat) (hk : k < l.length) (env : Ev) (h : Hh), P k env h → stepP (g (enc l[k]) env h) b (P (k + 1)) noQ)
    (fin : ∀ e h, P l.length e h → endP (k e h) A B) : endP ((sForI g b none all (l.map enc) env h).then k) A B := by
  obtain ⟨e', h', e, p⟩ := forM (g := g) (b := b) (all := all) P h0 step
  rw [e]
  exact fin _ _ p
theorem endl_forM {α : Type} {enc : α → D} {l : List α} {g : Mg} {b : Ms} {all : List D} {env : Ev} {h : Hh} {A B : Ev → Hh → Prop} (P : Nat → Ev → Hh → Prop) (h0 : P 0 env h) (step : ∀ (k : Nat) (hk : k < l.length) (env : Ev) (h : Hh), P k env h → stepP (g (enc l[k]) env h) b (P (k + 1)) noQ)
    (fin : ∀ e h, P l.length e h → A e h) : endP (sForI g b none all (l.map enc) env h) A B := by
  obtain ⟨e', h', e, p⟩ := forM (g := g) (b := b) (all := all) P h0 step
  rw [e]
  exact fin _ _ p
theorem rt_forP {ds : List D} {g : Mg} {b : Ms} {all : List D} {env : Ev} {h : Hh} {k : Ev → Hh → Fl} {r : Hh → Fl} (P : Nat → Ev → Hh → Prop) (h0 : P 0 env h) (step : ∀ (k : Nat) (hk : k < ds.length) (env : Ev) (h : Hh), P k env h → stepP (g ds[k] env h) b (P (k + 1)) noQ)
    (fin : ∀ e h, P ds.length e h → ∃ h', k e h = r h') : ∃ h', (sForI g b none all ds env h).then k = r h' := by
  obtain ⟨e', h', e, p⟩ := forP (g := g) (b := b) (all := all) P h0 step
  rw [e]
  exact fin _ _ p
theorem end_forP {ds : List D} {g : Mg} {b : Ms} {all : List D} {env : Ev} {h : Hh} {k : Ev → Hh → Fl} {A B : Ev → Hh → Prop} (P : Nat → Ev → Hh → Prop) (h0 : P 0 env h) (step : ∀ (k : Nat) (hk : k < ds.length) (env : Ev) (h : Hh), P k env h → stepP (g ds[k] env h) b (P (k + 1)) noQ)
    (fin : ∀ e h, P ds.length e h → endP (k e h) A B) : endP ((sForI g b none all ds env h).then k) A B := by
  obtain ⟨e', h', e, p⟩ := forP (g := g) (b := b) (all := all) P h0 step
  rw [e]
  exact fin _ _ p
theorem endl_forP {ds : List D} {g : Mg} {b : Ms} {all : List D} {env : Ev} {h : Hh} {A B : Ev → Hh → Prop} (P : Nat → Ev → Hh → Prop) (h0 : P 0 env h) (step : ∀ (k : Nat) (hk : k < ds.length) (env : Ev) (h : Hh), P k env h → stepP (g ds[k] env h) b (P (k + 1)) noQ)
    (fin : ∀ e h, P ds.length e h → A e h) : endP (sForI g b none all ds env h) A B := by
  obtain ⟨e', h', e, p⟩ := forP (g := g) (b := b) (all := all) P h0 step
  rw [e]
  exact fin _ _ p
theorem phi_forM {α : Type} {enc : α → D} {l : List α} {g : Mg} {b : Ms} {all : List D} {env : Ev} {h : Hh} {k : Ev → Hh → Fl} (Φ : Fl → Prop) (P : Nat → Ev → Hh → Prop) (h0 : P 0 env h) (step : ∀ (k : Nat) (hk : k < l.length) (env : Ev) (h : Hh), P k env h → stepP (g (enc l[k]) env h) b (P (k + 1)) noQ)
    (fin : ∀ e h, P l.length e h → Φ (k e h)) : Φ ((sForI g b none all (l.map enc) env h).then k) := by
  obtain ⟨e', h', e, p⟩ := forM (g := g) (b := b) (all := all) P h0 step
  rw [e]
  exact fin _ _ p
theorem phi_forR {n : Nat} {lo : Int} {g : Mg} {b : Ms} {all : List D} {env : Ev} {h : Hh} {k : Ev → Hh → Fl} (Φ : Fl → Prop) (P : Nat → Ev → Hh → Prop) (h0 : P 0 env h) (step : ∀ (k : Nat) (hk : k < n) (env : Ev) (h : Hh), P k env h → stepP (g (.int (lo + k)) env h) b (P (k + 1)) noQ)
    (fin : ∀ e h, P n e h → Φ (k e h)) : Φ ((sForI g b none all (rng lo n) env h).then k) := by
  obtain ⟨e', h', e, p⟩ := forR (g := g) (b := b) (all := all) P h0 step
  rw [e]
  exact fin _ _ p
/-! ### comprehensions -/
theorem comp_pure {α : Type} {g : Mg} {t : Mt} {m : Me} {all : List D} {env : Ev} {h : Hh} (enc : α → D) (p : α → Bool) (f : α → D) : ∀ {l : List α} {acc : List D},
    (∀ a ∈ l, ∃ e1, g (enc a) env h = some (e1, h) ∧ t e1 h = .ok (p a) h ∧ (p a = true → m e1 h = .ok (f a) h)) → acc.length + l.length ≤ SZ →
    compI g t m none all env (l.map enc) acc h = .ok (acc ++ (l.filter p).map f) h
  | [], acc, _, _ => by simp [compI, chk]
  | a :: l, acc, hs, hz => by
    obtain ⟨e1, eg, et, em⟩ := hs a List.mem_cons_self
    have hz' : acc.length < SZ := by simp at hz; omega
    cases hp : p a with
    | false =>
      rw [hp] at et
      simp only [List.map_cons, compI, chk, eg, et]
      rw [comp_pure enc p f (fun b hb => hs b (List.mem_cons_of_mem _ hb)) (by simp at hz; omega), List.filter_cons_of_neg (by simp [hp])]
    | true =>
      rw [hp] at et
      simp only [List.map_cons, compI, chk, eg, et, em hp, if_pos hz']
      rw [comp_pure enc p f (fun b hb => hs b (List.mem_cons_of_mem _ hb)) (by simp at hz ⊢; omega), List.filter_cons_of_pos hp]
      simp
/-- without a test -/
theorem comp_map {α : Type} {g : Mg} {m : Me} {all : List D} {env : Ev} {h : Hh} (enc : α → D) (f : α → D) {l : List α} (hs : ∀ a ∈ l, ∃ e1, g (enc a) env h = some (e1, h) ∧ m e1 h = .ok (f a) h) (hz : l.length ≤ SZ) :
    compI g tYesM m none all env (l.map enc) [] h = .ok (l.map f) h := by
  rw [comp_pure enc (fun _ => true) f (fun a ha => by obtain ⟨e1, h1, h2⟩ := hs a ha; exact ⟨e1, h1, rfl, fun _ => h2⟩) (by simpa using hz)]
  rw [List.nil_append, List.filter_eq_self.mpr fun _ _ => rfl]
theorem comp_st {g : Mg} {t : Mt} {m : Me} {all : List D} {env : Ev} : ∀ {ds acc : List D} {h : Hh} (P : Nat → List D → Hh → Prop), P 0 acc h →
    (∀ (k : Nat) (hk : k < ds.length) (acc : List D) (h : Hh), P k acc h → ∃ e1 h1 h2, g ds[k] env h = some (e1, h1) ∧ ((t e1 h1 = .ok false h2 ∧ P (k + 1) acc h2) ∨ (t e1 h1 = .ok true h2 ∧ ∃ v h3, m e1 h2 = .ok v h3 ∧ acc.length < SZ ∧ P (k + 1) (acc ++ [v]) h3))) →
    ∃ acc' h', compI g t m none all env ds acc h = .ok acc' h' ∧ P ds.length acc' h'
  | [], acc, h, P, h0, _ => ⟨acc, h, rfl, h0⟩
  | d :: ds, acc, h, P, h0, step => by
    obtain ⟨e1, h1, h2, eg, q⟩ := step 0 (by simp) acc h h0
    have eg : g d env h = some (e1, h1) := eg
    rcases q with ⟨et, p⟩ | ⟨et, v, h3, em, hz, p⟩
    · obtain ⟨a', h', e, p'⟩ := comp_st (g := g) (t := t) (m := m) (all := all) (env := env) (ds := ds) (fun k => P (k + 1)) p fun k hk acc h pk => step (k + 1) (by simpa using hk) acc h pk
      refine ⟨a', h', ?_, p'⟩
      rw [← e]
      simp only [compI, chk, eg, et]
    · obtain ⟨a', h', e, p'⟩ := comp_st (g := g) (t := t) (m := m) (all := all) (env := env) (ds := ds) (fun k => P (k + 1)) p fun k hk acc h pk => step (k + 1) (by simpa using hk) acc h pk
      refine ⟨a', h', ?_, p'⟩
      rw [← e]
      simp only [compI, chk, eg, et, em, if_pos hz]
/-! ### the same, as a condition to be computed -/
def R.sat {α : Type} (r : R α) (f : α → Hh → Prop) : Prop := match r with
  | .ok a h => f a h
  | _ => False
@[simp] theorem R.sat_ok {α : Type} (a : α) (h : Hh) (f : α → Hh → Prop) : (R.ok a h).sat f = f a h := (rfl)
theorem R.sat_un {α : Type} {r : R α} {f : α → Hh → Prop} (s : r.sat f) : ∃ a h, r = .ok a h ∧ f a h := by
  cases r with
  | ok a h => exact ⟨a, h, rfl, s⟩
  | exc _ _ => exact s.elim
  | stuck => exact s.elim
def stepC (o : Option (Ev × Hh)) (t : Mt) (m : Me) (acc : List D) (P : List D → Hh → Prop) : Prop := match o with
  | some p => (t p.1 p.2).sat fun b h2 => if b = true then (m p.1 h2).sat fun v h3 => acc.length < SZ ∧ P (acc ++ [v]) h3 else P acc h2
  | none => False
@[simp] theorem stepC_some (p : Ev × Hh) (t : Mt) (m : Me) (acc : List D) (P : List D → Hh → Prop) : stepC (some p) t m acc P = (t p.1 p.2).sat fun b h2 => if b = true then (m p.1 h2).sat fun v h3 => acc.length < SZ ∧ P (acc ++ [v]) h3 else P acc h2 := (rfl)
theorem compP {g : Mg} {t : Mt} {m : Me} {all : List D} {env : Ev} {ds acc : List D} {h : Hh} (P : Nat → List D → Hh → Prop) (h0 : P 0 acc h)
    (step : ∀ (k : Nat) (hk : k < ds.length) (acc : List D) (h : Hh), P k acc h → stepC (g ds[k] env h) t m acc (P (k + 1))) : ∃ acc' h', compI g t m none all env ds acc h = .ok acc' h' ∧ P ds.length acc' h' :=
  comp_st P h0 fun k hk acc h pk => by
    have s := step k hk acc h pk
    cases eg : g ds[k] env h with
    | none => rw [eg] at s; exact s.elim
    | some p =>
      rw [eg, stepC_some] at s
      obtain ⟨b, h2, et, s2⟩ := R.sat_un s
      cases b with
      | false => exact ⟨p.1, p.2, h2, rfl, .inl ⟨et, by simpa using s2⟩⟩
      | true =>
        rw [if_pos rfl] at s2
        obtain ⟨v, h3, em, hz, q⟩ := R.sat_un s2
        exact ⟨p.1, p.2, h2, rfl, .inr ⟨et, v, h3, em, hz, q⟩⟩
theorem compR {g : Mg} {t : Mt} {m : Me} {all : List D} {env : Ev} {n : Nat} {lo : Int} {acc : List D} {h : Hh} (P : Nat → List D → Hh → Prop) (h0 : P 0 acc h)
    (step : ∀ (k : Nat) (hk : k < n) (acc : List D) (h : Hh), P k acc h → stepC (g (.int (lo + k)) env h) t m acc (P (k + 1))) : ∃ acc' h', compI g t m none all env (rng lo n) acc h = .ok acc' h' ∧ P n acc' h' := by
  have := compP (g := g) (t := t) (m := m) (all := all) (env := env) (ds := rng lo n) (acc := acc) (h := h) P h0 fun k hk acc h pk => by
    rw [rng_get]
    exact step k (by simpa [rng] using hk) acc h pk
  rwa [rng_len] at this
/-! ### a while loop -/
theorem while_inv {t : Mt} {b : Ms} (P : Ev → Hh → Prop) (Q : Ev → Hh → Prop) (μ : Ev → Hh → Nat) : ∀ {n : Nat} {env : Ev} {h : Hh}, P env h → μ env h < n →
    (∀ env h, P env h → (∃ h1, t env h = .ok false h1 ∧ Q env h1) ∨ ∃ h1 e2 h2, t env h = .ok true h1 ∧ (b env h1 = .nx e2 h2 ∨ b env h1 = .ct e2 h2) ∧ P e2 h2 ∧ μ e2 h2 < μ env h) →
    ∃ e' h', sWhile t b n env h = .nx e' h' ∧ Q e' h'
  | 0, env, h, _, hm, _ => absurd hm (Nat.not_lt_zero _)
  | n + 1, env, h, p, hm, step => by
    rcases step env h p with ⟨h1, et, q⟩ | ⟨h1, e2, h2, et, eb, p2, m2⟩
    · exact ⟨env, h1, by simp only [sWhile, et, R.fl_ok, Bool.false_eq_true, if_false], q⟩
    · obtain ⟨e', h', e, q⟩ := while_inv (t := t) (b := b) P Q μ (n := n) p2 (by omega) step
      refine ⟨e', h', ?_, q⟩
      rw [← e]
      rcases eb with eb | eb <;> simp only [sWhile, et, R.fl_ok, if_true, eb]
/-! ### what a def hands back -/
mutual
/-- a value without refs, not too deep -/
def okF : Nat → D → Bool
  | 0, _ => false
  | n + 1, .tup xs => okFs n xs
  | n + 1, .lst xs => okFs n xs
  | n + 1, .dct _ _ vs => okFs n vs
  | _ + 1, .ref _ => false
  | _ + 1, _ => true
def okFs : Nat → List D → Bool
  | _, [] => true
  | n, a :: r => okF n a && okFs n r
end
theorem okFs_all {n : Nat} : ∀ {xs : List D}, okFs n xs = true ↔ ∀ a ∈ xs, okF n a = true
  | [] => by simp [okFs]
  | a :: r => by simp [okFs, okFs_all (xs := r)]
theorem frz_ok {k : Nat} {h : Hh} : ∀ {n : Nat} {d : D}, okF n d = true → frzD k h n d = some d := by
  intro n
  induction n with
  | zero => intro d hd; simp [okF] at hd
  | succ n ih =>
    have key : ∀ xs : List D, okFs n xs = true → xs.mapM (frzD k h n) = some xs := fun xs => by
      induction xs with
      | nil => intro _; rfl
      | cons a r ihr =>
        intro hx
        simp only [okFs, Bool.and_eq_true] at hx
        rw [List.mapM_cons, ih hx.1, ihr hx.2] <;> rfl
    intro d hd
    cases d with
    | tup xs => simp only [okF] at hd; simp only [frzD, key xs hd]; rfl
    | lst xs => simp only [okF] at hd; simp only [frzD, key xs hd]; rfl
    | dct t ks vs => simp only [okF] at hd; simp only [frzD, key vs hd]; rfl
    | ref i => simp [okF] at hd
    | _ => rfl
theorem noref_all : ∀ {xs : List D}, norefs xs = true ↔ ∀ a ∈ xs, noref a = true
  | [] => by simp [norefs]
  | a :: r => by simp [norefs, noref_all (xs := r)]
theorem okF_noref : ∀ {n : Nat} {d : D}, okF n d = true → noref d = true := by
  intro n
  induction n with
  | zero => intro d hd; simp [okF] at hd
  | succ n ih =>
    intro d hd
    cases d with
    | tup xs => simp only [okF, okFs_all] at hd; simp only [noref, noref_all]; exact fun a ha => ih (hd a ha)
    | lst xs => simp only [okF, okFs_all] at hd; simp only [noref, noref_all]; exact fun a ha => ih (hd a ha)
    | dct t ks vs => simp only [okF, okFs_all] at hd; simp only [noref, noref_all]; exact fun a ha => ih (hd a ha)
    | ref i => simp [okF] at hd
    | _ => rfl
mutual
theorem low_of {k : Nat} : ∀ {d : D}, noref d = true → lowD k d = true
  | .tup xs, h => by simp only [lowD]; exact lows_of h
  | .lst xs, h => by simp only [lowD]; exact lows_of h
  | .dct _ _ vs, h => by simp only [lowD]; exact lows_of h
  | .ref _, h => by simp [noref] at h
  | .non, _ => rfl
  | .bl _, _ => rfl
  | .int _, _ => rfl
  | .str _, _ => rfl
  | .fn _, _ => rfl
theorem lows_of {k : Nat} : ∀ {ds : List D}, norefs ds = true → lowDs k ds = true
  | [], _ => rfl
  | a :: r, h => by
    simp only [norefs, Bool.and_eq_true] at h
    simp only [lowDs, low_of h.1, lows_of h.2, Bool.and_self]
end
theorem fin0 {v : D} {h : Hh} (e : okF 12 v = true) : finR 0 v h = .ok v [] := by
  unfold finR
  rw [frz_ok e] <;> rfl
/-- out of a pure def -/
theorem pure_rt {n : Nat} {m : Ms} {xs : List D} {v : D} {h h' : Hh} (hx : norefs xs = true) (e : m (xs.map some ++ List.replicate (n - xs.length) none) [] = .rt v h') (hv : okF 12 v = true) : pure1 (runF n m) xs h = .ok v h := by
  unfold pure1 runF
  rw [hx]
  simp only [e, List.length_nil, fin0 hv]
theorem pure_nx {n : Nat} {m : Ms} {xs : List D} {env : Ev} {h h' : Hh} (hx : norefs xs = true) (e : m (xs.map some ++ List.replicate (n - xs.length) none) [] = .nx env h') : pure1 (runF n m) xs h = .ok .non h := by
  unfold pure1 runF
  rw [hx]
  simp only [e, List.length_nil, fin0 (v := .non) (h := h') rfl]
theorem pure_exc {n : Nat} {m : Ms} {xs : List D} {x : Ex} {h h' : Hh} (hx : norefs xs = true) (e : m (xs.map some ++ List.replicate (n - xs.length) none) [] = .exc x h') : pure1 (runF n m) xs h = .exc x h := by
  unfold pure1 runF
  rw [hx]
  simp only [e, List.length_nil, finX, List.take_zero, List.all_nil, if_true]
theorem pure_rtE {n : Nat} {m : Ms} {xs : List D} {v : D} {h : Hh} (hx : norefs xs = true) (hv : okF 12 v = true) (e : ∃ h', m (xs.map some ++ List.replicate (n - xs.length) none) [] = .rt v h') : pure1 (runF n m) xs h = .ok v h :=
  e.elim fun _ e => pure_rt hx e hv
theorem pure_nxE {n : Nat} {m : Ms} {xs : List D} {h : Hh} (hx : norefs xs = true) (e : ∃ env h', m (xs.map some ++ List.replicate (n - xs.length) none) [] = .nx env h') : pure1 (runF n m) xs h = .ok .non h :=
  e.elim fun _ e => e.elim fun _ e => pure_nx hx e
theorem pure_excE {n : Nat} {m : Ms} {xs : List D} {x : Ex} {h : Hh} (hx : norefs xs = true) (e : ∃ h', m (xs.map some ++ List.replicate (n - xs.length) none) [] = .exc x h') : pure1 (runF n m) xs h = .exc x h :=
  e.elim fun _ e => pure_exc hx e
/-- out of a def with objects of ours: it leaves h1 and its own -/
theorem raw_rt {n : Nat} {m : Ms} {xs : List D} {v : D} {h h1 h2 : Hh} (e : m (xs.map some ++ List.replicate (n - xs.length) none) h = .rt v (h1 ++ h2)) (hl : h1.length = h.length) (hv : okF 12 v = true) (lo : h1.all (lowO h1.length) = true) : runF n m xs h = .ok v h1 := by
  unfold runF
  simp only [e, finR, frz_ok hv, ← hl, List.take_left, lo, if_true]
/-! ### middling numbers -/
theorem log2_lt {n k : Nat} (h : n < 2 ^ k) (hk : 0 < k) : n.log2 < k := by
  by_cases z : n = 0
  · subst z; simpa using hk
  · exact (Nat.log2_lt z).mpr h
theorem mulOk_b {i j : Int} (h1 : i.natAbs < 2 ^ 500) (h2 : j.natAbs < 2 ^ 500) : mulOk i j := by
  have e : decide (i.natAbs.log2 + j.natAbs.log2 < 1000000) = true := by
    have a := log2_lt h1 (by decide)
    have b := log2_lt h2 (by decide)
    exact decide_eq_true (by omega)
  unfold mulOk
  rw [e, Bool.or_true] <;> rfl
theorem pow_b {m : Int} {i : Nat} (h : m.natAbs < 2 ^ 20) (hi : i ≤ 20) : (m ^ i).natAbs < 2 ^ 500 := by
  rw [Int.natAbs_pow]
  calc m.natAbs ^ i ≤ (2 ^ 20) ^ i := Nat.pow_le_pow_left (by omega) i
    _ ≤ (2 ^ 20) ^ 20 := Nat.pow_le_pow_right (by decide) hi
    _ < 2 ^ 500 := by rw [← Nat.pow_mul]; exact Nat.pow_lt_pow_right (by decide) (by decide)
/-! ### equality and membership of values -/
theorem okEs_all {n : Nat} : ∀ {xs : List D}, okEs n xs = true ↔ ∀ a ∈ xs, okE n a = true
  | [] => by simp [okEs]
  | a :: r => by simp [okEs, okEs_all (xs := r)]
theorem simpleDs_all : ∀ {xs : List D}, simpleDs xs = true ↔ ∀ a ∈ xs, simpleD a = true
  | [] => by simp [simpleDs]
  | a :: r => by simp [simpleDs, simpleDs_all (xs := r)]
theorem resD_simple {h : Hh} {a : D} (s : simpleD a = true) : resD h a = a := by cases a <;> first | rfl | simp [simpleD] at s
theorem gEqD_simple {neg : Bool} {a b : D} {h : Hh} (sa : simpleD a = true) (sb : simpleD b = true) (oa : okE dE a = true) (ob : okE dE b = true) : gEqD neg a b h = some (.bl (decide (a = b) ^^ neg), h) := by
  have e : eqD a b = decide (a = b) := by
    by_cases z : a = b
    · rw [decide_eq_true z]; exact (eqD_iff sa sb).mpr z
    · rw [decide_eq_false z]
      cases q : eqD a b with
      | true => exact absurd ((eqD_iff sa sb).mp q) z
      | false => rfl
  have k : (okE dE (resD h a) && okE dE (resD h b)) = true := by rw [resD_simple sa, resD_simple sb, oa, ob] <;> rfl
  have g : gEqD neg a b h = if (okE dE (resD h a) && okE dE (resD h b)) = true then some (.bl (eqD (resD h a) (resD h b) ^^ neg), h) else none := rfl
  rw [g, if_pos k, resD_simple sa, resD_simple sb, e]
theorem any_ints (i : Int) : ∀ l : List Int, ((l.map D.int).any fun y => eqD y (.int i)) = decide (i ∈ l)
  | [] => rfl
  | a :: r => by
    rw [List.map_cons, List.any_cons, any_ints i r]
    have e : eqD (.int a) (.int i) = decide (i = a) := by
      by_cases z : i = a
      · rw [decide_eq_true z]; exact (eqD_iff rfl rfl).mpr (by rw [z])
      · rw [decide_eq_false z]
        cases q : eqD (.int a) (.int i) with
        | true => exact absurd (by have := (eqD_iff (a := .int a) (b := .int i) rfl rfl).mp q; injection this with this; exact this.symm) z
        | false => rfl
    rw [e]
    simp
theorem okEs_ints (n : Nat) (l : List Int) : okEs n (l.map .int) = true := by
  rw [okEs_all]
  intro a ha
  obtain ⟨x, _, rfl⟩ := List.mem_map.mp ha
  rfl
theorem aIn_ints {neg : Bool} {i : Int} {b : D} {h : Hh} {l : List Int} (e : getS h b = some (l.map .int)) : aIn neg (.int i) b h = some (.bl (decide (i ∈ l) ^^ neg), h) := by
  have g : gInS neg (.int i) b h = some (.bl (decide (i ∈ l) ^^ neg), h) := by
    simp only [gInS, e]
    rw [if_pos (by rw [okEs_ints] <;> rfl), any_ints]
  unfold aIn gOr
  rw [g]
/-! ### a list of ours, the youngest -/
theorem getLast {h : Hh} {o : Ob} : (h ++ [o])[h.length]? = some o := by simp
@[simp] theorem tyL_last (h : Hh) (xs : List D) : tyL (.ref h.length) (h ++ [.lst xs]) = true := by
  unfold tyL; rw [getL_ref getLast]; rfl
theorem app_last {h : Hh} {xs : List D} {y : D} (hz : xs.length < SZ) : gAppend (.ref h.length) [y] (h ++ [.lst xs]) = some (.non, h ++ [.lst (xs ++ [y])]) := by
  have e : gAppend (.ref h.length) [y] (h ++ [.lst xs]) = onL (.ref h.length) (h ++ [.lst xs]) fun l => if l.length < SZ then some (.non, l ++ [y]) else none := rfl
  rw [e]
  simp only [onL, getLast, if_pos hz, Option.map_some]
  simp
theorem aIx_last {h : Hh} {xs : List D} {k : Nat} (hk : k < xs.length) : aIx (.ref h.length) (.int k) (h ++ [.lst xs]) = some (xs[k], h ++ [.lst xs]) := aIx_ref getLast (by unfold L2.atI ixN; simp [hk])
/-! ### typed lists -/
@[simp] theorem norefs_ints (l : List Int) : norefs (l.map .int) = true := by
  rw [noref_all]
  intro a ha
  obtain ⟨x, _, rfl⟩ := List.mem_map.mp ha
  rfl
@[simp] theorem noref_int (i : Int) : noref (.int i) = true := (rfl)

theorem blsD_map' {α : Type} (l : List α) (f : α → Bool) : blsD (l.map fun a => D.bl (f a)) = some (l.map f) := by
  rw [show (l.map fun a => D.bl (f a)) = (l.map f).map D.bl by simp, blsD_map]
theorem intsD_map' {α : Type} (l : List α) (f : α → Int) : intsD (l.map fun a => D.int (f a)) = some (l.map f) := by
  rw [show (l.map fun a => D.int (f a)) = (l.map f).map D.int by simp, intsD_map]
@[simp] theorem fLen_tup (xs : List D) (h : Hh) : fLen [.tup xs] h = some (.int xs.length, h) := (rfl)
@[simp] theorem fLen_lst (xs : List D) (h : Hh) : fLen [.lst xs] h = some (.int xs.length, h) := (rfl)
theorem fLen_ref {xs : List D} {h : Hh} {n : Nat} (e : h[n]? = some (.lst xs)) : fLen [.ref n] h = some (.int xs.length, h) := by
  simp only [fLen, f1, lenD, e]
  rfl
@[simp] theorem fTup_lst (xs : List D) (h : Hh) : fTup [.lst xs] h = some (.tup xs, h) := (rfl)
theorem fTup_ref {xs : List D} {h : Hh} {n : Nat} (e : h[n]? = some (.lst xs)) : fTup [.ref n] h = some (.tup xs, h) := by
  simp only [fTup, f1, getS_ref e, Option.map_some]
@[simp] theorem fLst_tup (xs : List D) (h : Hh) : fLst false [.tup xs] h = some (.lst xs, h) := (rfl)
theorem fAny_map {α : Type} (l : List α) (f : α → Bool) (h : Hh) : fAny [.lst (l.map fun a => D.bl (f a))] h = some (.bl (l.any f), h) := by
  simp only [fAny, f1, blsOf, getL_lst, Option.bind_some, blsD_map', Option.map_some, List.any_map]
  rfl
theorem fAll_map {α : Type} (l : List α) (f : α → Bool) (h : Hh) : fAll [.lst (l.map fun a => D.bl (f a))] h = some (.bl (l.all f), h) := by
  simp only [fAll, f1, blsOf, getL_lst, Option.bind_some, blsD_map', Option.map_some, List.all_map]
  rfl
theorem fSum_map {α : Type} (l : List α) (f : α → Int) (h : Hh) : fSum [.lst (l.map fun a => D.int (f a))] h = some (.int (l.map f).sum, h) := by
  simp only [fSum, f1, intsOf, getS_lst, Option.bind_some, intsD_map', Option.map_some]
@[simp] theorem fInt_int (i : Int) (h : Hh) : fInt [.int i] h = some (.int i, h) := (rfl)
@[simp] theorem fInt_bl (b : Bool) (h : Hh) : fInt [.bl b] h = some (.int (if b = true then 1 else 0), h) := (rfl)
@[simp] theorem fAbs_int (i : Int) (h : Hh) : fAbs [.int i] h = some (.int (if i < 0 then -i else i), h) := (rfl)
@[simp] theorem fMin2_int (i j : Int) (h : Hh) : fMin2 [.int i, .int j] h = some (.int (if j < i then j else i), h) := (rfl)
@[simp] theorem fMax2_int (i j : Int) (h : Hh) : fMax2 [.int i, .int j] h = some (.int (if i < j then j else i), h) := (rfl)
@[simp] theorem fMin_two (i j : Int) (h : Hh) : fMin [.tup [.int i, .int j]] h = some (.int (minI i [j]), h) := (rfl)
@[simp] theorem fMax_two (i j : Int) (h : Hh) : fMax [.tup [.int i, .int j]] h = some (.int (maxI i [j]), h) := (rfl)
@[simp] theorem aIx_two0 (a : D) (r : List D) (h : Hh) : aIx (.tup (a :: r)) (.int 0) h = some (a, h) := aIx_tup h (by
  unfold L2.atI ixN
  rw [if_pos (by omega), if_pos (by simp only [List.length_cons]; omega)]
  rfl)
@[simp] theorem aIx_two1 (a b : D) (r : List D) (h : Hh) : aIx (.tup (a :: b :: r)) (.int 1) h = some (b, h) := aIx_tup h (by
  unfold L2.atI ixN
  rw [if_pos (by omega), if_pos (by simp only [List.length_cons]; omega)]
  rfl)
theorem aIx_nat {xs : List D} {k : Nat} (hk : k < xs.length) (h : Hh) : aIx (.tup xs) (.int k) h = some (xs[k], h) := aIx_tup h (by unfold L2.atI ixN; simp [hk])
theorem aIx_natL {xs : List D} {k : Nat} (hk : k < xs.length) (h : Hh) : aIx (.lst xs) (.int k) h = some (xs[k], h) := aIx_lst h (by unfold L2.atI ixN; simp [hk])
theorem atI_nat {xs : List D} {k : Nat} (hk : k < xs.length) : L2.atI xs (k : Int) = some xs[k] := by
  unfold L2.atI ixN
  simp [hk]
end Rf
namespace K56
open PySem PySem.Spec PyProof.Rows L2 Rf
def top (i : Nat) : Stmt := PySem.Challenge.pw_flatproved_k56_whole_colours_counted.main.body.getD i (.Pass ⟨0, 0, 0, 0⟩)
section
variable {T : List (Addr × Str)} {P : Program} {wo : World} {K : PySem.W.Frag} {mg : Str → Option Value} {base : Heap}
def N_check_graph : List Str := ["graph", "nodes", "edges", "one", "two"]
def m_check_graph : Ms := (sSeq (sAsg (mVar 0) (gTup 2 (gsCons (gN 1) (gsCons (gN 2) gsNil))))
  (sSeq (sIf (tOrM (tV (mB iGt (mVar 1) (mC (.int 60)))) (tV (mB iGt (mF fLen (aCons (mVar 2) aNil)) (mC (.int 180))))) (sRaise .tl) sNil)
  (sIf (tOrM (tV (mB iLt (mVar 1) (mC (.int 1)))) (tNotM (tV (mF fAll (aCons (mComp false (srcM (mVar 2)) (gTup 2 (gsCons (gN 3) (gsCons (gN 4) gsNil))) tYesM (mAnd (mChain iLe iLt (mC (.int 0)) (mVar 3) (mVar 1)) (mChain iLe iLt (mC (.int 0)) (mVar 4) (mVar 1))) [3, 4]) aNil))))) (sRaise .na) sNil)))
def F_check_graph : List D → Hh → R D := pure1 <| runF N_check_graph.length m_check_graph

theorem D_check_graph (FF : FnP K mg "check_graph" (top 9)) (G_MAX_EDGES : ∃ t, mg "MAX_EDGES" = some (.int 180 t)) (G_MAX_NODES : ∃ t, mg "MAX_NODES" = some (.int 60 t)) (G_all : mg "all" = none) (G_len : mg "len" = none) (G_ex : ExF K mg)  : Df T P wo K mg base "check_graph" 1 ["graph"] F_check_graph := by
  refine Df.pure (df_ofS (N := N_check_graph) (vis := [(0, "graph"), (2, "edges"), (1, "nodes")]) (loc := [(2, "edges"), (1, "nodes")]) (gls := ["len", "MAX_EDGES", "MAX_NODES", "TooLarge", "all", "NotAllowed"]) (k := 0) (m := m_check_graph) FF (by kernel_rfl) (by kernel_rfl) (fun _ _ _ _ _ _ us hl => match us, hl with | [_], _ => rfl) fun cdv A outer s H E hr Bd B S => ?_) (fun _ _ _ h => runF_nil h) (fun _ _ _ h => runF_nilX h)
  exact (mss_cons (ms_asg (is := [1, 2]) (me_v S 0 rfl) (mg_t B (mgs_cons (mg_v S B 1 rfl) (mgs_cons (mg_v S B 0 rfl) mgs_nil))))
  (mss_cons (ms_if (MW.mt (mw_or (mt_cmp mop_gt (me_v S 2 rfl) (me_G S 2 rfl G_MAX_NODES) (nomark _)) (mw_or1 (mt_cmp mop_gt (me_B S 0 rfl G_len bt_len mfn_len (ma_cons (me_v S 1 rfl) ma_nil)) (me_G S 1 rfl G_MAX_EDGES) (nomark _))))) (mss_one (ms_raiseE .tl Bd G_ex S 3 rfl rfl)) mss_nil)
  (mss_one (ms_if (MW.mt (mw_or (mt_cmp mop_lt (me_v S 2 rfl) me_int (nomark _)) (mw_or1 (mt_not (mt_val (me_B S 4 rfl G_all bt_all (mfn_all B.calm) (ma_cons (me_lcS false B (own := [("one", 3), ("two", 4)]) (is := [3, 4]) (vis := [(4, "two"), (1, "nodes"), (3, "one")]) (loc := [(4, "two"), (3, "one")]) (gls := []) (mi_seq (me_v S 1 rfl)) (blkOk_by (by kernel_rfl)) (fun _ _ _ _ _ => sc_blk (N := N_check_graph) (sc := defScope (top 9)) rfl rfl (by kernel_rfl)) (fun _ _ _ _ _ S1 B1 => (mg_t B1 (mgs_cons (mg_v S1 B1 1 rfl) (mgs_cons (mg_v S1 B1 0 rfl) mgs_nil)))) (fun _ _ _ _ _ S1 B1 => mts_nil) (fun _ _ _ _ _ S1 B1 => (me_and (me_chain mop_le mop_lt me_int (me_v S1 2 rfl) (me_v S1 1 rfl)) (me_one (me_chain mop_le mop_lt me_int (me_v S1 0 rfl) (me_v S1 1 rfl)))))) ma_nil))))))) (mss_one (ms_raiseE .na Bd G_ex S 5 rfl rfl)) mss_nil))))

def N_known_kept : List Str := ["graph", "edges", "edge"]
def m_known_kept : Ms := (sRet (mTup (aCons (mB aIx (mVar 0) (mC (.int 0))) (aCons (mF fTup (aCons (mComp false (srcM (mVar 1)) (gN 2) tYesM (mB aIx (mB aIx (mVar 0) (mC (.int 1))) (mVar 2)) [2]) aNil)) aNil))))
def F_known_kept : List D → Hh → R D := pure1 <| runF N_known_kept.length m_known_kept

theorem D_known_kept (FF : FnP K mg "known_kept" (top 12)) (G_tuple : mg "tuple" = none)  : Df T P wo K mg base "known_kept" 1 ["graph", "edges"] F_known_kept := by
  refine Df.pure (df_ofS (N := N_known_kept) (vis := [(1, "edges"), (0, "graph")]) (loc := []) (gls := ["tuple"]) (k := 0) (m := m_known_kept) FF (by kernel_rfl) (by kernel_rfl) (fun _ _ _ _ _ _ us hl => match us, hl with | [_, _], _ => rfl) fun cdv A outer s H E hr Bd B S => ?_) (fun _ _ _ h => runF_nil h) (fun _ _ _ h => runF_nilX h)
  exact (mss_one (ms_ret (me_tup (ma_cons (me_ix (x_ix B) (me_v S 1 rfl) me_int) (ma_cons (me_Ty S 0 rfl G_tuple bt_tuple mfn_tup (ma_cons (me_lcS false B (own := [("edge", 2)]) (is := [2]) (vis := [(0, "graph"), (2, "edge")]) (loc := [(2, "edge")]) (gls := []) (mi_seq (me_v S 0 rfl)) (blkOk_by (by kernel_rfl)) (fun _ _ _ _ _ => sc_blk (N := N_known_kept) (sc := defScope (top 12)) rfl rfl (by kernel_rfl)) (fun _ _ _ _ _ S1 B1 => (mg_v S1 B1 0 rfl)) (fun _ _ _ _ _ S1 B1 => mts_nil) (fun _ _ _ _ _ S1 B1 => (me_ix (x_ix B1) (me_ix (x_ix B1) (me_v S1 0 rfl) me_int) (me_v S1 1 rfl)))) ma_nil)) ma_nil)))))

def N_known_rows : List Str := ["graph", "gone", "_", "rows", "one", "two", "row"]
def m_known_rows : Ms := (sSeq (sAsg (mComp false (srcR1 (aCons (mB aIx (mVar 0) (mC (.int 0))) aNil)) (gN 2) tYesM (mDct0 0 true) [2]) (gN 3))
  (sSeq (sFor (srcM (mB aIx (mVar 0) (mC (.int 1)))) (gTup 2 (gsCons (gN 4) (gsCons (gN 5) gsNil))) (sIf (tAndM (tV (mB (gEqD true) (mVar 4) (mVar 5))) (tAndM (tV (mB (aIn true) (mVar 4) (mVar 1))) (tV (mB (aIn true) (mVar 5) (mVar 1))))) (sSeq (sAsg (mC (.bl true)) (gSubM (mB aIx (mVar 3) (mVar 4)) (mVar 5) aSet))
  (sAsg (mC (.bl true)) (gSubM (mB aIx (mVar 3) (mVar 5)) (mVar 4) aSet))) sNil))
  (sRet (mComp false (srcM (mVar 3)) (gN 6) tYesM (mF (fOr (fSort false) (fSortD false)) (aCons (mVar 6) aNil)) [6]))))
def F_known_rows : List D → Hh → R D := pure1 <| runF N_known_rows.length m_known_rows

theorem D_known_rows (FF : FnP K mg "known_rows" (top 16)) (G_range : mg "range" = none) (G_sorted : mg "sorted" = none)  : Df T P wo K mg base "known_rows" 1 ["graph", "gone"] F_known_rows := by
  refine Df.pure (df_ofS (N := N_known_rows) (vis := [(0, "graph"), (5, "two"), (1, "gone"), (4, "one"), (3, "rows")]) (loc := [(3, "rows"), (5, "two"), (4, "one")]) (gls := ["range"]) (k := 0) (m := m_known_rows) FF (by kernel_rfl) (by kernel_rfl) (fun _ _ _ _ _ _ us hl => match us, hl with | [_, _], _ => rfl) fun cdv A outer s H E hr Bd B S => ?_) (fun _ _ _ h => runF_nil h) (fun _ _ _ h => runF_nilX h)
  exact (mss_cons (ms_setLcS (S1 := S) (j := 0) (hj := rfl) (hyl := by kernel_rfl) (hsw := sw_true rfl (by kernel_rfl) rfl (by kernel_rfl)) (mt := false) (B := B) (own := [("_", 2)]) (is := [2]) (vis := []) (loc := [(2, "_")]) (gls := []) (mi_range1 (S.at_g 0 rfl) G_range (ma_cons (me_ix (x_ix B) (me_v S 0 rfl) me_int) ma_nil)) (blkOk_by (by kernel_rfl)) (fun _ _ _ _ _ => sc_blk (N := N_known_rows) (sc := defScope (top 16)) rfl rfl (by kernel_rfl)) (fun _ _ _ _ _ S1 B1 => (mg_v S1 B1 0 rfl)) (fun _ _ _ _ _ S1 B1 => mts_nil) (fun _ _ _ _ _ S1 B1 => (me_dct0 0 true)))
  (mss_cons (ms_for (is := [4, 5]) Bd.own B.calm (mi_seq (me_ix (x_ix B) (me_v S 0 rfl) me_int)) (mg_t B (mgs_cons (mg_v S B 2 rfl) (mgs_cons (mg_v S B 1 rfl) mgs_nil))) (mss_one (ms_if (MW.mt (mw_and (mt_cmp (o_ne B) (me_v S 3 rfl) (me_v S 1 rfl) (nomark _)) (mw_and (mt_cmp (o_notin B) (me_v S 3 rfl) (me_v S 2 rfl) rfl) (mw_and1 (mt_cmp (o_notin B) (me_v S 1 rfl) (me_v S 2 rfl) rfl))))) (mss_cons (ms_asg (is := []) me_bl (mg_sub (W := (fun cls d _ H => E cls d H)) (me_ix (x_ix B) (me_v S 4 rfl) (me_v S 3 rfl)) (me_v S 1 rfl) (s_set B)))
  (mss_one (ms_asg (is := []) me_bl (mg_sub (W := (fun cls d _ H => E cls d H)) (me_ix (x_ix B) (me_v S 4 rfl) (me_v S 1 rfl)) (me_v S 3 rfl) (s_set B))))) mss_nil)))
  (mss_one (ms_ret (me_lcS false B (own := [("row", 6)]) (is := [6]) (vis := [(6, "row")]) (loc := [(6, "row")]) (gls := ["sorted"]) (mi_seq (me_v S 4 rfl)) (blkOk_by (by kernel_rfl)) (fun _ _ _ _ _ => sc_blk (N := N_known_rows) (sc := defScope (top 16)) rfl rfl (by kernel_rfl)) (fun _ _ _ _ _ S1 B1 => (mg_v S1 B1 0 rfl)) (fun _ _ _ _ _ S1 B1 => mts_nil) (fun _ _ _ _ _ S1 B1 => (me_B S1 0 rfl G_sorted bt_sorted (mfn_or (mfn_sort false) (mfn_sortD B1.calm false)) (ma_cons (me_v S1 0 rfl) ma_nil))))))))

def N_has_loop : List Str := ["graph", "one", "two"]
def m_has_loop : Ms := (sRet (mF fAny (aCons (mComp false (srcM (mB aIx (mVar 0) (mC (.int 1)))) (gTup 2 (gsCons (gN 1) (gsCons (gN 2) gsNil))) tYesM (mB (gEqD false) (mVar 1) (mVar 2)) [1, 2]) aNil)))
def F_has_loop : List D → Hh → R D := pure1 <| runF N_has_loop.length m_has_loop

theorem D_has_loop (FF : FnP K mg "has_loop" (top 19)) (G_any : mg "any" = none)  : Df T P wo K mg base "has_loop" 1 ["graph"] F_has_loop := by
  refine Df.pure (df_ofS (N := N_has_loop) (vis := [(0, "graph")]) (loc := []) (gls := ["any"]) (k := 0) (m := m_has_loop) FF (by kernel_rfl) (by kernel_rfl) (fun _ _ _ _ _ _ us hl => match us, hl with | [_], _ => rfl) fun cdv A outer s H E hr Bd B S => ?_) (fun _ _ _ h => runF_nil h) (fun _ _ _ h => runF_nilX h)
  exact (mss_one (ms_ret (me_B S 0 rfl G_any bt_any (mfn_any B.calm) (ma_cons (me_lcS false B (own := [("one", 1), ("two", 2)]) (is := [1, 2]) (vis := [(1, "one"), (2, "two")]) (loc := [(2, "two"), (1, "one")]) (gls := []) (mi_seq (me_ix (x_ix B) (me_v S 0 rfl) me_int)) (blkOk_by (by kernel_rfl)) (fun _ _ _ _ _ => sc_blk (N := N_has_loop) (sc := defScope (top 19)) rfl rfl (by kernel_rfl)) (fun _ _ _ _ _ S1 B1 => (mg_t B1 (mgs_cons (mg_v S1 B1 1 rfl) (mgs_cons (mg_v S1 B1 0 rfl) mgs_nil)))) (fun _ _ _ _ _ S1 B1 => mts_nil) (fun _ _ _ _ _ S1 B1 => (me_cmp (o_eq B1) (me_v S1 0 rfl) (me_v S1 1 rfl) (nomark _)))) ma_nil))))

def N_power_of : List Str := ["number", "often", "found", "_"]
def m_power_of : Ms := (sSeq (sAsg (mC (.int 1)) (gN 2))
  (sSeq (sFor (srcR1 (aCons (mVar 1) aNil)) (gN 3) (sAsg (mB (aMul false) (mVar 2) (mVar 0)) (gN 2)))
  (sRet (mVar 2))))
def F_power_of : List D → Hh → R D := pure1 <| runF N_power_of.length m_power_of

theorem D_power_of (FF : FnP K mg "power_of" (top 23)) (G_range : mg "range" = none)  : Df T P wo K mg base "power_of" 1 ["number", "often"] F_power_of := by
  refine Df.pure (df_ofS (N := N_power_of) (vis := [(1, "often"), (2, "found"), (0, "number")]) (loc := [(2, "found"), (3, "_")]) (gls := ["range"]) (k := 0) (m := m_power_of) FF (by kernel_rfl) (by kernel_rfl) (fun _ _ _ _ _ _ us hl => match us, hl with | [_, _], _ => rfl) fun cdv A outer s H E hr Bd B S => ?_) (fun _ _ _ h => runF_nil h) (fun _ _ _ h => runF_nilX h)
  exact (mss_cons (ms_setv S B 0 rfl me_int (by rfl))
  (mss_cons (ms_for (is := [3]) Bd.own B.calm (mi_range1 (S.at_g 0 rfl) G_range (ma_cons (me_v S 0 rfl) ma_nil)) (mg_v S B 1 rfl) (mss_one (ms_setv S B 0 rfl (me_bin (o_mul false) (me_v S 1 rfl) (me_v S 2 rfl)) (by rfl))))
  (mss_one (ms_ret (me_v S 1 rfl)))))

-- _law_same: _law_same: expression repr([told])
def N__law_stream : List Str := ["script", "numbers", "cell", "rest", "k", "stirred"]
def m__law_stream : Ms := (sSeq (sAsg (mLst true aNil) (gN 1))
  (sSeq (sFor (srcM (mCut false (mVar 0) pNo (pYes (mC (.int 63))))) (gN 2) (sSeq (sAsg (mF fAbs (aCons (mF fInt (aCons (mVar 2) aNil)) aNil)) (gN 3))
  (sIf (tV (mB iGe (mVar 3) (mB iPow (mC (.int 10)) (mC (.int 18))))) (sFor (srcR1 (aCons (mC (.int 60)) aNil)) (gN 4) (sSeq (sExpr (mMeth tyL gAppend (mVar 1) (aCons (mB iMod (mF fInt (aCons (mVar 3) aNil)) (mC (.int 1009))) aNil)))
  (sSeq (sAsg (mB iDiv (mVar 3) (mC (.int 1009))) (gN 3))
  (sIf (tV (mB (gEqD false) (mVar 3) (mC (.int 0)))) sBreak sNil)))) (sSeq (sAsg (mB iMod (mF fInt (aCons (mVar 3) aNil)) (mC (.int 2147483647))) (gN 5))
  (sFor (srcR1 (aCons (mC (.int 10)) aNil)) (gN 4) (sSeq (sAsg (mB iMod (mF fInt (aCons (mB (aAdd false) (mB (aAdd false) (mB (aMul false) (mVar 5) (mC (.int 48271))) (mB (aMul false) (mC (.int 7)) (mVar 4))) (mC (.int 11))) aNil)) (mC (.int 2147483647))) (gN 5))
  (sExpr (mMeth tyL gAppend (mVar 1) (aCons (mB iMod (mB iMod (mF fInt (aCons (mB (aAdd false) (mB (aMul false) (mVar 5) (mC (.int 69621))) (mVar 4)) aNil)) (mC (.int 2147483629))) (mC (.int 1009))) aNil)))))))))
  (sSeq (sIf (tV (mB (gEqD false) (mF fLen (aCons (mVar 1) aNil)) (mC (.int 0)))) (sExpr (mMeth tyL gAppend (mVar 1) (aCons (mC (.int 0)) aNil))) sNil)
  (sRet (mVar 1)))))
def F__law_stream : List D → Hh → R D := pure1 <| runF N__law_stream.length m__law_stream

theorem D__law_stream (FF : FnP K mg "_law_stream" (top 27)) (G_abs : mg "abs" = none) (G_int : mg "int" = none) (G_len : mg "len" = none) (G_range : mg "range" = none)  : Df T P wo K mg base "_law_stream" 1 ["script"] F__law_stream := by
  refine Df.pure (df_ofS (N := N__law_stream) (vis := [(0, "script"), (2, "cell"), (3, "rest"), (1, "numbers"), (5, "stirred"), (4, "k")]) (loc := [(1, "numbers"), (2, "cell"), (3, "rest"), (4, "k"), (5, "stirred")]) (gls := ["int", "abs", "range", "len"]) (k := 0) (m := m__law_stream) FF (by kernel_rfl) (by kernel_rfl) (fun _ _ _ _ _ _ us hl => match us, hl with | [_], _ => rfl) fun cdv A outer s H E hr Bd B S => ?_) (fun _ _ _ h => runF_nil h) (fun _ _ _ h => runF_nilX h)
  exact (mss_cons (ms_setv S B 0 rfl (me_lst true ma_nil) (by rfl))
  (mss_cons (ms_for (is := [2]) Bd.own B.calm (mi_seq (me_cut false (me_v S 0 rfl) mp_no (mp_yes me_int))) (mg_v S B 1 rfl) (mss_cons (ms_setv S B 2 rfl (me_B S 1 rfl G_abs bt_abs mfn_abs (ma_cons (me_Ty S 0 rfl G_int bt_int mfn_int (ma_cons (me_v S 1 rfl) ma_nil)) ma_nil)) (by rfl))
  (mss_one (ms_if (mt_cmp mop_ge (me_v S 2 rfl) (me_bin mop_pow me_int me_int) (nomark _)) (mss_one (ms_for (is := [4]) Bd.own B.calm (mi_range1 (S.at_g 2 rfl) G_range (ma_cons me_int ma_nil)) (mg_v S B 3 rfl) (mss_cons (ms_expr (me_meth F.slot_list_append tm_append mmt_append (me_v S 3 rfl) (ma_cons (me_bin mop_mod (me_Ty S 0 rfl G_int bt_int mfn_int (ma_cons (me_v S 2 rfl) ma_nil)) me_int) ma_nil)))
  (mss_cons (ms_setv S B 2 rfl (me_bin mop_div (me_v S 2 rfl) me_int) (by rfl))
  (mss_one (ms_if (mt_cmp (o_eq B) (me_v S 2 rfl) me_int (nomark _)) (mss_one ms_break) mss_nil)))))) (mss_cons (ms_setv S B 4 rfl (me_bin mop_mod (me_Ty S 0 rfl G_int bt_int mfn_int (ma_cons (me_v S 2 rfl) ma_nil)) me_int) (by rfl))
  (mss_one (ms_for (is := [4]) Bd.own B.calm (mi_range1 (S.at_g 2 rfl) G_range (ma_cons me_int ma_nil)) (mg_v S B 3 rfl) (mss_cons (ms_setv S B 4 rfl (me_bin mop_mod (me_Ty S 0 rfl G_int bt_int mfn_int (ma_cons (me_bin (o_add false) (me_bin (o_add false) (me_bin (o_mul false) (me_v S 4 rfl) me_int) (me_bin (o_mul false) me_int (me_v S 5 rfl))) me_int) ma_nil)) me_int) (by rfl))
  (mss_one (ms_expr (me_meth F.slot_list_append tm_append mmt_append (me_v S 3 rfl) (ma_cons (me_bin mop_mod (me_bin mop_mod (me_Ty S 0 rfl G_int bt_int mfn_int (ma_cons (me_bin (o_add false) (me_bin (o_mul false) (me_v S 4 rfl) me_int) (me_v S 5 rfl)) ma_nil)) me_int) me_int) ma_nil))))))))))))
  (mss_cons (ms_if (mt_cmp (o_eq B) (me_B S 3 rfl G_len bt_len mfn_len (ma_cons (me_v S 3 rfl) ma_nil)) me_int (nomark _)) (mss_one (ms_expr (me_meth F.slot_list_append tm_append mmt_append (me_v S 3 rfl) (ma_cons me_int ma_nil)))) mss_nil)
  (mss_one (ms_ret (me_v S 3 rfl))))))

def N__law_next : List Str := ["state", "many", "turn"]
def m__law_next : Ms := (sSeq (sAsg (mB (aAdd false) (mB aIx (mVar 0) (mC (.int 1))) (mC (.int 1))) (gSubM (mVar 0) (mC (.int 1)) aSet))
  (sSeq (sAsg (mB iDiv (mB aIx (mVar 0) (mC (.int 1))) (mF fLen (aCons (mB aIx (mVar 0) (mC (.int 0))) aNil))) (gN 2))
  (sRet (mB iMod (mF fInt (aCons (mB (aAdd false) (mB (aAdd false) (mB aIx (mB aIx (mVar 0) (mC (.int 0))) (mB iMod (mB aIx (mVar 0) (mC (.int 1))) (mF fLen (aCons (mB aIx (mVar 0) (mC (.int 0))) aNil)))) (mB (aMul false) (mVar 2) (mC (.int 389)))) (mB (aMul false) (mB (aMul false) (mB aIx (mVar 0) (mC (.int 1))) (mVar 2)) (mC (.int 17)))) aNil)) (mVar 1)))))
def F__law_next : List D → Hh → R D := runF N__law_next.length m__law_next

theorem D__law_next (FF : FnP K mg "_law_next" (top 28)) (G_int : mg "int" = none) (G_len : mg "len" = none)  : Df T P wo K mg base "_law_next" 1 ["state", "many"] F__law_next := by
  refine df_ofS (N := N__law_next) (vis := [(0, "state"), (2, "turn"), (1, "many")]) (loc := [(2, "turn")]) (gls := ["len", "int"]) (k := 0) (m := m__law_next) FF (by kernel_rfl) (by kernel_rfl) (fun _ _ _ _ _ _ us hl => match us, hl with | [_, _], _ => rfl) fun cdv A outer s H E hr Bd B S => ?_
  exact (mss_cons (ms_asg (is := []) (me_bin (o_add false) (me_ix (x_ix B) (me_v S 0 rfl) me_int) me_int) (mg_sub (W := (fun cls d _ H => E cls d H)) (me_v S 0 rfl) me_int (s_set B)))
  (mss_cons (ms_setv S B 0 rfl (me_bin mop_div (me_ix (x_ix B) (me_v S 0 rfl) me_int) (me_B S 0 rfl G_len bt_len mfn_len (ma_cons (me_ix (x_ix B) (me_v S 0 rfl) me_int) ma_nil))) (by rfl))
  (mss_one (ms_ret (me_bin mop_mod (me_Ty S 1 rfl G_int bt_int mfn_int (ma_cons (me_bin (o_add false) (me_bin (o_add false) (me_ix (x_ix B) (me_ix (x_ix B) (me_v S 0 rfl) me_int) (me_bin mop_mod (me_ix (x_ix B) (me_v S 0 rfl) me_int) (me_B S 0 rfl G_len bt_len mfn_len (ma_cons (me_ix (x_ix B) (me_v S 0 rfl) me_int) ma_nil)))) (me_bin (o_mul false) (me_v S 1 rfl) me_int)) (me_bin (o_mul false) (me_bin (o_mul false) (me_ix (x_ix B) (me_v S 0 rfl) me_int) (me_v S 1 rfl)) me_int)) ma_nil)) (me_v S 2 rfl))))))

def N__law_told : List Str := ["call", "e", "kinds", "names", "k"]
def m__law_told : Ms := (sSeq (sAsg (mComp false (srcR1 (aCons (mC (.int 4)) aNil)) (gN 4) (tV (mB gIx (mVar 2) (mVar 4))) (mB gIx (mLst false (aCons (mC (.str "refused")) (aCons (mC (.str "large")) (aCons (mC (.str "missing")) (aCons (mC (.str "paper")) aNil))))) (mVar 4)) [4]) (gN 3))
  (sRet (mTup (aCons (mB gIx (mLst false (aCons (mC (.str "odd")) (aCons (mB gIx (mB (gCatL false) (mVar 3) (mLst false (aCons (mC (.str "")) aNil))) (mC (.int 0))) aNil))) (mF fInt (aCons (mB gEqI (mF fLen (aCons (mVar 3) aNil)) (mC (.int 1))) aNil))) aNil))))
theorem D__law_told (X : Cx) (FF : FnP X.K X.mg "_law_told" (top 29)) (G_len : X.mg "len" = none) (G_int : X.mg "int" = none) (G_range : X.mg "range" = none) (G_isinstance : X.mg "isinstance" = none) (G_ex : ExF X.K X.mg) (G_is : ExI X.K) {CS : Addr} (G_fe : X.mg "FlatError" = some (.ref CS)) (G_fx : ∀ e, PySem.W.exmOne X.K (clsV X.K e) (.ref CS) = some true) : ToldOk T X "_law_told" := by
  refine told_ok (Ng := N__law_told) (ie := 1) FF (by kernel_rfl) rfl (fun _ _ _ _ _ _ us hl => match us, hl with | [_], _ => rfl) rfl (.inl (by kernel_rfl)) rfl (by decide) (by kernel_rfl) (by kernel_rfl) G_fe (by decide) (by decide) (by decide) G_fx ?_
  intro cdv s H a' oe e pn hz hf
  have nd : N__law_told.Nodup := by decide
  have S : SC ((cxOf C8.CX0 X.prog X.w X.K X.mg X.base N__law_told "_law_told" (defScope (top 29)) (He.ga X.K "_law_told") cdv X.A X.stack s H C8.E0).nox.suite a' ((a', oe) :: pn)) [(1, "e"), (2, "kinds"), (3, "names")] [(2, "kinds"), (3, "names")] ["isinstance", "NotAllowed", "TooLarge", "Missing", "BadPaper", "range", "int", "len"] := sc_by (N := N__law_told) (sc := defScope (top 29)) (fl := fun _ => true) rfl rfl (fun _ _ => rfl) (by kernel_rfl)
  refine pss_kinds (W := W0) (m := m__law_told) S 0 rfl 0 rfl nd rfl hz hf G_is G_ex (i1 := 0) (j1 := 1) (j2 := 2) (j3 := 3) (j4 := 4) rfl G_isinstance rfl rfl rfl rfl rfl rfl rfl rfl (by rfl) ?_ (fun h => by cases e <;> rfl)
  exact (mss_cons (ms_setLcH (px := (a', oe)) (own := [("k", 4)]) (is := [4]) (vis := [(2, "kinds"), (4, "k")]) (loc := [(4, "k")]) (gls := []) false (hot_suite hz hf) List.mem_cons_self nd (S.at_l 1 rfl).1 (by kernel_rfl) (sw_true rfl (by kernel_rfl) rfl (by kernel_rfl)) (mi_range1H (S.at_g 5 rfl) G_range (ma_cons me_int ma_nil)) (blkOk_by (by kernel_rfl)) (fun _ _ _ _ _ => sc_blk (N := N__law_told) (sc := defScope (top 29)) rfl rfl (by kernel_rfl))
      (fun _ _ _ _ _ S1 => let ⟨h1, h2, h3⟩ := S1.at_l 0 rfl; mg_name nd h1 h2 h3 (by decide)) (fun _ _ _ _ _ S1 => mts_one (mt_val (me_ix mix_seq (me_v S1 0 rfl) (me_v S1 1 rfl)))) (fun _ _ _ _ _ S1 => me_ix mix_seq (me_lst false (ma_cons me_str (ma_cons me_str (ma_cons me_str (ma_cons me_str ma_nil))))) (me_v S1 1 rfl)))
    (mss_one (ms_ret (me_tup (ma_cons (me_ix mix_seq (me_lst false (ma_cons me_str (ma_cons (me_ix mix_seq (me_bin (mop_catL false) (me_v S 2 rfl) (me_lst false (ma_cons me_str ma_nil))) me_int) ma_nil))) (me_Ty S 6 rfl G_int bt_int mfn_int (ma_cons (me_cmp mop_eqI (me_B S 7 rfl G_len bt_len mfn_len (ma_cons (me_v S 2 rfl) ma_nil)) me_int (nomark _)) ma_nil))) ma_nil)))))

def N__law_tried : List Str := ["graph", "many", "found", "total", "node", "k", "row", "rest", "one", "two"]
def m__law_tried : Ms := (sSeq (sAsg (mTup (aCons (mC (.int 0)) (aCons (mC (.int 1)) aNil))) (gTup 2 (gsCons (gN 2) (gsCons (gN 3) gsNil))))
  (sSeq (sFor (srcR1 (aCons (mB aIx (mVar 0) (mC (.int 0))) aNil)) (gN 4) (sAsg (mB (aMul false) (mVar 3) (mVar 1)) (gN 3)))
  (sSeq (sFor (srcR1 (aCons (mVar 3) aNil)) (gN 5) (sSeq (sAsg (mTup (aCons (mLst true aNil) (aCons (mVar 5) aNil))) (gTup 2 (gsCons (gN 6) (gsCons (gN 7) gsNil))))
  (sSeq (sFor (srcR1 (aCons (mB aIx (mVar 0) (mC (.int 0))) aNil)) (gN 4) (sSeq (sExpr (mMeth tyL gAppend (mVar 6) (aCons (mB iMod (mVar 7) (mVar 1)) aNil)))
  (sAsg (mB iDiv (mVar 7) (mVar 1)) (gN 7))))
  (sAsg (mB (aAdd false) (mVar 2) (mF fInt (aCons (mNot (mF fAny (aCons (mComp false (srcM (mB aIx (mVar 0) (mC (.int 1)))) (gTup 2 (gsCons (gN 8) (gsCons (gN 9) gsNil))) tYesM (mB (gEqD false) (mB aIx (mVar 6) (mVar 8)) (mB aIx (mVar 6) (mVar 9))) [8, 9]) aNil))) aNil))) (gN 2)))))
  (sRet (mVar 2)))))
def F__law_tried : List D → Hh → R D := pure1 <| runF N__law_tried.length m__law_tried

theorem D__law_tried (FF : FnP K mg "_law_tried" (top 33)) (G_any : mg "any" = none) (G_int : mg "int" = none) (G_range : mg "range" = none)  : Df T P wo K mg base "_law_tried" 1 ["graph", "many"] F__law_tried := by
  refine Df.pure (df_ofS (N := N__law_tried) (vis := [(0, "graph"), (3, "total"), (1, "many"), (5, "k"), (6, "row"), (7, "rest"), (2, "found")]) (loc := [(3, "total"), (2, "found"), (4, "node"), (5, "k"), (7, "rest"), (6, "row")]) (gls := ["range", "any", "int"]) (k := 0) (m := m__law_tried) FF (by kernel_rfl) (by kernel_rfl) (fun _ _ _ _ _ _ us hl => match us, hl with | [_, _], _ => rfl) fun cdv A outer s H E hr Bd B S => ?_) (fun _ _ _ h => runF_nil h) (fun _ _ _ h => runF_nilX h)
  exact (mss_cons (ms_asg (is := [2, 3]) (me_tup (ma_cons me_int (ma_cons me_int ma_nil))) (mg_t B (mgs_cons (mg_v S B 1 rfl) (mgs_cons (mg_v S B 0 rfl) mgs_nil))))
  (mss_cons (ms_for (is := [4]) Bd.own B.calm (mi_range1 (S.at_g 0 rfl) G_range (ma_cons (me_ix (x_ix B) (me_v S 0 rfl) me_int) ma_nil)) (mg_v S B 2 rfl) (mss_one (ms_setv S B 0 rfl (me_bin (o_mul false) (me_v S 1 rfl) (me_v S 2 rfl)) (by rfl))))
  (mss_cons (ms_for (is := [5]) Bd.own B.calm (mi_range1 (S.at_g 0 rfl) G_range (ma_cons (me_v S 1 rfl) ma_nil)) (mg_v S B 3 rfl) (mss_cons (ms_asg (is := [6, 7]) (me_tup (ma_cons (me_lst true ma_nil) (ma_cons (me_v S 3 rfl) ma_nil))) (mg_t B (mgs_cons (mg_v S B 5 rfl) (mgs_cons (mg_v S B 4 rfl) mgs_nil))))
  (mss_cons (ms_for (is := [4]) Bd.own B.calm (mi_range1 (S.at_g 0 rfl) G_range (ma_cons (me_ix (x_ix B) (me_v S 0 rfl) me_int) ma_nil)) (mg_v S B 2 rfl) (mss_cons (ms_expr (me_meth F.slot_list_append tm_append mmt_append (me_v S 4 rfl) (ma_cons (me_bin mop_mod (me_v S 5 rfl) (me_v S 2 rfl)) ma_nil)))
  (mss_one (ms_setv S B 4 rfl (me_bin mop_div (me_v S 5 rfl) (me_v S 2 rfl)) (by rfl)))))
  (mss_one (ms_setv S B 1 rfl (me_bin (o_add false) (me_v S 6 rfl) (me_Ty S 2 rfl G_int bt_int mfn_int (ma_cons (me_not (me_B S 1 rfl G_any bt_any (mfn_any B.calm) (ma_cons (me_lcS false B (own := [("one", 8), ("two", 9)]) (is := [8, 9]) (vis := [(6, "row"), (8, "one"), (9, "two")]) (loc := [(9, "two"), (8, "one")]) (gls := []) (mi_seq (me_ix (x_ix B) (me_v S 0 rfl) me_int)) (blkOk_by (by kernel_rfl)) (fun _ _ _ _ _ => sc_blk (N := N__law_tried) (sc := defScope (top 33)) rfl rfl (by kernel_rfl)) (fun _ _ _ _ _ S1 B1 => (mg_t B1 (mgs_cons (mg_v S1 B1 1 rfl) (mgs_cons (mg_v S1 B1 0 rfl) mgs_nil)))) (fun _ _ _ _ _ S1 B1 => mts_nil) (fun _ _ _ _ _ S1 B1 => (me_cmp (o_eq B1) (me_ix (x_ix B1) (me_v S1 0 rfl) (me_v S1 1 rfl)) (me_ix (x_ix B1) (me_v S1 0 rfl) (me_v S1 2 rfl)) (nomark _)))) ma_nil))) ma_nil))) (by rfl))))))
  (mss_one (ms_ret (me_v S 6 rfl))))))

def N__law_sum : List Str := ["row", "many", "total", "power", "own"]
def m__law_sum : Ms := (sSeq (sAsg (mTup (aCons (mC (.int 0)) (aCons (mC (.int 1)) aNil))) (gTup 2 (gsCons (gN 2) (gsCons (gN 3) gsNil))))
  (sSeq (sFor (srcM (mVar 0)) (gN 4) (sSeq (sAsg (mB (aAdd false) (mVar 2) (mB (aMul false) (mVar 4) (mVar 3))) (gN 2))
  (sAsg (mB (aMul false) (mVar 3) (mVar 1)) (gN 3))))
  (sRet (mVar 2))))
def F__law_sum : List D → Hh → R D := pure1 <| runF N__law_sum.length m__law_sum

theorem D__law_sum (FF : FnP K mg "_law_sum" (top 34))   : Df T P wo K mg base "_law_sum" 1 ["row", "many"] F__law_sum := by
  refine Df.pure (df_ofS (N := N__law_sum) (vis := [(0, "row"), (2, "total"), (4, "own"), (3, "power"), (1, "many")]) (loc := [(3, "power"), (2, "total"), (4, "own")]) (gls := []) (k := 0) (m := m__law_sum) FF (by kernel_rfl) (by kernel_rfl) (fun _ _ _ _ _ _ us hl => match us, hl with | [_, _], _ => rfl) fun cdv A outer s H E hr Bd B S => ?_) (fun _ _ _ h => runF_nil h) (fun _ _ _ h => runF_nilX h)
  exact (mss_cons (ms_asg (is := [2, 3]) (me_tup (ma_cons me_int (ma_cons me_int ma_nil))) (mg_t B (mgs_cons (mg_v S B 1 rfl) (mgs_cons (mg_v S B 0 rfl) mgs_nil))))
  (mss_cons (ms_for (is := [4]) Bd.own B.calm (mi_seq (me_v S 0 rfl)) (mg_v S B 2 rfl) (mss_cons (ms_setv S B 1 rfl (me_bin (o_add false) (me_v S 1 rfl) (me_bin (o_mul false) (me_v S 2 rfl) (me_v S 3 rfl))) (by rfl))
  (mss_one (ms_setv S B 0 rfl (me_bin (o_mul false) (me_v S 3 rfl) (me_v S 4 rfl)) (by rfl)))))
  (mss_one (ms_ret (me_v S 1 rfl)))))

def N__law_power : List Str := ["number", "often", "found", "k"]
def m__law_power : Ms := (sSeq (sAsg (mC (.int 1)) (gN 2))
  (sSeq (sFor (srcR1 (aCons (mVar 1) aNil)) (gN 3) (sAsg (mB (aMul false) (mVar 2) (mVar 0)) (gN 2)))
  (sRet (mVar 2))))
def F__law_power : List D → Hh → R D := pure1 <| runF N__law_power.length m__law_power

theorem D__law_power (FF : FnP K mg "_law_power" (top 36)) (G_range : mg "range" = none)  : Df T P wo K mg base "_law_power" 1 ["number", "often"] F__law_power := by
  refine Df.pure (df_ofS (N := N__law_power) (vis := [(1, "often"), (2, "found"), (0, "number")]) (loc := [(2, "found"), (3, "k")]) (gls := ["range"]) (k := 0) (m := m__law_power) FF (by kernel_rfl) (by kernel_rfl) (fun _ _ _ _ _ _ us hl => match us, hl with | [_, _], _ => rfl) fun cdv A outer s H E hr Bd B S => ?_) (fun _ _ _ h => runF_nil h) (fun _ _ _ h => runF_nilX h)
  exact (mss_cons (ms_setv S B 0 rfl me_int (by rfl))
  (mss_cons (ms_for (is := [3]) Bd.own B.calm (mi_range1 (S.at_g 0 rfl) G_range (ma_cons (me_v S 0 rfl) ma_nil)) (mg_v S B 1 rfl) (mss_one (ms_setv S B 0 rfl (me_bin (o_mul false) (me_v S 1 rfl) (me_v S 2 rfl)) (by rfl))))
  (mss_one (ms_ret (me_v S 1 rfl)))))

def N_check_dart : List Str := ["graph", "dart"]
def m_check_dart : Ms := (sSeq (sExpr (mCall F_check_graph (aCons (mVar 0) aNil)))
  (sIf (tNotM (tV (mChain iLe iLt (mC (.int 0)) (mVar 1) (mB (aMul false) (mC (.int 2)) (mF fLen (aCons (mB aIx (mVar 0) (mC (.int 1))) aNil)))))) (sRaise .na) sNil))
def F_check_dart : List D → Hh → R D := pure1 <| runF N_check_dart.length m_check_dart

theorem D_check_dart (FF : FnP K mg "check_dart" (top 10)) (G_len : mg "len" = none) (G_ex : ExF K mg) (D_check_graph : Df T P wo K mg base "check_graph" 1 ["graph"] F_check_graph) : Df T P wo K mg base "check_dart" 2 ["graph", "dart"] F_check_dart := by
  refine Df.pure (df_ofS (N := N_check_dart) (vis := [(0, "graph"), (1, "dart")]) (loc := []) (gls := ["check_graph", "len", "NotAllowed"]) (k := 1) (m := m_check_dart) FF (by kernel_rfl) (by kernel_rfl) (fun _ _ _ _ _ _ us hl => match us, hl with | [_, _], _ => rfl) fun cdv A outer s H E hr Bd B S => ?_) (fun _ _ _ h => runF_nil h) (fun _ _ _ h => runF_nilX h)
  exact (mss_cons (ms_expr (me_callD S 0 D_check_graph (k := 1) (by decide) hr Bd.tk rfl (ma_cons (me_v S 0 rfl) ma_nil) (an_cons an_nil)))
  (mss_one (ms_if (mt_not (mt_chain mop_le mop_lt me_int (me_v S 1 rfl) (me_bin (o_mul false) me_int (me_B S 1 rfl G_len bt_len mfn_len (ma_cons (me_ix (x_ix B) (me_v S 0 rfl) me_int) ma_nil))))) (mss_one (ms_raiseE .na Bd G_ex S 2 rfl rfl)) mss_nil)))

def N_check_edges : List Str := ["graph", "edges", "edge"]
def m_check_edges : Ms := (sSeq (sExpr (mCall F_check_graph (aCons (mVar 0) aNil)))
  (sIf (tOrM (tV (mB (gEqD true) (mF (fLst false) (aCons (mVar 1) aNil)) (mSortSet false (mVar 1)))) (tNotM (tV (mF fAll (aCons (mComp false (srcM (mVar 1)) (gN 2) tYesM (mChain iLe iLt (mC (.int 0)) (mVar 2) (mF fLen (aCons (mB aIx (mVar 0) (mC (.int 1))) aNil))) [2]) aNil))))) (sRaise .na) sNil))
def F_check_edges : List D → Hh → R D := pure1 <| runF N_check_edges.length m_check_edges

theorem D_check_edges (FF : FnP K mg "check_edges" (top 11)) (G_all : mg "all" = none) (G_len : mg "len" = none) (G_list : mg "list" = none) (G_set : mg "set" = none) (G_sorted : mg "sorted" = none) (G_ex : ExF K mg) (D_check_graph : Df T P wo K mg base "check_graph" 1 ["graph"] F_check_graph) : Df T P wo K mg base "check_edges" 2 ["graph", "edges"] F_check_edges := by
  refine Df.pure (df_ofS (N := N_check_edges) (vis := [(0, "graph"), (1, "edges")]) (loc := []) (gls := ["check_graph", "all", "list", "sorted", "set", "NotAllowed"]) (k := 1) (m := m_check_edges) FF (by kernel_rfl) (by kernel_rfl) (fun _ _ _ _ _ _ us hl => match us, hl with | [_, _], _ => rfl) fun cdv A outer s H E hr Bd B S => ?_) (fun _ _ _ h => runF_nil h) (fun _ _ _ h => runF_nilX h)
  exact (mss_cons (ms_expr (me_callD S 0 D_check_graph (k := 1) (by decide) hr Bd.tk rfl (ma_cons (me_v S 0 rfl) ma_nil) (an_cons an_nil)))
  (mss_one (ms_if (MW.mt (mw_or (mt_cmp (o_ne B) (me_Ty S 2 rfl G_list bt_list (mfn_lst false) (ma_cons (me_v S 1 rfl) ma_nil)) (me_sortSet B.calm false (S.at_g 3 rfl) G_sorted (S.at_g 4 rfl) G_set (me_v S 1 rfl)) (nomark _)) (mw_or1 (mt_not (mt_val (me_B S 1 rfl G_all bt_all (mfn_all B.calm) (ma_cons (me_lcS false B (own := [("edge", 2)]) (is := [2]) (vis := [(2, "edge"), (0, "graph")]) (loc := [(2, "edge")]) (gls := ["len"]) (mi_seq (me_v S 1 rfl)) (blkOk_by (by kernel_rfl)) (fun _ _ _ _ _ => sc_blk (N := N_check_edges) (sc := defScope (top 11)) rfl rfl (by kernel_rfl)) (fun _ _ _ _ _ S1 B1 => (mg_v S1 B1 0 rfl)) (fun _ _ _ _ _ S1 B1 => mts_nil) (fun _ _ _ _ _ S1 B1 => (me_chain mop_le mop_lt me_int (me_v S1 0 rfl) (me_B S1 0 rfl G_len bt_len mfn_len (ma_cons (me_ix (x_ix B1) (me_v S1 1 rfl) me_int) ma_nil))))) ma_nil))))))) (mss_one (ms_raiseE .na Bd G_ex S 5 rfl rfl)) mss_nil)))

def N_known_parts : List Str := ["graph", "rows", "found", "node", "fresh", "lots", "often", "at", "lot", "goal", "key", "counts"]
def m_known_parts : Ms := (sSeq (sPar 1 2 (aCons (mCall F_known_rows (aCons (mVar 0) (aCons (mDct0 0 false) aNil))) (aCons (mDct1 2 true (mTup aNil) (mC (.int 1))) aNil)))
  (sSeq (sFor (srcR1 (aCons (mB aIx (mVar 0) (mC (.int 0))) aNil)) (gN 3) (sSeq (sAsg (mDct0 2 true) (gN 4))
  (sSeq (sFor (srcN (mVar 2)) (gTup 2 (gsCons (gN 5) (gsCons (gN 6) gsNil))) (sSeq (sFor (srcEn (aCons (mVar 5) aNil)) (gTup 2 (gsCons (gN 7) (gsCons (gN 8) gsNil))) (sIf (tNotM (tV (mF fAny (aCons (mComp false (srcM (mB aIx (mVar 1) (mVar 3))) (gN 9) tYesM (mB (aIn false) (mVar 9) (mVar 8)) [9]) aNil)))) (sSeq (sAsg (mTup (aStar (mCut false (mVar 5) pNo (pYes (mVar 7))) (aCons (mTup (aStar (mVar 8) (aCons (mVar 3) aNil))) (aStar (mCut false (mVar 5) (pYes (mB (aAdd false) (mVar 7) (mC (.int 1)))) pNo) aNil)))) (gN 10))
  (sAsg (mB (aAdd false) (mMeth tyD gGetM (mVar 4) (aCons (mVar 10) (aCons (mC (.int 0)) aNil))) (mVar 6)) (gSubM (mVar 4) (mVar 10) aSet))) sNil))
  (sSeq (sAsg (mTup (aStar (mVar 5) (aCons (mTup (aCons (mVar 3) aNil)) aNil))) (gN 10))
  (sAsg (mB (aAdd false) (mMeth tyD gGetM (mVar 4) (aCons (mVar 10) (aCons (mC (.int 0)) aNil))) (mVar 6)) (gSubM (mVar 4) (mVar 10) aSet)))))
  (sAsg (mVar 4) (gN 2)))))
  (sSeq (sAsg (mB (aMul true) (mLst false (aCons (mC (.int 0)) aNil)) (mB (aAdd false) (mB aIx (mVar 0) (mC (.int 0))) (mC (.int 1)))) (gN 11))
  (sSeq (sFor (srcN (mVar 2)) (gTup 2 (gsCons (gN 5) (gsCons (gN 6) gsNil))) (sAugS (mVar 11) (mF fLen (aCons (mVar 5) aNil)) (mVar 6) aIx iAdd aSet))
  (sRet (mVar 11))))))
def F_known_parts : List D → Hh → R D := pure1 <| runF N_known_parts.length m_known_parts

theorem D_known_parts (FF : FnP K mg "known_parts" (top 20)) (G_any : mg "any" = none) (G_enumerate : mg "enumerate" = none) (G_len : mg "len" = none) (G_range : mg "range" = none) (D_known_rows : Df T P wo K mg base "known_rows" 1 ["graph", "gone"] F_known_rows) : Df T P wo K mg base "known_parts" 2 ["graph"] F_known_parts := by
  refine Df.pure (df_ofS (N := N_known_parts) (vis := [(0, "graph"), (2, "found"), (5, "lots"), (1, "rows"), (3, "node"), (7, "at"), (8, "lot"), (4, "fresh"), (10, "key"), (6, "often"), (11, "counts")]) (loc := [(1, "rows"), (2, "found"), (3, "node"), (4, "fresh"), (6, "often"), (5, "lots"), (8, "lot"), (7, "at"), (10, "key"), (11, "counts")]) (gls := ["known_rows", "range", "enumerate", "any", "len"]) (k := 1) (m := m_known_parts) FF (by kernel_rfl) (by kernel_rfl) (fun _ _ _ _ _ _ us hl => match us, hl with | [_], _ => rfl) fun cdv A outer s H E hr Bd B S => ?_) (fun _ _ _ h => runF_nil h) (fun _ _ _ h => runF_nilX h)
  exact (mss_cons (ms_par B.calm B.nd (S.at_l 0 rfl).1 (S.at_l 1 rfl).1 (by decide) (by kernel_rfl) (by kernel_rfl) (ma_cons (me_callD S 0 D_known_rows (k := 1) (by decide) hr Bd.tk rfl (ma_cons (me_v S 0 rfl) (ma_cons (me_dct0 0 false) ma_nil)) (an_cons (an_cons an_nil))) (ma_cons (me_dct1N B.un (me_tup ma_nil) me_int) ma_nil)) (by rfl))
  (mss_cons (ms_for (is := [3]) Bd.own B.calm (mi_range1 (S.at_g 1 rfl) G_range (ma_cons (me_ix (x_ix B) (me_v S 0 rfl) me_int) ma_nil)) (mg_v S B 2 rfl) (mss_cons (ms_setv S B 3 rfl (me_dct0 2 true) (by rfl))
  (mss_cons (ms_for (is := [5, 6]) Bd.own B.calm (mi_itemsN (me_v S 1 rfl)) (mg_t B (mgs_cons (mg_v S B 5 rfl) (mgs_cons (mg_v S B 4 rfl) mgs_nil))) (mss_cons (ms_for (is := [7, 8]) Bd.own B.calm (mi_enum (S.at_g 2 rfl) G_enumerate (ma_cons (me_v S 2 rfl) ma_nil)) (mg_t B (mgs_cons (mg_v S B 7 rfl) (mgs_cons (mg_v S B 6 rfl) mgs_nil))) (mss_one (ms_if (mt_not (mt_val (me_B S 3 rfl G_any bt_any (mfn_any B.calm) (ma_cons (me_lcS false B (own := [("goal", 9)]) (is := [9]) (vis := [(9, "goal"), (8, "lot")]) (loc := [(9, "goal")]) (gls := []) (mi_seq (me_ix (x_ix B) (me_v S 3 rfl) (me_v S 4 rfl))) (blkOk_by (by kernel_rfl)) (fun _ _ _ _ _ => sc_blk (N := N_known_parts) (sc := defScope (top 20)) rfl rfl (by kernel_rfl)) (fun _ _ _ _ _ S1 B1 => (mg_v S1 B1 0 rfl)) (fun _ _ _ _ _ S1 B1 => mts_nil) (fun _ _ _ _ _ S1 B1 => (me_cmp (o_in B1) (me_v S1 0 rfl) (me_v S1 1 rfl) rfl))) ma_nil)))) (mss_cons (ms_setv S B 8 rfl (me_tup (ma_star (me_cut false (me_v S 2 rfl) mp_no (mp_yes (me_v S 5 rfl))) (ma_cons (me_tup (ma_star (me_v S 6 rfl) (ma_cons (me_v S 4 rfl) ma_nil))) (ma_star (me_cut false (me_v S 2 rfl) (mp_yes (me_bin (o_add false) (me_v S 5 rfl) me_int)) mp_no) ma_nil)))) (by rfl))
  (mss_one (ms_asg (is := []) (me_bin (o_add false) (me_methD F.slot_dict_get tm_get (mmt_get B.un) (me_v S 7 rfl) (ma_cons (me_v S 8 rfl) (ma_cons me_int ma_nil))) (me_v S 9 rfl)) (mg_sub (W := (fun cls d _ H => E cls d H)) (me_v S 7 rfl) (me_v S 8 rfl) (s_set B))))) mss_nil)))
  (mss_cons (ms_setv S B 8 rfl (me_tup (ma_star (me_v S 2 rfl) (ma_cons (me_tup (ma_cons (me_v S 4 rfl) ma_nil)) ma_nil))) (by rfl))
  (mss_one (ms_asg (is := []) (me_bin (o_add false) (me_methD F.slot_dict_get tm_get (mmt_get B.un) (me_v S 7 rfl) (ma_cons (me_v S 8 rfl) (ma_cons me_int ma_nil))) (me_v S 9 rfl)) (mg_sub (W := (fun cls d _ H => E cls d H)) (me_v S 7 rfl) (me_v S 8 rfl) (s_set B)))))))
  (mss_one (ms_setv S B 1 rfl (me_v S 7 rfl) (by rfl))))))
  (mss_cons (ms_setv S B 9 rfl (me_bin (o_mul true) (me_lst false (ma_cons me_int ma_nil)) (me_bin (o_add false) (me_ix (x_ix B) (me_v S 0 rfl) me_int) me_int)) (by rfl))
  (mss_cons (ms_for (is := [5, 6]) Bd.own B.calm (mi_itemsN (me_v S 1 rfl)) (mg_t B (mgs_cons (mg_v S B 5 rfl) (mgs_cons (mg_v S B 4 rfl) mgs_nil))) (mss_one (ms_augS (me_v S 10 rfl) (me_B S 4 rfl G_len bt_len mfn_len (ma_cons (me_v S 2 rfl) ma_nil)) (g_ix B) (me_v S 9 rfl) mop_inAdd (s_set B))))
  (mss_one (ms_ret (me_v S 10 rfl)))))))

def N_check_counted : List Str := ["graph"]
def m_check_counted : Ms := (sSeq (sExpr (mCall F_check_graph (aCons (mVar 0) aNil)))
  (sIf (tV (mB iGt (mB aIx (mVar 0) (mC (.int 0))) (mC (.int 9)))) (sRaise .tl) sNil))
def F_check_counted : List D → Hh → R D := pure1 <| runF N_check_counted.length m_check_counted

theorem D_check_counted (FF : FnP K mg "check_counted" (top 21)) (G_MAX_COUNTED : ∃ t, mg "MAX_COUNTED" = some (.int 9 t)) (G_ex : ExF K mg) (D_check_graph : Df T P wo K mg base "check_graph" 1 ["graph"] F_check_graph) : Df T P wo K mg base "check_counted" 2 ["graph"] F_check_counted := by
  refine Df.pure (df_ofS (N := N_check_counted) (vis := [(0, "graph")]) (loc := []) (gls := ["check_graph", "MAX_COUNTED", "TooLarge"]) (k := 1) (m := m_check_counted) FF (by kernel_rfl) (by kernel_rfl) (fun _ _ _ _ _ _ us hl => match us, hl with | [_], _ => rfl) fun cdv A outer s H E hr Bd B S => ?_) (fun _ _ _ h => runF_nil h) (fun _ _ _ h => runF_nilX h)
  exact (mss_cons (ms_expr (me_callD S 0 D_check_graph (k := 1) (by decide) hr Bd.tk rfl (ma_cons (me_v S 0 rfl) ma_nil) (an_cons an_nil)))
  (mss_one (ms_if (mt_cmp mop_gt (me_ix (x_ix B) (me_v S 0 rfl) me_int) (me_G S 1 rfl G_MAX_COUNTED) (nomark _)) (mss_one (ms_raiseE .tl Bd G_ex S 2 rfl rfl)) mss_nil)))

def N__law_graph : List Str := ["state", "most", "many", "nodes", "edges", "k"]
def m__law_graph : Ms := (sSeq (sAsg (mB (aAdd false) (mC (.int 1)) (mCall F__law_next (aCons (mVar 0) (aCons (mVar 1) aNil)))) (gN 3))
  (sSeq (sAsg (mLst true aNil) (gN 4))
  (sSeq (sFor (srcR1 (aCons (mCall F__law_next (aCons (mVar 0) (aCons (mB (aAdd false) (mVar 2) (mC (.int 1))) aNil))) aNil)) (gN 5) (sExpr (mMeth tyL gAppend (mVar 4) (aCons (mTup (aCons (mCall F__law_next (aCons (mVar 0) (aCons (mVar 3) aNil))) (aCons (mCall F__law_next (aCons (mVar 0) (aCons (mVar 3) aNil))) aNil))) aNil))))
  (sSeq (sIf (tV (mB iGt (mCall F__law_next (aCons (mVar 0) (aCons (mC (.int 3)) aNil))) (mC (.int 0)))) (sAsg (mB (aAdd true) (mCut false (mVar 4) pNo (pYes (mF fMax2 (aCons (mC (.int 0)) (aCons (mB (aAdd false) (mB iSub (mVar 2) (mVar 3)) (mC (.int 1))) aNil))))) (mComp false (srcR2 (aCons (mC (.int 1)) (aCons (mVar 3) aNil))) (gN 5) tYesM (mTup (aCons (mCall F__law_next (aCons (mVar 0) (aCons (mVar 5) aNil))) (aCons (mVar 5) aNil))) [5])) (gN 4)) sNil)
  (sRet (mTup (aCons (mVar 3) (aCons (mF fTup (aCons (mVar 4) aNil)) aNil))))))))
def F__law_graph : List D → Hh → R D := runF N__law_graph.length m__law_graph

theorem D__law_graph (FF : FnP K mg "_law_graph" (top 30)) (G_max : mg "max" = none) (G_range : mg "range" = none) (G_tuple : mg "tuple" = none) (D__law_next : Df T P wo K mg base "_law_next" 1 ["state", "many"] F__law_next) : Df T P wo K mg base "_law_graph" 2 ["state", "most", "many"] F__law_graph := by
  refine df_ofS (N := N__law_graph) (vis := [(1, "most"), (0, "state"), (2, "many"), (4, "edges"), (3, "nodes")]) (loc := [(3, "nodes"), (4, "edges"), (5, "k")]) (gls := ["_law_next", "range", "max", "tuple"]) (k := 1) (m := m__law_graph) FF (by kernel_rfl) (by kernel_rfl) (fun _ _ _ _ _ _ us hl => match us, hl with | [_, _, _], _ => rfl) fun cdv A outer s H E hr Bd B S => ?_
  exact (mss_cons (ms_setv S B 0 rfl (me_bin (o_add false) me_int (me_callD S 0 D__law_next (k := 1) (by decide) hr Bd.tk rfl (ma_cons (me_v S 1 rfl) (ma_cons (me_v S 0 rfl) ma_nil)) (an_cons (an_cons an_nil)))) (by rfl))
  (mss_cons (ms_setv S B 1 rfl (me_lst true ma_nil) (by rfl))
  (mss_cons (ms_for (is := [5]) Bd.own B.calm (mi_range1 (S.at_g 1 rfl) G_range (ma_cons (me_callD S 0 D__law_next (k := 1) (by decide) hr Bd.tk rfl (ma_cons (me_v S 1 rfl) (ma_cons (me_bin (o_add false) (me_v S 2 rfl) me_int) ma_nil)) (an_cons (an_cons an_nil))) ma_nil)) (mg_v S B 2 rfl) (mss_one (ms_expr (me_meth F.slot_list_append tm_append mmt_append (me_v S 3 rfl) (ma_cons (me_tup (ma_cons (me_callD S 0 D__law_next (k := 1) (by decide) hr Bd.tk rfl (ma_cons (me_v S 1 rfl) (ma_cons (me_v S 4 rfl) ma_nil)) (an_cons (an_cons an_nil))) (ma_cons (me_callD S 0 D__law_next (k := 1) (by decide) hr Bd.tk rfl (ma_cons (me_v S 1 rfl) (ma_cons (me_v S 4 rfl) ma_nil)) (an_cons (an_cons an_nil))) ma_nil))) ma_nil)))))
  (mss_cons (ms_if (mt_cmp mop_gt (me_callD S 0 D__law_next (k := 1) (by decide) hr Bd.tk rfl (ma_cons (me_v S 1 rfl) (ma_cons me_int ma_nil)) (an_cons (an_cons an_nil))) me_int (nomark _)) (mss_one (ms_setv S B 1 rfl (me_bin (o_add true) (me_cut false (me_v S 3 rfl) mp_no (mp_yes (me_B S 2 rfl G_max bt_max (mfn_max2 B.calm) (ma_cons me_int (ma_cons (me_bin (o_add false) (me_bin mop_sub (me_v S 2 rfl) (me_v S 4 rfl)) me_int) ma_nil))))) (me_lcS false B (own := [("k", 5)]) (is := [5]) (vis := [(5, "k"), (0, "state")]) (loc := [(5, "k")]) (gls := ["_law_next"]) (mi_range2 (S.at_g 1 rfl) G_range (ma_cons me_int (ma_cons (me_v S 4 rfl) ma_nil))) (blkOk_by (by kernel_rfl)) (fun _ _ _ _ _ => sc_blk (N := N__law_graph) (sc := defScope (top 30)) rfl rfl (by kernel_rfl)) (fun _ _ _ _ _ S1 B1 => (mg_v S1 B1 0 rfl)) (fun _ _ _ _ _ S1 B1 => mts_nil) (fun _ _ _ _ _ S1 B1 => (me_tup (ma_cons (me_callD S1 0 D__law_next (k := 1) (by decide) hr takes_blk rfl (ma_cons (me_v S1 1 rfl) (ma_cons (me_v S1 0 rfl) ma_nil)) (an_cons (an_cons an_nil))) (ma_cons (me_v S1 0 rfl) ma_nil)))))) (by rfl))) mss_nil)
  (mss_one (ms_ret (me_tup (ma_cons (me_v S 4 rfl) (ma_cons (me_Ty S 3 rfl G_tuple bt_tuple mfn_tup (ma_cons (me_v S 3 rfl) ma_nil)) ma_nil)))))))))

def N__law_weights : List Str := ["state", "graph", "edge"]
def m__law_weights : Ms := (sRet (mF fTup (aCons (mComp false (srcM (mB aIx (mVar 1) (mC (.int 1)))) (gN 2) tYesM (mB aIx (mLst false (aCons (mC (.int 0)) (aCons (mC (.int 1)) (aCons (mC (.int 2)) (aCons (mCall F__law_next (aCons (mVar 0) (aCons (mC (.int 9)) aNil))) (aCons (mC (.int 1000000)) aNil)))))) (mCall F__law_next (aCons (mVar 0) (aCons (mC (.int 5)) aNil)))) [2]) aNil)))
def F__law_weights : List D → Hh → R D := runF N__law_weights.length m__law_weights

theorem D__law_weights (FF : FnP K mg "_law_weights" (top 31)) (G_tuple : mg "tuple" = none) (D__law_next : Df T P wo K mg base "_law_next" 1 ["state", "many"] F__law_next) : Df T P wo K mg base "_law_weights" 2 ["state", "graph"] F__law_weights := by
  refine df_ofS (N := N__law_weights) (vis := [(1, "graph")]) (loc := []) (gls := ["tuple"]) (k := 1) (m := m__law_weights) FF (by kernel_rfl) (by kernel_rfl) (fun _ _ _ _ _ _ us hl => match us, hl with | [_, _], _ => rfl) fun cdv A outer s H E hr Bd B S => ?_
  exact (mss_one (ms_ret (me_Ty S 0 rfl G_tuple bt_tuple mfn_tup (ma_cons (me_lcS false B (own := [("edge", 2)]) (is := [2]) (vis := [(0, "state")]) (loc := [(2, "edge")]) (gls := ["_law_next"]) (mi_seq (me_ix (x_ix B) (me_v S 0 rfl) me_int)) (blkOk_by (by kernel_rfl)) (fun _ _ _ _ _ => sc_blk (N := N__law_weights) (sc := defScope (top 31)) rfl rfl (by kernel_rfl)) (fun _ _ _ _ _ S1 B1 => (mg_v S1 B1 0 rfl)) (fun _ _ _ _ _ S1 B1 => mts_nil) (fun _ _ _ _ _ S1 B1 => (me_ix (x_ix B1) (me_lst false (ma_cons me_int (ma_cons me_int (ma_cons me_int (ma_cons (me_callD S1 0 D__law_next (k := 1) (by decide) hr takes_blk rfl (ma_cons (me_v S1 0 rfl) (ma_cons me_int ma_nil)) (an_cons (an_cons an_nil))) (ma_cons me_int ma_nil)))))) (me_callD S1 0 D__law_next (k := 1) (by decide) hr takes_blk rfl (ma_cons (me_v S1 0 rfl) (ma_cons me_int ma_nil)) (an_cons (an_cons an_nil)))))) ma_nil))))

def N__law_dense : List Str := ["state", "most", "nodes", "k", "edges", "order", "one", "two"]
def m__law_dense : Ms := (sSeq (sAsg (mB (aAdd false) (mC (.int 2)) (mCall F__law_next (aCons (mVar 0) (aCons (mB iSub (mVar 1) (mC (.int 1))) aNil)))) (gN 2))
  (sSeq (sAsg (mComp true (srcR1 (aCons (mB (aMul false) (mVar 2) (mVar 2)) aNil)) (gN 3) (tAndM (tV (mB iLt (mB iDiv (mVar 3) (mVar 2)) (mB iMod (mVar 3) (mVar 2)))) (tV (mB iGt (mCall F__law_next (aCons (mVar 0) (aCons (mC (.int 4)) aNil))) (mC (.int 0))))) (mTup (aCons (mB iDiv (mVar 3) (mVar 2)) (aCons (mB iMod (mVar 3) (mVar 2)) aNil))) [3]) (gN 4))
  (sSeq (sFor (srcR1 (aCons (mCall F__law_next (aCons (mVar 0) (aCons (mC (.int 2)) aNil))) aNil)) (gN 3) (sExpr (mMeth tyL gAppend (mVar 4) (aCons (mTup (aCons (mCall F__law_next (aCons (mVar 0) (aCons (mVar 2) aNil))) (aCons (mCall F__law_next (aCons (mVar 0) (aCons (mVar 2) aNil))) aNil))) aNil))))
  (sSeq (sAsg (mLst true aNil) (gN 5))
  (sSeq (sWhile (tV (mB (gEqD true) (mVar 4) (mLst false aNil))) (sSeq (sAsg (mMeth tyL gPopL (mVar 4) (aCons (mCall F__law_next (aCons (mVar 0) (aCons (mF fLen (aCons (mVar 4) aNil)) aNil))) aNil)) (gTup 2 (gsCons (gN 6) (gsCons (gN 7) gsNil))))
  (sExpr (mMeth tyL gAppend (mVar 5) (aCons (mB aIx (mLst false (aCons (mTup (aCons (mVar 6) (aCons (mVar 7) aNil))) (aCons (mTup (aCons (mVar 7) (aCons (mVar 6) aNil))) aNil))) (mCall F__law_next (aCons (mVar 0) (aCons (mC (.int 2)) aNil)))) aNil)))) 100000)
  (sRet (mTup (aCons (mVar 2) (aCons (mF fTup (aCons (mVar 5) aNil)) aNil)))))))))
def F__law_dense : List D → Hh → R D := runF N__law_dense.length m__law_dense

theorem D__law_dense (FF : FnP K mg "_law_dense" (top 32)) (G_len : mg "len" = none) (G_range : mg "range" = none) (G_tuple : mg "tuple" = none) (D__law_next : Df T P wo K mg base "_law_next" 1 ["state", "many"] F__law_next) : Df T P wo K mg base "_law_dense" 2 ["state", "most"] F__law_dense := by
  refine df_ofS (N := N__law_dense) (vis := [(1, "most"), (0, "state"), (2, "nodes"), (4, "edges"), (5, "order"), (6, "one"), (7, "two")]) (loc := [(2, "nodes"), (4, "edges"), (3, "k"), (5, "order"), (7, "two"), (6, "one")]) (gls := ["_law_next", "range", "len", "tuple"]) (k := 1) (m := m__law_dense) FF (by kernel_rfl) (by kernel_rfl) (fun _ _ _ _ _ _ us hl => match us, hl with | [_, _], _ => rfl) fun cdv A outer s H E hr Bd B S => ?_
  exact (mss_cons (ms_setv S B 0 rfl (me_bin (o_add false) me_int (me_callD S 0 D__law_next (k := 1) (by decide) hr Bd.tk rfl (ma_cons (me_v S 1 rfl) (ma_cons (me_bin mop_sub (me_v S 0 rfl) me_int) ma_nil)) (an_cons (an_cons an_nil)))) (by rfl))
  (mss_cons (ms_setLcS (S1 := S) (j := 1) (hj := rfl) (hyl := by kernel_rfl) (hsw := sw_true rfl (by kernel_rfl) rfl (by kernel_rfl)) (mt := true) (B := B) (own := [("k", 3)]) (is := [3]) (vis := [(0, "state"), (3, "k"), (2, "nodes")]) (loc := [(3, "k")]) (gls := ["_law_next"]) (mi_range1 (S.at_g 1 rfl) G_range (ma_cons (me_bin (o_mul false) (me_v S 2 rfl) (me_v S 2 rfl)) ma_nil)) (blkOk_by (by kernel_rfl)) (fun _ _ _ _ _ => sc_blk (N := N__law_dense) (sc := defScope (top 32)) rfl rfl (by kernel_rfl)) (fun _ _ _ _ _ S1 B1 => (mg_v S1 B1 0 rfl)) (fun _ _ _ _ _ S1 B1 => (mts_one (MW.mt (mw_and (mt_cmp mop_lt (me_bin mop_div (me_v S1 1 rfl) (me_v S1 2 rfl)) (me_bin mop_mod (me_v S1 1 rfl) (me_v S1 2 rfl)) (nomark _)) (mw_and1 (mt_cmp mop_gt (me_callD S1 0 D__law_next (k := 1) (by decide) hr takes_blk rfl (ma_cons (me_v S1 0 rfl) (ma_cons me_int ma_nil)) (an_cons (an_cons an_nil))) me_int (nomark _))))))) (fun _ _ _ _ _ S1 B1 => (me_tup (ma_cons (me_bin mop_div (me_v S1 1 rfl) (me_v S1 2 rfl)) (ma_cons (me_bin mop_mod (me_v S1 1 rfl) (me_v S1 2 rfl)) ma_nil)))))
  (mss_cons (ms_for (is := [3]) Bd.own B.calm (mi_range1 (S.at_g 1 rfl) G_range (ma_cons (me_callD S 0 D__law_next (k := 1) (by decide) hr Bd.tk rfl (ma_cons (me_v S 1 rfl) (ma_cons me_int ma_nil)) (an_cons (an_cons an_nil))) ma_nil)) (mg_v S B 2 rfl) (mss_one (ms_expr (me_meth F.slot_list_append tm_append mmt_append (me_v S 3 rfl) (ma_cons (me_tup (ma_cons (me_callD S 0 D__law_next (k := 1) (by decide) hr Bd.tk rfl (ma_cons (me_v S 1 rfl) (ma_cons (me_v S 2 rfl) ma_nil)) (an_cons (an_cons an_nil))) (ma_cons (me_callD S 0 D__law_next (k := 1) (by decide) hr Bd.tk rfl (ma_cons (me_v S 1 rfl) (ma_cons (me_v S 2 rfl) ma_nil)) (an_cons (an_cons an_nil))) ma_nil))) ma_nil)))))
  (mss_cons (ms_setv S B 3 rfl (me_lst true ma_nil) (by rfl))
  (mss_cons (ms_while 100000 Bd.own (mt_cmp (o_ne B) (me_v S 3 rfl) (me_lst false ma_nil) (nomark _)) (mss_cons (ms_asg (is := [6, 7]) (me_meth F.slot_list_pop tm_pop mmt_pop (me_v S 3 rfl) (ma_cons (me_callD S 0 D__law_next (k := 1) (by decide) hr Bd.tk rfl (ma_cons (me_v S 1 rfl) (ma_cons (me_B S 2 rfl G_len bt_len mfn_len (ma_cons (me_v S 3 rfl) ma_nil)) ma_nil)) (an_cons (an_cons an_nil))) ma_nil)) (mg_t B (mgs_cons (mg_v S B 5 rfl) (mgs_cons (mg_v S B 4 rfl) mgs_nil))))
  (mss_one (ms_expr (me_meth F.slot_list_append tm_append mmt_append (me_v S 4 rfl) (ma_cons (me_ix (x_ix B) (me_lst false (ma_cons (me_tup (ma_cons (me_v S 5 rfl) (ma_cons (me_v S 6 rfl) ma_nil))) (ma_cons (me_tup (ma_cons (me_v S 6 rfl) (ma_cons (me_v S 5 rfl) ma_nil))) ma_nil))) (me_callD S 0 D__law_next (k := 1) (by decide) hr Bd.tk rfl (ma_cons (me_v S 1 rfl) (ma_cons me_int ma_nil)) (an_cons (an_cons an_nil)))) ma_nil))))))
  (mss_one (ms_ret (me_tup (ma_cons (me_v S 2 rfl) (ma_cons (me_Ty S 3 rfl G_tuple bt_tuple mfn_tup (ma_cons (me_v S 4 rfl) ma_nil)) ma_nil))))))))))

def N_left_out : List Str := ["graph", "edges", "edge"]
def m_left_out : Ms := (sSeq (sExpr (mCall F_check_edges (aCons (mVar 0) (aCons (mVar 1) aNil))))
  (sRet (mCall F_known_kept (aCons (mVar 0) (aCons (mComp false (srcR1 (aCons (mF fLen (aCons (mB aIx (mVar 0) (mC (.int 1))) aNil)) aNil)) (gN 2) (tV (mB (aIn true) (mVar 2) (mVar 1))) (mVar 2) [2]) aNil)))))
def F_left_out : List D → Hh → R D := pure1 <| runF N_left_out.length m_left_out

theorem D_left_out (FF : FnP K mg "left_out" (top 13)) (G_len : mg "len" = none) (G_range : mg "range" = none) (D_check_edges : Df T P wo K mg base "check_edges" 2 ["graph", "edges"] F_check_edges) (D_known_kept : Df T P wo K mg base "known_kept" 1 ["graph", "edges"] F_known_kept) : Df T P wo K mg base "left_out" 3 ["graph", "edges"] F_left_out := by
  refine Df.pure (df_ofS (N := N_left_out) (vis := [(1, "edges"), (0, "graph")]) (loc := []) (gls := ["check_edges", "len", "range", "known_kept"]) (k := 2) (m := m_left_out) FF (by kernel_rfl) (by kernel_rfl) (fun _ _ _ _ _ _ us hl => match us, hl with | [_, _], _ => rfl) fun cdv A outer s H E hr Bd B S => ?_) (fun _ _ _ h => runF_nil h) (fun _ _ _ h => runF_nilX h)
  exact (mss_cons (ms_expr (me_callD S 0 D_check_edges (k := 2) (by decide) hr Bd.tk rfl (ma_cons (me_v S 1 rfl) (ma_cons (me_v S 0 rfl) ma_nil)) (an_cons (an_cons an_nil))))
  (mss_one (ms_ret (me_callD S 3 D_known_kept (k := 1) (by decide) hr Bd.tk rfl (ma_cons (me_v S 1 rfl) (ma_cons (me_lcS false B (own := [("edge", 2)]) (is := [2]) (vis := [(2, "edge"), (1, "edges")]) (loc := [(2, "edge")]) (gls := []) (mi_range1 (S.at_g 2 rfl) G_range (ma_cons (me_B S 1 rfl G_len bt_len mfn_len (ma_cons (me_ix (x_ix B) (me_v S 1 rfl) me_int) ma_nil)) ma_nil)) (blkOk_by (by kernel_rfl)) (fun _ _ _ _ _ => sc_blk (N := N_left_out) (sc := defScope (top 13)) rfl rfl (by kernel_rfl)) (fun _ _ _ _ _ S1 B1 => (mg_v S1 B1 0 rfl)) (fun _ _ _ _ _ S1 B1 => (mts_one (mt_cmp (o_notin B1) (me_v S1 0 rfl) (me_v S1 1 rfl) rfl))) (fun _ _ _ _ _ S1 B1 => (me_v S1 0 rfl))) ma_nil)) (an_cons (an_cons an_nil))))))

def N_contracted : List Str := ["graph", "edge", "low", "high", "node", "names", "at", "one", "two", "rows"]
def m_contracted : Ms := (sSeq (sExpr (mCall F_check_dart (aCons (mVar 0) (aCons (mB (aMul false) (mC (.int 2)) (mVar 1)) aNil))))
  (sSeq (sAsg (mTup (aCons (mF fMin (aCons (mB aIx (mB aIx (mVar 0) (mC (.int 1))) (mVar 1)) aNil)) (aCons (mF fMax (aCons (mB aIx (mB aIx (mVar 0) (mC (.int 1))) (mVar 1)) aNil)) aNil))) (gTup 2 (gsCons (gN 2) (gsCons (gN 3) gsNil))))
  (sSeq (sIf (tV (mB (gEqD false) (mVar 2) (mVar 3))) (sRaise .na) sNil)
  (sSeq (sAsg (mComp false (srcR1 (aCons (mB aIx (mVar 0) (mC (.int 0))) aNil)) (gN 4) tYesM (mIf (tV (mB (gEqD false) (mVar 4) (mVar 3))) (mVar 2) (mB iSub (mVar 4) (mF fInt (aCons (mB iGt (mVar 4) (mVar 3)) aNil)))) [4]) (gN 5))
  (sSeq (sAsg (mComp false (srcEn (aCons (mB aIx (mVar 0) (mC (.int 1))) aNil)) (gTup 2 (gsCons (gN 6) (gsCons (gTup 2 (gsCons (gN 7) (gsCons (gN 8) gsNil))) gsNil))) (tV (mB (gEqD true) (mVar 6) (mVar 1))) (mTup (aCons (mB aIx (mVar 5) (mVar 7)) (aCons (mB aIx (mVar 5) (mVar 8)) aNil))) [6, 7, 8]) (gN 9))
  (sRet (mTup (aCons (mB iSub (mB aIx (mVar 0) (mC (.int 0))) (mC (.int 1))) (aCons (mF fTup (aCons (mVar 9) aNil)) aNil)))))))))
def F_contracted : List D → Hh → R D := pure1 <| runF N_contracted.length m_contracted

theorem D_contracted (FF : FnP K mg "contracted" (top 14)) (G_enumerate : mg "enumerate" = none) (G_int : mg "int" = none) (G_max : mg "max" = none) (G_min : mg "min" = none) (G_range : mg "range" = none) (G_tuple : mg "tuple" = none) (G_ex : ExF K mg) (D_check_dart : Df T P wo K mg base "check_dart" 2 ["graph", "dart"] F_check_dart) : Df T P wo K mg base "contracted" 3 ["graph", "edge"] F_contracted := by
  refine Df.pure (df_ofS (N := N_contracted) (vis := [(1, "edge"), (0, "graph"), (2, "low"), (3, "high"), (9, "rows")]) (loc := [(3, "high"), (2, "low"), (5, "names"), (9, "rows")]) (gls := ["check_dart", "min", "max", "NotAllowed", "range", "enumerate", "tuple"]) (k := 2) (m := m_contracted) FF (by kernel_rfl) (by kernel_rfl) (fun _ _ _ _ _ _ us hl => match us, hl with | [_, _], _ => rfl) fun cdv A outer s H E hr Bd B S => ?_) (fun _ _ _ h => runF_nil h) (fun _ _ _ h => runF_nilX h)
  exact (mss_cons (ms_expr (me_callD S 0 D_check_dart (k := 2) (by decide) hr Bd.tk rfl (ma_cons (me_v S 1 rfl) (ma_cons (me_bin (o_mul false) me_int (me_v S 0 rfl)) ma_nil)) (an_cons (an_cons an_nil))))
  (mss_cons (ms_asg (is := [2, 3]) (me_tup (ma_cons (me_B S 1 rfl G_min bt_min (mfn_min B.calm) (ma_cons (me_ix (x_ix B) (me_ix (x_ix B) (me_v S 1 rfl) me_int) (me_v S 0 rfl)) ma_nil)) (ma_cons (me_B S 2 rfl G_max bt_max (mfn_max B.calm) (ma_cons (me_ix (x_ix B) (me_ix (x_ix B) (me_v S 1 rfl) me_int) (me_v S 0 rfl)) ma_nil)) ma_nil))) (mg_t B (mgs_cons (mg_v S B 1 rfl) (mgs_cons (mg_v S B 0 rfl) mgs_nil))))
  (mss_cons (ms_if (mt_cmp (o_eq B) (me_v S 2 rfl) (me_v S 3 rfl) (nomark _)) (mss_one (ms_raiseE .na Bd G_ex S 3 rfl rfl)) mss_nil)
  (mss_cons (ms_setv S B 2 rfl (me_lcS false B (own := [("node", 4)]) (is := [4]) (vis := [(4, "node"), (3, "high"), (2, "low")]) (loc := [(4, "node")]) (gls := ["int"]) (mi_range1 (S.at_g 4 rfl) G_range (ma_cons (me_ix (x_ix B) (me_v S 1 rfl) me_int) ma_nil)) (blkOk_by (by kernel_rfl)) (fun _ _ _ _ _ => sc_blk (N := N_contracted) (sc := defScope (top 14)) rfl rfl (by kernel_rfl)) (fun _ _ _ _ _ S1 B1 => (mg_v S1 B1 0 rfl)) (fun _ _ _ _ _ S1 B1 => mts_nil) (fun _ _ _ _ _ S1 B1 => (me_if (mt_cmp (o_eq B1) (me_v S1 0 rfl) (me_v S1 1 rfl) (nomark _)) (me_v S1 2 rfl) (me_bin mop_sub (me_v S1 0 rfl) (me_Ty S1 0 rfl G_int bt_int mfn_int (ma_cons (me_cmp mop_gt (me_v S1 0 rfl) (me_v S1 1 rfl) (nomark _)) ma_nil)))))) (by rfl))
  (mss_cons (ms_setLcS (S1 := S) (j := 3) (hj := rfl) (hyl := by kernel_rfl) (hsw := sw_true rfl (by kernel_rfl) rfl (by kernel_rfl)) (mt := false) (B := B) (own := [("at", 6), ("one", 7), ("two", 8)]) (is := [6, 7, 8]) (vis := [(6, "at"), (1, "edge"), (5, "names"), (8, "two"), (7, "one")]) (loc := [(8, "two"), (7, "one"), (6, "at")]) (gls := []) (mi_enum (S.at_g 5 rfl) G_enumerate (ma_cons (me_ix (x_ix B) (me_v S 1 rfl) me_int) ma_nil)) (blkOk_by (by kernel_rfl)) (fun _ _ _ _ _ => sc_blk (N := N_contracted) (sc := defScope (top 14)) rfl rfl (by kernel_rfl)) (fun _ _ _ _ _ S1 B1 => (mg_t B1 (mgs_cons (mg_v S1 B1 2 rfl) (mgs_cons (mg_t B1 (mgs_cons (mg_v S1 B1 1 rfl) (mgs_cons (mg_v S1 B1 0 rfl) mgs_nil))) mgs_nil)))) (fun _ _ _ _ _ S1 B1 => (mts_one (mt_cmp (o_ne B1) (me_v S1 0 rfl) (me_v S1 1 rfl) (nomark _)))) (fun _ _ _ _ _ S1 B1 => (me_tup (ma_cons (me_ix (x_ix B1) (me_v S1 2 rfl) (me_v S1 4 rfl)) (ma_cons (me_ix (x_ix B1) (me_v S1 2 rfl) (me_v S1 3 rfl)) ma_nil)))))
  (mss_one (ms_ret (me_tup (ma_cons (me_bin mop_sub (me_ix (x_ix B) (me_v S 1 rfl) me_int) me_int) (ma_cons (me_Ty S 6 rfl G_tuple bt_tuple mfn_tup (ma_cons (me_v S 4 rfl) ma_nil)) ma_nil))))))))))

def N_polynomial : List Str := ["graph", "total", "row", "size", "often", "own", "more", "ahead"]
def m_polynomial : Ms := (sSeq (sExpr (mCall F_check_counted (aCons (mVar 0) aNil)))
  (sSeq (sAsg (mB (aMul false) (mLst false (aCons (mC (.int 0)) aNil)) (mB (aAdd false) (mB aIx (mVar 0) (mC (.int 0))) (mC (.int 1)))) (gN 1))
  (sSeq (sIf (tV (mCall F_has_loop (aCons (mVar 0) aNil))) (sRet (mF fTup (aCons (mVar 1) aNil))) sNil)
  (sSeq (sAsg (mB (aAdd false) (mLst false (aCons (mC (.int 1)) aNil)) (mB (aMul false) (mLst false (aCons (mC (.int 0)) aNil)) (mB aIx (mVar 0) (mC (.int 0))))) (gN 2))
  (sSeq (sFor (srcEn (aCons (mCall F_known_parts (aCons (mVar 0) aNil)) aNil)) (gTup 2 (gsCons (gN 3) (gsCons (gN 4) gsNil))) (sSeq (sAsg (mComp false (srcZip (aCons (mVar 1) (aCons (mVar 2) aNil))) (gTup 2 (gsCons (gN 5) (gsCons (gN 6) gsNil))) tYesM (mB (aAdd false) (mVar 5) (mB (aMul false) (mVar 4) (mVar 6))) [5, 6]) (gN 1))
  (sAsg (mComp false (srcZip (aCons (mLst false (aCons (mC (.int 0)) (aStar (mCut false (mVar 2) pNo (pYes (mU gNeg (mC (.int 1))))) aNil))) (aCons (mVar 2) aNil))) (gTup 2 (gsCons (gN 7) (gsCons (gN 5) gsNil))) tYesM (mB iSub (mVar 7) (mB (aMul false) (mVar 3) (mVar 5))) [7, 5]) (gN 2))))
  (sRet (mF fTup (aCons (mVar 1) aNil))))))))
def F_polynomial : List D → Hh → R D := pure1 <| runF N_polynomial.length m_polynomial

theorem D_polynomial (FF : FnP K mg "polynomial" (top 24)) (G_enumerate : mg "enumerate" = none) (G_tuple : mg "tuple" = none) (G_zip : mg "zip" = none) (D_check_counted : Df T P wo K mg base "check_counted" 2 ["graph"] F_check_counted) (D_has_loop : Df T P wo K mg base "has_loop" 1 ["graph"] F_has_loop) (D_known_parts : Df T P wo K mg base "known_parts" 2 ["graph"] F_known_parts) : Df T P wo K mg base "polynomial" 3 ["graph"] F_polynomial := by
  refine Df.pure (df_ofS (N := N_polynomial) (vis := [(0, "graph"), (1, "total"), (2, "row")]) (loc := [(1, "total"), (2, "row"), (4, "often"), (3, "size")]) (gls := ["check_counted", "has_loop", "tuple", "known_parts", "enumerate", "zip"]) (k := 2) (m := m_polynomial) FF (by kernel_rfl) (by kernel_rfl) (fun _ _ _ _ _ _ us hl => match us, hl with | [_], _ => rfl) fun cdv A outer s H E hr Bd B S => ?_) (fun _ _ _ h => runF_nil h) (fun _ _ _ h => runF_nilX h)
  exact (mss_cons (ms_expr (me_callD S 0 D_check_counted (k := 2) (by decide) hr Bd.tk rfl (ma_cons (me_v S 0 rfl) ma_nil) (an_cons an_nil)))
  (mss_cons (ms_setv S B 0 rfl (me_bin (o_mul false) (me_lst false (ma_cons me_int ma_nil)) (me_bin (o_add false) (me_ix (x_ix B) (me_v S 0 rfl) me_int) me_int)) (by rfl))
  (mss_cons (ms_if (mt_val (me_callD S 1 D_has_loop (k := 1) (by decide) hr Bd.tk rfl (ma_cons (me_v S 0 rfl) ma_nil) (an_cons an_nil))) (mss_one (ms_ret (me_Ty S 2 rfl G_tuple bt_tuple mfn_tup (ma_cons (me_v S 1 rfl) ma_nil)))) mss_nil)
  (mss_cons (ms_setv S B 1 rfl (me_bin (o_add false) (me_lst false (ma_cons me_int ma_nil)) (me_bin (o_mul false) (me_lst false (ma_cons me_int ma_nil)) (me_ix (x_ix B) (me_v S 0 rfl) me_int))) (by rfl))
  (mss_cons (ms_for (is := [3, 4]) Bd.own B.calm (mi_enum (S.at_g 4 rfl) G_enumerate (ma_cons (me_callD S 3 D_known_parts (k := 2) (by decide) hr Bd.tk rfl (ma_cons (me_v S 0 rfl) ma_nil) (an_cons an_nil)) ma_nil)) (mg_t B (mgs_cons (mg_v S B 3 rfl) (mgs_cons (mg_v S B 2 rfl) mgs_nil))) (mss_cons (ms_setLcS (S1 := S) (j := 0) (hj := rfl) (hyl := by kernel_rfl) (hsw := sw_true rfl (by kernel_rfl) rfl (by kernel_rfl)) (mt := false) (B := B) (own := [("own", 5), ("more", 6)]) (is := [5, 6]) (vis := [(5, "own"), (4, "often"), (6, "more")]) (loc := [(6, "more"), (5, "own")]) (gls := []) (mi_zip (S.at_g 5 rfl) G_zip (ma_cons (me_v S 1 rfl) (ma_cons (me_v S 2 rfl) ma_nil))) (blkOk_by (by kernel_rfl)) (fun _ _ _ _ _ => sc_blk (N := N_polynomial) (sc := defScope (top 24)) rfl rfl (by kernel_rfl)) (fun _ _ _ _ _ S1 B1 => (mg_t B1 (mgs_cons (mg_v S1 B1 1 rfl) (mgs_cons (mg_v S1 B1 0 rfl) mgs_nil)))) (fun _ _ _ _ _ S1 B1 => mts_nil) (fun _ _ _ _ _ S1 B1 => (me_bin (o_add false) (me_v S1 0 rfl) (me_bin (o_mul false) (me_v S1 1 rfl) (me_v S1 2 rfl)))))
  (mss_one (ms_setLcS (S1 := S) (j := 1) (hj := rfl) (hyl := by kernel_rfl) (hsw := sw_true rfl (by kernel_rfl) rfl (by kernel_rfl)) (mt := false) (B := B) (own := [("ahead", 7), ("own", 5)]) (is := [7, 5]) (vis := [(7, "ahead"), (3, "size"), (5, "own")]) (loc := [(5, "own"), (7, "ahead")]) (gls := []) (mi_zip (S.at_g 5 rfl) G_zip (ma_cons (me_lst false (ma_cons me_int (ma_star (me_cut false (me_v S 2 rfl) mp_no (mp_yes (me_un mun_neg me_int))) ma_nil))) (ma_cons (me_v S 2 rfl) ma_nil))) (blkOk_by (by kernel_rfl)) (fun _ _ _ _ _ => sc_blk (N := N_polynomial) (sc := defScope (top 24)) rfl rfl (by kernel_rfl)) (fun _ _ _ _ _ S1 B1 => (mg_t B1 (mgs_cons (mg_v S1 B1 1 rfl) (mgs_cons (mg_v S1 B1 0 rfl) mgs_nil)))) (fun _ _ _ _ _ S1 B1 => mts_nil) (fun _ _ _ _ _ S1 B1 => (me_bin mop_sub (me_v S1 0 rfl) (me_bin (o_mul false) (me_v S1 1 rfl) (me_v S1 2 rfl))))))))
  (mss_one (ms_ret (me_Ty S 2 rfl G_tuple bt_tuple mfn_tup (ma_cons (me_v S 1 rfl) ma_nil)))))))))

def N_count_colours : List Str := ["graph", "many", "at", "own"]
def m_count_colours : Ms := (sSeq (sExpr (mCall F_check_counted (aCons (mVar 0) aNil)))
  (sSeq (sIf (tV (mB iLt (mVar 1) (mC (.int 0)))) (sRaise .na) sNil)
  (sRet (mF fSum (aCons (mComp false (srcEn (aCons (mCall F_polynomial (aCons (mVar 0) aNil)) aNil)) (gTup 2 (gsCons (gN 2) (gsCons (gN 3) gsNil))) tYesM (mB (aMul false) (mVar 3) (mCall F_power_of (aCons (mVar 1) (aCons (mVar 2) aNil)))) [2, 3]) aNil)))))
def F_count_colours : List D → Hh → R D := pure1 <| runF N_count_colours.length m_count_colours

theorem D_count_colours (FF : FnP K mg "count_colours" (top 22)) (G_enumerate : mg "enumerate" = none) (G_sum : mg "sum" = none) (G_ex : ExF K mg) (D_check_counted : Df T P wo K mg base "check_counted" 2 ["graph"] F_check_counted) (D_power_of : Df T P wo K mg base "power_of" 1 ["number", "often"] F_power_of) (D_polynomial : Df T P wo K mg base "polynomial" 3 ["graph"] F_polynomial) : Df T P wo K mg base "count_colours" 4 ["graph", "many"] F_count_colours := by
  refine Df.pure (df_ofS (N := N_count_colours) (vis := [(0, "graph"), (1, "many")]) (loc := []) (gls := ["check_counted", "NotAllowed", "polynomial", "enumerate", "sum"]) (k := 3) (m := m_count_colours) FF (by kernel_rfl) (by kernel_rfl) (fun _ _ _ _ _ _ us hl => match us, hl with | [_, _], _ => rfl) fun cdv A outer s H E hr Bd B S => ?_) (fun _ _ _ h => runF_nil h) (fun _ _ _ h => runF_nilX h)
  exact (mss_cons (ms_expr (me_callD S 0 D_check_counted (k := 2) (by decide) hr Bd.tk rfl (ma_cons (me_v S 0 rfl) ma_nil) (an_cons an_nil)))
  (mss_cons (ms_if (mt_cmp mop_lt (me_v S 1 rfl) me_int (nomark _)) (mss_one (ms_raiseE .na Bd G_ex S 1 rfl rfl)) mss_nil)
  (mss_one (ms_ret (me_B S 4 rfl G_sum bt_sum (mfn_sum B.calm) (ma_cons (me_lcS false B (own := [("at", 2), ("own", 3)]) (is := [2, 3]) (vis := [(3, "own"), (2, "at"), (1, "many")]) (loc := [(3, "own"), (2, "at")]) (gls := ["power_of"]) (mi_enum (S.at_g 3 rfl) G_enumerate (ma_cons (me_callD S 2 D_polynomial (k := 3) (by decide) hr Bd.tk rfl (ma_cons (me_v S 0 rfl) ma_nil) (an_cons an_nil)) ma_nil)) (blkOk_by (by kernel_rfl)) (fun _ _ _ _ _ => sc_blk (N := N_count_colours) (sc := defScope (top 22)) rfl rfl (by kernel_rfl)) (fun _ _ _ _ _ S1 B1 => (mg_t B1 (mgs_cons (mg_v S1 B1 1 rfl) (mgs_cons (mg_v S1 B1 0 rfl) mgs_nil)))) (fun _ _ _ _ _ S1 B1 => mts_nil) (fun _ _ _ _ _ S1 B1 => (me_bin (o_mul false) (me_v S1 0 rfl) (me_callD S1 0 D_power_of (k := 1) (by decide) hr takes_blk rfl (ma_cons (me_v S1 2 rfl) (ma_cons (me_v S1 1 rfl) ma_nil)) (an_cons (an_cons an_nil)))))) ma_nil))))))

def N__law_graph_fits : List Str := ["state", "graph", "told", "row", "many", "due", "one", "two", "k", "edge", "less", "first", "second"]
def m__law_graph_fits : Ms := (sSeq (sAsg (mTold (mCall F_polynomial (aCons (mVar 1) aNil))) (gN 2))
  (sSeq (sIf (tOrM (tV (mB (gEqD true) (mB aIx (mVar 2) (mC (.int 0))) (mC (.str "told")))) (tV (mB (gEqD true) (mF fLen (aCons (mB aIx (mVar 2) (mC (.int 1))) aNil)) (mB (aAdd false) (mB aIx (mVar 1) (mC (.int 0))) (mC (.int 1)))))) (sRet (mC (.bl false))) sNil)
  (sSeq (sAsg (mB aIx (mVar 2) (mC (.int 1))) (gN 3))
  (sSeq (sFor (srcR1 (aCons (mC (.int 5)) aNil)) (gN 4) (sIf (tOrM (tV (mB iLt (mB aIx (mVar 1) (mC (.int 0))) (mC (.int 6)))) (tV (mB iLt (mVar 4) (mC (.int 4))))) (sSeq (sAsg (mCall F__law_tried (aCons (mVar 1) (aCons (mVar 4) aNil))) (gN 5))
  (sIf (tOrM (tV (mB (gEqD true) (mTold (mCall F_count_colours (aCons (mVar 1) (aCons (mVar 4) aNil)))) (mTup (aCons (mC (.str "told")) (aCons (mVar 5) aNil))))) (tV (mB (gEqD true) (mCall F__law_sum (aCons (mVar 3) (aCons (mVar 4) aNil))) (mVar 5)))) (sRet (mC (.bl false))) sNil)) sNil))
  (sSeq (sIf (tV (mF fAny (aCons (mComp false (srcM (mB aIx (mVar 1) (mC (.int 1)))) (gTup 2 (gsCons (gN 6) (gsCons (gN 7) gsNil))) tYesM (mB (gEqD false) (mVar 6) (mVar 7)) [6, 7]) aNil))) (sRet (mB (gEqD false) (mVar 3) (mB (aMul false) (mTup (aCons (mC (.int 0)) aNil)) (mB (aAdd false) (mB aIx (mVar 1) (mC (.int 0))) (mC (.int 1)))))) sNil)
  (sSeq (sAsg (mB (aAdd false) (mC (.int 5)) (mCall F__law_next (aCons (mVar 0) (aCons (mC (.int 900)) aNil)))) (gN 4))
  (sSeq (sIf (tOrM (tV (mB (gEqD true) (mB aIx (mVar 3) (mU gNeg (mC (.int 1)))) (mC (.int 1)))) (tV (mB (gEqD true) (mTold (mCall F_count_colours (aCons (mVar 1) (aCons (mVar 4) aNil)))) (mTup (aCons (mC (.str "told")) (aCons (mCall F__law_sum (aCons (mVar 3) (aCons (mVar 4) aNil))) aNil)))))) (sRet (mC (.bl false))) sNil)
  (sSeq (sFor (srcR1 (aCons (mB iSub (mF fLen (aCons (mVar 3) aNil)) (mC (.int 1))) aNil)) (gN 8) (sIf (tV (mB iLt (mB (aMul false) (mB aIx (mVar 3) (mVar 8)) (mB iSub (mC (.int 1)) (mB (aMul false) (mC (.int 2)) (mB iMod (mF fInt (aCons (mB iSub (mB iSub (mF fLen (aCons (mVar 3) aNil)) (mC (.int 1))) (mVar 8)) aNil)) (mC (.int 2)))))) (mC (.int 0)))) (sRet (mC (.bl false))) sNil))
  (sSeq (sFor (srcR1 (aCons (mF fLen (aCons (mB aIx (mVar 1) (mC (.int 1))) aNil)) aNil)) (gN 9) (sSeq (sAsg (mTup (aCons (mTold (mCall F_left_out (aCons (mVar 1) (aCons (mTup (aCons (mVar 9) aNil)) aNil)))) (aCons (mTold (mCall F_contracted (aCons (mVar 1) (aCons (mVar 9) aNil)))) aNil))) (gTup 2 (gsCons (gN 10) (gsCons (gN 6) gsNil))))
  (sSeq (sIf (tOrM (tV (mB (gEqD true) (mB aIx (mVar 10) (mC (.int 0))) (mC (.str "told")))) (tV (mB (gEqD true) (mB aIx (mVar 6) (mC (.int 0))) (mC (.str "told"))))) (sRet (mC (.bl false))) sNil)
  (sSeq (sAsg (mTup (aCons (mTold (mCall F_polynomial (aCons (mB aIx (mVar 10) (mC (.int 1))) aNil))) (aCons (mTold (mCall F_polynomial (aCons (mB aIx (mVar 6) (mC (.int 1))) aNil))) aNil))) (gTup 2 (gsCons (gN 11) (gsCons (gN 12) gsNil))))
  (sIf (tOrM (tV (mB (gEqD true) (mB aIx (mVar 11) (mC (.int 0))) (mC (.str "told")))) (tOrM (tV (mB (gEqD true) (mB aIx (mVar 12) (mC (.int 0))) (mC (.str "told")))) (tV (mB (gEqD true) (mVar 3) (mF fTup (aCons (mComp false (srcR1 (aCons (mF fLen (aCons (mVar 3) aNil)) aNil)) (gN 8) tYesM (mB iSub (mB aIx (mB aIx (mVar 11) (mC (.int 1))) (mVar 8)) (mB aIx (mB (aAdd false) (mB aIx (mVar 12) (mC (.int 1))) (mTup (aCons (mC (.int 0)) aNil))) (mVar 8))) [8]) aNil)))))) (sRet (mC (.bl false))) sNil)))))
  (sRet (mC (.bl true))))))))))))
def F__law_graph_fits : List D → Hh → R D := runF N__law_graph_fits.length m__law_graph_fits

theorem D__law_graph_fits (FF : FnP K mg "_law_graph_fits" (top 35)) (G_any : mg "any" = none) (G_int : mg "int" = none) (G_len : mg "len" = none) (G_range : mg "range" = none) (G_tuple : mg "tuple" = none) (TB : TabY T K mg base "_law_graph_fits") (D__law_told : ToldIn T P wo K mg base "_law_told") (D__law_next : Df T P wo K mg base "_law_next" 1 ["state", "many"] F__law_next) (D_polynomial : Df T P wo K mg base "polynomial" 3 ["graph"] F_polynomial) (D__law_tried : Df T P wo K mg base "_law_tried" 1 ["graph", "many"] F__law_tried) (D__law_sum : Df T P wo K mg base "_law_sum" 1 ["row", "many"] F__law_sum) (D_count_colours : Df T P wo K mg base "count_colours" 4 ["graph", "many"] F_count_colours) (D_left_out : Df T P wo K mg base "left_out" 3 ["graph", "edges"] F_left_out) (D_contracted : Df T P wo K mg base "contracted" 3 ["graph", "edge"] F_contracted) : Df T P wo K mg base "_law_graph_fits" 7 ["state", "graph"] F__law_graph_fits := by
  refine df_ofC (N := N__law_graph_fits) (vis := [(2, "told"), (1, "graph"), (4, "many"), (3, "row"), (5, "due"), (0, "state"), (8, "k"), (6, "one"), (10, "less"), (12, "second"), (11, "first")]) (loc := [(2, "told"), (3, "row"), (4, "many"), (5, "due"), (8, "k"), (9, "edge"), (6, "one"), (10, "less"), (12, "second"), (11, "first")]) (gls := ["_law_told", "len", "range", "_law_tried", "_law_sum", "any", "_law_next", "int", "tuple"]) (k := 6) (m := m__law_graph_fits) FF (by kernel_rfl) (by kernel_rfl) (fun _ _ _ _ _ _ us hl => match us, hl with | [_, _], _ => rfl) fun cdv A outer s H E hc hr Bd B S => ?_
  have LT : TabX T (cxD P wo K mg base N__law_graph_fits "_law_graph_fits" (top 35) cdv A outer s H E) := tabX_of TB hc
  exact (mss_cons (ms_setv S B 0 rfl (me_toldS (k := 4) (k' := 6) S 0 rfl (D__law_told _ rfl rfl rfl rfl rfl) LT hr (by decide) B (lamS1_by (by kernel_rfl)) (.no rfl rfl (fun _ _ _ _ _ _ => rfl)) (fun _ _ _ _ _ _ _ => sc_lam (N := N__law_graph_fits) (vis := [(1, "graph")]) (gls := ["polynomial"]) rfl (by kernel_rfl)) (fun _ _ _ _ _ _ _ hr S1 B1 tk1 => (me_callD S1 0 D_polynomial (k := 3) (by decide) hr tk1 rfl (ma_cons (me_v S1 0 rfl) ma_nil) (an_cons an_nil)))) (by rfl))
  (mss_cons (ms_if (MW.mt (mw_or (mt_cmp (o_ne B) (me_ix (x_ix B) (me_v S 0 rfl) me_int) me_str (nomark _)) (mw_or1 (mt_cmp (o_ne B) (me_B S 1 rfl G_len bt_len mfn_len (ma_cons (me_ix (x_ix B) (me_v S 0 rfl) me_int) ma_nil)) (me_bin (o_add false) (me_ix (x_ix B) (me_v S 1 rfl) me_int) me_int) (nomark _))))) (mss_one (ms_ret me_bl)) mss_nil)
  (mss_cons (ms_setv S B 1 rfl (me_ix (x_ix B) (me_v S 0 rfl) me_int) (by rfl))
  (mss_cons (ms_for (is := [4]) Bd.own B.calm (mi_range1 (S.at_g 2 rfl) G_range (ma_cons me_int ma_nil)) (mg_v S B 2 rfl) (mss_one (ms_if (MW.mt (mw_or (mt_cmp mop_lt (me_ix (x_ix B) (me_v S 1 rfl) me_int) me_int (nomark _)) (mw_or1 (mt_cmp mop_lt (me_v S 2 rfl) me_int (nomark _))))) (mss_cons (ms_setv S B 3 rfl (me_callD S 3 D__law_tried (k := 1) (by decide) hr Bd.tk rfl (ma_cons (me_v S 1 rfl) (ma_cons (me_v S 2 rfl) ma_nil)) (an_cons (an_cons an_nil))) (by rfl))
  (mss_one (ms_if (MW.mt (mw_or (mt_cmp (o_ne B) (me_toldS (k := 4) (k' := 6) S 0 rfl (D__law_told _ rfl rfl rfl rfl rfl) LT hr (by decide) B (lamS1_by (by kernel_rfl)) (.no rfl rfl (fun _ _ _ _ _ _ => rfl)) (fun _ _ _ _ _ _ _ => sc_lam (N := N__law_graph_fits) (vis := [(4, "many"), (1, "graph")]) (gls := ["count_colours"]) rfl (by kernel_rfl)) (fun _ _ _ _ _ _ _ hr S1 B1 tk1 => (me_callD S1 0 D_count_colours (k := 4) (by decide) hr tk1 rfl (ma_cons (me_v S1 1 rfl) (ma_cons (me_v S1 0 rfl) ma_nil)) (an_cons (an_cons an_nil))))) (me_tup (ma_cons me_str (ma_cons (me_v S 4 rfl) ma_nil))) (nomark _)) (mw_or1 (mt_cmp (o_ne B) (me_callD S 4 D__law_sum (k := 1) (by decide) hr Bd.tk rfl (ma_cons (me_v S 3 rfl) (ma_cons (me_v S 2 rfl) ma_nil)) (an_cons (an_cons an_nil))) (me_v S 4 rfl) (nomark _))))) (mss_one (ms_ret me_bl)) mss_nil))) mss_nil)))
  (mss_cons (ms_if (mt_val (me_B S 5 rfl G_any bt_any (mfn_any B.calm) (ma_cons (me_lcS false B (own := [("one", 6), ("two", 7)]) (is := [6, 7]) (vis := [(6, "one"), (7, "two")]) (loc := [(7, "two"), (6, "one")]) (gls := []) (mi_seq (me_ix (x_ix B) (me_v S 1 rfl) me_int)) (blkOk_by (by kernel_rfl)) (fun _ _ _ _ _ => sc_blk (N := N__law_graph_fits) (sc := defScope (top 35)) rfl rfl (by kernel_rfl)) (fun _ _ _ _ _ S1 B1 => (mg_t B1 (mgs_cons (mg_v S1 B1 1 rfl) (mgs_cons (mg_v S1 B1 0 rfl) mgs_nil)))) (fun _ _ _ _ _ S1 B1 => mts_nil) (fun _ _ _ _ _ S1 B1 => (me_cmp (o_eq B1) (me_v S1 0 rfl) (me_v S1 1 rfl) (nomark _)))) ma_nil))) (mss_one (ms_ret (me_cmp (o_eq B) (me_v S 3 rfl) (me_bin (o_mul false) (me_tup (ma_cons me_int ma_nil)) (me_bin (o_add false) (me_ix (x_ix B) (me_v S 1 rfl) me_int) me_int)) (nomark _)))) mss_nil)
  (mss_cons (ms_setv S B 2 rfl (me_bin (o_add false) me_int (me_callD S 6 D__law_next (k := 1) (by decide) hr Bd.tk rfl (ma_cons (me_v S 5 rfl) (ma_cons me_int ma_nil)) (an_cons (an_cons an_nil)))) (by rfl))
  (mss_cons (ms_if (MW.mt (mw_or (mt_cmp (o_ne B) (me_ix (x_ix B) (me_v S 3 rfl) (me_un mun_neg me_int)) me_int (nomark _)) (mw_or1 (mt_cmp (o_ne B) (me_toldS (k := 4) (k' := 6) S 0 rfl (D__law_told _ rfl rfl rfl rfl rfl) LT hr (by decide) B (lamS1_by (by kernel_rfl)) (.no rfl rfl (fun _ _ _ _ _ _ => rfl)) (fun _ _ _ _ _ _ _ => sc_lam (N := N__law_graph_fits) (vis := [(4, "many"), (1, "graph")]) (gls := ["count_colours"]) rfl (by kernel_rfl)) (fun _ _ _ _ _ _ _ hr S1 B1 tk1 => (me_callD S1 0 D_count_colours (k := 4) (by decide) hr tk1 rfl (ma_cons (me_v S1 1 rfl) (ma_cons (me_v S1 0 rfl) ma_nil)) (an_cons (an_cons an_nil))))) (me_tup (ma_cons me_str (ma_cons (me_callD S 4 D__law_sum (k := 1) (by decide) hr Bd.tk rfl (ma_cons (me_v S 3 rfl) (ma_cons (me_v S 2 rfl) ma_nil)) (an_cons (an_cons an_nil))) ma_nil))) (nomark _))))) (mss_one (ms_ret me_bl)) mss_nil)
  (mss_cons (ms_for (is := [8]) Bd.own B.calm (mi_range1 (S.at_g 2 rfl) G_range (ma_cons (me_bin mop_sub (me_B S 1 rfl G_len bt_len mfn_len (ma_cons (me_v S 3 rfl) ma_nil)) me_int) ma_nil)) (mg_v S B 4 rfl) (mss_one (ms_if (mt_cmp mop_lt (me_bin (o_mul false) (me_ix (x_ix B) (me_v S 3 rfl) (me_v S 6 rfl)) (me_bin mop_sub me_int (me_bin (o_mul false) me_int (me_bin mop_mod (me_Ty S 7 rfl G_int bt_int mfn_int (ma_cons (me_bin mop_sub (me_bin mop_sub (me_B S 1 rfl G_len bt_len mfn_len (ma_cons (me_v S 3 rfl) ma_nil)) me_int) (me_v S 6 rfl)) ma_nil)) me_int)))) me_int (nomark _)) (mss_one (ms_ret me_bl)) mss_nil)))
  (mss_cons (ms_for (is := [9]) Bd.own B.calm (mi_range1 (S.at_g 2 rfl) G_range (ma_cons (me_B S 1 rfl G_len bt_len mfn_len (ma_cons (me_ix (x_ix B) (me_v S 1 rfl) me_int) ma_nil)) ma_nil)) (mg_v S B 5 rfl) (mss_cons (ms_asg (is := [10, 6]) (me_tup (ma_cons (me_toldS (k := 4) (k' := 6) S 0 rfl (D__law_told _ rfl rfl rfl rfl rfl) LT hr (by decide) B (lamS1_by (by kernel_rfl)) (.no rfl rfl (fun _ _ _ _ _ _ => rfl)) (fun _ _ _ _ _ _ _ => sc_lam (N := N__law_graph_fits) (vis := [(9, "edge"), (1, "graph")]) (gls := ["left_out"]) rfl (by kernel_rfl)) (fun _ _ _ _ _ _ _ hr S1 B1 tk1 => (me_callD S1 0 D_left_out (k := 3) (by decide) hr tk1 rfl (ma_cons (me_v S1 1 rfl) (ma_cons (me_tup (ma_cons (me_v S1 0 rfl) ma_nil)) ma_nil)) (an_cons (an_cons an_nil))))) (ma_cons (me_toldS (k := 4) (k' := 6) S 0 rfl (D__law_told _ rfl rfl rfl rfl rfl) LT hr (by decide) B (lamS1_by (by kernel_rfl)) (.one "a" _ _ _ rfl rfl (fun _ _ _ _ _ _ _ => ⟨_, rfl, fun _ => rfl⟩) (by kernel_rfl)) (fun _ _ _ _ _ _ _ => sc_lam (N := N__law_graph_fits) (vis := [(9, "edge"), (1, "graph")]) (gls := ["contracted"]) rfl (by kernel_rfl)) (fun _ _ _ _ _ _ _ hr S1 B1 tk1 => (me_callD S1 0 D_contracted (k := 3) (by decide) hr tk1 rfl (ma_cons (me_v S1 1 rfl) (ma_cons (me_v S1 0 rfl) ma_nil)) (an_cons (an_cons an_nil))))) ma_nil))) (mg_t B (mgs_cons (mg_v S B 7 rfl) (mgs_cons (mg_v S B 6 rfl) mgs_nil))))
  (mss_cons (ms_if (MW.mt (mw_or (mt_cmp (o_ne B) (me_ix (x_ix B) (me_v S 8 rfl) me_int) me_str (nomark _)) (mw_or1 (mt_cmp (o_ne B) (me_ix (x_ix B) (me_v S 7 rfl) me_int) me_str (nomark _))))) (mss_one (ms_ret me_bl)) mss_nil)
  (mss_cons (ms_asg (is := [11, 12]) (me_tup (ma_cons (me_toldS (k := 4) (k' := 6) S 0 rfl (D__law_told _ rfl rfl rfl rfl rfl) LT hr (by decide) B (lamS1_by (by kernel_rfl)) (.no rfl rfl (fun _ _ _ _ _ _ => rfl)) (fun _ _ _ _ _ _ _ => sc_lam (N := N__law_graph_fits) (vis := [(10, "less")]) (gls := ["polynomial"]) rfl (by kernel_rfl)) (fun _ _ _ _ _ _ _ hr S1 B1 tk1 => (me_callD S1 0 D_polynomial (k := 3) (by decide) hr tk1 rfl (ma_cons (me_ix (x_ix B1) (me_v S1 0 rfl) me_int) ma_nil) (an_cons an_nil)))) (ma_cons (me_toldS (k := 4) (k' := 6) S 0 rfl (D__law_told _ rfl rfl rfl rfl rfl) LT hr (by decide) B (lamS1_by (by kernel_rfl)) (.one "a" _ _ _ rfl rfl (fun _ _ _ _ _ _ _ => ⟨_, rfl, fun _ => rfl⟩) (by kernel_rfl)) (fun _ _ _ _ _ _ _ => sc_lam (N := N__law_graph_fits) (vis := [(6, "one")]) (gls := ["polynomial"]) rfl (by kernel_rfl)) (fun _ _ _ _ _ _ _ hr S1 B1 tk1 => (me_callD S1 0 D_polynomial (k := 3) (by decide) hr tk1 rfl (ma_cons (me_ix (x_ix B1) (me_v S1 0 rfl) me_int) ma_nil) (an_cons an_nil)))) ma_nil))) (mg_t B (mgs_cons (mg_v S B 9 rfl) (mgs_cons (mg_v S B 8 rfl) mgs_nil))))
  (mss_one (ms_if (MW.mt (mw_or (mt_cmp (o_ne B) (me_ix (x_ix B) (me_v S 10 rfl) me_int) me_str (nomark _)) (mw_or (mt_cmp (o_ne B) (me_ix (x_ix B) (me_v S 9 rfl) me_int) me_str (nomark _)) (mw_or1 (mt_cmp (o_ne B) (me_v S 3 rfl) (me_Ty S 8 rfl G_tuple bt_tuple mfn_tup (ma_cons (me_lcS false B (own := [("k", 8)]) (is := [8]) (vis := [(11, "first"), (8, "k"), (12, "second")]) (loc := [(8, "k")]) (gls := []) (mi_range1 (S.at_g 2 rfl) G_range (ma_cons (me_B S 1 rfl G_len bt_len mfn_len (ma_cons (me_v S 3 rfl) ma_nil)) ma_nil)) (blkOk_by (by kernel_rfl)) (fun _ _ _ _ _ => sc_blk (N := N__law_graph_fits) (sc := defScope (top 35)) rfl rfl (by kernel_rfl)) (fun _ _ _ _ _ S1 B1 => (mg_v S1 B1 0 rfl)) (fun _ _ _ _ _ S1 B1 => mts_nil) (fun _ _ _ _ _ S1 B1 => (me_bin mop_sub (me_ix (x_ix B1) (me_ix (x_ix B1) (me_v S1 0 rfl) me_int) (me_v S1 1 rfl)) (me_ix (x_ix B1) (me_bin (o_add false) (me_ix (x_ix B1) (me_v S1 2 rfl) me_int) (me_tup (ma_cons me_int ma_nil))) (me_v S1 1 rfl))))) ma_nil)) (nomark _)))))) (mss_one (ms_ret me_bl)) mss_nil))))))
  (mss_one (ms_ret me_bl)))))))))))

def N__law_great : List Str := ["state", "size", "many", "k", "ring", "line", "whole", "falling", "due", "asks", "own"]
def m__law_great : Ms := (sSeq (sAsg (mTup (aCons (mB (aAdd false) (mC (.int 3)) (mCall F__law_next (aCons (mVar 0) (aCons (mC (.int 7)) aNil)))) (aCons (mCall F__law_next (aCons (mVar 0) (aCons (mC (.int 5000)) aNil))) aNil))) (gTup 2 (gsCons (gN 1) (gsCons (gN 2) gsNil))))
  (sSeq (sAsg (mTup (aCons (mVar 1) (aCons (mF fTup (aCons (mComp false (srcR1 (aCons (mVar 1) aNil)) (gN 3) tYesM (mTup (aCons (mVar 3) (aCons (mB iMod (mF fInt (aCons (mB (aAdd false) (mVar 3) (mC (.int 1))) aNil)) (mVar 1)) aNil))) [3]) aNil)) aNil))) (gN 4))
  (sSeq (sAsg (mTup (aCons (mVar 1) (aCons (mF fTup (aCons (mComp false (srcR1 (aCons (mB iSub (mVar 1) (mC (.int 1))) aNil)) (gN 3) tYesM (mTup (aCons (mVar 3) (aCons (mB (aAdd false) (mVar 3) (mC (.int 1))) aNil))) [3]) aNil)) aNil))) (gN 5))
  (sSeq (sAsg (mTup (aCons (mVar 1) (aCons (mF fTup (aCons (mComp false (srcR1 (aCons (mB (aMul false) (mVar 1) (mVar 1)) aNil)) (gN 3) (tV (mB iLt (mB iDiv (mVar 3) (mVar 1)) (mB iMod (mVar 3) (mVar 1)))) (mTup (aCons (mB iDiv (mVar 3) (mVar 1)) (aCons (mB iMod (mVar 3) (mVar 1)) aNil))) [3]) aNil)) aNil))) (gN 6))
  (sSeq (sAsg (mC (.int 1)) (gN 7))
  (sSeq (sFor (srcR1 (aCons (mVar 1) aNil)) (gN 3) (sAsg (mB (aMul false) (mVar 7) (mB iSub (mVar 2) (mVar 3))) (gN 7)))
  (sSeq (sAsg (mLst false (aCons (mB (aAdd false) (mCall F__law_power (aCons (mB iSub (mVar 2) (mC (.int 1))) (aCons (mVar 1) aNil))) (mB (aMul false) (mB iSub (mVar 2) (mC (.int 1))) (mB iSub (mC (.int 1)) (mB (aMul false) (mC (.int 2)) (mB iMod (mVar 1) (mC (.int 2))))))) (aCons (mB (aMul false) (mVar 2) (mCall F__law_power (aCons (mB iSub (mVar 2) (mC (.int 1))) (aCons (mB iSub (mVar 1) (mC (.int 1))) aNil)))) (aCons (mVar 7) (aCons (mCall F__law_power (aCons (mVar 2) (aCons (mVar 1) aNil))) aNil))))) (gN 8))
  (sSeq (sAsg (mLst false (aCons (mTold (mCall F_count_colours (aCons (mVar 4) (aCons (mVar 2) aNil)))) (aCons (mTold (mCall F_count_colours (aCons (mVar 5) (aCons (mVar 2) aNil)))) (aCons (mTold (mCall F_count_colours (aCons (mVar 6) (aCons (mVar 2) aNil)))) (aCons (mTold (mCall F_count_colours (aCons (mTup (aCons (mVar 1) (aCons (mTup aNil) aNil))) (aCons (mVar 2) aNil)))) aNil))))) (gN 9))
  (sRet (mB (gEqD false) (mVar 9) (mComp false (srcM (mVar 8)) (gN 10) tYesM (mTup (aCons (mC (.str "told")) (aCons (mVar 10) aNil))) [10])))))))))))
def F__law_great : List D → Hh → R D := runF N__law_great.length m__law_great

theorem D__law_great (FF : FnP K mg "_law_great" (top 37)) (G_int : mg "int" = none) (G_range : mg "range" = none) (G_tuple : mg "tuple" = none) (TB : TabY T K mg base "_law_great") (D__law_next : Df T P wo K mg base "_law_next" 1 ["state", "many"] F__law_next) (D__law_power : Df T P wo K mg base "_law_power" 1 ["number", "often"] F__law_power) (D__law_told : ToldIn T P wo K mg base "_law_told") (D_count_colours : Df T P wo K mg base "count_colours" 4 ["graph", "many"] F_count_colours) : Df T P wo K mg base "_law_great" 7 ["state"] F__law_great := by
  refine df_ofC (N := N__law_great) (vis := [(0, "state"), (1, "size"), (7, "falling"), (2, "many"), (3, "k"), (9, "asks"), (8, "due")]) (loc := [(2, "many"), (1, "size"), (4, "ring"), (5, "line"), (6, "whole"), (7, "falling"), (3, "k"), (8, "due"), (9, "asks")]) (gls := ["_law_next", "range", "tuple", "_law_power", "_law_told"]) (k := 6) (m := m__law_great) FF (by kernel_rfl) (by kernel_rfl) (fun _ _ _ _ _ _ us hl => match us, hl with | [_], _ => rfl) fun cdv A outer s H E hc hr Bd B S => ?_
  have LT : TabX T (cxD P wo K mg base N__law_great "_law_great" (top 37) cdv A outer s H E) := tabX_of TB hc
  exact (mss_cons (ms_asg (is := [1, 2]) (me_tup (ma_cons (me_bin (o_add false) me_int (me_callD S 0 D__law_next (k := 1) (by decide) hr Bd.tk rfl (ma_cons (me_v S 0 rfl) (ma_cons me_int ma_nil)) (an_cons (an_cons an_nil)))) (ma_cons (me_callD S 0 D__law_next (k := 1) (by decide) hr Bd.tk rfl (ma_cons (me_v S 0 rfl) (ma_cons me_int ma_nil)) (an_cons (an_cons an_nil))) ma_nil))) (mg_t B (mgs_cons (mg_v S B 1 rfl) (mgs_cons (mg_v S B 0 rfl) mgs_nil))))
  (mss_cons (ms_setv S B 2 rfl (me_tup (ma_cons (me_v S 1 rfl) (ma_cons (me_Ty S 2 rfl G_tuple bt_tuple mfn_tup (ma_cons (me_lcS false B (own := [("k", 3)]) (is := [3]) (vis := [(3, "k"), (1, "size")]) (loc := [(3, "k")]) (gls := ["int"]) (mi_range1 (S.at_g 1 rfl) G_range (ma_cons (me_v S 1 rfl) ma_nil)) (blkOk_by (by kernel_rfl)) (fun _ _ _ _ _ => sc_blk (N := N__law_great) (sc := defScope (top 37)) rfl rfl (by kernel_rfl)) (fun _ _ _ _ _ S1 B1 => (mg_v S1 B1 0 rfl)) (fun _ _ _ _ _ S1 B1 => mts_nil) (fun _ _ _ _ _ S1 B1 => (me_tup (ma_cons (me_v S1 0 rfl) (ma_cons (me_bin mop_mod (me_Ty S1 0 rfl G_int bt_int mfn_int (ma_cons (me_bin (o_add false) (me_v S1 0 rfl) me_int) ma_nil)) (me_v S1 1 rfl)) ma_nil))))) ma_nil)) ma_nil))) (by rfl))
  (mss_cons (ms_setv S B 3 rfl (me_tup (ma_cons (me_v S 1 rfl) (ma_cons (me_Ty S 2 rfl G_tuple bt_tuple mfn_tup (ma_cons (me_lcS false B (own := [("k", 3)]) (is := [3]) (vis := [(3, "k")]) (loc := [(3, "k")]) (gls := []) (mi_range1 (S.at_g 1 rfl) G_range (ma_cons (me_bin mop_sub (me_v S 1 rfl) me_int) ma_nil)) (blkOk_by (by kernel_rfl)) (fun _ _ _ _ _ => sc_blk (N := N__law_great) (sc := defScope (top 37)) rfl rfl (by kernel_rfl)) (fun _ _ _ _ _ S1 B1 => (mg_v S1 B1 0 rfl)) (fun _ _ _ _ _ S1 B1 => mts_nil) (fun _ _ _ _ _ S1 B1 => (me_tup (ma_cons (me_v S1 0 rfl) (ma_cons (me_bin (o_add false) (me_v S1 0 rfl) me_int) ma_nil))))) ma_nil)) ma_nil))) (by rfl))
  (mss_cons (ms_setv S B 4 rfl (me_tup (ma_cons (me_v S 1 rfl) (ma_cons (me_Ty S 2 rfl G_tuple bt_tuple mfn_tup (ma_cons (me_lcS false B (own := [("k", 3)]) (is := [3]) (vis := [(3, "k"), (1, "size")]) (loc := [(3, "k")]) (gls := []) (mi_range1 (S.at_g 1 rfl) G_range (ma_cons (me_bin (o_mul false) (me_v S 1 rfl) (me_v S 1 rfl)) ma_nil)) (blkOk_by (by kernel_rfl)) (fun _ _ _ _ _ => sc_blk (N := N__law_great) (sc := defScope (top 37)) rfl rfl (by kernel_rfl)) (fun _ _ _ _ _ S1 B1 => (mg_v S1 B1 0 rfl)) (fun _ _ _ _ _ S1 B1 => (mts_one (mt_cmp mop_lt (me_bin mop_div (me_v S1 0 rfl) (me_v S1 1 rfl)) (me_bin mop_mod (me_v S1 0 rfl) (me_v S1 1 rfl)) (nomark _)))) (fun _ _ _ _ _ S1 B1 => (me_tup (ma_cons (me_bin mop_div (me_v S1 0 rfl) (me_v S1 1 rfl)) (ma_cons (me_bin mop_mod (me_v S1 0 rfl) (me_v S1 1 rfl)) ma_nil))))) ma_nil)) ma_nil))) (by rfl))
  (mss_cons (ms_setv S B 5 rfl me_int (by rfl))
  (mss_cons (ms_for (is := [3]) Bd.own B.calm (mi_range1 (S.at_g 1 rfl) G_range (ma_cons (me_v S 1 rfl) ma_nil)) (mg_v S B 6 rfl) (mss_one (ms_setv S B 5 rfl (me_bin (o_mul false) (me_v S 2 rfl) (me_bin mop_sub (me_v S 3 rfl) (me_v S 4 rfl))) (by rfl))))
  (mss_cons (ms_setv S B 7 rfl (me_lst false (ma_cons (me_bin (o_add false) (me_callD S 3 D__law_power (k := 1) (by decide) hr Bd.tk rfl (ma_cons (me_bin mop_sub (me_v S 3 rfl) me_int) (ma_cons (me_v S 1 rfl) ma_nil)) (an_cons (an_cons an_nil))) (me_bin (o_mul false) (me_bin mop_sub (me_v S 3 rfl) me_int) (me_bin mop_sub me_int (me_bin (o_mul false) me_int (me_bin mop_mod (me_v S 1 rfl) me_int))))) (ma_cons (me_bin (o_mul false) (me_v S 3 rfl) (me_callD S 3 D__law_power (k := 1) (by decide) hr Bd.tk rfl (ma_cons (me_bin mop_sub (me_v S 3 rfl) me_int) (ma_cons (me_bin mop_sub (me_v S 1 rfl) me_int) ma_nil)) (an_cons (an_cons an_nil)))) (ma_cons (me_v S 2 rfl) (ma_cons (me_callD S 3 D__law_power (k := 1) (by decide) hr Bd.tk rfl (ma_cons (me_v S 3 rfl) (ma_cons (me_v S 1 rfl) ma_nil)) (an_cons (an_cons an_nil))) ma_nil))))) (by rfl))
  (mss_cons (ms_setv S B 8 rfl (me_lst false (ma_cons (me_toldS (k := 4) (k' := 6) S 4 rfl (D__law_told _ rfl rfl rfl rfl rfl) LT hr (by decide) B (lamS1_by (by kernel_rfl)) (.no rfl rfl (fun _ _ _ _ _ _ => rfl)) (fun _ _ _ _ _ _ _ => sc_lam (N := N__law_great) (vis := [(2, "many"), (4, "ring")]) (gls := ["count_colours"]) rfl (by kernel_rfl)) (fun _ _ _ _ _ _ _ hr S1 B1 tk1 => (me_callD S1 0 D_count_colours (k := 4) (by decide) hr tk1 rfl (ma_cons (me_v S1 1 rfl) (ma_cons (me_v S1 0 rfl) ma_nil)) (an_cons (an_cons an_nil))))) (ma_cons (me_toldS (k := 4) (k' := 6) S 4 rfl (D__law_told _ rfl rfl rfl rfl rfl) LT hr (by decide) B (lamS1_by (by kernel_rfl)) (.one "a" _ _ _ rfl rfl (fun _ _ _ _ _ _ _ => ⟨_, rfl, fun _ => rfl⟩) (by kernel_rfl)) (fun _ _ _ _ _ _ _ => sc_lam (N := N__law_great) (vis := [(2, "many"), (5, "line")]) (gls := ["count_colours"]) rfl (by kernel_rfl)) (fun _ _ _ _ _ _ _ hr S1 B1 tk1 => (me_callD S1 0 D_count_colours (k := 4) (by decide) hr tk1 rfl (ma_cons (me_v S1 1 rfl) (ma_cons (me_v S1 0 rfl) ma_nil)) (an_cons (an_cons an_nil))))) (ma_cons (me_toldS (k := 4) (k' := 6) S 4 rfl (D__law_told _ rfl rfl rfl rfl rfl) LT hr (by decide) B (lamS1_by (by kernel_rfl)) (.one "b" _ _ _ rfl rfl (fun _ _ _ _ _ _ _ => ⟨_, rfl, fun _ => rfl⟩) (by kernel_rfl)) (fun _ _ _ _ _ _ _ => sc_lam (N := N__law_great) (vis := [(2, "many"), (6, "whole")]) (gls := ["count_colours"]) rfl (by kernel_rfl)) (fun _ _ _ _ _ _ _ hr S1 B1 tk1 => (me_callD S1 0 D_count_colours (k := 4) (by decide) hr tk1 rfl (ma_cons (me_v S1 1 rfl) (ma_cons (me_v S1 0 rfl) ma_nil)) (an_cons (an_cons an_nil))))) (ma_cons (me_toldS (k := 4) (k' := 6) S 4 rfl (D__law_told _ rfl rfl rfl rfl rfl) LT hr (by decide) B (lamS1_by (by kernel_rfl)) (.one "c" _ _ _ rfl rfl (fun _ _ _ _ _ _ _ => ⟨_, rfl, fun _ => rfl⟩) (by kernel_rfl)) (fun _ _ _ _ _ _ _ => sc_lam (N := N__law_great) (vis := [(2, "many"), (1, "size")]) (gls := ["count_colours"]) rfl (by kernel_rfl)) (fun _ _ _ _ _ _ _ hr S1 B1 tk1 => (me_callD S1 0 D_count_colours (k := 4) (by decide) hr tk1 rfl (ma_cons (me_tup (ma_cons (me_v S1 1 rfl) (ma_cons (me_tup ma_nil) ma_nil))) (ma_cons (me_v S1 0 rfl) ma_nil)) (an_cons (an_cons an_nil))))) ma_nil))))) (by rfl))
  (mss_one (ms_ret (me_cmp (o_eq B) (me_v S 5 rfl) (me_lcS false B (own := [("own", 10)]) (is := [10]) (vis := [(10, "own")]) (loc := [(10, "own")]) (gls := []) (mi_seq (me_v S 6 rfl)) (blkOk_by (by kernel_rfl)) (fun _ _ _ _ _ => sc_blk (N := N__law_great) (sc := defScope (top 37)) rfl rfl (by kernel_rfl)) (fun _ _ _ _ _ S1 B1 => (mg_v S1 B1 0 rfl)) (fun _ _ _ _ _ S1 B1 => mts_nil) (fun _ _ _ _ _ S1 B1 => (me_tup (ma_cons me_str (ma_cons (me_v S1 0 rfl) ma_nil))))) (nomark _))))))))))))

def N__law_refuses : List Str := ["graph", "odd"]
def m__law_refuses : Ms := (sSeq (sAsg (mLst false (aCons (mTold (mCall F_polynomial (aCons (mTup (aCons (mC (.int 0)) (aCons (mTup aNil) aNil))) aNil))) (aCons (mTold (mCall F_count_colours (aCons (mVar 0) (aCons (mU gNeg (mC (.int 1))) aNil)))) (aCons (mTold (mCall F_polynomial (aCons (mTup (aCons (mC (.int 1)) (aCons (mTup (aCons (mTup (aCons (mC (.int 0)) (aCons (mC (.int 1)) aNil))) aNil)) aNil))) aNil))) aNil)))) (gN 1))
  (sRet (mAnd (mB (gEqD false) (mVar 1) (mB (aMul false) (mLst false (aCons (mTup (aCons (mC (.str "refused")) aNil)) aNil)) (mC (.int 3)))) (mB (gEqD false) (mLst false (aCons (mTold (mCall F_polynomial (aCons (mTup (aCons (mC (.int 10)) (aCons (mTup aNil) aNil))) aNil))) (aCons (mTold (mCall F_count_colours (aCons (mTup (aCons (mC (.int 61)) (aCons (mTup aNil) aNil))) (aCons (mC (.int 3)) aNil)))) aNil))) (mB (aMul false) (mLst false (aCons (mTup (aCons (mC (.str "large")) aNil)) aNil)) (mC (.int 2)))))))
def F__law_refuses : List D → Hh → R D := pure1 <| runF N__law_refuses.length m__law_refuses

theorem D__law_refuses (FF : FnP K mg "_law_refuses" (top 38))  (TB : TabY T K mg base "_law_refuses") (D__law_told : ToldIn T P wo K mg base "_law_told") (D_polynomial : Df T P wo K mg base "polynomial" 3 ["graph"] F_polynomial) (D_count_colours : Df T P wo K mg base "count_colours" 4 ["graph", "many"] F_count_colours) : Df T P wo K mg base "_law_refuses" 7 ["graph"] F__law_refuses := by
  refine Df.pure (df_ofC (N := N__law_refuses) (vis := [(1, "odd")]) (loc := [(1, "odd")]) (gls := ["_law_told"]) (k := 6) (m := m__law_refuses) FF (by kernel_rfl) (by kernel_rfl) (fun _ _ _ _ _ _ us hl => match us, hl with | [_], _ => rfl) fun cdv A outer s H E hc hr Bd B S => ?_) (fun _ _ _ h => runF_nil h) (fun _ _ _ h => runF_nilX h)
  have LT : TabX T (cxD P wo K mg base N__law_refuses "_law_refuses" (top 38) cdv A outer s H E) := tabX_of TB hc
  exact (mss_cons (ms_setv S B 0 rfl (me_lst false (ma_cons (me_toldS (k := 4) (k' := 6) S 0 rfl (D__law_told _ rfl rfl rfl rfl rfl) LT hr (by decide) B (lamS1_by (by kernel_rfl)) (.no rfl rfl (fun _ _ _ _ _ _ => rfl)) (fun _ _ _ _ _ _ _ => sc_lam (N := N__law_refuses) (vis := []) (gls := ["polynomial"]) rfl (by kernel_rfl)) (fun _ _ _ _ _ _ _ hr S1 B1 tk1 => (me_callD S1 0 D_polynomial (k := 3) (by decide) hr tk1 rfl (ma_cons (me_tup (ma_cons me_int (ma_cons (me_tup ma_nil) ma_nil))) ma_nil) (an_cons an_nil)))) (ma_cons (me_toldS (k := 4) (k' := 6) S 0 rfl (D__law_told _ rfl rfl rfl rfl rfl) LT hr (by decide) B (lamS1_by (by kernel_rfl)) (.one "a" _ _ _ rfl rfl (fun _ _ _ _ _ _ _ => ⟨_, rfl, fun _ => rfl⟩) (by kernel_rfl)) (fun _ _ _ _ _ _ _ => sc_lam (N := N__law_refuses) (vis := [(0, "graph")]) (gls := ["count_colours"]) rfl (by kernel_rfl)) (fun _ _ _ _ _ _ _ hr S1 B1 tk1 => (me_callD S1 0 D_count_colours (k := 4) (by decide) hr tk1 rfl (ma_cons (me_v S1 0 rfl) (ma_cons (me_un mun_neg me_int) ma_nil)) (an_cons (an_cons an_nil))))) (ma_cons (me_toldS (k := 4) (k' := 6) S 0 rfl (D__law_told _ rfl rfl rfl rfl rfl) LT hr (by decide) B (lamS1_by (by kernel_rfl)) (.one "b" _ _ _ rfl rfl (fun _ _ _ _ _ _ _ => ⟨_, rfl, fun _ => rfl⟩) (by kernel_rfl)) (fun _ _ _ _ _ _ _ => sc_lam (N := N__law_refuses) (vis := []) (gls := ["polynomial"]) rfl (by kernel_rfl)) (fun _ _ _ _ _ _ _ hr S1 B1 tk1 => (me_callD S1 0 D_polynomial (k := 3) (by decide) hr tk1 rfl (ma_cons (me_tup (ma_cons me_int (ma_cons (me_tup (ma_cons (me_tup (ma_cons me_int (ma_cons me_int ma_nil))) ma_nil)) ma_nil))) ma_nil) (an_cons an_nil)))) ma_nil)))) (by rfl))
  (mss_one (ms_ret (me_and (me_cmp (o_eq B) (me_v S 0 rfl) (me_bin (o_mul false) (me_lst false (ma_cons (me_tup (ma_cons me_str ma_nil)) ma_nil)) me_int) (nomark _)) (me_one (me_cmp (o_eq B) (me_lst false (ma_cons (me_toldS (k := 4) (k' := 6) S 0 rfl (D__law_told _ rfl rfl rfl rfl rfl) LT hr (by decide) B (lamS1_by (by kernel_rfl)) (.no rfl rfl (fun _ _ _ _ _ _ => rfl)) (fun _ _ _ _ _ _ _ => sc_lam (N := N__law_refuses) (vis := []) (gls := ["polynomial"]) rfl (by kernel_rfl)) (fun _ _ _ _ _ _ _ hr S1 B1 tk1 => (me_callD S1 0 D_polynomial (k := 3) (by decide) hr tk1 rfl (ma_cons (me_tup (ma_cons me_int (ma_cons (me_tup ma_nil) ma_nil))) ma_nil) (an_cons an_nil)))) (ma_cons (me_toldS (k := 4) (k' := 6) S 0 rfl (D__law_told _ rfl rfl rfl rfl rfl) LT hr (by decide) B (lamS1_by (by kernel_rfl)) (.one "a" _ _ _ rfl rfl (fun _ _ _ _ _ _ _ => ⟨_, rfl, fun _ => rfl⟩) (by kernel_rfl)) (fun _ _ _ _ _ _ _ => sc_lam (N := N__law_refuses) (vis := []) (gls := ["count_colours"]) rfl (by kernel_rfl)) (fun _ _ _ _ _ _ _ hr S1 B1 tk1 => (me_callD S1 0 D_count_colours (k := 4) (by decide) hr tk1 rfl (ma_cons (me_tup (ma_cons me_int (ma_cons (me_tup ma_nil) ma_nil))) (ma_cons me_int ma_nil)) (an_cons (an_cons an_nil))))) ma_nil))) (me_bin (o_mul false) (me_lst false (ma_cons (me_tup (ma_cons me_str ma_nil)) ma_nil)) me_int) (nomark _)))))))

def N_law : List Str := ["script", "state", "turn", "graph"]
def m_law : Ms := (sSeq (sAsg (mLst true (aCons (mCall F__law_stream (aCons (mVar 0) aNil)) (aCons (mC (.int 0)) aNil))) (gN 1))
  (sSeq (sIf (tV (mB (gEqD true) (mC (.int 9)) (mC (.int 9)))) (sRet (mC (.bl false))) sNil)
  (sSeq (sFor (srcR1 (aCons (mC (.int 3)) aNil)) (gN 2) (sSeq (sAsg (mIf (tV (mB iGt (mVar 2) (mC (.int 0)))) (mCall F__law_dense (aCons (mVar 1) (aCons (mC (.int 6)) aNil))) (mCall F__law_graph (aCons (mVar 1) (aCons (mC (.int 6)) (aCons (mC (.int 9)) aNil))))) (gN 3))
  (sIf (tOrM (tNotM (tV (mCall F__law_graph_fits (aCons (mVar 1) (aCons (mVar 3) aNil))))) (tOrM (tNotM (tV (mCall F__law_refuses (aCons (mVar 3) aNil)))) (tNotM (tV (mCall F__law_great (aCons (mVar 1) aNil)))))) (sRet (mC (.bl false))) sNil)))
  (sRet (mC (.bl true))))))
def F_law : List D → Hh → R D := pure1 <| runF N_law.length m_law

theorem D_law (FF : FnP K mg "law" (top 39)) (G_MAX_COUNTED : ∃ t, mg "MAX_COUNTED" = some (.int 9 t)) (G_range : mg "range" = none) (D__law_stream : Df T P wo K mg base "_law_stream" 1 ["script"] F__law_stream) (D__law_dense : Df T P wo K mg base "_law_dense" 2 ["state", "most"] F__law_dense) (D__law_graph : Df T P wo K mg base "_law_graph" 2 ["state", "most", "many"] F__law_graph) (D__law_graph_fits : Df T P wo K mg base "_law_graph_fits" 7 ["state", "graph"] F__law_graph_fits) (D__law_refuses : Df T P wo K mg base "_law_refuses" 7 ["graph"] F__law_refuses) (D__law_great : Df T P wo K mg base "_law_great" 7 ["state"] F__law_great) : Df T P wo K mg base "law" 8 ["script"] F_law := by
  refine Df.pure (df_ofS (N := N_law) (vis := [(0, "script"), (2, "turn"), (1, "state"), (3, "graph")]) (loc := [(1, "state"), (2, "turn"), (3, "graph")]) (gls := ["_law_stream", "MAX_COUNTED", "range", "_law_dense", "_law_graph", "_law_great", "_law_refuses", "_law_graph_fits"]) (k := 7) (m := m_law) FF (by kernel_rfl) (by kernel_rfl) (fun _ _ _ _ _ _ us hl => match us, hl with | [_], _ => rfl) fun cdv A outer s H E hr Bd B S => ?_) (fun _ _ _ h => runF_nil h) (fun _ _ _ h => runF_nilX h)
  exact (mss_cons (ms_setv S B 0 rfl (me_lst true (ma_cons (me_callD S 0 D__law_stream (k := 1) (by decide) hr Bd.tk rfl (ma_cons (me_v S 0 rfl) ma_nil) (an_cons an_nil)) (ma_cons me_int ma_nil))) (by rfl))
  (mss_cons (ms_if (mt_cmp (o_ne B) (me_G S 1 rfl G_MAX_COUNTED) me_int (nomark _)) (mss_one (ms_ret me_bl)) mss_nil)
  (mss_cons (ms_for (is := [2]) Bd.own B.calm (mi_range1 (S.at_g 2 rfl) G_range (ma_cons me_int ma_nil)) (mg_v S B 1 rfl) (mss_cons (ms_setv S B 2 rfl (me_if (mt_cmp mop_gt (me_v S 1 rfl) me_int (nomark _)) (me_callD S 3 D__law_dense (k := 2) (by decide) hr Bd.tk rfl (ma_cons (me_v S 2 rfl) (ma_cons me_int ma_nil)) (an_cons (an_cons an_nil))) (me_callD S 4 D__law_graph (k := 2) (by decide) hr Bd.tk rfl (ma_cons (me_v S 2 rfl) (ma_cons me_int (ma_cons me_int ma_nil))) (an_cons (an_cons (an_cons an_nil))))) (by rfl))
  (mss_one (ms_if (MW.mt (mw_or (mt_not (mt_val (me_callD S 7 D__law_graph_fits (k := 7) (by decide) hr Bd.tk rfl (ma_cons (me_v S 2 rfl) (ma_cons (me_v S 3 rfl) ma_nil)) (an_cons (an_cons an_nil))))) (mw_or (mt_not (mt_val (me_callD S 6 D__law_refuses (k := 7) (by decide) hr Bd.tk rfl (ma_cons (me_v S 3 rfl) ma_nil) (an_cons an_nil)))) (mw_or1 (mt_not (mt_val (me_callD S 5 D__law_great (k := 7) (by decide) hr Bd.tk rfl (ma_cons (me_v S 2 rfl) ma_nil) (an_cons an_nil)))))))) (mss_one (ms_ret me_bl)) mss_nil))))
  (mss_one (ms_ret me_bl)))))

end
end K56
/-! ### the head -/
namespace K56
open PySem PySem.Spec PyProof.Rows L2 LamX He Rf
def mkD (i : Nat) (n : Str) : DefD := ⟨(n, none), n, n, defArgs (top i), defBody (top i), defScope (top i), [], []⟩
def fn : List DefD := ([mkD 9 "check_graph", mkD 10 "check_dart", mkD 11 "check_edges", mkD 12 "known_kept", mkD 13 "left_out", mkD 14 "contracted", mkD 16 "known_rows", mkD 19 "has_loop", mkD 20 "known_parts", mkD 21 "check_counted", mkD 22 "count_colours", mkD 23 "power_of"] : List DefD) ++ ([mkD 24 "polynomial", mkD 27 "_law_stream", mkD 28 "_law_next", mkD 29 "_law_told", mkD 30 "_law_graph", mkD 32 "_law_dense", mkD 33 "_law_tried", mkD 34 "_law_sum", mkD 35 "_law_graph_fits", mkD 36 "_law_power", mkD 37 "_law_great", mkD 38 "_law_refuses"] : List DefD) ++ ([mkD 39 "law"] : List DefD)
def fa : List Fa := ([.glo "check_graph", .glo "check_dart", .glo "check_edges", .glo "known_kept", .glo "left_out", .glo "contracted", .glo "known_rows", .glo "has_loop", .glo "known_parts", .glo "check_counted", .glo "count_colours", .glo "power_of"] : List Fa) ++ ([.glo "polynomial", .glo "_law_stream", .glo "_law_next", .glo "_law_told", .glo "_law_graph", .glo "_law_dense", .glo "_law_tried", .glo "_law_sum", .glo "_law_graph_fits", .glo "_law_power", .glo "_law_great", .glo "_law_refuses"] : List Fa) ++ ([.glo "law", .glo "FlatError", .glo "NotAllowed", .glo "TooLarge", .glo "Missing", .glo "BadPaper", .int "MAX_EDGES" 180, .int "MAX_NODES" 60, .free "all", .free "len", .free "tuple", .free "range"] : List Fa) ++ ([.free "sorted", .free "any", .free "abs", .free "int", .free "isinstance", .free "list", .free "set", .free "enumerate", .int "MAX_COUNTED" 9, .free "max", .free "min", .free "zip"] : List Fa) ++ ([.free "sum"] : List Fa)
def lams : List Str := (["_law_graph_fits", "_law_great", "_law_refuses"] : List Str)
def tf : List Defn := lams.map fun n => (n, none)
abbrev RW : PySem.W.OpenRow := PySem.W.OpenLaw.row PySem.Challenge.rw_flatproved_k56_whole_colours_counted
abbrev hk : PySem.W.Hook := hookX 5 fa fn [] tf (exAll lams)
def ob (s : PySem.W.SharedT) : AlX := obsX 5 fa fn [] tf (exAll lams) (HandSHeadRun.getT s)
theorem ob_eq (s : PySem.W.SharedT) : ob s = hk.obs s.abs := obsX_eq (HandSHeadRun.getT_eq s)
def loose : List Str := (["FlatError", "NotAllowed", "TooLarge", "Missing", "BadPaper", "MAX_NODES", "MAX_EDGES", "check_graph", "check_dart", "check_edges", "known_kept", "left_out"] : List Str) ++ (["contracted", "known_rows", "MAX_COUNTED", "has_loop", "known_parts", "check_counted", "count_colours", "power_of", "polynomial", "_law_same", "_law_stream", "_law_next"] : List Str) ++ (["_law_told", "_law_graph", "_law_weights", "_law_dense", "_law_tried", "_law_sum", "_law_graph_fits", "_law_power", "_law_great", "_law_refuses"] : List Str)
theorem run (w : World) : HandSHeadRun.RunEq RW (PySem.W.view RW.prog [39]) hk ob 4000 loose w := by
  intro os
  kernel_rfl
theorem fp_law {w : World} {K : PySem.W.Frag} {h : Heap} {mg : Str → Option Value} (X : K.In h) (G : h.Ns mainGlobals mg) (c : SaysX fa fn [] tf (exAll lams) w h K) : FnP K mg "law" (top 39) := ⟨c.t.d.def_ 24 (d := mkD 39 "law") rfl, glo_ok X G (c.t.d.fact 24 (f := .glo "law") rfl)⟩
theorem df_law {w : World} {K : PySem.W.Frag} {h : Heap} {mg : Str → Option Value} (X : K.In h) (G : h.Ns mainGlobals mg) (c : SaysX fa fn [] tf (exAll lams) w h K) (P : Program) (wo : World) (base : Heap) (hT : ∀ p ∈ lams.map fun x => cT K (x, none), TabB base mg p.1 p.2) : Df (tabsT K lams) P wo K mg base "law" 8 ["script"] F_law := by
  have E0 := ex0 c.more
  have G_ex : ExF K mg := exF_of E0.f fun e => by
    cases e with
    | na => exact (glo_ok X G (c.t.d.fact 26 (f := .glo "NotAllowed") rfl))
    | tl => exact (glo_ok X G (c.t.d.fact 27 (f := .glo "TooLarge") rfl))
    | mi => exact (glo_ok X G (c.t.d.fact 28 (f := .glo "Missing") rfl))
    | bp => exact (glo_ok X G (c.t.d.fact 29 (f := .glo "BadPaper") rfl))
  have G_is : ExI K := exI_of E0.i
  have G_MAX_EDGES : ∃ t, mg "MAX_EDGES" = some (.int 180 t) := int_ok X G (c.t.d.fact 30 (f := .int "MAX_EDGES" 180) rfl)
  have G_MAX_NODES : ∃ t, mg "MAX_NODES" = some (.int 60 t) := int_ok X G (c.t.d.fact 31 (f := .int "MAX_NODES" 60) rfl)
  have G_all : mg "all" = none := free_ok X G (c.t.d.fact 32 (f := .free "all") rfl)
  have G_len : mg "len" = none := free_ok X G (c.t.d.fact 33 (f := .free "len") rfl)
  have G_tuple : mg "tuple" = none := free_ok X G (c.t.d.fact 34 (f := .free "tuple") rfl)
  have G_range : mg "range" = none := free_ok X G (c.t.d.fact 35 (f := .free "range") rfl)
  have G_sorted : mg "sorted" = none := free_ok X G (c.t.d.fact 36 (f := .free "sorted") rfl)
  have G_any : mg "any" = none := free_ok X G (c.t.d.fact 37 (f := .free "any") rfl)
  have G_abs : mg "abs" = none := free_ok X G (c.t.d.fact 38 (f := .free "abs") rfl)
  have G_int : mg "int" = none := free_ok X G (c.t.d.fact 39 (f := .free "int") rfl)
  have G_isinstance : mg "isinstance" = none := free_ok X G (c.t.d.fact 40 (f := .free "isinstance") rfl)
  have G_list : mg "list" = none := free_ok X G (c.t.d.fact 41 (f := .free "list") rfl)
  have G_set : mg "set" = none := free_ok X G (c.t.d.fact 42 (f := .free "set") rfl)
  have G_enumerate : mg "enumerate" = none := free_ok X G (c.t.d.fact 43 (f := .free "enumerate") rfl)
  have G_MAX_COUNTED : ∃ t, mg "MAX_COUNTED" = some (.int 9 t) := int_ok X G (c.t.d.fact 44 (f := .int "MAX_COUNTED" 9) rfl)
  have G_max : mg "max" = none := free_ok X G (c.t.d.fact 45 (f := .free "max") rfl)
  have G_min : mg "min" = none := free_ok X G (c.t.d.fact 46 (f := .free "min") rfl)
  have G_zip : mg "zip" = none := free_ok X G (c.t.d.fact 47 (f := .free "zip") rfl)
  have G_sum : mg "sum" = none := free_ok X G (c.t.d.fact 48 (f := .free "sum") rfl)
  have FF_check_graph : FnP K mg "check_graph" (top 9) := ⟨c.t.d.def_ 0 (d := mkD 9 "check_graph") rfl, glo_ok X G (c.t.d.fact 0 (f := .glo "check_graph") rfl)⟩
  have FF_check_dart : FnP K mg "check_dart" (top 10) := ⟨c.t.d.def_ 1 (d := mkD 10 "check_dart") rfl, glo_ok X G (c.t.d.fact 1 (f := .glo "check_dart") rfl)⟩
  have FF_check_edges : FnP K mg "check_edges" (top 11) := ⟨c.t.d.def_ 2 (d := mkD 11 "check_edges") rfl, glo_ok X G (c.t.d.fact 2 (f := .glo "check_edges") rfl)⟩
  have FF_known_kept : FnP K mg "known_kept" (top 12) := ⟨c.t.d.def_ 3 (d := mkD 12 "known_kept") rfl, glo_ok X G (c.t.d.fact 3 (f := .glo "known_kept") rfl)⟩
  have FF_left_out : FnP K mg "left_out" (top 13) := ⟨c.t.d.def_ 4 (d := mkD 13 "left_out") rfl, glo_ok X G (c.t.d.fact 4 (f := .glo "left_out") rfl)⟩
  have FF_contracted : FnP K mg "contracted" (top 14) := ⟨c.t.d.def_ 5 (d := mkD 14 "contracted") rfl, glo_ok X G (c.t.d.fact 5 (f := .glo "contracted") rfl)⟩
  have FF_known_rows : FnP K mg "known_rows" (top 16) := ⟨c.t.d.def_ 6 (d := mkD 16 "known_rows") rfl, glo_ok X G (c.t.d.fact 6 (f := .glo "known_rows") rfl)⟩
  have FF_has_loop : FnP K mg "has_loop" (top 19) := ⟨c.t.d.def_ 7 (d := mkD 19 "has_loop") rfl, glo_ok X G (c.t.d.fact 7 (f := .glo "has_loop") rfl)⟩
  have FF_known_parts : FnP K mg "known_parts" (top 20) := ⟨c.t.d.def_ 8 (d := mkD 20 "known_parts") rfl, glo_ok X G (c.t.d.fact 8 (f := .glo "known_parts") rfl)⟩
  have FF_check_counted : FnP K mg "check_counted" (top 21) := ⟨c.t.d.def_ 9 (d := mkD 21 "check_counted") rfl, glo_ok X G (c.t.d.fact 9 (f := .glo "check_counted") rfl)⟩
  have FF_count_colours : FnP K mg "count_colours" (top 22) := ⟨c.t.d.def_ 10 (d := mkD 22 "count_colours") rfl, glo_ok X G (c.t.d.fact 10 (f := .glo "count_colours") rfl)⟩
  have FF_power_of : FnP K mg "power_of" (top 23) := ⟨c.t.d.def_ 11 (d := mkD 23 "power_of") rfl, glo_ok X G (c.t.d.fact 11 (f := .glo "power_of") rfl)⟩
  have FF_polynomial : FnP K mg "polynomial" (top 24) := ⟨c.t.d.def_ 12 (d := mkD 24 "polynomial") rfl, glo_ok X G (c.t.d.fact 12 (f := .glo "polynomial") rfl)⟩
  have FF__law_stream : FnP K mg "_law_stream" (top 27) := ⟨c.t.d.def_ 13 (d := mkD 27 "_law_stream") rfl, glo_ok X G (c.t.d.fact 13 (f := .glo "_law_stream") rfl)⟩
  have FF__law_next : FnP K mg "_law_next" (top 28) := ⟨c.t.d.def_ 14 (d := mkD 28 "_law_next") rfl, glo_ok X G (c.t.d.fact 14 (f := .glo "_law_next") rfl)⟩
  have FF__law_told : FnP K mg "_law_told" (top 29) := ⟨c.t.d.def_ 15 (d := mkD 29 "_law_told") rfl, glo_ok X G (c.t.d.fact 15 (f := .glo "_law_told") rfl)⟩
  have FF__law_graph : FnP K mg "_law_graph" (top 30) := ⟨c.t.d.def_ 16 (d := mkD 30 "_law_graph") rfl, glo_ok X G (c.t.d.fact 16 (f := .glo "_law_graph") rfl)⟩
  have FF__law_dense : FnP K mg "_law_dense" (top 32) := ⟨c.t.d.def_ 17 (d := mkD 32 "_law_dense") rfl, glo_ok X G (c.t.d.fact 17 (f := .glo "_law_dense") rfl)⟩
  have FF__law_tried : FnP K mg "_law_tried" (top 33) := ⟨c.t.d.def_ 18 (d := mkD 33 "_law_tried") rfl, glo_ok X G (c.t.d.fact 18 (f := .glo "_law_tried") rfl)⟩
  have FF__law_sum : FnP K mg "_law_sum" (top 34) := ⟨c.t.d.def_ 19 (d := mkD 34 "_law_sum") rfl, glo_ok X G (c.t.d.fact 19 (f := .glo "_law_sum") rfl)⟩
  have FF__law_graph_fits : FnP K mg "_law_graph_fits" (top 35) := ⟨c.t.d.def_ 20 (d := mkD 35 "_law_graph_fits") rfl, glo_ok X G (c.t.d.fact 20 (f := .glo "_law_graph_fits") rfl)⟩
  have FF__law_power : FnP K mg "_law_power" (top 36) := ⟨c.t.d.def_ 21 (d := mkD 36 "_law_power") rfl, glo_ok X G (c.t.d.fact 21 (f := .glo "_law_power") rfl)⟩
  have FF__law_great : FnP K mg "_law_great" (top 37) := ⟨c.t.d.def_ 22 (d := mkD 37 "_law_great") rfl, glo_ok X G (c.t.d.fact 22 (f := .glo "_law_great") rfl)⟩
  have FF__law_refuses : FnP K mg "_law_refuses" (top 38) := ⟨c.t.d.def_ 23 (d := mkD 38 "_law_refuses") rfl, glo_ok X G (c.t.d.fact 23 (f := .glo "_law_refuses") rfl)⟩
  have FF_law : FnP K mg "law" (top 39) := ⟨c.t.d.def_ 24 (d := mkD 39 "law") rfl, glo_ok X G (c.t.d.fact 24 (f := .glo "law") rfl)⟩
  have D_check_graph : Df (tabsT K lams) P wo K mg base "check_graph" 1 ["graph"] F_check_graph := K56.D_check_graph FF_check_graph G_MAX_EDGES G_MAX_NODES G_all G_len G_ex
  have D_known_kept : Df (tabsT K lams) P wo K mg base "known_kept" 1 ["graph", "edges"] F_known_kept := K56.D_known_kept FF_known_kept G_tuple
  have D_known_rows : Df (tabsT K lams) P wo K mg base "known_rows" 1 ["graph", "gone"] F_known_rows := K56.D_known_rows FF_known_rows G_range G_sorted
  have D_has_loop : Df (tabsT K lams) P wo K mg base "has_loop" 1 ["graph"] F_has_loop := K56.D_has_loop FF_has_loop G_any
  have D_power_of : Df (tabsT K lams) P wo K mg base "power_of" 1 ["number", "often"] F_power_of := K56.D_power_of FF_power_of G_range
  have D__law_stream : Df (tabsT K lams) P wo K mg base "_law_stream" 1 ["script"] F__law_stream := K56.D__law_stream FF__law_stream G_abs G_int G_len G_range
  have D__law_next : Df (tabsT K lams) P wo K mg base "_law_next" 1 ["state", "many"] F__law_next := K56.D__law_next FF__law_next G_int G_len
  have D__law_told : ToldIn (tabsT K lams) P wo K mg base "_law_told" := fun Y0 h1 h2 h3 h4 h5 => by
    subst h1 h2 h3 h4 h5
    exact K56.D__law_told Y0 FF__law_told G_len G_int G_range G_isinstance G_ex G_is (glo_ok X G (c.t.d.fact 25 (f := .glo "FlatError") rfl)) (exm_of E0.m)
  have D__law_tried : Df (tabsT K lams) P wo K mg base "_law_tried" 1 ["graph", "many"] F__law_tried := K56.D__law_tried FF__law_tried G_any G_int G_range
  have D__law_sum : Df (tabsT K lams) P wo K mg base "_law_sum" 1 ["row", "many"] F__law_sum := K56.D__law_sum FF__law_sum
  have D__law_power : Df (tabsT K lams) P wo K mg base "_law_power" 1 ["number", "often"] F__law_power := K56.D__law_power FF__law_power G_range
  have D_check_dart : Df (tabsT K lams) P wo K mg base "check_dart" 2 ["graph", "dart"] F_check_dart := K56.D_check_dart FF_check_dart G_len G_ex D_check_graph
  have D_check_edges : Df (tabsT K lams) P wo K mg base "check_edges" 2 ["graph", "edges"] F_check_edges := K56.D_check_edges FF_check_edges G_all G_len G_list G_set G_sorted G_ex D_check_graph
  have D_known_parts : Df (tabsT K lams) P wo K mg base "known_parts" 2 ["graph"] F_known_parts := K56.D_known_parts FF_known_parts G_any G_enumerate G_len G_range D_known_rows
  have D_check_counted : Df (tabsT K lams) P wo K mg base "check_counted" 2 ["graph"] F_check_counted := K56.D_check_counted FF_check_counted G_MAX_COUNTED G_ex D_check_graph
  have D__law_graph : Df (tabsT K lams) P wo K mg base "_law_graph" 2 ["state", "most", "many"] F__law_graph := K56.D__law_graph FF__law_graph G_max G_range G_tuple D__law_next
  have D__law_dense : Df (tabsT K lams) P wo K mg base "_law_dense" 2 ["state", "most"] F__law_dense := K56.D__law_dense FF__law_dense G_len G_range G_tuple D__law_next
  have D_left_out : Df (tabsT K lams) P wo K mg base "left_out" 3 ["graph", "edges"] F_left_out := K56.D_left_out FF_left_out G_len G_range D_check_edges D_known_kept
  have D_contracted : Df (tabsT K lams) P wo K mg base "contracted" 3 ["graph", "edge"] F_contracted := K56.D_contracted FF_contracted G_enumerate G_int G_max G_min G_range G_tuple G_ex D_check_dart
  have D_polynomial : Df (tabsT K lams) P wo K mg base "polynomial" 3 ["graph"] F_polynomial := K56.D_polynomial FF_polynomial G_enumerate G_tuple G_zip D_check_counted D_has_loop D_known_parts
  have D_count_colours : Df (tabsT K lams) P wo K mg base "count_colours" 4 ["graph", "many"] F_count_colours := K56.D_count_colours FF_count_colours G_enumerate G_sum G_ex D_check_counted D_power_of D_polynomial
  have D__law_graph_fits : Df (tabsT K lams) P wo K mg base "_law_graph_fits" 7 ["state", "graph"] F__law_graph_fits := K56.D__law_graph_fits FF__law_graph_fits G_any G_int G_len G_range G_tuple (tabY_of E0 (x := "_law_graph_fits") (by decide) hT) D__law_told D__law_next D_polynomial D__law_tried D__law_sum D_count_colours D_left_out D_contracted
  have D__law_great : Df (tabsT K lams) P wo K mg base "_law_great" 7 ["state"] F__law_great := K56.D__law_great FF__law_great G_int G_range G_tuple (tabY_of E0 (x := "_law_great") (by decide) hT) D__law_next D__law_power D__law_told D_count_colours
  have D__law_refuses : Df (tabsT K lams) P wo K mg base "_law_refuses" 7 ["graph"] F__law_refuses := K56.D__law_refuses FF__law_refuses (tabY_of E0 (x := "_law_refuses") (by decide) hT) D__law_told D_polynomial D_count_colours
  have D_law : Df (tabsT K lams) P wo K mg base "law" 8 ["script"] F_law := K56.D_law FF_law G_MAX_COUNTED G_range D__law_stream D__law_dense D__law_graph D__law_graph_fits D__law_refuses D__law_great
  exact D_law
end K56
namespace K56
open PySem PySem.W PySem.Calls PyProof.Rows
theorem holds_of (hF : ∀ ns : List Int, ns.length ≤ 63 → (∀ z ∈ ns, Builtin.Int.intBits z ≤ 1048576) → F_law [.lst (ns.map .int)] [] = .ok (.bl true) []) : PySem.Challenge.rw_flatproved_k56_whole_colours_counted.Holds := by
  w_on; o_law
  refine HandSHeadRun.head_any (r := OpenLaw.row PySem.Challenge.rw_flatproved_k56_whole_colours_counted) (q := view (OpenLaw.row PySem.Challenge.rw_flatproved_k56_whole_colours_counted).prog [39]) (H := hk) (ob := ob) (M := 4000) (loose := loose) (d := HandSHeadRun.topDef (OpenLaw.row PySem.Challenge.rw_flatproved_k56_whole_colours_counted).prog 39) (kwd := []) ob_eq
    (by kernel_rfl) (fun s => by kernel_rfl) run (by kernel_rfl) (by kernel_rfl) (by kernel_rfl) (by rfl) (by first | assumption | decide +kernel) (by decide +kernel) ⟨rfl, rfl, rfl, rfl, rfl, by decide +kernel⟩ ?hw ?hc
  case hw => w_witness2
  case hc =>
    refine LamX.walk_ofTsE (l := PySem.Challenge.rw_flatproved_k56_whole_colours_counted) (n := 63) (k := 8) (x := "script") (CX := fun w => L2N.CX (PySem.Challenge.rw_flatproved_k56_whole_colours_counted).prog w) rfl (by decide) (by kernel_rfl) ⟨rfl, by decide, by decide⟩ ?F (fun _ _ _ _ _ z => Rf.cx_false z)
    intro w mg fa0 h Y G hmg0
    obtain ⟨K, KX, c⟩ := Y
    have hmg : mg ("law" : PySem.Str) = some (.ref fa0) := by
      have e : (HandSHeadRun.topDef (OpenLaw.row PySem.Challenge.rw_flatproved_k56_whole_colours_counted).prog 39).name = ("law" : PySem.Str) := by kernel_rfl
      rw [← e]
      exact hmg0
    exact ⟨K, KX, Rf.lawAt_of (n := 63) (x := "script") KX c.more c.hd c.out c.empty (fp_law KX G c) hmg (fun _ _ _ _ _ _ us hl => match us, hl with | [_], _ => rfl) hF fun base _ _ hT => df_law KX G c _ w base hT⟩
end K56
namespace K56
open PySem PySem.Spec PyProof.Rows L2 Rf

def eD (e : Nat × Nat) : D := .tup [.int e.1, .int e.2]
def gD (n : Nat) (es : List (Nat × Nat)) : D := .tup [.int n, .tup (es.map eD)]
structure OkG (n : Nat) (es : List (Nat × Nat)) : Prop where
  lo : 1 ≤ n
  hi : n ≤ 9
  sz : es.length ≤ 180
  ok : ∀ e ∈ es, e.1 < n ∧ e.2 < n
theorem SZ_big : 1000000 ≤ SZ := by decide
theorem okF_e (n : Nat) (e : Nat × Nat) : okF (n + 2) (eD e) = true := rfl
theorem okF_es (n : Nat) (es : List (Nat × Nat)) : okF (n + 3) (.tup (es.map eD)) = true := by
  simp only [okF, okFs_all, List.mem_map]
  rintro a ⟨e, _, rfl⟩
  exact okF_e n e
theorem okF_g (k n : Nat) (es : List (Nat × Nat)) : okF (k + 4) (gD n es) = true := by
  simp only [gD, okF, okFs, Bool.true_and, Bool.and_true]
  exact okF_es (k + 0) es
theorem nr_g (n : Nat) (es : List (Nat × Nat)) : noref (gD n es) = true := okF_noref (okF_g 0 n es)
@[simp] theorem aIx_g0 (n : Nat) (es : List (Nat × Nat)) (h : Hh) : aIx (gD n es) (.int 0) h = some (.int n, h) := aIx_two0 _ _ _
@[simp] theorem aIx_g1 (n : Nat) (es : List (Nat × Nat)) (h : Hh) : aIx (gD n es) (.int 1) h = some (.tup (es.map eD), h) := aIx_two1 _ _ _ _
theorem check_ok {n : Nat} {es : List (Nat × Nat)} (lo : 1 ≤ n) (hi : n ≤ 60) (sz : es.length ≤ 180) (ok : ∀ e ∈ es, e.1 < n ∧ e.2 < n) (h : Hh) : F_check_graph [gD n es] h = .ok .non h := by
  have hl : es.length ≤ SZ := Nat.le_trans sz (by decide)
  have c1 : ¬ (60 < (n : Int)) := by omega
  have c2 : ¬ (180 < (es.length : Int)) := by omega
  have c3 : ¬ ((n : Int) < 1) := by omega
  refine pure_nxE (by simp [norefs, nr_g]) ?_
  simp only [m_check_graph, gD, N_check_graph]
  simp [c1, c2, c3]
  rw [comp_map eD (fun e => .bl true) (fun e he => ⟨_, rfl, by
    have := ok e he
    have c4 : (e.1 : Int) < n := by omega
    have c5 : (e.2 : Int) < n := by omega
    simp [c4, c5]⟩) hl]
  simp [fAll_map]
theorem loop_ok {n : Nat} {es : List (Nat × Nat)} (sz : es.length ≤ 180) (h : Hh) : F_has_loop [gD n es] h = .ok (.bl (es.any fun e => decide (e.1 = e.2))) h := by
  have hl : es.length ≤ SZ := Nat.le_trans sz (by decide)
  refine pure_rtE (by simp [norefs, nr_g]) rfl ?_
  simp only [m_has_loop, gD, N_has_loop]
  simp
  rw [comp_map eD (fun e => .bl (decide (e.1 = e.2))) (fun e he => ⟨_, rfl, by
    simp [Int.ofNat_inj]⟩) hl]
  simp [fAny_map]
theorem counted_ok {n : Nat} {es : List (Nat × Nat)} (g : OkG n es) (h : Hh) : F_check_counted [gD n es] h = .ok .non h := by
  have c1 : ¬ (9 < (n : Int)) := by have := g.hi; omega
  refine pure_nxE (by simp [norefs, nr_g]) ?_
  simp only [m_check_counted, N_check_counted]
  simp [check_ok g.lo (by have := g.hi; omega) g.sz g.ok]
  simp [gD, c1]
theorem okR_nat {k : Nat} (hk : k ≤ 1000000) : okR (k : Int) = true := by
  simp only [okR, Bool.and_eq_true, decide_eq_true_eq]
  constructor <;> omega
theorem power_ok {m : Int} (h1 : -(2 ^ 64) < m) (h2 : m < 2 ^ 64) {k : Nat} (hk : k ≤ 1000) (h : Hh) : F_power_of [.int m, .int k] h = .ok (.int (m ^ k)) h := by
  refine pure_rtE rfl rfl ?_
  simp only [m_power_of, N_power_of]
  simp [okR_nat (show k ≤ 1000000 by omega)]
  obtain ⟨e', h', e, ⟨x, rfl⟩, rfl⟩ := forR (g := gN 3) (b := sAsg (mB (aMul false) (mVar 2) (mVar 0)) (gN 2)) (all := rng 0 k) (n := k) (lo := 0) (env := [some (.int m), some (.int k), some (.int 1), none]) (h := []) (fun i env h => (∃ x, env = [some (.int m), some (.int k), some (.int (m ^ i)), x]) ∧ h = []) ⟨⟨none, by simp⟩, rfl⟩ (by
    rintro i hi env h ⟨⟨x, rfl⟩, rfl⟩
    simp [aMul_int _ _ (mulOk_r h1 h2), Int.pow_succ])
  rw [e]
  simp
theorem lpower_ok {m : Int} (h1 : -(2 ^ 64) < m) (h2 : m < 2 ^ 64) {k : Nat} (hk : k ≤ 1000) (h : Hh) : F__law_power [.int m, .int k] h = .ok (.int (m ^ k)) h := power_ok h1 h2 hk h
/-- Σ row[i] * m ^ i -/
def evP (m : Int) : List Int → Int
  | [] => 0
  | a :: r => a + m * evP m r
def Sm (l : List Int) : Prop := l.length ≤ 20 ∧ ∀ a ∈ l, a.natAbs < 2 ^ 500
theorem okF_ints (n : Nat) (l : List Int) : okF (n + 2) (.tup (l.map .int)) = true := by
  simp only [okF, okFs_all, List.mem_map]
  rintro a ⟨e, _, rfl⟩
  rfl
theorem nr_ints (l : List Int) : noref (.tup (l.map .int)) = true := okF_noref (okF_ints 0 l)
theorem evP_drop (m : Int) (l : List Int) (k : Nat) (hk : k < l.length) : evP m (l.drop k) = l[k] + m * evP m (l.drop (k + 1)) := by
  rw [List.drop_eq_getElem_cons hk] <;> rfl
theorem lsum_ok {m : Int} (hm : m.natAbs < 2 ^ 20) {l : List Int} (hl : Sm l) (h : Hh) : F__law_sum [.tup (l.map .int), .int m] h = .ok (.int (evP m l)) h := by
  have h1 : -(2 ^ 64) < m := by omega
  have h2 : m < 2 ^ 64 := by omega
  refine pure_rtE (by simp [norefs, nr_ints, noref]) rfl ?_
  simp only [m__law_sum, N__law_sum]
  simp
  obtain ⟨e', h', e, ⟨x, t, rfl, ht⟩, rfl⟩ := forM (g := gN 4) (b := sSeq (sAsg (mB (aAdd false) (mVar 2) (mB (aMul false) (mVar 4) (mVar 3))) (gN 2)) (sAsg (mB (aMul false) (mVar 3) (mVar 1)) (gN 3))) (all := l.map .int) (enc := D.int) (l := l) (env := [some (.tup (l.map .int)), some (.int m), some (.int 0), some (.int 1), none]) (h := [])
    (fun i env h => (∃ x t, env = [some (.tup (l.map .int)), some (.int m), some (.int t), some (.int (m ^ i)), x] ∧ t + m ^ i * evP m (l.drop i) = evP m l) ∧ h = []) ⟨⟨none, 0, by simp, by simp⟩, rfl⟩ (by
    rintro i hi env h ⟨⟨x, t, rfl, ht⟩, rfl⟩
    have hb := mulOk_b (hl.2 l[i] (List.getElem_mem hi)) (pow_b (i := i) hm (by have := hl.1; omega))
    simp [aMul_int _ _ (mulOk_r (i := m ^ i) h1 h2), aMul_int _ _ hb, Int.pow_succ]
    rw [evP_drop m l i hi] at ht
    refine ⟨_, _, ⟨rfl, rfl⟩, ?_⟩
    grind)
  rw [e]
  simp
  simpa [evP] using ht
/-! ### the colourings tried -/
def digs (m : Nat) : Nat → Nat → List Nat
  | 0, _ => []
  | n + 1, k => k % m :: digs m n (k / m)
theorem digs_len (m : Nat) : ∀ n k, (digs m n k).length = n
  | 0, _ => rfl
  | n + 1, k => by simp [digs, digs_len m n]
theorem digs_snoc (m : Nat) : ∀ n k, digs m (n + 1) k = digs m n k ++ [k / m ^ n % m]
  | 0, k => by simp [digs]
  | n + 1, k => by
    rw [digs, digs_snoc m n (k / m), digs]
    simp [Nat.div_div_eq_div_mul, Nat.pow_succ, Nat.mul_comm]
def okC (es : List (Nat × Nat)) (c : List Nat) : Bool := !es.any fun e => decide (c.getD e.1 0 = c.getD e.2 0)
def cntN (f : Nat → Bool) : Nat → Nat
  | 0 => 0
  | k + 1 => cntN f k + (if f k = true then 1 else 0)
def tried (es : List (Nat × Nat)) (n m : Nat) : Nat := cntN (fun k => okC es (digs m n k)) (m ^ n)
theorem fdiv_nat (a b : Nat) : (a : Int).fdiv b = ((a / b : Nat) : Int) := by
  rw [Int.fdiv_eq_ediv_of_nonneg _ (by omega)] <;> rfl
theorem fmod_nat (a b : Nat) : (a : Int).fmod b = ((a % b : Nat) : Int) := by
  rw [Int.fmod_eq_emod_of_nonneg _ (by omega)] <;> rfl
theorem tried_ok {n m : Nat} {es : List (Nat × Nat)} (g : OkG n es) (hm : m ≤ 1000) (hz : m ^ n ≤ 1000000) (h : Hh) : F__law_tried [gD n es, .int m] h = .ok (.int (tried es n m)) h := by
  have hl : es.length ≤ SZ := Nat.le_trans g.sz (by decide)
  have mlo : -(2 ^ 64) < (m : Int) := by omega
  have mhi : (m : Int) < 2 ^ 64 := by omega
  have hn := g.hi
  refine pure_rtE (by simp [norefs, nr_g]) rfl ?_
  simp only [m__law_tried, N__law_tried]
  have hT : ∃ T, T = m ^ n := ⟨_, rfl⟩
  obtain ⟨T, hT⟩ := hT
  have hTR : okR (T : Int) = true := okR_nat (by rw [hT]; exact hz)
  have hnR : okR (n : Int) = true := okR_nat (by omega)
  simp [hnR]
  refine rt_forR (fun i env h => (∃ x, env = [some (gD n es), some (.int m), some (.int 0), some (.int (m ^ i : Nat)), x, none, none, none, none, none]) ∧ h = []) ⟨⟨none, by simp⟩, rfl⟩ (by
    rintro i hi env h ⟨⟨x, rfl⟩, rfl⟩
    simp [aMul_int _ _ (mulOk_r mlo mhi), Int.pow_succ]) ?_
  rintro _ _ ⟨⟨x, rfl⟩, rfl⟩
  rw [← hT]
  simp [hTR]
  refine rt_forR (fun k env h => ∃ x4 x5 x6 x7, env = [some (gD n es), some (.int m), some (.int (cntN (fun k => okC es (digs m n k)) k)), some (.int T), x4, x5, x6, x7, none, none]) ⟨_, _, _, _, rfl⟩ (by
    rintro k hk env h ⟨x4, x5, x6, x7, rfl⟩
    have m0 : 0 < m := by
      rcases Nat.eq_zero_or_pos m with z | z
      · rw [hT, z, Nat.zero_pow g.lo] at hk
        exact absurd hk (Nat.not_lt_zero _)
      · exact z
    simp [hnR]
    refine end_forR (fun i env h' => ∃ x4, env = [some (gD n es), some (.int m), some (.int (cntN (fun k => okC es (digs m n k)) k)), some (.int T), x4, some (.int k), some (.ref h.length), some (.int (k / m ^ i : Nat)), none, none] ∧ h' = h ++ [.lst ((digs m i k).map fun x => .int (x : Nat))]) ⟨x4, by simp, by simp [digs]⟩ (by
      rintro i hi env h' ⟨x4, rfl, rfl⟩
      have z : ((digs m i k).map fun x => D.int (x : Nat)).length < SZ := by rw [List.length_map, digs_len]; exact Nat.lt_of_lt_of_le (by omega) (le_SZ (n := 20) (by decide))
      simp [iMod_int _ (show (m : Int) ≠ 0 by omega), iDiv_int _ (show (0 : Int) < m by omega) (show (m : Int) < 1073741824 by omega), app_last z]
      have c : (k : Int) / (m : Int) ^ i = ((k / m ^ i : Nat) : Int) := by simp
      have c2 : (k : Int) / (m : Int) ^ (i + 1) = ((k / m ^ (i + 1) : Nat) : Int) := by simp
      rw [c, c2, fdiv_nat, fmod_nat, digs_snoc]
      simp [Nat.div_div_eq_div_mul, Nat.pow_succ]) ?_
    rintro _ _ ⟨x4, rfl, rfl⟩
    simp
    rw [comp_map eD (fun e => .bl (decide ((digs m n k).getD e.1 0 = (digs m n k).getD e.2 0))) (fun e he => ⟨_, rfl, by
      have := g.ok e he
      have l1 : e.1 < ((digs m n k).map fun x => D.int (x : Nat)).length := by rw [List.length_map, digs_len]; exact this.1
      have l2 : e.2 < ((digs m n k).map fun x => D.int (x : Nat)).length := by rw [List.length_map, digs_len]; exact this.2
      have l1' : e.1 < (digs m n k).length := by rw [digs_len]; exact this.1
      have l2' : e.2 < (digs m n k).length := by rw [digs_len]; exact this.2
      simp [aIx_last l1, aIx_last l2, List.getD_eq_getElem?_getD, l1', l2']
      omega⟩) hl]
    simp [fAny_map, cntN, okC]
    simp only [List.getD_eq_getElem?_getD]
    split <;> rfl) ?_
  rintro _ _ ⟨x4, x5, x6, x7, rfl⟩
  simp [tried, hT]
end K56
namespace K56
open PySem PySem.Spec PyProof.Rows L2 Rf
/-! ### an edge left out -/
def dropE (es : List (Nat × Nat)) (k : Nat) : List (Nat × Nat) := ((List.range es.length).filter fun i => decide (i ≠ k)).map fun i => es.getD i (0, 0)
theorem lt_SZ {n : Nat} (h : n < 1000000) : n < SZ := Nat.lt_of_lt_of_le h (le_SZ (Nat.le_refl _))
theorem rng_map (n : Nat) : rng 0 n = (List.range n).map fun i => D.int (i : Nat) := by simp [rng]
theorem kept_ok {n : Nat} {es : List (Nat × Nat)} (g : OkG n es) {l : List Nat} (hl : ∀ i ∈ l, i < es.length) (hz : l.length ≤ 1000) (h : Hh) :
    F_known_kept [gD n es, .lst (l.map fun i => .int (i : Nat))] h = .ok (gD n (l.map fun i => es.getD i (0, 0))) h := by
  have nr : norefs [gD n es, .lst (l.map fun i => .int (i : Nat))] = true := by
    have : norefs (l.map fun i : Nat => D.int (i : Nat)) = true := by
      rw [noref_all]
      intro a ha
      obtain ⟨x, _, rfl⟩ := List.mem_map.mp ha
      rfl
    simp only [norefs, nr_g, noref, this, Bool.and_self]
  refine pure_rtE nr (okF_g 8 n _) ?_
  simp only [m_known_kept, N_known_kept]
  simp
  rw [comp_map (fun i : Nat => D.int (i : Nat)) (fun i => eD (es.getD i (0, 0))) (fun i hi => ⟨_, rfl, by
    have l1 : i < (es.map eD).length := by simpa using hl i hi
    have l2 : i < es.length := hl i hi
    simp [aIx_nat l1, List.getD_eq_getElem?_getD, l2]⟩) (le_SZ (by omega))]
  simp [gD]
theorem sortU_one (a : Int) : sortU [a] = [a] := rfl
theorem edges_ok {n : Nat} {es : List (Nat × Nat)} (g : OkG n es) {k : Nat} (hk : k < es.length) (h : Hh) : F_check_edges [gD n es, .tup [.int k]] h = .ok .non h := by
  refine pure_nxE (by simp [norefs, nr_g, noref]) ?_
  simp only [m_check_edges, N_check_edges]
  have e1 : sortS false (.tup [.int (k : Int)]) [] = .ok (.lst [.int k]) [] := sortS_ok (mt := false) (ns := [(k : Int)]) (h := []) (by simp)
  have e2 : gEqD true (.lst [.int (k : Int)]) (.lst [.int (k : Int)]) [] = some (.bl false, []) := by
    rw [gEqD_simple rfl rfl rfl rfl]
    simp
  simp [check_ok g.lo (by have := g.hi; omega) g.sz g.ok, e1, e2]
  have hk' : (k : Int) < es.length := by omega
  rw [show [D.int (k : Int)] = [k].map (fun i : Nat => D.int (i : Nat)) from rfl, comp_map (fun i : Nat => D.int (i : Nat)) (fun i => .bl true) (fun i hi => ⟨_, rfl, by
    have : i = k := by simpa using hi
    subst this
    simp [hk']⟩) (by simp)]
  have e4 : ∀ h : Hh, fAll [.lst [D.bl true]] h = some (.bl true, h) := fun _ => rfl
  simp [e4]
theorem left_ok {n : Nat} {es : List (Nat × Nat)} (g : OkG n es) {k : Nat} (hk : k < es.length) (h : Hh) : F_left_out [gD n es, .tup [.int k]] h = .ok (gD n (dropE es k)) h := by
  have hz := g.sz
  refine pure_rtE (by simp [norefs, nr_g, noref]) (okF_g 8 n _) ?_
  simp only [m_left_out, N_left_out]
  simp [edges_ok g hk, okR_nat (show es.length ≤ 1000000 by omega), rng_map]
  rw [comp_pure (fun i : Nat => D.int (i : Nat)) (fun i => decide (i ≠ k)) (fun i => .int (i : Nat)) (fun i hi => ⟨_, rfl, by
    have e3 : ∀ h : Hh, aIn true (.int (i : Int)) (.tup [.int (k : Int)]) h = some (.bl (decide (i ≠ k)), h) := fun h => by
      rw [aIn_ints (l := [(k : Int)]) rfl]
      by_cases z : i = k
      · simp [z]
      · have : ¬ (i : Int) = k := by omega
        simp [z, this]
    simp [e3], by simp⟩) (by simpa using le_SZ (by omega))]
  simp
  rw [kept_ok g (fun i hi => by simpa using (List.mem_filter.mp hi).1) (Nat.le_trans (List.length_filter_le _ _) (by simp; omega))]
  simp [dropE]
/-! ### an edge contracted -/
def nmC (low high v : Nat) : Nat := if v = high then low else if high < v then v - 1 else v
def contrE (es : List (Nat × Nat)) (k : Nat) : List (Nat × Nat) :=
  let e := es.getD k (0, 0)
  (dropE es k).map fun x => (nmC (min e.1 e.2) (max e.1 e.2) x.1, nmC (min e.1 e.2) (max e.1 e.2) x.2)
theorem zipIdx_range {α : Type} (l : List α) (d : α) : l.zipIdx = (List.range l.length).map fun i => (l.getD i d, i) := by
  refine List.ext_getElem (by simp) fun i h1 h2 => ?_
  have h3 : i < l.length := by simpa using h1
  simp [List.getD_eq_getElem?_getD, h3]
theorem enumD_map {α : Type} (f : α → D) : ∀ (l : List α) (k : Nat), enumD k (l.map f) = (l.zipIdx k).map fun p => .tup [.int (p.2 : Nat), f p.1]
  | [], _ => rfl
  | a :: r, k => by
    rw [List.map_cons, enumD, enumD_map f r (k + 1)]
    simp
theorem dart_ok {n : Nat} {es : List (Nat × Nat)} (g : OkG n es) {k : Nat} (hk : k < es.length) (h : Hh) : F_check_dart [gD n es, .int (2 * k)] h = .ok .non h := by
  have c1 : (2 : Int) * k < 2 * es.length := by omega
  refine pure_nxE (by simp [norefs, nr_g, noref]) ?_
  simp only [m_check_dart, N_check_dart]
  have c2 : (0 : Int) ≤ 2 * k := by omega
  simp [check_ok g.lo (by have := g.hi; omega) g.sz g.ok, aMul_int _ _ (mulOk_l (i := 2) (j := (es.length : Int)) (by decide) (by decide)), c2]
  simp [show ¬ es.length ≤ k by omega]
@[simp] theorem fMin_e (e : Nat × Nat) (h : Hh) : fMin [eD e] h = some (.int (min e.1 e.2 : Nat), h) := by
  have : fMin [eD e] h = some (.int (minI e.1 [(e.2 : Int)]), h) := rfl
  rw [this]
  have e2 : minI (e.1 : Int) [(e.2 : Int)] = ((min e.1 e.2 : Nat) : Int) := by
    show (if (e.2 : Int) < e.1 then (e.2 : Int) else e.1) = _
    split <;> omega
  rw [e2]
@[simp] theorem fMax_e (e : Nat × Nat) (h : Hh) : fMax [eD e] h = some (.int (max e.1 e.2 : Nat), h) := by
  have : fMax [eD e] h = some (.int (maxI e.1 [(e.2 : Int)]), h) := rfl
  rw [this]
  have e2 : maxI (e.1 : Int) [(e.2 : Int)] = ((max e.1 e.2 : Nat) : Int) := by
    show (if (e.1 : Int) < e.2 then (e.2 : Int) else e.1) = _
    split <;> omega
  rw [e2]
theorem contr_ok {n : Nat} {es : List (Nat × Nat)} (g : OkG n es) {k : Nat} (hk : k < es.length) (hd : (es.getD k (0, 0)).1 ≠ (es.getD k (0, 0)).2) (h : Hh) : F_contracted [gD n es, .int k] h = .ok (gD (n - 1) (contrE es k)) h := by
  have hz := g.sz
  have hn := g.hi
  refine pure_rtE (by simp [norefs, nr_g, noref]) (okF_g 8 _ _) ?_
  simp only [m_contracted, N_contracted]
  have ek : es.getD k (0, 0) = es[k] := by simp [List.getD_eq_getElem?_getD, hk]
  have l1 : k < (es.map eD).length := by simpa using hk
  have hb := g.ok es[k] (List.getElem_mem hk)
  simp [aMul_int _ _ (mulOk_l (i := 2) (j := (k : Int)) (by decide) (by decide)), dart_ok g hk, aIx_nat l1]
  rw [ek] at hd
  obtain ⟨lo, elo⟩ : ∃ lo, lo = min es[k].1 es[k].2 := ⟨_, rfl⟩
  obtain ⟨hi, ehi⟩ : ∃ hi, hi = max es[k].1 es[k].2 := ⟨_, rfl⟩
  rw [← elo, ← ehi]
  have d1 : ¬ ((lo : Int) = hi) := by omega
  have rn : okR (n : Int) = true := okR_nat (by omega)
  simp [d1, rn, rng_map]
  rw [comp_map (fun i : Nat => D.int (i : Nat)) (fun i => .int (nmC lo hi i : Nat)) (fun i hi' => ⟨_, rfl, by
    have : i < n := by simpa using hi'
    by_cases z : (i : Int) = hi
    · have z2 : i = hi := by omega
      simp [z2, nmC]
    · have z2 : ¬ i = hi := by omega
      simp [z, nmC, z2]
      split <;> omega⟩) (by simpa using le_SZ (by omega))]
  simp [enumD_map, zipIdx_range es (0, 0)]
  have n1 : okR (n : Int) = true := rn
  rw [comp_pure (((fun p : (Nat × Nat) × Nat => D.tup [.int (p.2 : Nat), eD p.1]) ∘ fun i => (es[i]?.getD (0, 0), i))) (fun i => decide (i ≠ k)) (fun i => eD (nmC lo hi (es[i]?.getD (0, 0)).1, nmC lo hi (es[i]?.getD (0, 0)).2)) (fun i hi' => ⟨_, rfl, by
    by_cases z : i = k
    · simp [z]
    · have z2 : ¬ (i : Int) = k := by omega
      simp [z, z2], fun _ => by
    have l3 : i < es.length := by simpa using hi'
    have hv := g.ok es[i] (List.getElem_mem l3)
    have q1 : es[i].1 < ((List.range n).map fun i => D.int (nmC lo hi i : Nat)).length := by simpa using hv.1
    have q2 : es[i].2 < ((List.range n).map fun i => D.int (nmC lo hi i : Nat)).length := by simpa using hv.2
    simp [l3, aIx_natL q1, aIx_natL q2, eD]⟩) (by simpa using le_SZ (by omega))]
  have n2 : (n : Int) - 1 = ((n - 1 : Nat) : Int) := by have := g.lo; omega
  have e5 : es[k]?.getD (0, 0) = es[k] := by simp [hk]
  simp [gD, contrE, dropE, n2, e5, ← elo, ← ehi]
end K56
namespace K56
open PySem PySem.Spec PyProof.Rows L2 Rf
/-! ### the polynomial -/
def nxtR (s : Nat) (row : List Int) : List Int := (List.zip (0 :: row.dropLast) row).map fun p => p.1 - s * p.2
def addR (c : Int) (tot row : List Int) : List Int := (List.zip tot row).map fun p => p.1 + c * p.2
def rowK (n : Nat) : Nat → List Int
  | 0 => 1 :: List.replicate n 0
  | s + 1 => nxtR s (rowK n s)
def totK (n : Nat) (cs : List Int) : Nat → List Int
  | 0 => List.replicate (n + 1) 0
  | s + 1 => addR (cs.getD s 0) (totK n cs s) (rowK n s)
theorem rowK_len (n : Nat) : ∀ s, (rowK n s).length = n + 1
  | 0 => by simp [rowK]
  | s + 1 => by simp [rowK, nxtR, rowK_len n s]
theorem totK_len (n : Nat) (cs : List Int) : ∀ s, (totK n cs s).length = n + 1
  | 0 => by simp [totK]
  | s + 1 => by simp [totK, addR, totK_len n cs s, rowK_len n s]
theorem zipD_ints : ∀ a b : List Int, zipD (a.map D.int) (b.map D.int) = (a.zip b).map fun p => .tup [.int p.1, .int p.2]
  | [], _ => by simp [zipD]
  | _ :: _, [] => by simp [zipD]
  | x :: a, y :: b => by simp [zipD, zipD_ints a b]
theorem cut_last (xs : List D) (h : Hh) : gCut false (.lst xs) none (some (-1)) h = some (.lst xs.dropLast, h) := by
  have e : Rf.cutD xs none (some (-1)) = xs.dropLast := by
    unfold Rf.cutD
    have e1 : HT.sIx xs.length 0 none = 0 := rfl
    have e2 : HT.sIx xs.length xs.length (some (-1)) = xs.length - 1 := by
      show (if (-1 : Int) < 0 then ((-1 : Int) + xs.length).toNat else min (-1 : Int).toNat xs.length) = _
      rw [if_pos (by omega)]
      omega
    rw [e1, e2, List.drop_zero, Nat.sub_zero, List.dropLast_eq_take]
  show (match getL h (.lst xs) with | some ys => mk false (Rf.cutD ys none (some (-1))) h | none => none) = _
  simp only [getL_lst, e]
  rfl
theorem poly_loop {n : Nat} {es : List (Nat × Nat)} (g : OkG n es) {cs : List Int} (hc : cs.length = n + 1) (hb : ∀ c ∈ cs, -(2 ^ 64) < c ∧ c < 2 ^ 64) (hk : ∀ h, F_known_parts [gD n es] h = .ok (.lst (cs.map .int)) h) (hl : (es.any fun e => decide (e.1 = e.2)) = false) (h : Hh) :
    F_polynomial [gD n es] h = .ok (.tup ((totK n cs (n + 1)).map .int)) h := by
  have hz := g.sz
  have hn := g.hi
  refine pure_rtE (by simp [norefs, nr_g, noref]) (okF_ints 10 _) ?_
  simp only [m_polynomial, N_polynomial]
  have rn : okR (n : Int) = true := okR_nat (by omega)
  have rn1 : okR ((n : Int) + 1) = true := okR_nat (k := n + 1) (by omega)
  have t1 : ∀ h : Hh, aMul false (.lst [.int 0]) (.int ((n : Int) + 1)) h = some (.lst ((totK n cs 0).map .int), h) := fun h => by
    rw [aMul_lst h false rn1 (by simpa using le_SZ (by omega))]
    simp only [mk_false]
    have : ((n : Int) + 1).toNat = n + 1 := by omega
    rw [this]
    simp [totK, List.map_replicate]
  have t2 : ∀ h : Hh, aMul false (.lst [.int 0]) (.int (n : Int)) h = some (.lst ((List.replicate n (0 : Int)).map .int), h) := fun h => by
    rw [aMul_lst h false rn (by simpa using le_SZ (by omega))]
    simp [List.map_replicate]
  have t3 : ∀ h : Hh, aAdd false (.lst [.int 1]) (.lst ((List.replicate n (0 : Int)).map .int)) h = some (.lst ((rowK n 0).map .int), h) := fun h => by
    rw [aAdd_lst h false (getL_lst _ _) (getL_lst _ _) (by simpa using le_SZ (by omega))]
    rfl
  simp [counted_ok g, loop_ok hz, hl, t1, t2, t3, hk, -List.map_replicate]
  rw [enumD_map]
  refine rt_forM (fun i env h => ∃ x3 x4, env = [some (gD n es), some (.lst ((totK n cs i).map .int)), some (.lst ((rowK n i).map .int)), x3, x4, none, none, none] ∧ h = []) ⟨none, none, rfl, rfl⟩ (by
    rintro i hi env h ⟨x3, x4, rfl, rfl⟩
    have hi' : i < cs.length := by simpa using hi
    have hci := hb cs[i] (List.getElem_mem hi')
    simp [cut_last]
    rw [zipD_ints, comp_map (fun p : Int × Int => D.tup [.int p.1, .int p.2]) (fun p => .int (p.1 + cs[i] * p.2)) (fun p hp => ⟨_, rfl, by
      simp [aMul_int _ _ (mulOk_l (j := p.2) hci.1 hci.2)]⟩) (by simpa [totK_len, rowK_len] using le_SZ (by omega))]
    have hL : ((rowK n i).map D.int).dropLast.length + 1 ≤ SZ := le_SZ (by simp [rowK_len]; omega)
    have hD : D.int 0 :: ((rowK n i).map D.int).dropLast = (0 :: (rowK n i).dropLast).map D.int := by simp [List.map_dropLast]
    have hL2 : n + 1 ≤ SZ := le_SZ (by omega)
    simp [cut_last, rowK_len, hL2, -List.map_dropLast]
    rw [hD]
    obtain ⟨zr, hzr⟩ : ∃ zr, zr = 0 :: (rowK n i).dropLast := ⟨_, rfl⟩
    have hzl : zr.length = n + 1 := by rw [hzr]; simp [rowK_len]
    rw [← hzr]
    rw [zipD_ints, comp_map (fun p : Int × Int => D.tup [.int p.1, .int p.2]) (fun p => .int (p.1 - i * p.2)) (fun p hp => ⟨_, rfl, by
      simp [aMul_int _ _ (mulOk_l (i := (i : Int)) (j := p.2) (by omega) (by omega))]⟩) (by simpa [rowK_len, hzl] using le_SZ (by omega))]
    have e6 : cs.getD i 0 = cs[i] := by simp [List.getD_eq_getElem?_getD, hi']
    simp [totK, rowK, addR, nxtR, e6, hzr]
    intro a b _
    simp [hi']) ?_
  rintro _ _ ⟨x3, x4, rfl, rfl⟩
  simp [hc]
theorem poly_zero {n : Nat} {es : List (Nat × Nat)} (g : OkG n es) (hl : (es.any fun e => decide (e.1 = e.2)) = true) (h : Hh) :
    F_polynomial [gD n es] h = .ok (.tup ((List.replicate (n + 1) (0 : Int)).map .int)) h := by
  have hz := g.sz
  have hn := g.hi
  refine pure_rtE (by simp [norefs, nr_g, noref]) (okF_ints 10 _) ?_
  simp only [m_polynomial, N_polynomial]
  have rn1 : okR ((n : Int) + 1) = true := okR_nat (k := n + 1) (by omega)
  have t1 : ∀ h : Hh, aMul false (.lst [.int 0]) (.int ((n : Int) + 1)) h = some (.lst ((List.replicate (n + 1) (0 : Int)).map .int), h) := fun h => by
    rw [aMul_lst h false rn1 (by simpa using le_SZ (by omega))]
    simp only [mk_false]
    have : ((n : Int) + 1).toNat = n + 1 := by omega
    rw [this]
    simp [List.map_replicate]
  simp [counted_ok g, loop_ok hz, hl, t1, -List.map_replicate]
/-- Σ own * many ^ at -/
def evL (m : Int) (k : Nat) : List Int → Int
  | [] => 0
  | a :: r => a * m ^ k + evL m (k + 1) r
theorem evL_ev (m : Int) : ∀ (l : List Int) (k : Nat), evL m k l = m ^ k * evP m l
  | [], k => by simp [evL, evP]
  | a :: r, k => by
    rw [evL, evL_ev m r (k + 1), evP, Int.pow_succ]
    grind
theorem zip_sum (m : Int) : ∀ (l : List Int) (k : Nat), ((l.zipIdx k).map fun p => p.1 * m ^ p.2).sum = evL m k l
  | [], _ => rfl
  | a :: r, k => by simp [evL, zip_sum m r (k + 1)]
theorem count_ok {n : Nat} {es : List (Nat × Nat)} (g : OkG n es) {p : List Int} (hp : ∀ h, F_polynomial [gD n es] h = .ok (.tup (p.map .int)) h) (hs : Sm p) {m : Nat} (hm : m < 2 ^ 20) (h : Hh) : F_count_colours [gD n es, .int m] h = .ok (.int (evP m p)) h := by
  refine pure_rtE (by simp [norefs, nr_g, noref]) rfl ?_
  simp only [m_count_colours, N_count_colours]
  have c1 : ¬ (m : Int) < 0 := by omega
  simp [counted_ok g, c1, hp, enumD_map]
  rw [comp_map (fun q : Int × Nat => D.tup [.int (q.2 : Nat), .int q.1]) (fun q => .int (q.1 * (m : Int) ^ q.2)) (fun q hq => ⟨_, rfl, by
    have h2 : q.2 < p.length := by
      have := List.snd_lt_of_mem_zipIdx hq
      simpa using this
    have h3 : q.1 ∈ p := List.fst_mem_of_mem_zipIdx hq
    have hq20 := hs.1
    have hb := mulOk_b (hs.2 q.1 h3) (pow_b (m := (m : Int)) (i := q.2) (by omega) (by omega))
    simp [power_ok (m := (m : Int)) (by omega) (by omega) (show q.2 ≤ 1000 by omega), aMul_int _ _ hb]⟩) (by have := hs.1; simpa using le_SZ (by omega))]
  simp [fSum_map, zip_sum, evL_ev]
end K56
namespace K56
open PySem PySem.Spec PyProof.Rows L2 Rf
/-! ### what is refused -/
theorem ref1 (h : Hh) : F_polynomial [.tup [.int 0, .tup []]] h = .exc .na h := by rfl
theorem ref2 (h : Hh) : F_polynomial [.tup [.int 1, .tup [.tup [.int 0, .int 1]]]] h = .exc .na h := by rfl
theorem ref3 (h : Hh) : F_polynomial [.tup [.int 10, .tup []]] h = .exc .tl h := by rfl
theorem ref4 (h : Hh) : F_count_colours [.tup [.int 61, .tup []], .int 3] h = .exc .tl h := by rfl
theorem ref5 {n : Nat} {es : List (Nat × Nat)} (g : OkG n es) (h : Hh) : F_count_colours [gD n es, .int (-1)] h = .exc .na h := by
  refine pure_excE (by simp [norefs, nr_g, noref]) ?_
  simp only [m_count_colours, N_count_colours]
  simp [counted_ok g]
theorem refuses_ok {n : Nat} {es : List (Nat × Nat)} (g : OkG n es) (h : Hh) : F__law_refuses [gD n es] h = .ok (.bl true) h := by
  refine pure_rtE (by simp [norefs, nr_g, noref]) rfl ?_
  simp only [m__law_refuses, N__law_refuses]
  have r3 : okR 3 = true := by decide
  have r2 : okR 2 = true := by decide
  have m3 : ∀ h : Hh, aMul false (.lst [.tup [.str "refused"]]) (.int 3) h = some (.lst [.tup [.str "refused"], .tup [.str "refused"], .tup [.str "refused"]], h) := fun h => by
    rw [aMul_lst h false r3 (by simp)] <;> rfl
  have m2 : ∀ h : Hh, aMul false (.lst [.tup [.str "large"]]) (.int 2) h = some (.lst [.tup [.str "large"], .tup [.str "large"]], h) := fun h => by
    rw [aMul_lst h false r2 (by simp)] <;> rfl
  have q3 : ∀ h : Hh, gEqD false (.lst [.tup [.str "refused"], .tup [.str "refused"], .tup [.str "refused"]]) (.lst [.tup [.str "refused"], .tup [.str "refused"], .tup [.str "refused"]]) h = some (.bl true, h) := fun h => by
    rw [gEqD_simple (by rfl) (by rfl) (by kernel_rfl) (by kernel_rfl)]; simp
  have q2 : ∀ h : Hh, gEqD false (.lst [.tup [.str "large"], .tup [.str "large"]]) (.lst [.tup [.str "large"], .tup [.str "large"]]) h = some (.bl true, h) := fun h => by
    rw [gEqD_simple (by rfl) (by rfl) (by kernel_rfl) (by kernel_rfl)]; simp
  simp [ref1, ref2, ref3, ref4, ref5 g, exT, m3, m2, q3, q2]
end K56
namespace K56
/-! ### polynomials as lists -/
theorem evP_inj : ∀ (p q : List Int) (N : Nat), p.length = q.length → (∀ m : Nat, N ≤ m → evP m p = evP m q) → p = q
  | [], q, _, hl, _ => by cases q with
    | nil => rfl
    | cons => simp at hl
  | a :: p, [], _, hl, _ => by simp at hl
  | a :: p, b :: q, N, hl, h => by
    have key : ∀ m : Nat, N ≤ m → a - b = (m : Int) * (evP m q - evP m p) := fun m hm => by
      have := h m hm
      simp only [evP] at this
      grind
    have hab : a = b := by
      have hM := key (N + (a - b).natAbs + 1) (by omega)
      by_cases z : a - b = 0
      · omega
      · have hd : (((N + (a - b).natAbs + 1 : Nat)) : Int) ∣ (a - b) := ⟨_, hM⟩
        have := Int.natAbs_dvd_natAbs.mpr hd
        have h2 := Nat.le_of_dvd (by omega) this
        omega
    have hpq : p = q := evP_inj p q (N + 1) (by simpa using hl) fun m hm => by
      have := key m (by omega)
      rw [hab] at this
      have h0 : (m : Int) * (evP m q - evP m p) = 0 := by omega
      rcases Int.mul_eq_zero.mp h0 with z | z
      · omega
      · omega
    rw [hab, hpq]
theorem evP_add (m c : Int) : ∀ t r : List Int, t.length = r.length → evP m (addR c t r) = evP m t + c * evP m r
  | [], [], _ => by simp [addR, evP]
  | a :: t, b :: r, h => by
    have := evP_add m c t r (by simpa using h)
    simp only [addR, List.zip_cons_cons, List.map_cons, evP] at this ⊢
    grind
  | [], _ :: _, h => by simp at h
  | _ :: _, [], h => by simp at h
def zipSub (s : Int) (x r : List Int) : List Int := (List.zip x r).map fun p => p.1 - s * p.2
theorem evP_sub (m s : Int) : ∀ x r : List Int, x.length = r.length → evP m (zipSub s x r) = evP m x - s * evP m r
  | [], [], _ => by simp [zipSub, evP]
  | a :: t, b :: r, h => by
    have := evP_sub m s t r (by simpa using h)
    simp only [zipSub, List.zip_cons_cons, List.map_cons, evP] at this ⊢
    grind
  | [], _ :: _, h => by simp at h
  | _ :: _, [], h => by simp at h
theorem evP_last (m : Int) : ∀ r : List Int, r.getLast? = some 0 → evP m r.dropLast = evP m r
  | [], h => by simp at h
  | [a], h => by simp at h; simp [evP, h]
  | a :: b :: r, h => by
    have := evP_last m (b :: r) (by simpa using h)
    simp only [List.dropLast_cons₂, evP] at this ⊢
    grind
theorem evP_zero (m : Int) (k : Nat) : evP m (List.replicate k 0) = 0 := by
  induction k with
  | zero => rfl
  | succ k ih => simp [List.replicate_succ, evP, ih]
/-- m (m-1) .. (m-s+1) -/
def ffall (m : Int) : Nat → Int
  | 0 => 1
  | s + 1 => ffall m s * (m - s)
theorem rowK_z (n : Nat) : ∀ s, s ≤ n → ∀ i, s < i → i ≤ n → (rowK n s)[i]? = some 0
  | 0, _, i, hi, hn => by
    cases i with
    | zero => omega
    | succ j =>
      simp only [rowK, List.getElem?_cons_succ]
      rw [List.getElem?_replicate, if_pos (by omega)]
  | s + 1, hs, i, hi, hn => by
    have h1 := rowK_z n s (by omega) i (by omega) hn
    have h2 := rowK_z n s (by omega) (i - 1) (by omega) (by omega)
    cases i with
    | zero => omega
    | succ j =>
      simp only [Nat.add_sub_cancel] at h2
      have hl := rowK_len n s
      have h3 : ((rowK n s).dropLast)[j]? = some 0 := by
        rw [List.getElem?_dropLast, if_pos (by omega), h2]
      simp [rowK, nxtR, List.getElem?_zip_eq_some, h1, h3, List.zip, List.getElem?_zipWith]
theorem rowK_ev (n : Nat) (m : Int) : ∀ s, s ≤ n → evP m (rowK n s) = ffall m s
  | 0, _ => by simp [rowK, evP, evP_zero, ffall]
  | s + 1, hs => by
    have hl := rowK_len n s
    have h1 : (rowK n s).getLast? = some 0 := by
      rw [List.getLast?_eq_getElem?, hl]
      exact rowK_z n s (by omega) n (by omega) (by omega)
    have e : rowK n (s + 1) = zipSub s (0 :: (rowK n s).dropLast) (rowK n s) := rfl
    rw [e, evP_sub m s _ _ (by simp [hl]), evP, evP_last m _ h1, rowK_ev n m s (by omega), ffall]
    grind
/-- Σ cs[s] (m)_s -/
def ffS (m : Int) (cs : List Int) : Nat → Int
  | 0 => 0
  | s + 1 => ffS m cs s + cs.getD s 0 * ffall m s
theorem totK_ev (n : Nat) (cs : List Int) (m : Int) : ∀ s, s ≤ n + 1 → evP m (totK n cs s) = ffS m cs s
  | 0, _ => by simp [totK, ffS, evP_zero]
  | s + 1, hs => by
    have e : totK n cs (s + 1) = addR (cs.getD s 0) (totK n cs s) (rowK n s) := rfl
    rw [e, evP_add m _ _ _ (by rw [totK_len, rowK_len]), totK_ev n cs m s (by omega), rowK_ev n m s (by omega), ffS]
end K56
namespace K56
/-! ### sums over colours, over colourings -/
def sumN (f : Nat → Int) : Nat → Int
  | 0 => 0
  | k + 1 => sumN f k + f k
theorem sumN_congr {f g : Nat → Int} : ∀ {N : Nat}, (∀ k, k < N → f k = g k) → sumN f N = sumN g N
  | 0, _ => rfl
  | N + 1, h => by rw [sumN, sumN, sumN_congr fun k hk => h k (by omega), h N (by omega)]
theorem sumN_zero {f : Nat → Int} {N : Nat} (h : ∀ k, k < N → f k = 0) : sumN f N = 0 := by
  induction N with
  | zero => rfl
  | succ N ih => rw [sumN, ih fun k hk => h k (by omega), h N (by omega)]; rfl
theorem sumN_add (f g : Nat → Int) : ∀ N, sumN (fun k => f k + g k) N = sumN f N + sumN g N
  | 0 => rfl
  | N + 1 => by simp only [sumN, sumN_add f g N]; omega
theorem sumN_sub (f g : Nat → Int) : ∀ N, sumN (fun k => f k - g k) N = sumN f N - sumN g N
  | 0 => rfl
  | N + 1 => by simp only [sumN, sumN_sub f g N]; omega
theorem sumN_mul (c : Int) (f : Nat → Int) : ∀ N, sumN (fun k => c * f k) N = c * sumN f N
  | 0 => by simp [sumN]
  | N + 1 => by simp only [sumN, sumN_mul c f N]; grind
theorem sumN_swap (f : Nat → Nat → Int) : ∀ A B, sumN (fun a => sumN (fun b => f a b) B) A = sumN (fun b => sumN (fun a => f a b) A) B
  | 0, B => by
    exact (sumN_zero fun _ _ => rfl).symm
  | A + 1, B => by
    rw [sumN, sumN_swap f A B, ← sumN_add] <;> rfl
theorem sumN_cat (f : Nat → Int) (A : Nat) : ∀ B, sumN f (A + B) = sumN f A + sumN (fun k => f (A + k)) B
  | 0 => by simp [sumN]
  | B + 1 => by
    show sumN f (A + B) + f (A + B) = _
    rw [sumN_cat f A B, sumN]
    omega
theorem sumN_block (f : Nat → Int) (A : Nat) : ∀ B, sumN f (A * B) = sumN (fun x => sumN (fun k => f (A * x + k)) A) B
  | 0 => rfl
  | B + 1 => by rw [Nat.mul_succ, sumN_cat, sumN_block f A B, sumN]
theorem sumN_one (f : Nat → Int) {a N : Nat} (ha : a < N) : sumN (fun x => if x = a then f x else 0) N = f a := by
  induction N with
  | zero => omega
  | succ N ih =>
    rw [sumN]
    by_cases z : N = a
    · rw [if_pos z, sumN_zero fun k hk => if_neg (by omega), z]; omega
    · rw [if_neg z, ih (by omega)]; omega
theorem sumN_const (c : Int) : ∀ N : Nat, sumN (fun _ => c) N = N * c
  | 0 => by simp [sumN]
  | N + 1 => by rw [sumN, sumN_const c N]; grind
/-- the sum of f over all colourings of n nodes in m colours -/
def tot (m : Nat) : Nat → (List Nat → Int) → Int
  | 0, f => f []
  | n + 1, f => tot m n fun c => sumN (fun x => f (c ++ [x])) m
/-- a colouring -/
def Col (m n : Nat) (c : List Nat) : Prop := c.length = n ∧ ∀ x ∈ c, x < m
theorem Col.snoc {m n x : Nat} {c : List Nat} (h : Col m n c) (hx : x < m) : Col m (n + 1) (c ++ [x]) := ⟨by simp [h.1], fun y hy => by
  rcases List.mem_append.mp hy with z | z
  · exact h.2 y z
  · rw [List.mem_singleton.mp z]; exact hx⟩
theorem tot_congr {m : Nat} : ∀ {n : Nat} {f g : List Nat → Int}, (∀ c, Col m n c → f c = g c) → tot m n f = tot m n g
  | 0, f, g, h => h [] ⟨rfl, fun _ z => by cases z⟩
  | n + 1, f, g, h => by
    rw [tot, tot]
    exact tot_congr (n := n) fun c hc => sumN_congr fun x hx => h _ (hc.snoc hx)
theorem tot_add {m : Nat} : ∀ (n : Nat) (f g : List Nat → Int), tot m n (fun c => f c + g c) = tot m n f + tot m n g
  | 0, _, _ => rfl
  | n + 1, f, g => by
    rw [tot, tot, tot, ← tot_add n]
    exact tot_congr fun c _ => sumN_add _ _ _
theorem tot_sub {m : Nat} : ∀ (n : Nat) (f g : List Nat → Int), tot m n (fun c => f c - g c) = tot m n f - tot m n g
  | 0, _, _ => rfl
  | n + 1, f, g => by
    rw [tot, tot, tot, ← tot_sub n]
    exact tot_congr fun c _ => sumN_sub _ _ _
theorem tot_mul {m : Nat} (a : Int) : ∀ (n : Nat) (f : List Nat → Int), tot m n (fun c => a * f c) = a * tot m n f
  | 0, _ => rfl
  | n + 1, f => by
    rw [tot, tot, ← tot_mul a n]
    exact tot_congr fun c _ => sumN_mul _ _ _
theorem tot_sumN {m : Nat} (f : Nat → List Nat → Int) (n : Nat) : ∀ B, tot m n (fun c => sumN (fun x => f x c) B) = sumN (fun x => tot m n (f x)) B
  | 0 => by
    have := tot_mul (m := m) 0 n (fun _ => 0)
    simpa [sumN] using this
  | B + 1 => by
    simp only [sumN]
    rw [tot_add, tot_sumN f n B]
theorem digs_mod (m : Nat) : ∀ n k x, digs m n (m ^ n * x + k) = digs m n k
  | 0, _, _ => rfl
  | n + 1, k, x => by
    by_cases hm : m = 0
    · subst hm; simp [Nat.zero_pow]
    · have h1 : m ^ (n + 1) * x = m * (m ^ n * x) := by rw [Nat.pow_succ]; grind
      rw [digs, digs, h1, Nat.mul_add_mod, Nat.mul_add_div (by omega), digs_mod m n]
theorem tot_digs (m : Nat) : ∀ (n : Nat) (f : List Nat → Int), sumN (fun k => f (digs m n k)) (m ^ n) = tot m n f
  | 0, f => by simp [sumN, tot, digs]
  | n + 1, f => by
    rw [Nat.pow_succ, sumN_block, tot, ← tot_digs m n, ← sumN_swap]
    refine sumN_congr fun k hk => sumN_congr fun x hx => ?_
    have hp : 0 < m ^ n := by omega
    have e1 : (m ^ n * x + k) / m ^ n % m = x := by
      rw [Nat.mul_add_div hp, Nat.div_eq_of_lt hk, Nat.add_zero, Nat.mod_eq_of_lt hx]
    rw [digs_snoc, digs_mod, e1]
def ind (b : Bool) : Int := if b = true then 1 else 0
/-- the number of proper colourings -/
def chi (es : List (Nat × Nat)) (n m : Nat) : Int := tot m n fun c => ind (okC es c)
theorem cntN_sum (f : Nat → Bool) : ∀ N, ((cntN f N : Nat) : Int) = sumN (fun k => ind (f k)) N
  | 0 => rfl
  | N + 1 => by
    rw [cntN, sumN, ← cntN_sum f N]
    unfold ind
    split <;> simp
theorem tried_chi (es : List (Nat × Nat)) (n m : Nat) : ((tried es n m : Nat) : Int) = chi es n m := by
  unfold tried chi
  rw [cntN_sum, ← tot_digs]
end K56
namespace K56
/-! ### deletion and contraction -/
def ins (h x : Nat) (c : List Nat) : List Nat := c.take h ++ x :: c.drop h
theorem ins_end (x : Nat) (c : List Nat) : ins c.length x c = c ++ [x] := by simp [ins]
theorem ins_snoc {h : Nat} (y x : Nat) {c : List Nat} (hh : h ≤ c.length) : ins h y (c ++ [x]) = ins h y c ++ [x] := by
  simp [ins, List.take_append_of_le_length hh, List.drop_append_of_le_length hh]
theorem tot_ins (m : Nat) : ∀ (n h : Nat) (f : List Nat → Int), h ≤ n → tot m (n + 1) f = tot m n fun c => sumN (fun x => f (ins h x c)) m
  | n, h, f, hh => by
    by_cases z : h = n
    · rw [tot]
      refine tot_congr fun c hc => sumN_congr fun x _ => ?_
      rw [z, ← hc.1, ins_end]
    · cases n with
      | zero => omega
      | succ n =>
        rw [tot, tot_ins m n h _ (by omega), tot]
        refine tot_congr fun c hc => ?_
        rw [sumN_swap]
        refine sumN_congr fun x _ => sumN_congr fun y _ => ?_
        rw [ins_snoc _ _ (by rw [hc.1]; omega)]
theorem ins_get {lo hi n x v : Nat} {c : List Nat} (hc : c.length = n) (hh : hi ≤ n) (hv : v ≤ n) : (ins hi x c).getD v 0 = if v < hi then c.getD v 0 else if v = hi then x else c.getD (v - 1) 0 := by
  have hl : (c.take hi).length = hi := by simp; omega
  simp only [ins, List.getD_eq_getElem?_getD]
  by_cases h1 : v < hi
  · rw [if_pos h1, List.getElem?_append_left (by omega), List.getElem?_take, if_pos h1]
  · rw [if_neg h1, List.getElem?_append_right (by omega), hl]
    by_cases h2 : v = hi
    · rw [if_pos h2, h2, Nat.sub_self]; rfl
    · rw [if_neg h2]
      obtain ⟨d, hd⟩ : ∃ d, v - hi = d + 1 := ⟨v - hi - 1, by omega⟩
      rw [hd, List.getElem?_cons_succ, List.getElem?_drop]
      have : hi + d = v - 1 := by omega
      rw [this]
theorem ins_nm {lo hi n v : Nat} {c : List Nat} (hc : c.length = n) (hlo : lo < hi) (hh : hi ≤ n) (hv : v ≤ n) : (ins hi (c.getD lo 0) c).getD v 0 = c.getD (nmC lo hi v) 0 := by
  rw [ins_get (lo := lo) hc hh hv]
  unfold nmC
  by_cases h1 : v < hi
  · rw [if_pos h1, if_neg (by omega), if_neg (by omega)]
  · rw [if_neg h1]
    by_cases h2 : v = hi
    · rw [if_pos h2, if_pos h2]
    · rw [if_neg h2, if_neg h2, if_pos (by omega)]
theorem tot_merge {m n lo hi : Nat} (hlo : lo < hi) (hh : hi ≤ n) (F : List Nat → Int) : tot m (n + 1) (fun c => if c.getD lo 0 = c.getD hi 0 then F c else 0) = tot m n fun c => F (ins hi (c.getD lo 0) c) := by
  rw [tot_ins m n hi _ hh]
  refine tot_congr fun c hc => ?_
  have hb : c.getD lo 0 < m := by
    have h1 : lo < c.length := by rw [hc.1]; omega
    rw [List.getD_eq_getElem?_getD, List.getElem?_eq_getElem h1]
    exact hc.2 _ (List.getElem_mem h1)
  rw [← sumN_one (fun x => F (ins hi x c)) hb]
  refine sumN_congr fun x _ => ?_
  have g1 : (ins hi x c).getD lo 0 = c.getD lo 0 := by rw [ins_get (lo := lo) hc.1 hh (by omega), if_pos hlo]
  have g2 : (ins hi x c).getD hi 0 = x := by rw [ins_get (lo := lo) hc.1 hh (by omega), if_neg (Nat.lt_irrefl _), if_pos rfl]
  rw [g1, g2]
  by_cases z : c.getD lo 0 = x
  · rw [if_pos z, if_pos z.symm]
  · rw [if_neg z, if_neg fun e => z e.symm]
theorem okC_iff {es : List (Nat × Nat)} {c : List Nat} : okC es c = true ↔ ∀ e ∈ es, c.getD e.1 0 ≠ c.getD e.2 0 := by
  simp [okC]
theorem mem_drop {es : List (Nat × Nat)} {k : Nat} {e : Nat × Nat} : e ∈ dropE es k ↔ ∃ i, i < es.length ∧ i ≠ k ∧ es.getD i (0, 0) = e := by
  simp only [dropE, List.mem_map, List.mem_filter, List.mem_range, decide_eq_true_eq]
  constructor
  · rintro ⟨i, ⟨h1, h2⟩, h3⟩; exact ⟨i, h1, h2, h3⟩
  · rintro ⟨i, h1, h2, h3⟩; exact ⟨i, ⟨h1, h2⟩, h3⟩
theorem mem_at {es : List (Nat × Nat)} {e : Nat × Nat} : e ∈ es ↔ ∃ i, i < es.length ∧ es.getD i (0, 0) = e := by
  constructor
  · intro h
    obtain ⟨i, hi, e1⟩ := List.mem_iff_getElem.mp h
    exact ⟨i, hi, by simp [List.getD_eq_getElem?_getD, hi, e1]⟩
  · rintro ⟨i, hi, rfl⟩
    simp [List.getD_eq_getElem?_getD, hi]
theorem okC_split {es : List (Nat × Nat)} {k : Nat} (hk : k < es.length) (c : List Nat) : okC es c = true ↔ okC (dropE es k) c = true ∧ c.getD (es.getD k (0, 0)).1 0 ≠ c.getD (es.getD k (0, 0)).2 0 := by
  rw [okC_iff, okC_iff]
  constructor
  · intro h
    exact ⟨fun e he => by obtain ⟨i, h1, _, rfl⟩ := mem_drop.mp he; exact h _ (mem_at.mpr ⟨i, h1, rfl⟩), h _ (mem_at.mpr ⟨k, hk, rfl⟩)⟩
  · rintro ⟨h1, h2⟩ e he
    obtain ⟨i, hi, rfl⟩ := mem_at.mp he
    by_cases z : i = k
    · rw [z]; exact h2
    · exact h1 _ (mem_drop.mpr ⟨i, hi, z, rfl⟩)
theorem okC_contr {es : List (Nat × Nat)} {k n : Nat} {c : List Nat} (hc : c.length = n) (hok : ∀ e ∈ es, e.1 < n + 1 ∧ e.2 < n + 1) (hk : k < es.length) (hd : (es.getD k (0, 0)).1 ≠ (es.getD k (0, 0)).2) :
    okC (dropE es k) (ins (max (es.getD k (0, 0)).1 (es.getD k (0, 0)).2) (c.getD (min (es.getD k (0, 0)).1 (es.getD k (0, 0)).2) 0) c) = okC (contrE es k) c := by
  obtain ⟨e, he⟩ : ∃ e, e = es.getD k (0, 0) := ⟨_, rfl⟩
  have hb : e.1 < n + 1 ∧ e.2 < n + 1 := hok _ (mem_at.mpr ⟨k, hk, he.symm⟩)
  rw [← he] at hd ⊢
  have e2 : contrE es k = (dropE es k).map fun x => (nmC (min e.1 e.2) (max e.1 e.2) x.1, nmC (min e.1 e.2) (max e.1 e.2) x.2) := by rw [he]; rfl
  rw [e2, Bool.eq_iff_iff, okC_iff, okC_iff]
  have key : ∀ v, v ≤ n → (ins (max e.1 e.2) (c.getD (min e.1 e.2) 0) c).getD v 0 = c.getD (nmC (min e.1 e.2) (max e.1 e.2) v) 0 := fun v hv => ins_nm hc (by omega) (by omega) hv
  have hdr : ∀ x ∈ dropE es k, x.1 ≤ n ∧ x.2 ≤ n := fun x hx => by
    obtain ⟨i, h1, _, rfl⟩ := mem_drop.mp hx
    have := hok _ (mem_at.mpr ⟨i, h1, rfl⟩)
    omega
  constructor
  · intro h y hy
    obtain ⟨x, hx, rfl⟩ := List.mem_map.mp hy
    have := h x hx
    rw [key _ (hdr x hx).1, key _ (hdr x hx).2] at this
    exact this
  · intro h x hx
    rw [key _ (hdr x hx).1, key _ (hdr x hx).2]
    exact h _ (List.mem_map.mpr ⟨x, hx, rfl⟩)
/-- DELETION, CONTRACTION -/
theorem chi_dc {es : List (Nat × Nat)} {k n m : Nat} (hok : ∀ e ∈ es, e.1 < n + 1 ∧ e.2 < n + 1) (hk : k < es.length) (hd : (es.getD k (0, 0)).1 ≠ (es.getD k (0, 0)).2) :
    chi es (n + 1) m = chi (dropE es k) (n + 1) m - chi (contrE es k) n m := by
  have hb := hok _ (mem_at.mpr ⟨k, hk, rfl⟩)
  obtain ⟨lo, hlo⟩ : ∃ lo, lo = min (es.getD k (0, 0)).1 (es.getD k (0, 0)).2 := ⟨_, rfl⟩
  obtain ⟨hi, hhi⟩ : ∃ hi, hi = max (es.getD k (0, 0)).1 (es.getD k (0, 0)).2 := ⟨_, rfl⟩
  have h1 : chi (contrE es k) n m = tot m (n + 1) fun c => if c.getD lo 0 = c.getD hi 0 then ind (okC (dropE es k) c) else 0 := by
    rw [tot_merge (by omega) (by omega)]
    refine tot_congr fun c hc => ?_
    rw [hlo, hhi, okC_contr hc.1 hok hk hd]
  rw [h1]
  unfold chi
  rw [← tot_sub]
  refine tot_congr fun c _ => ?_
  have s := okC_split hk c
  have same : (c.getD (es.getD k (0, 0)).1 0 = c.getD (es.getD k (0, 0)).2 0) ↔ c.getD lo 0 = c.getD hi 0 := by
    rw [hlo, hhi]
    rcases Nat.le_total (es.getD k (0, 0)).1 (es.getD k (0, 0)).2 with q | q
    · rw [Nat.min_eq_left q, Nat.max_eq_right q]
    · rw [Nat.min_eq_right q, Nat.max_eq_left q]; exact eq_comm
  unfold ind
  by_cases a : okC (dropE es k) c = true
  · by_cases b : c.getD lo 0 = c.getD hi 0
    · rw [if_neg fun z => (s.mp z).2 (same.mpr b), if_pos a, if_pos b]; rfl
    · rw [if_pos (s.mpr ⟨a, fun z => b (same.mp z)⟩), if_pos a, if_neg b]; rfl
  · rw [if_neg fun z => a (s.mp z).1, if_neg a]
    split <;> rfl
theorem chi_loop {es : List (Nat × Nat)} {n m : Nat} (h : (es.any fun e => decide (e.1 = e.2)) = true) : chi es n m = 0 := by
  obtain ⟨e, he, q⟩ := List.any_eq_true.mp h
  have q : e.1 = e.2 := by simpa using q
  have : ∀ c, ind (okC es c) = 0 := fun c => by
    unfold ind
    rw [if_neg]
    intro z
    exact okC_iff.mp z e he (by rw [q])
  unfold chi
  rw [tot_congr (g := fun _ => 0 * 0) fun c _ => this c, tot_mul]
  omega
theorem chi_nil (m : Nat) : ∀ n, chi [] n m = (m : Int) ^ n
  | 0 => rfl
  | n + 1 => by
    unfold chi
    have e : ∀ c, ind (okC [] c) = 1 := fun c => rfl
    rw [tot]
    have : tot m n (fun c => sumN (fun x => ind (okC [] (c ++ [x]))) m) = tot m n (fun c => (m : Int) * ind (okC [] c)) := tot_congr fun c _ => by
      exact sumN_const 1 m
    rw [this, tot_mul]
    have ih := chi_nil m n
    unfold chi at ih
    rw [ih, Int.pow_succ]
    grind
end K56
namespace K56
/-! ### the coefficients: leading one, changing signs -/
def sg (j : Nat) : Int := 1 - 2 * ((j % 2 : Nat) : Int)
theorem sg_succ (j : Nat) : sg (j + 1) = - sg j := by unfold sg; omega
theorem evP_app (m : Int) : ∀ p q : List Int, evP m (p ++ q) = evP m p + m ^ p.length * evP m q
  | [], q => by simp [evP]
  | a :: p, q => by
    simp only [List.cons_append, evP, evP_app m p q, List.length_cons, Int.pow_succ]
    grind
structure Poly (es : List (Nat × Nat)) (n : Nat) (q : List Int) : Prop where
  len : q.length = n + 1
  ev : ∀ m : Nat, evP m q = chi es n m
  sgn : ∀ i, i ≤ n → 0 ≤ q.getD i 0 * sg (n - i)
  one : (es.any fun e => decide (e.1 = e.2)) = false → q.getD n 0 = 1
  bd : ∀ a ∈ q, a.natAbs ≤ 2 ^ es.length
theorem dropE_len {es : List (Nat × Nat)} {k : Nat} (hk : k < es.length) : (dropE es k).length < es.length := by
  unfold dropE
  rw [List.length_map]
  have : (List.range es.length).length = es.length := List.length_range
  have h : ((List.range es.length).filter fun i => decide (i ≠ k)).length < (List.range es.length).length := by
    rw [List.length_filter_lt_length_iff_exists]
    exact ⟨k, List.mem_range.mpr hk, by simp⟩
  omega
theorem nmC_lt {lo hi v n : Nat} (h1 : lo < hi) (h2 : hi ≤ n) (h3 : v ≤ n) : nmC lo hi v < n := by
  unfold nmC
  split
  · omega
  · split <;> omega
theorem poly_ex : ∀ (L : Nat) (es : List (Nat × Nat)) (n : Nat), es.length ≤ L → (∀ e ∈ es, e.1 < n ∧ e.2 < n) → ∃ q, Poly es n q
  | 0, es, n, hL, _ => by
    have : es = [] := List.length_eq_zero_iff.mp (by omega)
    subst this
    refine ⟨List.replicate n 0 ++ [1], by simp, fun m => ?_, fun i hi => ?_, fun _ => by simp [List.getD_eq_getElem?_getD], fun a ha => by
      rcases List.mem_append.mp ha with z | z
      · rw [(List.mem_replicate.mp z).2]; simp
      · rw [List.mem_singleton.mp z]; simp⟩
    · rw [evP_app, evP_zero, chi_nil]; simp [evP]
    · by_cases z : i = n
      · subst z; simp [List.getD_eq_getElem?_getD, sg]
      · have : (List.replicate n (0 : Int) ++ [1]).getD i 0 = 0 := by
          rw [List.getD_eq_getElem?_getD, List.getElem?_append_left (by simp; omega), List.getElem?_replicate, if_pos (by omega)]; rfl
        rw [this]; omega
  | L + 1, es, n, hL, hok => by
    by_cases h0 : es.length = 0
    · exact poly_ex L es n (by omega) hok
    by_cases hl : (es.any fun e => decide (e.1 = e.2)) = true
    · refine ⟨List.replicate (n + 1) 0, by simp, fun m => by rw [evP_zero, chi_loop hl], fun i hi => ?_, fun z => (by rw [hl] at z; cases z), fun a ha => by rw [(List.mem_replicate.mp ha).2]; exact Nat.zero_le _⟩
      have : (List.replicate (n + 1) (0 : Int)).getD i 0 = 0 := by
        rw [List.getD_eq_getElem?_getD, List.getElem?_replicate, if_pos (by omega)]; rfl
      rw [this]; omega
    have hl' : ∀ e ∈ es, e.1 ≠ e.2 := fun e he z => hl (List.any_eq_true.mpr ⟨e, he, by simp [z]⟩)
    have hk : 0 < es.length := by omega
    have hm0 : es.getD 0 (0, 0) ∈ es := mem_at.mpr ⟨0, hk, rfl⟩
    have hd := hl' _ hm0
    have hb := hok _ hm0
    obtain ⟨n', rfl⟩ : ∃ n', n = n' + 1 := ⟨n - 1, by omega⟩
    have ok1 : ∀ e ∈ dropE es 0, e.1 < n' + 1 ∧ e.2 < n' + 1 := fun e he => by
      obtain ⟨i, h1, _, rfl⟩ := mem_drop.mp he
      exact hok _ (mem_at.mpr ⟨i, h1, rfl⟩)
    have ok2 : ∀ e ∈ contrE es 0, e.1 < n' ∧ e.2 < n' := fun e he => by
      obtain ⟨x, hx, rfl⟩ := List.mem_map.mp he
      have := ok1 x hx
      exact ⟨nmC_lt (by omega) (by omega) (by omega), nmC_lt (by omega) (by omega) (by omega)⟩
    obtain ⟨q1, p1⟩ := poly_ex L (dropE es 0) (n' + 1) (by have := dropE_len hk; omega) ok1
    obtain ⟨q2, p2⟩ := poly_ex L (contrE es 0) n' (by have := dropE_len hk; simp only [contrE, List.length_map]; omega) ok2
    have lq : (q2 ++ [0]).length = n' + 2 := by simp [p2.len]
    have ll : q1.length = (q2 ++ [0]).length := by rw [p1.len, lq]
    have get : ∀ i, i ≤ n' + 1 → (zipSub 1 q1 (q2 ++ [0])).getD i 0 = q1.getD i 0 - (q2 ++ [0]).getD i 0 := fun i hi => by
      have a : i < q1.length := by rw [p1.len]; omega
      have b : i < (q2 ++ [0]).length := by rw [lq]; omega
      have hz : i < (q1.zip (q2 ++ [0])).length := by rw [List.length_zip]; omega
      have e : (q1.zip (q2 ++ [0]))[i]? = some (q1[i], (q2 ++ [0])[i]) := by rw [List.getElem?_eq_getElem hz, List.getElem_zip]
      rw [zipSub, List.getD_eq_getElem?_getD, List.getD_eq_getElem?_getD, List.getD_eq_getElem?_getD, List.getElem?_map, e, List.getElem?_eq_getElem a, List.getElem?_eq_getElem b]
      simp
    have g2 : ∀ i, i ≤ n' → (q2 ++ [0]).getD i 0 = q2.getD i 0 := fun i hi => by
      rw [List.getD_eq_getElem?_getD, List.getD_eq_getElem?_getD, List.getElem?_append_left (by rw [p2.len]; omega)]
    have g3 : (q2 ++ [0]).getD (n' + 1) 0 = 0 := by
      rw [List.getD_eq_getElem?_getD, List.getElem?_append_right (by rw [p2.len]; omega), p2.len]; simp
    refine ⟨zipSub 1 q1 (q2 ++ [0]), by simp [zipSub, p1.len, p2.len], fun m => ?_, fun i hi => ?_, fun _ => ?_, fun a ha => ?_⟩
    · rw [evP_sub _ _ _ _ ll, evP_app, p1.ev, p2.ev, chi_dc hok hk hd]
      simp [evP]
    · rw [get i hi]
      have s1 := p1.sgn i hi
      by_cases z : i = n' + 1
      · rw [z, g3]; rw [z] at s1; simpa using s1
      · have s2 := p2.sgn i (by omega)
        rw [g2 i (by omega)]
        have e : n' + 1 - i = (n' - i) + 1 := by omega
        rw [e, sg_succ] at s1 ⊢
        have : (q1.getD i 0 - q2.getD i 0) * -sg (n' - i) = q1.getD i 0 * -sg (n' - i) + q2.getD i 0 * sg (n' - i) := by grind
        omega
    · rw [get _ (Nat.le_refl _), g3, p1.one ?_]
      · rfl
      · rw [List.any_eq_false]
        intro e he
        obtain ⟨i, h1, _, rfl⟩ := mem_drop.mp he
        have := hl' _ (mem_at.mpr ⟨i, h1, rfl⟩)
        simpa using this
    · obtain ⟨x, hx, rfl⟩ := List.mem_map.mp ha
      have b1 := p1.bd _ (List.of_mem_zip hx).1
      have b2 : x.2.natAbs ≤ 2 ^ (contrE es 0).length := by
        rcases List.mem_append.mp (List.of_mem_zip hx).2 with z | z
        · exact p2.bd _ z
        · rw [List.mem_singleton.mp z]; exact Nat.zero_le _
      have l1 := dropE_len hk
      have l2 : (contrE es 0).length = (dropE es 0).length := by simp [contrE]
      have e : 2 ^ es.length = 2 ^ (es.length - 1) + 2 ^ (es.length - 1) := by
        obtain ⟨L', hL'⟩ : ∃ L', es.length = L' + 1 := ⟨es.length - 1, by omega⟩
        rw [hL', Nat.pow_succ]; simp; omega
      have m1 : 2 ^ (dropE es 0).length ≤ 2 ^ (es.length - 1) := Nat.pow_le_pow_right (by decide) (by omega)
      rw [l2] at b2
      omega
end K56
namespace K56
open PySem PySem.Spec PyProof.Rows L2 Rf
/-! ### rows of neighbours -/
def dO (l : List Int) : Ob := .dct false (l.map .int) (l.map fun _ => .bl true)
def putI (l : List Int) (x : Int) : List Int := if x ∈ l then l else l ++ [x]
theorem mem_putI {l : List Int} {x y : Int} : y ∈ putI l x ↔ y ∈ l ∨ y = x := by
  unfold putI
  split
  · rename_i h
    exact ⟨.inl, fun z => z.elim id fun e => e ▸ h⟩
  · simp
theorem nodup_putI {l : List Int} {x : Int} (h : l.Nodup) : (putI l x).Nodup := by
  unfold putI
  split
  · exact h
  · rename_i q
    rw [List.nodup_append]
    exact ⟨h, by simp, fun a ha b hb => by rw [List.mem_singleton.mp hb]; exact fun e => q (e ▸ ha)⟩
theorem int_mem {l : List Int} {x : Int} : (D.int x ∈ l.map D.int) ↔ x ∈ l := by
  simp
theorem dputK_int (l : List Int) (x : Int) : dputK (l.map .int) (.int x) = (putI l x).map .int := by
  unfold dputK putI
  by_cases h : x ∈ l
  · rw [if_pos (int_mem.mpr h), if_pos h]
  · rw [if_neg fun z => h (int_mem.mp z), if_neg h]; simp
theorem dupd_true (k : D) : ∀ l : List Int, dupd k (.bl true) (l.map .int) (l.map fun _ => .bl true) = l.map fun _ => .bl true
  | [] => rfl
  | a :: r => by simp [dupd, dupd_true k r]
theorem dputV_int (l : List Int) (x : Int) : dputV (l.map .int) (l.map fun _ => .bl true) (.int x) (.bl true) = (putI l x).map fun _ => .bl true := by
  unfold dputV putI
  by_cases h : x ∈ l
  · rw [if_pos (int_mem.mpr h), if_pos h, dupd_true]
  · rw [if_neg fun z => h (int_mem.mp z), if_neg h]; simp
theorem put_ok {K : List (List Int)} {a : Nat} (ha : a < K.length) (hz : (K.getD a []).length < SZ) (x : Int) : aSet (.ref a) (.int x) (.bl true) (K.map dO) = some ((K.set a (putI (K.getD a []) x)).map dO) := by
  have e : (K.map dO)[a]? = some (dO K[a]) := by simp [ha]
  have eg : K.getD a [] = K[a] := by simp [List.getD_eq_getElem?_getD, ha]
  have g1 : gSetL (.ref a) (.int x) (.bl true) (K.map dO) = none := by
    simp only [gSetL, onL, e, dO, Option.map_none]
  have g2 : gDPut (.ref a) (.int x) (.bl true) (K.map dO) = some ((K.map dO).set a (.dct false (dputK (K[a].map .int) (.int x)) (dputV (K[a].map .int) (K[a].map fun _ => .bl true) (.int x) (.bl true)))) := by
    simp only [gDPut, e, dO]
    rw [eg] at hz
    rw [if_pos]
    simp [keyOk, keyD, hz]
  unfold aSet stOr
  rw [g1]
  simp only [g2, dputK_int, dputV_int, eg, List.map_set]
  rfl
def adjE (e : Nat × Nat) (v : Nat) (x : Int) : Prop := e.1 ≠ e.2 ∧ ((e.1 = v ∧ x = e.2) ∨ (e.2 = v ∧ x = e.1))
def rowsP (n : Nat) (es : List (Nat × Nat)) (K : List (List Int)) : Prop := K.length = n ∧ ∀ v, v < n → (K.getD v []).Nodup ∧ ∀ x, x ∈ K.getD v [] ↔ ∃ e ∈ es, adjE e v x
theorem nodup_len : ∀ (n : Nat) (l : List Int), l.Nodup → (∀ x ∈ l, 0 ≤ x ∧ x < n) → l.length ≤ n
  | 0, l, _, h => by
    cases l with
    | nil => simp
    | cons a r => have := h a List.mem_cons_self; omega
  | n + 1, l, hd, h => by
    have h1 := nodup_len n (l.filter fun x => decide (x ≠ (n : Int))) (hd.filter _) fun x hx => by
      obtain ⟨a, b⟩ := List.mem_filter.mp hx
      have := h x a
      have b : x ≠ n := by simpa using b
      omega
    have h2 : l.length ≤ (l.filter fun x => decide (x ≠ (n : Int))).length + 1 := by
      clear h1 h
      induction l with
      | nil => simp
      | cons a r ih =>
        rw [List.nodup_cons] at hd
        by_cases z : a = (n : Int)
        · have : r.filter (fun x => decide (x ≠ (n : Int))) = r := List.filter_eq_self.mpr fun x hx => by
            have : x ≠ n := fun e => hd.1 (by rw [z, ← e]; exact hx)
            simpa using this
          rw [List.filter_cons_of_neg (by simp [z]), this]
          simp
        · rw [List.filter_cons_of_pos (by simpa using z)]
          have := ih hd.2
          simp only [List.length_cons]
          omega
    omega
theorem rows_step {n : Nat} {es : List (Nat × Nat)} {e : Nat × Nat} {K : List (List Int)} (h : rowsP n es K) (he : e.1 < n ∧ e.2 < n) (hd : e.1 ≠ e.2) :
    rowsP n (es ++ [e]) ((K.set e.1 (putI (K.getD e.1 []) e.2)).set e.2 (putI ((K.set e.1 (putI (K.getD e.1 []) e.2)).getD e.2 []) e.1)) := by
  obtain ⟨hl, hv⟩ := h
  refine ⟨by simp [hl], fun v hvn => ?_⟩
  have g1 : (K.set e.1 (putI (K.getD e.1 []) e.2)).getD e.2 [] = K.getD e.2 [] := by
    simp [List.getD_eq_getElem?_getD, List.getElem?_set, hd]
  rw [g1]
  have gg : ((K.set e.1 (putI (K.getD e.1 []) e.2)).set e.2 (putI (K.getD e.2 []) e.1)).getD v [] = if v = e.2 then putI (K.getD v []) e.1 else if v = e.1 then putI (K.getD v []) e.2 else K.getD v [] := by
    by_cases z : v = e.2
    · subst z
      rw [if_pos rfl]
      simp [List.getD_eq_getElem?_getD, hl, he.2]
    · rw [if_neg z]
      by_cases z2 : v = e.1
      · subst z2
        rw [if_pos rfl]
        simp [List.getD_eq_getElem?_getD, List.getElem?_set, hl, he.1, Ne.symm hd]
      · rw [if_neg z2]
        simp [List.getD_eq_getElem?_getD, List.getElem?_set, Ne.symm z, Ne.symm z2]
  rw [gg]
  obtain ⟨a, b⟩ := hv v hvn
  have fin : ∀ x, (∃ f ∈ es ++ [e], adjE f v x) ↔ (∃ f ∈ es, adjE f v x) ∨ adjE e v x := fun x => by
    constructor
    · rintro ⟨f, hf, q⟩
      rcases List.mem_append.mp hf with z | z
      · exact .inl ⟨f, z, q⟩
      · rw [List.mem_singleton.mp z] at q; exact .inr q
    · rintro (⟨f, hf, q⟩ | q)
      · exact ⟨f, List.mem_append_left _ hf, q⟩
      · exact ⟨e, by simp, q⟩
  by_cases z : v = e.2
  · rw [if_pos z]
    refine ⟨nodup_putI a, fun x => ?_⟩
    rw [mem_putI, b, fin]
    unfold adjE
    constructor
    · rintro (q | q)
      · exact .inl q
      · exact .inr ⟨hd, .inr ⟨z.symm, q⟩⟩
    · rintro (q | ⟨_, ⟨q, _⟩ | ⟨_, q⟩⟩)
      · exact .inl q
      · omega
      · exact .inr q
  · rw [if_neg z]
    by_cases z2 : v = e.1
    · rw [if_pos z2]
      refine ⟨nodup_putI a, fun x => ?_⟩
      rw [mem_putI, b, fin]
      unfold adjE
      constructor
      · rintro (q | q)
        · exact .inl q
        · exact .inr ⟨hd, .inl ⟨z2.symm, q⟩⟩
      · rintro (q | ⟨_, ⟨_, q⟩ | ⟨q, _⟩⟩)
        · exact .inl q
        · exact .inr q
        · omega
    · rw [if_neg z2]
      refine ⟨a, fun x => ?_⟩
      rw [b, fin]
      unfold adjE
      constructor
      · exact .inl
      · rintro (q | ⟨_, ⟨q, _⟩ | ⟨q, _⟩⟩)
        · exact q
        · omega
        · omega
end K56
namespace K56
open PySem PySem.Spec PyProof.Rows L2 Rf
theorem rows_ok {n : Nat} {es : List (Nat × Nat)} (g : OkG n es) (h : Hh) : ∃ K, rowsP n es K ∧ F_known_rows [gD n es, .dct false [] []] h = .ok (.lst (K.map fun r => .lst ((sortI r).map .int))) h := by
  have hz := g.sz
  have hn := g.hi
  have rn : okR (n : Int) = true := okR_nat (by omega)
  have key : ∃ K, rowsP n es K ∧ ∃ h', m_known_rows [some (gD n es), some (.dct false [] []), none, none, none, none, none] [] = .rt (.lst (K.map fun r => .lst ((sortI r).map .int))) h' := by
    simp only [m_known_rows]
    simp [rn]
    obtain ⟨acc, h1, e1, rfl, rfl⟩ := compR (g := gN 2) (t := tYesM) (m := mDct0 0 true) (all := rng 0 n) (n := n) (lo := 0) (env := [some (gD n es), some (.dct false [] []), none, none, none, none, none]) (acc := []) (h := []) (fun k acc h => acc = (List.range k).map .ref ∧ h = List.replicate k (Ob.dct false [] [])) ⟨rfl, rfl⟩ (by
      rintro k hk acc h ⟨rfl, rfl⟩
      have z : k < SZ := lt_SZ (by omega)
      simp [mkd, z, List.range_succ, List.replicate_succ'])
    rw [e1]
    simp
    refine phi_forM (Φ := fun f => ∃ K, rowsP n es K ∧ ∃ h', f = Fl.rt (D.lst (List.map (fun r => D.lst (List.map D.int (sortI r))) K)) h') (fun k env h => ∃ x4 x5 K, env = [some (gD n es), some (.dct false [] []), none, some (.lst ((List.range n).map .ref)), x4, x5, none] ∧ h = K.map dO ∧ rowsP n (es.take k) K) ⟨none, none, List.replicate n [], rfl, by simp [dO, List.map_replicate], by simp, fun v hv => by
      simp [List.getD_eq_getElem?_getD, hv]⟩ (by
      rintro k hk env h ⟨x4, x5, K, rfl, rfl, hK⟩
      have he := g.ok es[k] (List.getElem_mem hk)
      have em : ∀ (i : Int) (h : Hh), aIn true (.int i) (.dct false [] []) h = some (.bl true, h) := fun i h => rfl
      have ix : ∀ (v : Nat) (hv : v < n) (h : Hh), aIx (.lst ((List.range n).map .ref)) (.int v) h = some (.ref v, h) := fun v hv h => by
        rw [aIx_natL (by simpa using hv)]; simp
      have tk : es.take (k + 1) = es.take k ++ [es[k]] := by rw [List.take_succ_eq_append_getElem hk]
      have hl : ∀ v, v < n → ((K.getD v []).length < SZ) := fun v hv => by
        have := hK.2 v hv
        refine lt_SZ (Nat.lt_of_le_of_lt (nodup_len n _ this.1 fun x hx => ?_) (by omega))
        obtain ⟨e, he', q⟩ := (this.2 x).mp hx
        have := g.ok e (List.mem_of_mem_take he')
        rcases q.2 with ⟨_, q⟩ | ⟨_, q⟩ <;> omega
      by_cases z : es[k].1 = es[k].2
      · simp [eD, z]
        refine ⟨K, rfl, hK.1, fun v hv => ⟨(hK.2 v hv).1, fun x => ?_⟩⟩
        rw [(hK.2 v hv).2 x, tk]
        constructor
        · rintro ⟨e, h1, h2⟩; exact ⟨e, List.mem_append_left _ h1, h2⟩
        · rintro ⟨e, h1, h2⟩
          rcases List.mem_append.mp h1 with q | q
          · exact ⟨e, q, h2⟩
          · rw [List.mem_singleton.mp q] at h2; exact absurd z h2.1
      · have z' : ¬ ((es[k].1 : Int) = es[k].2) := by omega
        have st := rows_step hK he z
        have lK : K.length = n := hK.1
        obtain ⟨K1, hK1⟩ : ∃ K1, K1 = K.set es[k].1 (putI (K.getD es[k].1 []) es[k].2) := ⟨_, rfl⟩
        have p1 := put_ok (K := K) (a := es[k].1) (by omega) (hl _ he.1) es[k].2
        rw [← hK1] at p1 st
        have g1 : K1.getD es[k].2 [] = K.getD es[k].2 [] := by
          rw [hK1]; simp [List.getD_eq_getElem?_getD, List.getElem?_set, z]
        have p2 := put_ok (K := K1) (a := es[k].2) (by rw [hK1]; simp; omega) (by rw [g1]; exact hl _ he.2) es[k].1
        simp [eD, z', em, ix _ he.1, ix _ he.2, p1, p2, -List.map_set, -List.getD_eq_getElem?_getD]
        rw [tk]
        exact ⟨_, rfl, st⟩) ?_
    rintro _ _ ⟨x4, x5, K, rfl, rfl, hK⟩
    rw [List.take_length] at hK
    refine ⟨K, hK, ?_⟩
    simp
    rw [comp_map D.ref (fun v => D.lst ((sortI (K.getD v [])).map .int)) (l := List.range n) (fun v hv => ⟨_, rfl, by
      have hv' : v < n := by simpa using hv
      have lK : v < K.length := by rw [hK.1]; exact hv'
      have e : (K.map dO)[v]? = some (dO (K.getD v [])) := by simp [List.getD_eq_getElem?_getD, lK]
      have l64 : (K.getD v []).length < 64 := by
        have := hK.2 v hv'
        refine Nat.lt_of_le_of_lt (nodup_len n _ this.1 fun x hx => ?_) (by omega)
        obtain ⟨e, he', q⟩ := (this.2 x).mp hx
        have := g.ok e he'
        rcases q.2 with ⟨_, q⟩ | ⟨_, q⟩ <;> omega
      have s1 : fSort false [.ref v] (K.map dO) = none := by simp only [fSort, f1, getL, e, dO, Option.bind_none]
      have s2 : fSortD false [.ref v] (K.map dO) = some (.lst ((sortI (K.getD v [])).map .int), K.map dO) := by
        simp only [fSortD, f1, keysOf, e, dO, Option.bind_some, intsD_map]
        rw [if_pos l64] <;> rfl
      have s3 : fOr (fSort false) (fSortD false) [.ref v] (K.map dO) = some (.lst ((sortI (K.getD v [])).map .int), K.map dO) := by
        unfold fOr; rw [s1]; exact s2
      simp [s3, -List.getD_eq_getElem?_getD]⟩) (by simpa using le_SZ (by omega))]
    simp
    refine List.ext_getElem (by simp [hK.1]) fun i h1 h2 => ?_
    have : i < K.length := by simpa using h2
    simp [this]
  obtain ⟨K, hK, e⟩ := key
  refine ⟨K, hK, pure_rtE (by simp [norefs, nr_g, noref]) ?_ e⟩
  simp only [okF, okFs_all, List.mem_map]
  rintro _ ⟨r, _, rfl⟩
  simp only [okF, okFs_all, List.mem_map]
  rintro _ ⟨x, _, rfl⟩
  rfl
end K56
namespace K56
open PySem PySem.Spec PyProof.Rows L2 Rf
/-! ### the dict of partitions -/
abbrev Part := List (List Nat)
def lD (l : List Nat) : D := .tup (l.map fun x => .int (x : Nat))
def pD (p : Part) : D := .tup (p.map lD)
theorem lD_inj {a b : List Nat} (h : lD a = lD b) : a = b := by
  injection h with h
  exact List.map_inj_right (fun x y e => by injection e with e; omega) |>.mp h
theorem pD_inj {a b : Part} (h : pD a = pD b) : a = b := by
  injection h with h
  exact List.map_inj_right (fun x y e => lD_inj e) |>.mp h
abbrev Dic := List (Part × Int)
def ksD (d : Dic) : List D := d.map fun p => pD p.1
def vsD (d : Dic) : List D := d.map fun p => .int p.2
def getA (d : Dic) (k : Part) : Int := match d with
  | [] => 0
  | p :: r => if p.1 = k then p.2 else getA r k
def setA (d : Dic) (k : Part) (v : Int) : Dic := if k ∈ d.map (·.1) then d.map fun p => if p.1 = k then (p.1, v) else p else d ++ [(k, v)]
theorem look_getA : ∀ (d : Dic) (k : Part), (dlook (ksD d) (vsD d) (pD k)).getD (.int 0) = .int (getA d k)
  | [], _ => rfl
  | p :: r, k => by
    have ih := look_getA r k
    simp only [ksD, vsD, List.map_cons, dlook, getA] at ih ⊢
    by_cases h : p.1 = k
    · rw [if_pos (by rw [h]), if_pos h]; rfl
    · rw [if_neg (fun e => h (pD_inj e)), if_neg h]; exact ih
theorem mem_ksD {d : Dic} {k : Part} : pD k ∈ ksD d ↔ k ∈ d.map (·.1) := by
  simp only [ksD, List.mem_map]
  constructor
  · rintro ⟨p, hp, e⟩; exact ⟨p, hp, pD_inj e⟩
  · rintro ⟨p, hp, e⟩; exact ⟨p, hp, by rw [e]⟩
theorem put_ks (d : Dic) (k : Part) (v : Int) : dputK (ksD d) (pD k) = ksD (setA d k v) := by
  unfold dputK setA
  by_cases h : k ∈ d.map (·.1)
  · rw [if_pos (mem_ksD.mpr h), if_pos h]
    simp only [ksD, List.map_map]
    refine List.map_congr_left fun p _ => ?_
    simp only [Function.comp]
    split <;> rfl
  · rw [if_neg fun z => h (mem_ksD.mp z), if_neg h]; simp [ksD]
theorem upd_vs (k : Part) (v : Int) : ∀ d : Dic, dupd (pD k) (.int v) (ksD d) (vsD d) = vsD (d.map fun p => if p.1 = k then (p.1, v) else p)
  | [] => rfl
  | p :: r => by
    have ih := upd_vs k v r
    simp only [ksD, vsD, List.map_cons, dupd] at ih ⊢
    rw [ih]
    by_cases h : p.1 = k
    · rw [if_pos (by rw [h]), if_pos h]
    · rw [if_neg (fun e => h (pD_inj e)), if_neg h]
theorem put_vs (d : Dic) (k : Part) (v : Int) : dputV (ksD d) (vsD d) (pD k) (.int v) = vsD (setA d k v) := by
  unfold dputV setA
  by_cases h : k ∈ d.map (·.1)
  · rw [if_pos (mem_ksD.mpr h), if_pos h, upd_vs]
  · rw [if_neg fun z => h (mem_ksD.mp z), if_neg h]; simp [vsD]
/-- Σ v φ(k) -/
def wS (d : Dic) (φ : Part → Int) : Int := (d.map fun p => p.2 * φ p.1).sum
theorem wS_nil (φ : Part → Int) : wS [] φ = 0 := rfl
theorem wS_set (φ : Part → Int) (k : Part) (v : Int) : ∀ d : Dic, (d.map (·.1)).Nodup → wS (setA d k v) φ = wS d φ + (v - getA d k) * φ k
  | [], _ => by simp [setA, wS, getA]
  | p :: r, hd => by
    rw [List.map_cons, List.nodup_cons] at hd
    have ih := wS_set φ k v r hd.2
    unfold setA at ih ⊢
    by_cases h : p.1 = k
    · have hr : k ∉ r.map (·.1) := h ▸ hd.1
      have e : r.map (fun q => if q.1 = k then (q.1, v) else q) = r := by
        refine (List.map_congr_left fun q hq => ?_).trans (List.map_id r)
        rw [if_neg fun z => hr (List.mem_map.mpr ⟨q, hq, z⟩)]
        rfl
      rw [if_pos (by simp [h]), List.map_cons, if_pos h, e]
      simp only [wS, List.map_cons, List.sum_cons, getA, if_pos h]
      rw [h]
      grind
    · by_cases hk : k ∈ r.map (·.1)
      · rw [if_pos hk] at ih
        rw [if_pos (by simp only [List.map_cons, List.mem_cons]; exact .inr hk), List.map_cons, if_neg h]
        simp only [wS, List.map_cons, List.sum_cons, getA, if_neg h] at ih ⊢
        omega
      · rw [if_neg hk] at ih
        rw [if_neg (by simp only [List.map_cons, List.mem_cons]; exact fun z => z.elim (fun e => h e.symm) hk)]
        simp only [wS, List.cons_append, List.map_cons, List.sum_cons, getA, if_neg h] at ih ⊢
        omega
theorem nodup_set {d : Dic} {k : Part} {v : Int} (h : (d.map (·.1)).Nodup) : ((setA d k v).map (·.1)).Nodup := by
  unfold setA
  split
  · have : (d.map fun p => if p.1 = k then (p.1, v) else p).map (·.1) = d.map (·.1) := by
      rw [List.map_map]
      refine List.map_congr_left fun p _ => ?_
      simp only [Function.comp]
      split <;> rfl
    rw [this]; exact h
  · rename_i q
    rw [List.map_append, List.nodup_append]
    exact ⟨h, by simp, fun a ha b hb => by simp at hb; exact fun e => q (by rw [← hb, ← e]; exact ha)⟩
theorem len_set {d : Dic} {k : Part} {v : Int} : (setA d k v).length ≤ d.length + 1 := by
  unfold setA
  split <;> simp
end K56
namespace K56
/-! ### the steps of the dict of partitions -/
def addA (d : Dic) (k : Part) (v : Int) : Dic := setA d k (getA d k + v)
def putAt (p : Part) (i x : Nat) : Part := p.take i ++ (p.getD i [] ++ [x]) :: p.drop (i + 1)
def oneK (free : List Nat → Bool) (x : Nat) (p : Part) (v : Int) (f : Dic) : Nat → Dic
  | 0 => f
  | i + 1 => if free (p.getD i []) = true then addA (oneK free x p v f i) (putAt p i x) v else oneK free x p v f i
def allK (free : List Nat → Bool) (x : Nat) (p : Part) (v : Int) (f : Dic) : Dic := addA (oneK free x p v f p.length) (p ++ [[x]]) v
def stepK (free : List Nat → Bool) (x : Nat) (d : Dic) : Nat → Dic
  | 0 => []
  | j + 1 => allK free x (d.getD j ([], 0)).1 (d.getD j ([], 0)).2 (stepK free x d j)
def dicK (free : Nat → List Nat → Bool) : Nat → Dic
  | 0 => [([], 1)]
  | k + 1 => stepK (free k) k (dicK free k) (dicK free k).length
theorem putAt_len {p : Part} {i x : Nat} (h : i < p.length) : (putAt p i x).length = p.length := by
  simp [putAt]; omega
/-- good dicts -/
structure Gd (k : Nat) (d : Dic) : Prop where
  nd : (d.map (·.1)).Nodup
  ps : ∀ q ∈ d, 0 ≤ q.2
  ln : ∀ q ∈ d, q.1.length ≤ k ∧ ∀ l ∈ q.1, l.length ≤ k
theorem mem_set {d : Dic} {k : Part} {v : Int} {q : Part × Int} (h : q ∈ setA d k v) : q ∈ d ∨ q = (k, v) := by
  unfold setA at h
  split at h
  · obtain ⟨p, hp, e⟩ := List.mem_map.mp h
    split at e
    · rename_i z; right; rw [← e, z]
    · left; rw [← e]; exact hp
  · rcases List.mem_append.mp h with z | z
    · exact .inl z
    · exact .inr (List.mem_singleton.mp z)
theorem getA_nn {d : Dic} {k : Part} (h : ∀ q ∈ d, 0 ≤ q.2) : 0 ≤ getA d k := by
  induction d with
  | nil => exact Int.le_refl 0
  | cons p r ih =>
    unfold getA
    split
    · exact h p List.mem_cons_self
    · exact ih fun q hq => h q (List.mem_cons_of_mem _ hq)
theorem Gd.add {k : Nat} {d : Dic} (g : Gd k d) {p : Part} {v : Int} (hv : 0 ≤ v) (hp : p.length ≤ k ∧ ∀ l ∈ p, l.length ≤ k) : Gd k (addA d p v) := by
  refine ⟨nodup_set g.nd, fun q hq => ?_, fun q hq => ?_⟩
  · rcases mem_set hq with z | z
    · exact g.ps q z
    · rw [z]; have := getA_nn (k := p) g.ps; show 0 ≤ getA d p + v; omega
  · rcases mem_set hq with z | z
    · exact g.ln q z
    · rw [z]; exact hp
theorem putAt_ln {k x i : Nat} {p : Part} (hp : p.length ≤ k ∧ ∀ l ∈ p, l.length ≤ k) (hi : i < p.length) : (putAt p i x).length ≤ k + 1 ∧ ∀ l ∈ putAt p i x, l.length ≤ k + 1 := by
  refine ⟨by rw [putAt_len hi]; omega, fun l hl => ?_⟩
  unfold putAt at hl
  rcases List.mem_append.mp hl with z | z
  · have := hp.2 l (List.mem_of_mem_take z); omega
  · rcases List.mem_cons.mp z with z | z
    · have e : p.getD i [] = p[i] := by simp [List.getD_eq_getElem?_getD, hi]
      have := hp.2 p[i] (List.getElem_mem hi)
      rw [z, e]; simp; omega
    · have := hp.2 l (List.mem_of_mem_drop z); omega
theorem oneK_gd {free : List Nat → Bool} {x k : Nat} {p : Part} {v : Int} {f : Dic} (g : Gd (k + 1) f) (hv : 0 ≤ v) (hp : p.length ≤ k ∧ ∀ l ∈ p, l.length ≤ k) : ∀ i, i ≤ p.length → Gd (k + 1) (oneK free x p v f i)
  | 0, _ => g
  | i + 1, hi => by
    have ih := oneK_gd (free := free) (x := x) g hv hp i (by omega)
    unfold oneK
    split
    · exact ih.add hv (putAt_ln hp (by omega))
    · exact ih
theorem allK_gd {free : List Nat → Bool} {x k : Nat} {p : Part} {v : Int} {f : Dic} (g : Gd (k + 1) f) (hv : 0 ≤ v) (hp : p.length ≤ k ∧ ∀ l ∈ p, l.length ≤ k) : Gd (k + 1) (allK free x p v f) :=
  (oneK_gd g hv hp _ (Nat.le_refl _)).add hv ⟨by simp; omega, fun l hl => by
    rcases List.mem_append.mp hl with z | z
    · have := hp.2 l z; omega
    · rw [List.mem_singleton.mp z]; simp⟩
theorem getD_mem {d : Dic} {j : Nat} (hj : j < d.length) : d.getD j ([], 0) ∈ d := by
  simp [List.getD_eq_getElem?_getD, hj]
theorem stepK_gd {free : List Nat → Bool} {x k : Nat} {d : Dic} (g : Gd k d) : ∀ j, j ≤ d.length → Gd (k + 1) (stepK free x d j)
  | 0, _ => ⟨List.nodup_nil, fun _ h => (nomatch h), fun _ h => (nomatch h)⟩
  | j + 1, hj => allK_gd (stepK_gd g j (by omega)) (g.ps _ (getD_mem (by omega))) (g.ln _ (getD_mem (by omega)))
theorem dicK_gd (free : Nat → List Nat → Bool) : ∀ k, Gd k (dicK free k)
  | 0 => ⟨by simp [dicK], fun q h => by rw [List.mem_singleton.mp h]; exact (by decide : (0 : Int) ≤ 1), fun q h => by rw [List.mem_singleton.mp h]; exact ⟨Nat.le_refl _, fun _ z => by cases z⟩⟩
  | k + 1 => stepK_gd (dicK_gd free k) _ (Nat.le_refl _)
/-! ### how long -/
theorem addA_len {d : Dic} {k : Part} {v : Int} : (addA d k v).length ≤ d.length + 1 := len_set
theorem oneK_len {free : List Nat → Bool} {x : Nat} {p : Part} {v : Int} {f : Dic} : ∀ i, (oneK free x p v f i).length ≤ f.length + i
  | 0 => Nat.le_refl _
  | i + 1 => by
    have ih := oneK_len (free := free) (x := x) (p := p) (v := v) (f := f) i
    unfold oneK
    split
    · have := addA_len (d := oneK free x p v f i) (k := putAt p i x) (v := v); omega
    · omega
theorem allK_len {free : List Nat → Bool} {x : Nat} {p : Part} {v : Int} {f : Dic} : (allK free x p v f).length ≤ f.length + p.length + 1 := by
  have h1 := oneK_len (free := free) (x := x) (p := p) (v := v) (f := f) p.length
  have h2 := addA_len (d := oneK free x p v f p.length) (k := p ++ [[x]]) (v := v)
  unfold allK
  omega
theorem stepK_len {free : List Nat → Bool} {x k : Nat} {d : Dic} (g : Gd k d) : ∀ j, j ≤ d.length → (stepK free x d j).length ≤ j * (k + 1)
  | 0, _ => by simp [stepK]
  | j + 1, hj => by
    have ih := stepK_len (free := free) (x := x) g j (by omega)
    have h1 := allK_len (free := free) (x := x) (p := (d.getD j ([], 0)).1) (v := (d.getD j ([], 0)).2) (f := stepK free x d j)
    have h2 := (g.ln _ (getD_mem (show j < d.length by omega))).1
    unfold stepK
    rw [Nat.succ_mul]
    omega
def fct : Nat → Nat
  | 0 => 1
  | k + 1 => fct k * (k + 1)
theorem fct_mono {k : Nat} : ∀ {n : Nat}, k ≤ n → fct k ≤ fct n
  | 0, h => by have : k = 0 := by omega
               subst this; exact Nat.le_refl _
  | n + 1, h => by
    by_cases z : k = n + 1
    · subst z; exact Nat.le_refl _
    · have := fct_mono (k := k) (n := n) (by omega)
      exact Nat.le_trans this (Nat.le_mul_of_pos_right _ (by omega))
theorem dicK_len (free : Nat → List Nat → Bool) : ∀ k, (dicK free k).length ≤ fct k
  | 0 => Nat.le_refl _
  | k + 1 => by
    have h1 := stepK_len (free := free k) (x := k) (dicK_gd free k) _ (Nat.le_refl _)
    have h2 := dicK_len free k
    exact Nat.le_trans h1 (Nat.mul_le_mul_right _ h2)
theorem fct9 {k : Nat} (h : k ≤ 9) : fct k ≤ 362880 := Nat.le_trans (fct_mono h) (by decide)
/-! ### what they weigh -/
theorem wS_addA {d : Dic} (h : (d.map (·.1)).Nodup) (k : Part) (v : Int) (φ : Part → Int) : wS (addA d k v) φ = wS d φ + v * φ k := by
  unfold addA
  rw [wS_set φ k _ d h]
  grind
theorem wS_oneK {free : List Nat → Bool} {x k : Nat} {p : Part} {v : Int} {f : Dic} (φ : Part → Int) (g : Gd (k + 1) f) (hv : 0 ≤ v) (hp : p.length ≤ k ∧ ∀ l ∈ p, l.length ≤ k) : ∀ i, i ≤ p.length →
    wS (oneK free x p v f i) φ = wS f φ + v * sumN (fun a => if free (p.getD a []) = true then φ (putAt p a x) else 0) i
  | 0, _ => by simp [oneK, sumN]
  | i + 1, hi => by
    have ih := wS_oneK φ (free := free) (x := x) g hv hp i (by omega)
    unfold oneK
    rw [sumN]
    by_cases z : free (p.getD i []) = true
    · rw [if_pos z, if_pos z, wS_addA (oneK_gd g hv hp i (by omega)).nd, ih]
      grind
    · rw [if_neg z, if_neg z, ih]
      grind
/-- what a partition gives -/
def nxt (free : List Nat → Bool) (x : Nat) (φ : Part → Int) (p : Part) : Int := sumN (fun a => if free (p.getD a []) = true then φ (putAt p a x) else 0) p.length + φ (p ++ [[x]])
theorem wS_allK {free : List Nat → Bool} {x k : Nat} {p : Part} {v : Int} {f : Dic} (φ : Part → Int) (g : Gd (k + 1) f) (hv : 0 ≤ v) (hp : p.length ≤ k ∧ ∀ l ∈ p, l.length ≤ k) : wS (allK free x p v f) φ = wS f φ + v * nxt free x φ p := by
  unfold allK nxt
  rw [wS_addA (oneK_gd g hv hp _ (Nat.le_refl _)).nd, wS_oneK φ g hv hp _ (Nat.le_refl _)]
  grind
theorem wS_take (d : Dic) (φ : Part → Int) {j : Nat} (hj : j < d.length) : wS (d.take (j + 1)) φ = wS (d.take j) φ + (d.getD j ([], 0)).2 * φ (d.getD j ([], 0)).1 := by
  have e : d.getD j ([], 0) = d[j] := by simp [List.getD_eq_getElem?_getD, hj]
  rw [e, List.take_succ_eq_append_getElem hj]
  simp only [wS, List.map_append, List.map_cons, List.map_nil, List.sum_append, List.sum_cons, List.sum_nil]
  omega
theorem wS_stepK {free : List Nat → Bool} {x k : Nat} {d : Dic} (φ : Part → Int) (g : Gd k d) : ∀ j, j ≤ d.length → wS (stepK free x d j) φ = wS (d.take j) (nxt free x φ)
  | 0, _ => rfl
  | j + 1, hj => by
    have m := getD_mem (show j < d.length by omega)
    rw [stepK, wS_allK φ (stepK_gd g j (by omega)) (g.ps _ m) (g.ln _ m), wS_stepK φ g j (by omega), wS_take _ _ (by omega)]
theorem wS_dicK (free : Nat → List Nat → Bool) (k : Nat) (φ : Part → Int) : wS (dicK free (k + 1)) φ = wS (dicK free k) (nxt (free k) k φ) := by
  have := wS_stepK (free := free k) (x := k) φ (dicK_gd free k) _ (Nat.le_refl _)
  rw [List.take_length] at this
  exact this
theorem wS_congr {d : Dic} {φ ψ : Part → Int} (h : ∀ q ∈ d, φ q.1 = ψ q.1) : wS d φ = wS d ψ := by
  unfold wS
  congr 1
  exact List.map_congr_left fun q hq => by rw [h q hq]
theorem wS_add (d : Dic) (φ ψ : Part → Int) : wS d (fun p => φ p + ψ p) = wS d φ + wS d ψ := by
  induction d with
  | nil => rfl
  | cons a r ih =>
    simp only [wS, List.map_cons, List.sum_cons] at ih ⊢
    rw [ih]; grind
theorem wS_mul (d : Dic) (c : Int) (φ : Part → Int) : wS d (fun p => c * φ p) = c * wS d φ := by
  induction d with
  | nil => simp [wS]
  | cons a r ih =>
    simp only [wS, List.map_cons, List.sum_cons] at ih ⊢
    rw [ih]; grind
theorem wS_mono {d : Dic} {φ ψ : Part → Int} (h : ∀ q ∈ d, 0 ≤ q.2 ∧ φ q.1 ≤ ψ q.1) : wS d φ ≤ wS d ψ := by
  induction d with
  | nil => exact Int.le_refl _
  | cons a r ih =>
    have ih := ih fun q hq => h q (List.mem_cons_of_mem _ hq)
    have ha := h a List.mem_cons_self
    simp only [wS, List.map_cons, List.sum_cons] at ih ⊢
    have := Int.mul_le_mul_of_nonneg_left ha.2 ha.1
    omega
theorem sumN_le {f g : Nat → Int} : ∀ {N : Nat}, (∀ k, k < N → f k ≤ g k) → sumN f N ≤ sumN g N
  | 0, _ => Int.le_refl _
  | N + 1, h => by
    have h1 := sumN_le (N := N) fun k hk => h k (by omega)
    have h2 := h N (by omega)
    simp only [sumN]; omega
theorem wS_one (free : Nat → List Nat → Bool) : ∀ k, wS (dicK free k) (fun _ => 1) ≤ fct k
  | 0 => by simp [dicK, wS, fct]
  | k + 1 => by
    have ih := wS_one free k
    rw [wS_dicK]
    have g := dicK_gd free k
    have h1 : wS (dicK free k) (nxt (free k) k fun _ => 1) ≤ wS (dicK free k) (fun _ => ((k : Int) + 1) * 1) := wS_mono fun q hq => ⟨g.ps q hq, by
      show sumN (fun a => if free k (q.1.getD a []) = true then (1 : Int) else 0) q.1.length + 1 ≤ ((k : Int) + 1) * 1
      have h2 : sumN (fun a => if free k (q.1.getD a []) = true then (1 : Int) else 0) q.1.length ≤ sumN (fun _ => 1) q.1.length := sumN_le fun a _ => by split <;> omega
      rw [sumN_const] at h2
      have := (g.ln q hq).1
      omega⟩
    rw [wS_mul] at h1
    have h3 : ((k : Int) + 1) * wS (dicK free k) (fun _ => 1) ≤ ((k : Int) + 1) * fct k := Int.mul_le_mul_of_nonneg_left ih (by omega)
    have e : ((fct (k + 1) : Nat) : Int) = ((k : Int) + 1) * fct k := by simp [fct]; grind
    omega
/-! ### the counts -/
def cntJ (d : Dic) (j : Nat) : Int := wS d fun p => if p.length = j then 1 else 0
theorem cntJ_b (free : Nat → List Nat → Bool) {k : Nat} (hk : k ≤ 9) (j : Nat) : 0 ≤ cntJ (dicK free k) j ∧ cntJ (dicK free k) j ≤ 362880 := by
  have g := dicK_gd free k
  constructor
  · have h : wS (dicK free k) (fun _ => 0 * 1) ≤ cntJ (dicK free k) j := wS_mono fun q hq => ⟨g.ps q hq, by split <;> omega⟩
    rw [wS_mul] at h; omega
  · have h : cntJ (dicK free k) j ≤ wS (dicK free k) (fun _ => 1) := wS_mono fun q hq => ⟨g.ps q hq, by split <;> omega⟩
    have h2 := wS_one free k
    have h3 := fct9 hk
    omega
theorem sumN_pick (c : Nat → Int) {a N : Nat} (ha : a < N) : sumN (fun x => (if a = x then 1 else 0) * c x) N = c a := by
  rw [← sumN_one c ha]
  refine sumN_congr fun x _ => ?_
  by_cases z : a = x
  · rw [if_pos z, if_pos z.symm]; omega
  · rw [if_neg z, if_neg fun e => z e.symm]; omega
theorem sum_cnt (c : Nat → Int) (n : Nat) : ∀ d : Dic, (∀ q ∈ d, q.1.length ≤ n) → sumN (fun j => cntJ d j * c j) (n + 1) = wS d fun p => c p.length
  | [], _ => sumN_zero fun _ _ => by simp [cntJ, wS]
  | a :: r, h => by
    have ih := sum_cnt c n r fun q hq => h q (List.mem_cons_of_mem _ hq)
    have e : ∀ j, cntJ (a :: r) j * c j = a.2 * ((if a.1.length = j then 1 else 0) * c j) + cntJ r j * c j := fun j => by
      simp only [cntJ, wS, List.map_cons, List.sum_cons]
      grind
    rw [sumN_congr fun j _ => e j, sumN_add, sumN_mul, sumN_pick c (by have := h a List.mem_cons_self; omega), ih]
    simp [wS]
theorem ffS_sum (m : Int) (cs : List Int) : ∀ s, ffS m cs s = sumN (fun j => cs.getD j 0 * ffall m j) s
  | 0 => rfl
  | s + 1 => by rw [ffS, sumN, ffS_sum m cs s]
def cntsK (n : Nat) (d : Dic) : List Int := (List.range (n + 1)).map fun j => cntJ d j
theorem cnts_get {n : Nat} {d : Dic} {j : Nat} (hj : j < n + 1) : (cntsK n d).getD j 0 = cntJ d j := by
  simp [cntsK, List.getD_eq_getElem?_getD, hj]
theorem ffS_cnts (m : Int) {n : Nat} {d : Dic} (h : ∀ q ∈ d, q.1.length ≤ n) : ffS m (cntsK n d) (n + 1) = wS d fun p => ffall m p.length := by
  rw [ffS_sum, ← sum_cnt _ n d h]
  exact sumN_congr fun j hj => by rw [cnts_get hj]
end K56
namespace K56
/-! ### colourings and their partitions -/
structure Ker where
  cols : List Nat
  lots : Part
  at_ : Nat
def kadd (s : Ker) (x : Nat) : Ker := if x ∈ s.cols then ⟨s.cols, putAt s.lots (s.cols.idxOf x) s.at_, s.at_ + 1⟩ else ⟨s.cols ++ [x], s.lots ++ [[s.at_]], s.at_ + 1⟩
def ker (c : List Nat) : Ker := c.foldl kadd ⟨[], [], 0⟩
theorem ker_snoc (c : List Nat) (x : Nat) : ker (c ++ [x]) = kadd (ker c) x := by simp [ker]
theorem putAt_get {p : Part} {i x a : Nat} (hi : i < p.length) : (putAt p i x).getD a [] = if a = i then p.getD i [] ++ [x] else p.getD a [] := by
  have hl : (p.take i).length = i := by simp; omega
  simp only [putAt, List.getD_eq_getElem?_getD]
  by_cases h1 : a < i
  · rw [List.getElem?_append_left (by omega), List.getElem?_take, if_pos h1, if_neg (by omega)]
  · rw [List.getElem?_append_right (by omega), hl]
    by_cases h2 : a = i
    · rw [if_pos h2, h2, Nat.sub_self]; rfl
    · rw [if_neg h2]
      obtain ⟨d, hd⟩ : ∃ d, a - i = d + 1 := ⟨a - i - 1, by omega⟩
      rw [hd, List.getElem?_cons_succ, List.getElem?_drop]
      have : i + 1 + d = a := by omega
      rw [this]
structure KG (m : Nat) (c : List Nat) (s : Ker) : Prop where
  at_ : s.at_ = c.length
  nd : s.cols.Nodup
  lt : ∀ x ∈ s.cols, x < m
  ln : s.lots.length = s.cols.length
  mem : ∀ w, w < c.length → c.getD w 0 ∈ s.cols
  lot : ∀ i, i < s.cols.length → ∀ w, w ∈ s.lots.getD i [] ↔ w < c.length ∧ c.getD w 0 = s.cols.getD i 0
theorem getD_snoc {c : List Nat} {x w : Nat} (hw : w < c.length + 1) : (c ++ [x]).getD w 0 = if w = c.length then x else c.getD w 0 := by
  simp only [List.getD_eq_getElem?_getD]
  by_cases h : w = c.length
  · rw [if_pos h, h]; simp
  · rw [if_neg h, List.getElem?_append_left (by omega)]
theorem KG.add {m : Nat} {c : List Nat} {s : Ker} (g : KG m c s) {x : Nat} (hx : x < m) : KG m (c ++ [x]) (kadd s x) := by
  unfold kadd
  by_cases h : x ∈ s.cols
  · rw [if_pos h]
    have hi : s.cols.idxOf x < s.cols.length := List.idxOf_lt_length_of_mem h
    have hix : s.cols.getD (s.cols.idxOf x) 0 = x := by
      simp [List.getD_eq_getElem?_getD, hi]
    have hi2 : s.cols.idxOf x < s.lots.length := by rw [g.ln]; exact hi
    refine ⟨by simp [g.at_], g.nd, g.lt, by rw [putAt_len hi2]; exact g.ln, fun w hw => ?_, fun i hil w => ?_⟩
    · rw [List.length_append] at hw
      rw [getD_snoc (by simpa using hw)]
      split
      · exact h
      · exact g.mem w (by simp at hw; omega)
    · show w ∈ (putAt s.lots (s.cols.idxOf x) s.at_).getD i [] ↔ _
      rw [putAt_get hi2, List.length_append]
      have gi := g.lot i hil w
      have gg : w < c.length + 1 → (c ++ [x]).getD w 0 = if w = c.length then x else c.getD w 0 := getD_snoc
      by_cases z : i = s.cols.idxOf x
      · rw [if_pos z, List.mem_append, List.mem_singleton, ← z, gi, g.at_]
        have ei : s.cols.getD i 0 = x := by rw [z]; exact hix
        rw [ei]
        constructor
        · rintro (⟨a, b⟩ | a)
          · exact ⟨by simp; omega, by rw [gg (by omega), if_neg (by omega)]; exact b⟩
          · exact ⟨by simp; omega, by rw [gg (by omega), if_pos a]⟩
        · rintro ⟨a, b⟩
          have a : w < c.length + 1 := by simpa using a
          rw [gg a] at b
          by_cases q : w = c.length
          · exact .inr q
          · rw [if_neg q] at b; exact .inl ⟨by omega, b⟩
      · rw [if_neg z, gi]
        have ne : s.cols.getD i 0 ≠ x := fun e => z (by
          have e2 : s.cols.getD i 0 = s.cols[i] := by simp [List.getD_eq_getElem?_getD, hil]
          rw [← e, e2]
          exact (g.nd.idxOf_getElem i hil).symm)
        constructor
        · rintro ⟨a, b⟩
          exact ⟨by simp; omega, by rw [gg (by omega), if_neg (by omega)]; exact b⟩
        · rintro ⟨a, b⟩
          have a : w < c.length + 1 := by simpa using a
          rw [gg a] at b
          by_cases q : w = c.length
          · rw [if_pos q] at b; exact absurd b.symm ne
          · rw [if_neg q] at b; exact ⟨by omega, b⟩
  · rw [if_neg h]
    refine ⟨by simp [g.at_], ?_, fun y hy => ?_, by simp [g.ln], fun w hw => ?_, fun i hil w => ?_⟩
    · rw [List.nodup_append]
      exact ⟨g.nd, by simp, fun a ha b hb => by rw [List.mem_singleton.mp hb]; exact fun e => h (e ▸ ha)⟩
    · rcases List.mem_append.mp hy with z | z
      · exact g.lt y z
      · rw [List.mem_singleton.mp z]; exact hx
    · rw [List.length_append] at hw
      rw [getD_snoc (by simpa using hw)]
      split
      · simp
      · exact List.mem_append_left _ (g.mem w (by simp at hw; omega))
    · have gg : w < c.length + 1 → (c ++ [x]).getD w 0 = if w = c.length then x else c.getD w 0 := getD_snoc
      have hil : i < s.cols.length + 1 := by simpa using hil
      rw [List.length_append]
      by_cases z : i = s.cols.length
      · have e1 : (s.lots ++ [[s.at_]]).getD i [] = [s.at_] := by
          simp [List.getD_eq_getElem?_getD, z, ← g.ln]
        have e2 : (s.cols ++ [x]).getD i 0 = x := by simp [List.getD_eq_getElem?_getD, z]
        show w ∈ (s.lots ++ [[s.at_]]).getD i [] ↔ _ ∧ _ = (s.cols ++ [x]).getD i 0
        rw [e1, e2, List.mem_singleton, g.at_]
        constructor
        · intro a; exact ⟨by simp; omega, by rw [gg (by omega), if_pos a]⟩
        · rintro ⟨a, b⟩
          have a : w < c.length + 1 := by simpa using a
          rw [gg a] at b
          by_cases q : w = c.length
          · exact q
          · rw [if_neg q] at b; exact absurd (b ▸ g.mem w (by omega)) h
      · have e1 : (s.lots ++ [[s.at_]]).getD i [] = s.lots.getD i [] := by
          rw [List.getD_eq_getElem?_getD, List.getElem?_append_left (by rw [g.ln]; omega), List.getD_eq_getElem?_getD]
        have e2 : (s.cols ++ [x]).getD i 0 = s.cols.getD i 0 := by
          rw [List.getD_eq_getElem?_getD, List.getElem?_append_left (by omega), List.getD_eq_getElem?_getD]
        show w ∈ (s.lots ++ [[s.at_]]).getD i [] ↔ _ ∧ _ = (s.cols ++ [x]).getD i 0
        rw [e1, e2, g.lot i (by omega)]
        have e3 : s.cols.getD i 0 ∈ s.cols := by
          have : i < s.cols.length := by omega
          simp [List.getD_eq_getElem?_getD, this]
        constructor
        · rintro ⟨a, b⟩
          exact ⟨by simp; omega, by rw [gg (by omega), if_neg (by omega)]; exact b⟩
        · rintro ⟨a, b⟩
          have a : w < c.length + 1 := by simpa using a
          rw [gg a] at b
          by_cases q : w = c.length
          · rw [if_pos q] at b; exact absurd (b ▸ e3) h
          · rw [if_neg q] at b; exact ⟨by omega, b⟩
theorem ker_good {m : Nat} : ∀ (n : Nat) (c : List Nat), Col m n c → KG m c (ker c)
  | 0, c, h => by
    have : c = [] := List.length_eq_zero_iff.mp h.1
    subst this
    exact ⟨rfl, List.nodup_nil, fun _ z => (nomatch z), rfl, fun w hw => absurd hw (Nat.not_lt_zero _), fun i hi => absurd hi (Nat.not_lt_zero _)⟩
  | n + 1, c, h => by
    have hc : c ≠ [] := fun e => by rw [e] at h; exact absurd h.1 (by simp)
    have e := List.dropLast_concat_getLast hc
    rw [← e, ker_snoc]
    refine (ker_good n c.dropLast ⟨by rw [List.length_dropLast, h.1]; rfl, fun x hx => h.2 x ((List.dropLast_sublist c).subset hx)⟩).add (h.2 _ (List.getLast_mem hc))
/-! ### a sum over colours, taken and new -/
theorem sum_on (K : Nat → Int) (m : Nat) : ∀ cols : List Nat, cols.Nodup → (∀ x ∈ cols, x < m) → (∀ x, x ∉ cols → K x = 0) → sumN K m = (cols.map K).sum
  | [], _, _, h => by
    rw [sumN_zero fun k _ => h k (by simp)]; rfl
  | a :: r, hd, hl, h => by
    rw [List.nodup_cons] at hd
    have e : ∀ x, K x = (if x = a then K x else 0) + (if x = a then 0 else K x) := fun x => by split <;> omega
    rw [sumN_congr fun x _ => e x, sumN_add, sumN_one K (hl a List.mem_cons_self), sum_on (fun x => if x = a then 0 else K x) m r hd.2 (fun x hx => hl x (List.mem_cons_of_mem _ hx)) fun x hx => by
      by_cases z : x = a
      · exact if_pos z
      · show (if x = a then 0 else K x) = 0
        rw [if_neg z]; exact h x (by simp [z, hx])]
    rw [List.map_cons, List.sum_cons]
    congr 2
    refine List.map_congr_left fun x hx => ?_
    show (if x = a then (0 : Int) else K x) = K x
    exact if_neg fun z : x = a => hd.1 (by rw [← z]; exact hx)
theorem sum_idx (G : Nat → Int) : ∀ (cols : List Nat) (K : Nat → Int), (∀ i (hi : i < cols.length), K cols[i] = G i) → (cols.map K).sum = sumN G cols.length := by
  intro cols K h
  have : ∀ j, j ≤ cols.length → ((cols.take j).map K).sum = sumN G j := fun j => by
    induction j with
    | zero => intro _; rfl
    | succ j ih =>
      intro hj
      rw [List.take_succ_eq_append_getElem (by omega), List.map_append, List.sum_append, ih (by omega), sumN]
      simp [h j (by omega)]
  have := this _ (Nat.le_refl _)
  rwa [List.take_length] at this
theorem sum_split (F G : Nat → Int) (H : Int) {m : Nat} {cols : List Nat} (hd : cols.Nodup) (hl : ∀ x ∈ cols, x < m) (h1 : ∀ i (hi : i < cols.length), F cols[i] = G i) (h2 : ∀ x, x ∉ cols → F x = H) :
    sumN F m = sumN G cols.length + ((m : Int) - cols.length) * H := by
  have e : ∀ x, F x = (F x - H) + H := fun x => by omega
  rw [sumN_congr fun x _ => e x, sumN_add, sumN_const, sum_on (fun x => F x - H) m cols hd hl fun x hx => by rw [h2 x hx]; omega, sum_idx (fun i => G i - H) cols _ fun i hi => by rw [h1 i hi], sumN_sub, sumN_const]
  grind
/-! ### the theorem of partitions -/
/-- the edges among the first k nodes -/
def upto (es : List (Nat × Nat)) (k : Nat) : List (Nat × Nat) := es.filter fun e => decide (e.1 < k) && decide (e.2 < k)
def freeE (es : List (Nat × Nat)) (k : Nat) (lot : List Nat) : Bool := lot.all fun w => !decide ((k, w) ∈ es ∨ (w, k) ∈ es)
theorem mem_upto {es : List (Nat × Nat)} {k : Nat} {e : Nat × Nat} : e ∈ upto es k ↔ e ∈ es ∧ e.1 < k ∧ e.2 < k := by
  simp [upto]
theorem okC_upto {es : List (Nat × Nat)} {k : Nat} {c : List Nat} {x : Nat} (hc : c.length = k) (hl : ∀ e ∈ es, e.1 ≠ e.2) :
    okC (upto es (k + 1)) (c ++ [x]) = true ↔ okC (upto es k) c = true ∧ ∀ w, w < k → ((k, w) ∈ es ∨ (w, k) ∈ es) → c.getD w 0 ≠ x := by
  have gg : ∀ w, w < k + 1 → (c ++ [x]).getD w 0 = if w = k then x else c.getD w 0 := fun w hw => by rw [← hc]; exact getD_snoc (by omega)
  rw [okC_iff, okC_iff]
  constructor
  · intro h
    refine ⟨fun e he => ?_, fun w hw he => ?_⟩
    · obtain ⟨a, b, d⟩ := mem_upto.mp he
      have := h e (mem_upto.mpr ⟨a, by omega, by omega⟩)
      rwa [gg _ (by omega), gg _ (by omega), if_neg (by omega), if_neg (by omega)] at this
    · rcases he with he | he
      · have := h _ (mem_upto.mpr ⟨he, Nat.lt_succ_self k, by show w < k + 1; omega⟩)
        rw [gg _ (by omega), gg _ (by show w < k + 1; omega), if_pos rfl, if_neg (by show ¬ w = k; omega)] at this
        exact fun z => this z.symm
      · have := h _ (mem_upto.mpr ⟨he, by show w < k + 1; omega, Nat.lt_succ_self k⟩)
        rw [gg _ (by show w < k + 1; omega), gg _ (by show k < k + 1; omega), if_neg (by show ¬ w = k; omega), if_pos rfl] at this
        exact this
  · rintro ⟨h1, h2⟩ ⟨a, b⟩ he
    obtain ⟨hm, ha, hb⟩ := mem_upto.mp he
    clear he
    have ha : a < k + 1 := ha
    have hb : b < k + 1 := hb
    have hne : a ≠ b := hl _ hm
    show (c ++ [x]).getD a 0 ≠ (c ++ [x]).getD b 0
    rw [gg a ha, gg b hb]
    by_cases z1 : a = k
    · rw [if_pos z1, if_neg (by omega)]
      subst z1
      exact fun z => h2 b (by omega) (.inl hm) z.symm
    · by_cases z2 : b = k
      · rw [if_neg z1, if_pos z2]
        subst z2
        exact h2 a (by omega) (.inr hm)
      · rw [if_neg z1, if_neg z2]
        exact h1 (a, b) (mem_upto.mpr ⟨hm, by show a < k; omega, by show b < k; omega⟩)
theorem ind_and {p q : Prop} [Decidable p] [Decidable q] {b : Bool} (h : b = true ↔ p ∧ q) : ind b = ind (decide p) * ind (decide q) := by
  unfold ind
  by_cases a : p
  · by_cases c : q
    · simp [h.mpr ⟨a, c⟩, a, c]
    · have : b = false := by cases b with | false => rfl | true => exact absurd (h.mp rfl).2 c
      simp [this, c]
  · have : b = false := by cases b with | false => rfl | true => exact absurd (h.mp rfl).1 a
    simp [this, a]
theorem step_sum {es : List (Nat × Nat)} (hl : ∀ e ∈ es, e.1 ≠ e.2) {m k : Nat} (ψ : Part → Int) {c : List Nat} (hc : Col m k c) :
    sumN (fun x => ind (okC (upto es (k + 1)) (c ++ [x])) * ψ (ker (c ++ [x])).lots) m =
    ind (okC (upto es k) c) * (sumN (fun a => if freeE es k ((ker c).lots.getD a []) = true then ψ (putAt (ker c).lots a k) else 0) (ker c).lots.length + ((m : Int) - (ker c).lots.length) * ψ ((ker c).lots ++ [[k]])) := by
  have g := ker_good k c hc
  have hk : (ker c).at_ = k := by rw [g.at_, hc.1]
  rw [sum_split _ (fun a => ind (okC (upto es k) c) * (if freeE es k ((ker c).lots.getD a []) = true then ψ (putAt (ker c).lots a k) else 0)) (ind (okC (upto es k) c) * ψ ((ker c).lots ++ [[k]])) g.nd g.lt (fun i hi => ?_) fun x hx => ?_]
  · rw [sumN_mul, g.ln]; grind
  · have hm : (ker c).cols[i] ∈ (ker c).cols := List.getElem_mem hi
    have e1 : (ker (c ++ [(ker c).cols[i]])).lots = putAt (ker c).lots i k := by
      rw [ker_snoc, kadd, if_pos hm, g.nd.idxOf_getElem i hi, hk]
    rw [e1]
    have hfree : freeE es k ((ker c).lots.getD i []) = true ↔ ∀ w, w < k → ((k, w) ∈ es ∨ (w, k) ∈ es) → c.getD w 0 ≠ (ker c).cols[i] := by
      unfold freeE
      rw [List.all_eq_true]
      have e2 : (ker c).cols.getD i 0 = (ker c).cols[i] := by simp [List.getD_eq_getElem?_getD, hi]
      constructor
      · intro h w hw he z
        have := h w ((g.lot i hi w).mpr ⟨by rw [hc.1]; exact hw, by rw [e2]; exact z⟩)
        simp [he] at this
      · intro h w hw
        obtain ⟨a, b⟩ := (g.lot i hi w).mp hw
        rw [e2] at b
        by_cases z : (k, w) ∈ es ∨ (w, k) ∈ es
        · exact absurd b (h w (by rw [← hc.1]; exact a) z)
        · simp [z]
    have e3 : okC (upto es (k + 1)) (c ++ [(ker c).cols[i]]) = true ↔ okC (upto es k) c = true ∧ freeE es k ((ker c).lots.getD i []) = true := by
      rw [okC_upto hc.1 hl, hfree]
    rw [ind_and e3]
    generalize freeE es k ((ker c).lots.getD i []) = fb
    generalize okC (upto es k) c = ob
    cases fb <;> cases ob <;> simp [ind]
  · have e1 : (ker (c ++ [x])).lots = (ker c).lots ++ [[k]] := by
      rw [ker_snoc, kadd, if_neg hx, hk]
    rw [e1]
    have e3 : okC (upto es (k + 1)) (c ++ [x]) = okC (upto es k) c := by
      rw [Bool.eq_iff_iff, okC_upto hc.1 hl]
      exact ⟨fun h => h.1, fun h => ⟨h, fun w hw _ z => hx (z ▸ g.mem w (by rw [hc.1]; exact hw))⟩⟩
    rw [e3]
theorem parts_tot {es : List (Nat × Nat)} (hl : ∀ e ∈ es, e.1 ≠ e.2) (m : Nat) : ∀ (k : Nat) (ψ : Part → Int),
    wS (dicK (freeE es) k) (fun p => ffall m p.length * ψ p) = tot m k fun c => ind (okC (upto es k) c) * ψ (ker c).lots
  | 0, ψ => by
    have : upto es 0 = [] := by simp [upto]
    simp [dicK, wS, ffall, tot, this, okC, ind, ker]
  | k + 1, ψ => by
    have g := dicK_gd (freeE es) k
    rw [tot, tot_congr (n := k) fun c hc => step_sum hl ψ hc, ← parts_tot hl m k fun p => sumN (fun a => if freeE es k (p.getD a []) = true then ψ (putAt p a k) else 0) p.length + ((m : Int) - p.length) * ψ (p ++ [[k]]), wS_dicK]
    refine wS_congr fun q hq => ?_
    unfold nxt
    rw [sumN_congr (g := fun a => ffall m q.1.length * (if freeE es k (q.1.getD a []) = true then ψ (putAt q.1 a k) else 0)) fun a ha => ?_, sumN_mul]
    · simp only [List.length_append, List.length_cons, List.length_nil, ffall]
      grind
    · show (if freeE es k (q.1.getD a []) = true then ffall m (putAt q.1 a k).length * ψ (putAt q.1 a k) else 0) = _
      split
      · rw [putAt_len ha]
      · omega
theorem parts_chi {es : List (Nat × Nat)} {n : Nat} (hok : ∀ e ∈ es, e.1 < n ∧ e.2 < n) (hl : ∀ e ∈ es, e.1 ≠ e.2) (m : Nat) : wS (dicK (freeE es) n) (fun p => ffall m p.length) = chi es n m := by
  have h := parts_tot hl m n fun _ => 1
  have e : upto es n = es := List.filter_eq_self.mpr fun e he => by
    have := hok e he
    simp [this.1, this.2]
  rw [e] at h
  unfold chi
  rw [wS_congr (ψ := fun p => ffall m p.length * 1) fun q _ => by omega, h]
  exact tot_congr fun c _ => by omega
end K56
namespace K56
/-! ### lines, rings, whole graphs -/
theorem chi_ext {es es' : List (Nat × Nat)} {k m L : Nat} (cols : List Nat → List Nat) (h : ∀ c, Col m k c → ∀ x, okC es' (c ++ [x]) = true ↔ okC es c = true ∧ x ∉ cols c)
    (h2 : ∀ c, Col m k c → okC es c = true → (cols c).Nodup ∧ (cols c).length = L ∧ ∀ x ∈ cols c, x < m) : chi es' (k + 1) m = ((m : Int) - L) * chi es k m := by
  unfold chi
  rw [tot, ← tot_mul]
  refine tot_congr fun c hc => ?_
  by_cases z : okC es c = true
  · obtain ⟨a, b, d⟩ := h2 c hc z
    have e := sum_split (fun x => ind (okC es' (c ++ [x]))) (fun _ => 0 * 0) 1 a d (fun i hi => by
      have : okC es' (c ++ [(cols c)[i]]) = false := by
        cases q : okC es' (c ++ [(cols c)[i]]) with
        | false => rfl
        | true => exact absurd (List.getElem_mem hi) ((h c hc _).mp q).2
      rw [this]; rfl) fun x hx => by rw [(h c hc x).mpr ⟨z, hx⟩]; rfl
    rw [e, sumN_mul, b, z]
    simp [ind]
  · have e : ∀ x, ind (okC es' (c ++ [x])) = 0 := fun x => by
      have : okC es' (c ++ [x]) = false := by
        cases q : okC es' (c ++ [x]) with
        | false => rfl
        | true => exact absurd ((h c hc _).mp q).1 z
      rw [this]; rfl
    have z' : okC es c = false := by simpa using z
    rw [sumN_zero fun x _ => e x, z']
    simp [ind]
def lineE (n : Nat) : List (Nat × Nat) := (List.range (n - 1)).map fun k => (k, k + 1)
theorem mem_line {n : Nat} {e : Nat × Nat} : e ∈ lineE n ↔ e.2 = e.1 + 1 ∧ e.2 < n := by
  simp only [lineE, List.mem_map, List.mem_range]
  constructor
  · rintro ⟨k, hk, rfl⟩; exact ⟨rfl, by show k + 1 < n; omega⟩
  · rintro ⟨a, b⟩; exact ⟨e.1, by omega, by rw [← a]⟩
theorem chi_line (m : Nat) : ∀ n, chi (lineE (n + 1)) (n + 1) m = m * ((m : Int) - 1) ^ n
  | 0 => by
    have : lineE 1 = [] := rfl
    rw [this, chi_nil, Int.pow_succ]; simp
  | n + 1 => by
    rw [chi_ext (es := lineE (n + 1)) (L := 1) (fun c => [c.getD n 0]) (fun c hc x => ?_) (fun c hc _ => ⟨by simp, rfl, fun x hx => ?_⟩), chi_line m n]
    · rw [Int.pow_succ]; grind
    · have gg : ∀ w, w < n + 2 → (c ++ [x]).getD w 0 = if w = n + 1 then x else c.getD w 0 := fun w hw => by rw [← hc.1]; exact getD_snoc (by rw [hc.1]; omega)
      rw [okC_iff, okC_iff, List.mem_singleton]
      constructor
      · intro h
        refine ⟨fun e he => ?_, fun z => ?_⟩
        · obtain ⟨a, b⟩ := mem_line.mp he
          have := h e (mem_line.mpr ⟨a, by omega⟩)
          rwa [gg _ (by omega), gg _ (by omega), if_neg (by omega), if_neg (by omega)] at this
        · have := h (n, n + 1) (mem_line.mpr ⟨rfl, by show n + 1 < n + 2; omega⟩)
          rw [gg _ (by show n < n + 2; omega), gg _ (by show n + 1 < n + 2; omega), if_neg (by show ¬ n = n + 1; omega), if_pos rfl] at this
          exact this z.symm
      · rintro ⟨h1, h2⟩ ⟨a, b⟩ he
        obtain ⟨p, q⟩ := mem_line.mp he
        have p : b = a + 1 := p
        have q : b < n + 2 := q
        show (c ++ [x]).getD a 0 ≠ (c ++ [x]).getD b 0
        rw [gg a (by omega), gg b (by omega), if_neg (by omega)]
        by_cases z : b = n + 1
        · rw [if_pos z]
          have : a = n := by omega
          rw [this]
          exact fun w => h2 w.symm
        · rw [if_neg z]
          exact h1 (a, b) (mem_line.mpr ⟨p, by show b < n + 1; omega⟩)
    · rw [List.mem_singleton.mp hx]
      have hl : n < c.length := by rw [hc.1]; omega
      rw [List.getD_eq_getElem?_getD, List.getElem?_eq_getElem hl]
      exact hc.2 _ (List.getElem_mem hl)
/-- edges between any two -/
def isWhole (n : Nat) (es : List (Nat × Nat)) : Prop := ∀ e : Nat × Nat, e ∈ es ↔ e.1 < e.2 ∧ e.2 < n
theorem okC_whole {n : Nat} {es : List (Nat × Nat)} (w : isWhole n es) {c : List Nat} (hc : c.length = n) : okC es c = true ↔ c.Nodup := by
  rw [okC_iff, List.nodup_iff_pairwise_ne, List.pairwise_iff_getElem]
  constructor
  · intro h i j hi hj hij
    have := h (i, j) ((w _).mpr ⟨hij, by show j < n; omega⟩)
    simpa [List.getD_eq_getElem?_getD, hi, hj] using this
  · rintro h ⟨a, b⟩ he
    obtain ⟨p, q⟩ := (w _).mp he
    have p : a < b := p
    have q : b < n := q
    have h1 : a < c.length := by omega
    have h2 : b < c.length := by omega
    have := h a b h1 h2 p
    simpa [List.getD_eq_getElem?_getD, h1, h2] using this
theorem chi_whole (m : Nat) : ∀ (n : Nat) (es : List (Nat × Nat)), isWhole n es → chi es n m = ffall m n
  | 0, es, w => by
    have : es = [] := List.eq_nil_iff_forall_not_mem.mpr fun e he => by have := (w e).mp he; omega
    rw [this, chi_nil]; rfl
  | n + 1, es, w => by
    have w' : isWhole n (upto es n) := fun e => by
      rw [mem_upto, w]; omega
    rw [chi_ext (es := upto es n) (L := n) (fun c => c) (fun c hc x => ?_) (fun c hc h => ⟨(okC_whole w' hc.1).mp h, hc.1, hc.2⟩), chi_whole m n _ w', ffall]
    · grind
    · rw [okC_whole w (by simp [hc.1]), okC_whole w' hc.1, List.nodup_append]
      constructor
      · rintro ⟨a, _, b⟩; exact ⟨a, fun z => b x z x (by simp) rfl⟩
      · rintro ⟨a, b⟩; exact ⟨a, by simp, fun y hy z hz e => by rw [List.mem_singleton.mp hz] at e; exact b (e ▸ hy)⟩
def ringE (n : Nat) : List (Nat × Nat) := (List.range n).map fun k => (k, (k + 1) % n)
theorem drop_last (l : List (Nat × Nat)) (e : Nat × Nat) : dropE (l ++ [e]) l.length = l := by
  unfold dropE
  have h1 : (List.range (l ++ [e]).length).filter (fun i => decide (i ≠ l.length)) = List.range l.length := by
    rw [List.length_append, List.length_singleton, List.range_succ, List.filter_append]
    rw [List.filter_eq_self.mpr fun i hi => by have := List.mem_range.mp hi; simp; omega]
    simp
  rw [h1]
  refine List.ext_getElem (by simp) fun i a b => ?_
  have : i < l.length := by simpa using a
  simp [List.getD_eq_getElem?_getD, List.getElem?_append_left this, this]
theorem ring_line (n : Nat) : ringE (n + 2) = lineE (n + 2) ++ [(n + 1, 0)] := by
  unfold ringE lineE
  rw [List.range_succ, List.map_append]
  congr 1
  · refine List.map_congr_left fun k hk => ?_
    have := List.mem_range.mp hk
    rw [Nat.mod_eq_of_lt (by omega)]
  · simp
theorem line_len (n : Nat) : (lineE n).length = n - 1 := by simp [lineE]
theorem ring_at (n : Nat) : (ringE (n + 2)).getD (n + 1) (0, 0) = (n + 1, 0) := by
  rw [ring_line, List.getD_eq_getElem?_getD, List.getElem?_append_right (by rw [line_len]; omega), line_len]
  simp
theorem ring_contr (n : Nat) : contrE (ringE (n + 3)) (n + 2) = ringE (n + 2) := by
  have e1 : dropE (ringE (n + 3)) (n + 2) = lineE (n + 3) := by
    have := drop_last (lineE (n + 3)) (n + 2, 0)
    rw [line_len] at this
    rw [ring_line (n + 1)]
    exact this
  unfold contrE
  simp only
  rw [e1, show (ringE (n + 3)).getD (n + 2) (0, 0) = (n + 2, 0) from ring_at (n + 1)]
  unfold lineE ringE
  rw [List.map_map]
  refine List.map_congr_left fun k hk => ?_
  have hk : k < n + 2 := by have := List.mem_range.mp hk; omega
  simp only [Function.comp, nmC]
  rw [Nat.min_eq_right (Nat.zero_le _), Nat.max_eq_left (Nat.zero_le _), if_neg (by omega), if_neg (by omega)]
  by_cases z : k = n + 1
  · subst z; simp
  · rw [if_neg (by omega), if_neg (by omega), Nat.mod_eq_of_lt (by omega)]
theorem ring_ok {n : Nat} : ∀ e ∈ ringE n, e.1 < n ∧ e.2 < n := fun e he => by
  obtain ⟨k, hk, rfl⟩ := List.mem_map.mp he
  have hk := List.mem_range.mp hk
  exact ⟨hk, Nat.mod_lt _ (by omega)⟩
theorem line_ok {n : Nat} : ∀ e ∈ lineE n, e.1 < n ∧ e.2 < n := fun e he => by
  obtain ⟨a, b⟩ := mem_line.mp he
  omega
theorem chi_ring (m : Nat) : ∀ n, chi (ringE (n + 2)) (n + 2) m = ((m : Int) - 1) ^ (n + 2) + ((m : Int) - 1) * sg (n + 2)
  | 0 => by
    have e : chi (ringE 2) 2 m = chi (lineE 2) 2 m := by
      have : ∀ c, okC (ringE 2) c = okC (lineE 2) c := fun c => by
        rw [Bool.eq_iff_iff, okC_iff, okC_iff]
        have e1 : ringE 2 = [(0, 1), (1, 0)] := rfl
        have e2 : lineE 2 = [(0, 1)] := rfl
        rw [e1, e2]
        constructor
        · intro h e he; exact h e (by simp at he; simp [he])
        · intro h e he
          have := h (0, 1) (by simp)
          rcases List.mem_cons.mp he with z | z
          · rw [z]; exact this
          · rw [List.mem_singleton.mp z]; exact fun w => this w.symm
      unfold chi
      exact tot_congr fun c _ => by rw [this]
    rw [show (0 : Nat) + 2 = 2 from rfl, e, chi_line m 1]
    have s : sg 2 = 1 := rfl
    rw [s]
    grind
  | n + 1 => by
    have hk : n + 2 < (ringE (n + 3)).length := by simp [ringE]
    have e1 : dropE (ringE (n + 3)) (n + 2) = lineE (n + 3) := by
      have := drop_last (lineE (n + 3)) (n + 2, 0)
      rw [line_len] at this
      rw [ring_line (n + 1)]
      exact this
    rw [chi_dc (es := ringE (n + 3)) (k := n + 2) (n := n + 2) (m := m) ring_ok hk (by rw [show (ringE (n + 3)).getD (n + 2) (0, 0) = (n + 2, 0) from ring_at (n + 1)]; show n + 2 ≠ 0; omega), e1, ring_contr, chi_line, chi_ring m n, sg_succ (n + 2), Int.pow_succ _ (n + 2)]
    grind
end K56
namespace K56
open PySem PySem.Spec PyProof.Rows L2 Rf
/-! ### known_parts run -/
theorem cut_to (xs : List D) (i : Nat) (h : Hh) : gCut false (.tup xs) none (some (i : Int)) h = some (.tup (xs.take i), h) := by
  have e : Rf.cutD xs none (some (i : Int)) = xs.take i := by
    unfold Rf.cutD
    have e1 : HT.sIx xs.length 0 none = 0 := rfl
    have e2 : HT.sIx xs.length xs.length (some (i : Int)) = min i xs.length := by
      show (if (i : Int) < 0 then ((i : Int) + xs.length).toNat else min (i : Int).toNat xs.length) = _
      rw [if_neg (by omega)]; simp
    rw [e1, e2, List.drop_zero, Nat.sub_zero, List.take_eq_take_iff]; omega
  show some (D.tup (Rf.cutD xs none (some (i : Int))), h) = _
  rw [e]
theorem cut_from (xs : List D) (i : Nat) (h : Hh) : gCut false (.tup xs) (some (i : Int)) none h = some (.tup (xs.drop i), h) := by
  have e : Rf.cutD xs (some (i : Int)) none = xs.drop i := by
    unfold Rf.cutD
    have e1 : HT.sIx xs.length xs.length none = xs.length := rfl
    have e2 : HT.sIx xs.length 0 (some (i : Int)) = min i xs.length := by
      show (if (i : Int) < 0 then ((i : Int) + xs.length).toNat else min (i : Int).toNat xs.length) = _
      rw [if_neg (by omega)]; simp
    rw [e1, e2]
    by_cases z : i ≤ xs.length
    · rw [Nat.min_eq_left z, List.take_of_length_le (by simp)]
    · rw [Nat.min_eq_right (by omega), List.drop_of_length_le (Nat.le_refl _), List.drop_of_length_le (by omega)]; simp
  show some (D.tup (Rf.cutD xs (some (i : Int)) none), h) = _
  rw [e]
theorem nkeys_nums : ∀ l : List Nat, nkeys (l.map fun x => D.int (x : Nat)) = some (l.map fun x => .num (x : Nat))
  | [] => rfl
  | a :: r => by simp [nkeys, nkey, nkeys_nums r]
theorem nkeys_lots : ∀ p : Part, nkeys (p.map lD) = some (p.map fun l => .tup (l.map fun x => .num (x : Nat)))
  | [] => rfl
  | a :: r => by simp [nkeys, nkey, lD, nkeys_nums, nkeys_lots r]
theorem depth_nums : ∀ l : List Nat, NestedKey.depthAll (l.map fun x => .num (x : Nat)) = 0
  | [] => rfl
  | a :: r => by simp [NestedKey.depthAll, NestedKey.depth, depth_nums r]
theorem depth_lots : ∀ p : Part, NestedKey.depthAll (p.map fun l => .tup (l.map fun x => .num (x : Nat))) ≤ 1
  | [] => by simp [NestedKey.depthAll]
  | a :: r => by
    have := depth_lots r
    simp only [List.map_cons, NestedKey.depthAll, NestedKey.depth, depth_nums]
    omega
theorem keyOk_p (p : Part) : keyOk 2 (pD p) = true := by
  have e : keyN (pD p) = some (.tup (p.map fun l => .tup (l.map fun x => .num (x : Nat)))) := by
    have e1 : nkey (.tup (p.map lD)) = some (.tup (p.map fun l => .tup (l.map fun x => .num (x : Nat)))) := by
      simp only [nkey, nkeys_lots, Option.map_some]
    have := depth_lots p
    show ((nkey (.tup (p.map lD))).bind fun n => if n.depth ≤ 8 then some n else none) = _
    rw [e1]
    exact if_pos (by simp only [NestedKey.depth]; omega)
  show (keyN (pD p)).isSome = true
  rw [e] <;> rfl
def dicO (d : Dic) : Ob := .dcn (ksD d) (vsD d)
theorem dkv_last (h : Hh) (d : Dic) : dkv (h ++ [dicO d]) (.ref h.length) = some (2, ksD d, vsD d) := by
  have e : (h ++ [dicO d])[h.length]? = some (.dcn (ksD d) (vsD d)) := getLast
  simp only [dkv, e]
@[simp] theorem tyD_last (h : Hh) (d : Dic) : tyD (.ref h.length) (h ++ [dicO d]) = true := by
  unfold tyD
  rw [dkv_last] <;> rfl
theorem get_last (h : Hh) (d : Dic) (p : Part) : gGetM (.ref h.length) [pD p, .int 0] (h ++ [dicO d]) = some (.int (getA d p), h ++ [dicO d]) := by
  have e := dkv_last h d
  have l : lookOk (h ++ [dicO d]) (.ref h.length) (pD p) = some (dlook (ksD d) (vsD d) (pD p)) := by
    unfold lookOk
    rw [e, Option.bind_some, if_pos (keyOk_p p)]
  show ((lookOk (h ++ [dicO d]) (.ref h.length) (pD p)).map fun o => (o.getD (.int 0), h ++ [dicO d])) = _
  rw [l, Option.map_some, look_getA]
theorem ksD_len (d : Dic) : (ksD d).length = d.length := by simp [ksD]
theorem put_last (h : Hh) (d : Dic) (p : Part) (v : Int) (hz : d.length < SZ) : aSet (.ref h.length) (pD p) (.int v) (h ++ [dicO d]) = some (h ++ [dicO (setA d p v)]) := by
  have g1 : gSetL (.ref h.length) (pD p) (.int v) (h ++ [dicO d]) = none := rfl
  have g2 : gDPut (.ref h.length) (pD p) (.int v) (h ++ [dicO d]) = some (h ++ [dicO (setA d p v)]) := by
    have e : (h ++ [dicO d])[h.length]? = some (.dcn (ksD d) (vsD d)) := getLast
    simp only [gDPut, e]
    rw [if_pos (by rw [keyOk_p, ksD_len]; simp [hz]), put_ks d p v, put_vs]
    simp [dicO]
  unfold aSet stOr
  rw [g1]
  exact g2
theorem zip_dic (d : Dic) : zipD (ksD d) (vsD d) = d.map fun q => D.tup [pD q.1, .int q.2] := by
  induction d with
  | nil => rfl
  | cons a r ih =>
    simp only [ksD, vsD, List.map_cons, zipD] at ih ⊢
    rw [ih]
theorem free_rows {n : Nat} {es : List (Nat × Nat)} {K : List (List Int)} (hK : rowsP n es K) (hl : ∀ e ∈ es, e.1 ≠ e.2) {v : Nat} (hv : v < n) (lot : List Nat) : ((sortI (K.getD v [])).any fun g => decide (g ∈ lot.map fun x : Nat => (x : Int))) = !freeE es v lot := by
  have key : ((sortI (K.getD v [])).any fun g => decide (g ∈ lot.map fun x : Nat => (x : Int))) = true ↔ ¬ freeE es v lot = true := by
    rw [List.any_eq_true]
    unfold freeE
    rw [List.all_eq_true]
    constructor
    · rintro ⟨g, hg, h2⟩ h3
      have h2 : g ∈ lot.map fun x : Nat => (x : Int) := by simpa using h2
      obtain ⟨w, hw, rfl⟩ := List.mem_map.mp h2
      obtain ⟨e, he, _, q⟩ := ((hK.2 v hv).2 _).mp ((sortI_perm _).mem_iff.mp hg)
      have := h3 w hw
      have : ¬ ((v, w) ∈ es ∨ (w, v) ∈ es) := by simpa using this
      apply this
      rcases q with ⟨a, b⟩ | ⟨a, b⟩
      · left; have : e = (v, w) := Prod.ext a (by have : (w : Int) = e.2 := b; show e.2 = w; omega)
        rw [← this]; exact he
      · right; have : e = (w, v) := Prod.ext (by have : (w : Int) = e.1 := b; show e.1 = w; omega) a
        rw [← this]; exact he
    · intro h
      have ⟨w, hw, q⟩ : ∃ w, w ∈ lot ∧ ((v, w) ∈ es ∨ (w, v) ∈ es) := by
        refine Classical.byContradiction fun z => h fun w hw => ?_
        by_cases q : (v, w) ∈ es ∨ (w, v) ∈ es
        · exact absurd ⟨w, hw, q⟩ z
        · simp [q]
      refine ⟨w, (sortI_perm _).mem_iff.mpr (((hK.2 v hv).2 _).mpr ?_), by simpa using ⟨w, hw, rfl⟩⟩
      rcases q with q | q
      · exact ⟨_, q, hl _ q, .inl ⟨rfl, rfl⟩⟩
      · exact ⟨_, q, hl _ q, .inr ⟨rfl, rfl⟩⟩
  cases e : freeE es v lot with
  | true => rw [e] at key; simpa using key
  | false => rw [e] at key; simpa using key
theorem lot_cast (l : List Nat) : lD l = .tup ((l.map fun x : Nat => (x : Int)).map .int) := by simp [lD]
theorem pD_put {p : Part} {i x : Nat} (hi : i < p.length) : D.tup ((p.map lD).take i ++ (.tup ((p[i].map fun y => D.int (y : Nat)) ++ [.int (x : Nat)]) :: (p.map lD).drop (i + 1))) = pD (putAt p i x) := by
  have e : p.getD i [] = p[i] := by simp [List.getD_eq_getElem?_getD, hi]
  simp only [pD, putAt, e, List.map_append, List.map_cons, List.map_take, List.map_drop, lD, List.map_nil]
theorem cnts_step {n : Nat} {d : Dic} {j : Nat} (hj : j < d.length) (hl : (d.getD j ([], 0)).1.length < n + 1) : (cntsK n (d.take j)).set (d.getD j ([], 0)).1.length (cntJ (d.take j) (d.getD j ([], 0)).1.length + (d.getD j ([], 0)).2) = cntsK n (d.take (j + 1)) := by
  refine List.ext_getElem (by simp [cntsK]) fun i h1 h2 => ?_
  have hi : i < n + 1 := by simpa [cntsK] using h2
  have st : cntJ (d.take (j + 1)) i = cntJ (d.take j) i + (d.getD j ([], 0)).2 * (if (d.getD j ([], 0)).1.length = i then 1 else 0) := wS_take d _ hj
  rw [List.getElem_set]
  have e1 : (cntsK n (d.take (j + 1)))[i] = cntJ (d.take (j + 1)) i := by simp [cntsK]
  have e2 : (cntsK n (d.take j))[i]'(by simp [cntsK]; omega) = cntJ (d.take j) i := by simp [cntsK]
  rw [e1, st]
  split
  · rename_i z; rw [z]; grind
  · rw [e2]; omega
theorem pure_rtL {n : Nat} {m : Ms} {xs vs : List D} {h : Hh} (hx : norefs xs = true) (hv : okF 12 (.lst vs) = true) (e : ∃ k h', m (xs.map some ++ List.replicate (n - xs.length) none) [] = .rt (.ref k) h' ∧ h'[k]? = some (.lst vs)) : pure1 (runF n m) xs h = .ok (.lst vs) h := by
  obtain ⟨k, h', e, el⟩ := e
  have f : frzD 0 h' 12 (.lst vs) = some (.lst vs) := frz_ok hv
  have f2 : frzD 0 h' 12 (.ref k) = some (.lst vs) := by
    rw [← f]
    simp only [frzD, el, Nat.not_lt_zero, if_false]
  have e2 : finR 0 (.ref k) h' = .ok (.lst vs) [] := by
    unfold finR
    rw [f2] <;> rfl
  unfold pure1 runF
  rw [hx]
  simp only [e, List.length_nil, e2]
theorem okF_lints (n : Nat) (l : List Int) : okF (n + 2) (.lst (l.map .int)) = true := by
  simp only [okF, okFs_all, List.mem_map]
  rintro a ⟨e, _, rfl⟩
  rfl
end K56
namespace K56
open PySem PySem.Spec PyProof.Rows L2 Rf
def goneB (k : Nat) : Hh := List.replicate k .gone
theorem goneB_len (k : Nat) : (goneB k).length = k := by simp [goneB]
theorem set_gone (k : Nat) (d : Dic) (o : Ob) : (goneB k ++ [dicO d, o]).set k .gone = goneB (k + 1) ++ [o] := by
  have e : goneB (k + 1) = goneB k ++ [.gone] := by simp [goneB, List.replicate_succ']
  rw [e, List.append_assoc]
  refine (List.set_append_right (s := goneB k) k Ob.gone (by rw [goneB_len]; exact Nat.le_refl _)).trans ?_
  rw [goneB_len, Nat.sub_self] <;> rfl
theorem set_gone1 (k : Nat) (d : Dic) : (goneB k ++ [dicO d]).set k .gone = goneB (k + 1) := by
  have e : goneB (k + 1) = goneB k ++ [.gone] := by simp [goneB, List.replicate_succ']
  rw [e]
  refine (List.set_append_right (s := goneB k) k Ob.gone (by rw [goneB_len]; exact Nat.le_refl _)).trans ?_
  rw [goneB_len, Nat.sub_self] <;> rfl
@[simp] theorem frzS_pD (p : Part) : frzS (pD p) = some (p.map lD) := (rfl)
@[simp] theorem getS_pD (p : Part) (h : Hh) : getS h (pD p) = some (p.map lD) := (rfl)
@[simp] theorem getS_lD (l : List Nat) (h : Hh) : getS h (lD l) = some (l.map fun x => .int (x : Nat)) := (rfl)
@[simp] theorem fLen_pD (p : Part) (h : Hh) : fLen [pD p] h = some (.int p.length, h) := by
  show some (D.int ((p.map lD).length : Nat), h) = _
  rw [List.length_map]
@[simp] theorem cut_to_pD (p : Part) (i : Nat) (h : Hh) : gCut false (pD p) none (some (i : Int)) h = some (.tup ((p.map lD).take i), h) := cut_to _ i h
@[simp] theorem cut_from_pD (p : Part) (i : Nat) (h : Hh) : gCut false (pD p) (some ((i : Int) + 1)) none h = some (.tup ((p.map lD).drop (i + 1)), h) := cut_from _ (i + 1) h
theorem setL_last {h : Hh} {xs : List D} {k : Nat} (hk : k < xs.length) (v : D) : aSet (.ref h.length) (.int k) v (h ++ [.lst xs]) = some (h ++ [.lst (xs.set k v)]) := by
  have ix : ixN xs.length (k : Int) = some k := by unfold ixN; simp [hk]
  have e : gSetL (.ref h.length) (.int k) v (h ++ [.lst xs]) = some (h ++ [.lst (xs.set k v)]) := by
    show ((onL (.ref h.length) (h ++ [.lst xs]) fun l => (ixN l.length k).map fun j => (.non, l.set j v)).map (·.2)) = _
    simp only [onL, getLast, ix, Option.map_some]
    simp
  unfold aSet stOr
  rw [e]
theorem parts_ok {n : Nat} {es : List (Nat × Nat)} (g : OkG n es) (hl : ∀ e ∈ es, e.1 ≠ e.2) (h : Hh) : F_known_parts [gD n es] h = .ok (.lst ((cntsK n (dicK (freeE es) n)).map .int)) h := by
  have hz := g.sz
  have hn := g.hi
  have rn : okR (n : Int) = true := okR_nat (by omega)
  have rn1 : okR ((n : Int) + 1) = true := okR_nat (k := n + 1) (by omega)
  refine pure_rtL (by simp [norefs, nr_g, noref]) (okF_lints 10 _) ?_
  simp only [m_known_parts, N_known_parts]
  have hK := fun h => rows_ok g h
  obtain ⟨K, hK, eK⟩ := hK []
  have mk1 : ∀ h : Hh, mkd1 2 true (.tup []) (.int 1) h = some (.ref h.length, h ++ [dicO (dicK (freeE es) 0)]) := fun _ => rfl
  have mk0 : ∀ h : Hh, mkd 2 true h = some (.ref h.length, h ++ [dicO []]) := fun _ => rfl
  have mk2 : ∀ h : Hh, mkd 0 false h = some (.dct false [] [], h) := fun _ => rfl
  simp [mk1, mk2, eK, rn]
  obtain ⟨rowsD, hrows⟩ : ∃ r, r = D.lst (List.map (fun r => D.lst (List.map D.int (sortI r))) K) := ⟨_, rfl⟩
  rw [← hrows]
  have ix : ∀ (v : Nat) (hv : v < n) (h : Hh), aIx rowsD (.int v) h = some (.lst ((sortI (K.getD v [])).map .int), h) := fun v hv h => by
    have l1 : v < K.length := by rw [hK.1]; exact hv
    rw [hrows, aIx_natL (by simpa using l1)]; simp [l1]
  refine phi_forR (Φ := fun f => ∃ k h', f = Fl.rt (D.ref k) h' ∧ h'[k]? = some (Ob.lst ((cntsK n (dicK (freeE es) n)).map .int))) (fun k env h => ∃ x3 x4 x5 x6 x7 x8 x9 x10, env = [some (gD n es), some rowsD, some (.ref k), x3, x4, x5, x6, x7, x8, x9, x10, none] ∧ h = goneB k ++ [dicO (dicK (freeE es) k)]) ⟨none, none, none, none, none, none, none, none, rfl, rfl⟩ (by
    rintro k hk env h ⟨x3, x4, x5, x6, x7, x8, x9, x10, rfl, rfl⟩
    have gd := dicK_gd (freeE es) k
    have dl := dicK_len (freeE es) k
    have f9 := fct9 (k := k) (by omega)
    have f10 : fct (k + 1) ≤ 362880 := fct9 (by omega)
    generalize hd : dicK (freeE es) k = d at *
    have e1 : (goneB k ++ [dicO d] ++ [dicO []])[k]? = some (.dcn (ksD d) (vsD d)) := by
      rw [List.append_assoc, List.getElem?_append_right (by rw [goneB_len]; exact Nat.le_refl _), goneB_len, Nat.sub_self]; rfl
    have e2 : (goneB k ++ [dicO d] ++ [dicO []]).set k .gone = goneB (k + 1) ++ [dicO []] := by
      rw [List.append_assoc]; exact set_gone k d _
    have l1 : (goneB k ++ [dicO d]).length = (goneB (k + 1)).length := by simp [goneB_len]
    simp [mk0, -List.append_assoc, nstS_ref e1, e2, zip_dic, l1]
    have hB : (goneB (k + 1)).length = k + 1 := goneB_len _
    generalize goneB (k + 1) = HB at *
    refine end_forM (fun j env h => ∃ x5 x6 x7 x8 x9 x10, env = [some (gD n es), some rowsD, some (.ref k), some (.int k), some (.ref HB.length), x5, x6, x7, x8, x9, x10, none] ∧ h = HB ++ [dicO (stepK (freeE es k) k d j)]) ⟨x5, x6, x7, x8, x9, x10, rfl, rfl⟩ (by
      rintro j hj env h ⟨x5, x6, x7, x8, x9, x10, rfl, rfl⟩
      have ej : d.getD j ([], 0) = d[j] := by simp [List.getD_eq_getElem?_getD, hj]
      have gj := gd.ln d[j] (List.getElem_mem hj)
      have ps := gd.ps d[j] (List.getElem_mem hj)
      have hs : stepK (freeE es k) k d (j + 1) = allK (freeE es k) k d[j].1 d[j].2 (stepK (freeE es k) k d j) := by rw [stepK, ej]
      have sl := stepK_len (free := freeE es k) (x := k) gd j (by omega)
      have sl2 : (j + 1) * (k + 1) ≤ fct (k + 1) := Nat.mul_le_mul_right _ (by omega)
      rw [Nat.succ_mul] at sl2
      rw [hs]
      generalize stepK (freeE es k) k d j = f at *
      generalize hp : d[j].1 = p at *
      generalize hv : d[j].2 = v at *
      simp
      rw [enumD_map]
      refine end_forM (fun i env h => ∃ x7 x8 x9 x10, env = [some (gD n es), some rowsD, some (.ref k), some (.int k), some (.ref HB.length), some (pD p), some (.int v), x7, x8, x9, x10, none] ∧ h = HB ++ [dicO (oneK (freeE es k) k p v f i)]) ⟨x7, x8, x9, x10, by simp [hp, hv], rfl⟩ (by
        rintro i hi env h ⟨x7, x8, x9, x10, rfl, rfl⟩
        have hi' : i < p.length := by simpa using hi
        have ol := oneK_len (free := freeE es k) (x := k) (p := p) (v := v) (f := f) i
        have ep : p.getD i [] = p[i] := by simp [List.getD_eq_getElem?_getD, hi']
        have hs : oneK (freeE es k) k p v f (i + 1) = if freeE es k p[i] = true then addA (oneK (freeE es k) k p v f i) (putAt p i k) v else oneK (freeE es k) k p v f i := by rw [oneK, ep]
        rw [hs]
        generalize oneK (freeE es k) k p v f i = fi at *
        simp [ix k hk, -List.getD_eq_getElem?_getD]
        have hcn : (K.getD k []).length ≤ 9 := by
          have := hK.2 k hk
          refine Nat.le_trans (nodup_len n _ this.1 fun x hx => ?_) hn
          obtain ⟨e, he', q⟩ := (this.2 x).mp hx
          have := g.ok e he'
          rcases q.2 with ⟨_, q⟩ | ⟨_, q⟩ <;> omega
        rw [comp_map D.int (fun q => .bl (decide (q ∈ p[i].map fun x : Nat => (x : Int)))) (fun q _ => ⟨_, rfl, by
          simp [aIn_ints (b := lD p[i]) (l := p[i].map fun x : Nat => (x : Int)) (by rw [lot_cast]; rfl)]⟩) (by rw [(sortI_perm _).length_eq]; exact le_SZ (by omega))]
        have fa : ∀ h : Hh, fAny [.lst ((sortI (K.getD k [])).map fun q => .bl (decide (q ∈ p[i].map fun x : Nat => (x : Int))))] h = some (.bl (!freeE es k p[i]), h) := fun h => by
          rw [fAny_map, free_rows hK hl hk]
        simp only [R.bind_ok, fa, ofO_some, R.fl_ok, toB_bl, tvS_some, Bool.not_not]
        have z1 : p[i].length + 1 ≤ SZ := le_SZ (by have := gj.2 p[i] (List.getElem_mem hi'); omega)
        have z2 : ((p.map lD).take i).length + (((p.map lD).drop (i + 1)).length + 1) ≤ SZ := le_SZ (by simp; omega)
        cases hf : freeE es k p[i] with
        | false => simp
        | true =>
          have pk := pD_put (x := k) hi'
          have z3 : fi.length < SZ := lt_SZ (by omega)
          simp [z1, z2, pk, get_last, put_last _ _ _ _ z3, addA, -List.map_take, -List.map_drop, -List.length_take, -List.length_drop]) ?_
      rintro _ _ ⟨x7, x8, x9, x10, rfl, rfl⟩
      rw [List.length_zipIdx]
      have ol := oneK_len (free := freeE es k) (x := k) (p := p) (v := v) (f := f) p.length
      have pk : D.tup (p.map lD ++ [.tup [.int k]]) = pD (p ++ [[k]]) := by simp [pD, lD]
      have z1 : p.length + 1 ≤ SZ := le_SZ (by omega)
      unfold allK addA
      generalize oneK (freeE es k) k p v f p.length = fi at *
      have z3 : fi.length < SZ := lt_SZ (by omega)
      simp [z1, pk, get_last, put_last _ _ _ _ z3]) ?_
    rintro _ _ ⟨x5, x6, x7, x8, x9, x10, rfl, rfl⟩
    have e3 : dicK (freeE es) (k + 1) = stepK (freeE es k) k d d.length := by rw [dicK, hd]
    rw [e3]
    simp [hB]) ?_
  rintro _ _ ⟨x3, x4, x5, x6, x7, x8, x9, x10, rfl, rfl⟩
  have gd := dicK_gd (freeE es) n
  generalize dicK (freeE es) n = d at *
  have t1 : ∀ h : Hh, aMul true (.lst [.int 0]) (.int ((n : Int) + 1)) h = some (.ref h.length, h ++ [.lst ((cntsK n (d.take 0)).map .int)]) := fun h => by
    rw [aMul_lst h true rn1 (by simpa using le_SZ (by omega))]
    have e : ((n : Int) + 1).toNat = n + 1 := by omega
    have e2 : (cntsK n (d.take 0)) = List.replicate (n + 1) 0 := by
      refine List.ext_getElem (by simp [cntsK]) fun i h1 h2 => ?_
      simp [cntsK, cntJ, wS]
    rw [e2, e]
    simp [List.map_replicate]
  have e1 : (goneB n ++ [dicO d] ++ [Ob.lst ((cntsK n (d.take 0)).map .int)])[n]? = some (.dcn (ksD d) (vsD d)) := by
    rw [List.append_assoc, List.getElem?_append_right (by rw [goneB_len]; exact Nat.le_refl _), goneB_len, Nat.sub_self]; rfl
  have e2 : (goneB n ++ [dicO d] ++ [Ob.lst ((cntsK n (d.take 0)).map .int)]).set n .gone = goneB (n + 1) ++ [.lst ((cntsK n (d.take 0)).map .int)] := by
    rw [List.append_assoc]; exact set_gone n d _
  have l1 : (goneB n ++ [dicO d]).length = (goneB (n + 1)).length := by simp [goneB_len]
  simp [t1, -List.append_assoc, nstS_ref e1, e2, zip_dic, l1, -List.take_zero]
  generalize goneB (n + 1) = HB at *
  refine phi_forM (Φ := fun f => ∃ k h', f = Fl.rt (D.ref k) h' ∧ h'[k]? = some (Ob.lst ((cntsK n d).map .int))) (fun j env h => ∃ x3 x4 x5 x6 x7 x8 x9 x10, env = [some (gD n es), some rowsD, some (.ref n), x3, x4, x5, x6, x7, x8, x9, x10, some (.ref HB.length)] ∧ h = HB ++ [.lst ((cntsK n (d.take j)).map .int)]) ⟨x3, x4, x5, x6, x7, x8, x9, x10, rfl, rfl⟩ (by
    rintro j hj env h ⟨x3, x4, x5, x6, x7, x8, x9, x10, rfl, rfl⟩
    have ej : d.getD j ([], 0) = d[j] := by simp [List.getD_eq_getElem?_getD, hj]
    have gj := gd.ln d[j] (List.getElem_mem hj)
    have st := cnts_step (n := n) hj (by rw [ej]; omega)
    rw [ej] at st
    have lz : d[j].1.length < ((cntsK n (d.take j)).map D.int).length := by simp [cntsK]; omega
    have v1 : ((cntsK n (d.take j)).map D.int)[d[j].1.length] = .int (cntJ (d.take j) d[j].1.length) := by simp [cntsK]
    have ix := aIx_last (h := HB) lz
    rw [v1] at ix
    have sx : aSet (.ref HB.length) (.int d[j].1.length) (.int (cntJ (d.take j) d[j].1.length + d[j].2)) (HB ++ [.lst ((cntsK n (d.take j)).map .int)]) = some (HB ++ [.lst ((cntsK n (d.take (j + 1))).map .int)]) := by
      rw [← st, List.map_set]
      exact setL_last lz _
    simp [ix, sx]) ?_
  rintro _ _ ⟨x3, x4, x5, x6, x7, x8, x9, x10, rfl, rfl⟩
  rw [List.take_length]
  refine ⟨HB.length, _, rfl, getLast⟩
end K56
namespace K56
open PySem PySem.Spec PyProof.Rows L2 Rf
/-! ### the program's polynomial -/
theorem no_loop {es : List (Nat × Nat)} : (es.any fun e => decide (e.1 = e.2)) = false ↔ ∀ e ∈ es, e.1 ≠ e.2 := by
  rw [List.any_eq_false]
  simp
theorem Poly.sm {es : List (Nat × Nat)} {n : Nat} {q : List Int} (p : Poly es n q) (g : OkG n es) : Sm q := by
  refine ⟨by have := p.len; have := g.hi; omega, fun a ha => ?_⟩
  have h1 := p.bd a ha
  have h2 : 2 ^ es.length ≤ 2 ^ 180 := Nat.pow_le_pow_right (by decide) g.sz
  have h3 : (2 : Nat) ^ 180 < 2 ^ 500 := Nat.pow_lt_pow_right (by decide) (by decide)
  omega
theorem poly_ok {n : Nat} {es : List (Nat × Nat)} (g : OkG n es) : ∃ q, Poly es n q ∧ Sm q ∧ ∀ h, F_polynomial [gD n es] h = .ok (.tup (q.map .int)) h := by
  obtain ⟨q, p⟩ := poly_ex es.length es n (Nat.le_refl _) g.ok
  refine ⟨q, p, p.sm g, fun h => ?_⟩
  cases e : es.any fun e => decide (e.1 = e.2) with
  | true =>
    rw [poly_zero g e]
    have : List.replicate (n + 1) (0 : Int) = q := evP_inj _ _ 0 (by simp [p.len]) fun m _ => by rw [evP_zero, p.ev, chi_loop e]
    rw [this]
  | false =>
    have hl := no_loop.mp e
    have hd := dicK_gd (freeE es) n
    rw [poly_loop g (cs := cntsK n (dicK (freeE es) n)) (by simp [cntsK]) (fun c hc => by
      obtain ⟨j, _, rfl⟩ := List.mem_map.mp hc
      have := cntJ_b (freeE es) (k := n) g.hi j
      omega) (fun h => parts_ok g hl h) e]
    have : totK n (cntsK n (dicK (freeE es) n)) (n + 1) = q := evP_inj _ _ 0 (by rw [totK_len, p.len]) fun m _ => by
      rw [totK_ev _ _ _ _ (Nat.le_refl _), ffS_cnts _ fun q hq => (hd.ln q hq).1, p.ev, parts_chi g.ok hl]
    rw [this]
theorem count_chi {n : Nat} {es : List (Nat × Nat)} (g : OkG n es) {m : Nat} (hm : m < 2 ^ 20) (h : Hh) : F_count_colours [gD n es, .int m] h = .ok (.int (chi es n m)) h := by
  obtain ⟨q, p, s, e⟩ := poly_ok g
  rw [count_ok g e s hm, p.ev]
end K56
namespace K56
open PySem PySem.Spec PyProof.Rows L2 Rf
/-! ### the law's numbers -/
def stO (ns : List Int) (c : Nat) : Ob := .lst [.lst (ns.map .int), .int c]
structure NsOk (ns : List Int) : Prop where
  lo : 1 ≤ ns.length
  hi : ns.length ≤ 4000
theorem low_ints (k : Nat) (l : List Int) : lowDs k (l.map .int) = true := lows_of (norefs_ints l)
theorem low_stO (k : Nat) (ns : List Int) (c : Nat) : lowO k (stO ns c) = true := by
  simp only [stO, lowO, lowDs, lowD, low_ints, Bool.and_self]
theorem st_ix0 (ns : List Int) (c : Nat) (r : Hh) : aIx (.ref 0) (.int 0) (stO ns c :: r) = some (.lst (ns.map .int), stO ns c :: r) := aIx_ref (n := 0) (xs := [.lst (ns.map .int), .int c]) rfl rfl
theorem st_ix1 (ns : List Int) (c : Nat) (r : Hh) : aIx (.ref 0) (.int 1) (stO ns c :: r) = some (.int c, stO ns c :: r) := aIx_ref (n := 0) (xs := [.lst (ns.map .int), .int c]) rfl rfl
theorem st_set (ns : List Int) (c : Nat) (r : Hh) : aSet (.ref 0) (.int 1) (.int ((c : Int) + 1)) (stO ns c :: r) = some (stO ns (c + 1) :: r) := rfl
theorem next_ok {ns : List Int} (hn : NsOk ns) {c : Nat} (hc : c < 2 ^ 40) {m : Nat} (hm : 1 ≤ m) {r : Hh} (lo : r.all (lowO (r.length + 1)) = true) : ∃ x : Nat, x < m ∧ F__law_next [.ref 0, .int m] (stO ns c :: r) = .ok (.int x) (stO ns (c + 1) :: r) := by
  obtain ⟨q, hq⟩ : ∃ q : Nat, q = (c + 1) / ns.length := ⟨_, rfl⟩
  obtain ⟨p, hp⟩ : ∃ p : Nat, p = (c + 1) % ns.length := ⟨_, rfl⟩
  have h0 := hn.lo
  have h1 := hn.hi
  have hpl : p < ns.length := by rw [hp]; exact Nat.mod_lt _ (by omega)
  have hql : q ≤ c + 1 := by rw [hq]; exact Nat.div_le_self _ _
  obtain ⟨v, hv⟩ : ∃ v : Int, v = ns[p] + q * 389 + ((c : Int) + 1) * q * 17 := ⟨_, rfl⟩
  have d1 : ∀ h : Hh, iDiv (.int ((c : Int) + 1)) (.int (ns.length : Int)) h = some (.int (q : Int), h) := fun h => by
    rw [iDiv_int _ (by omega) (by omega), hq]
    have := fdiv_nat (c + 1) ns.length
    simp only [Int.natCast_add, Int.natCast_one] at this
    rw [this]
  have d2 : ∀ h : Hh, iMod (.int ((c : Int) + 1)) (.int (ns.length : Int)) h = some (.int (p : Int), h) := fun h => by
    rw [iMod_int _ (by omega), hp]
    have := fmod_nat (c + 1) ns.length
    simp only [Int.natCast_add, Int.natCast_one] at this
    rw [this]
  have d3 : ∀ h : Hh, aIx (.lst (ns.map .int)) (.int (p : Int)) h = some (.int ns[p], h) := fun h => by
    rw [aIx_natL (by simpa using hpl)]; simp
  refine ⟨(v.fmod m).toNat, ?_, ?_⟩
  · have a := Int.fmod_nonneg_of_pos v (show (0 : Int) < m by omega)
    have b := Int.fmod_lt_of_pos v (show (0 : Int) < m by omega)
    omega
  · have a := Int.fmod_nonneg_of_pos v (show (0 : Int) < m by omega)
    have ea : (((v.fmod m).toNat : Nat) : Int) = v.fmod m := by omega
    rw [ea]
    refine raw_rt (h2 := []) ?_ rfl rfl ?_
    · simp only [m__law_next, N__law_next]
      have s1 := st_set ns c r
      have cc : (((c + 1 : Nat)) : Int) = (c : Int) + 1 := by omega
      simp [st_ix0, st_ix1, s1, d1, d2, d3, cc, aMul_int _ _ (mulOk_r (i := (q : Int)) (j := 389) (by decide) (by decide)), aMul_int _ _ (mulOk_r (i := (c : Int) + 1) (j := (q : Int)) (by omega) (by omega)), aMul_int _ _ (mulOk_r (i := ((c : Int) + 1) * q) (j := 17) (by decide) (by decide)), iMod_int _ (show (m : Int) ≠ 0 by omega), hv]
    · simp only [List.all_cons, List.length_cons, low_stO, lo, Bool.and_self]
end K56
namespace K56
open PySem PySem.Spec PyProof.Rows L2 Rf
theorem cut63 {xs : List D} (hz : xs.length ≤ 63) (h : Hh) : gCut false (.lst xs) none (some 63) h = some (.lst xs, h) := by
  have e : Rf.cutD xs none (some 63) = xs := by
    refine cut_whole ⟨rfl, ?_⟩
    show (if (63 : Int) < 0 then ((63 : Int) + xs.length).toNat else min (63 : Int).toNat xs.length) = _
    rw [if_neg (by omega)]
    omega
  show (match getL h (.lst xs) with | some ys => mk false (Rf.cutD ys none (some 63)) h | none => none) = _
  simp only [getL_lst, e]
  rfl
theorem app0 {S : List Int} (hz : S.length < 100000) (y : Int) : gAppend (.ref 0) [.int y] [.lst (S.map .int)] = some (.non, [.lst ((S ++ [y]).map .int)]) := by
  have := app_last (h := []) (xs := S.map .int) (y := .int y) (by rw [List.length_map]; exact lt_SZ (by omega))
  simpa using this
@[simp] theorem ty0 (xs : List D) : tyL (.ref 0) [.lst xs] = true := tyL_last [] xs
theorem endl_forRB {n : Nat} {lo : Int} {g : Mg} {b : Ms} {all : List D} {env : Ev} {h : Hh} {A B : Ev → Hh → Prop} (P : Nat → Ev → Hh → Prop) (Q : Ev → Hh → Prop) (h0 : P 0 env h) (step : ∀ (k : Nat) (hk : k < n) (env : Ev) (h : Hh), P k env h → stepP (g (.int (lo + k)) env h) b (P (k + 1)) Q)
    (fin : ∀ e h, P n e h ∨ Q e h → A e h) : endP (sForI g b none all (rng lo n) env h) A B := by
  obtain ⟨e', h', e, p⟩ := forRB (g := g) (b := b) (all := all) P Q h0 step
  rw [e]
  exact fin _ _ p
theorem stream_ok {ns : List Int} (hl : ns.length ≤ 63) (h : Hh) : ∃ S, NsOk S ∧ F__law_stream [.lst (ns.map .int)] h = .ok (.lst (S.map .int)) h := by
  have key : ∃ S, NsOk S ∧ ∃ k h', m__law_stream [some (.lst (ns.map .int)), none, none, none, none, none] [] = .rt (.ref k) h' ∧ h'[k]? = some (.lst (S.map .int)) := by
    have r60 : okR 60 = true := by decide
    have r10 : okR 10 = true := by decide
    have pw : ∀ h : Hh, iPow (.int 10) (.int 18) h = some (.int 1000000000000000000, h) := fun h => by
      rw [iPow_int _ (by decide) (by decide) (by decide)] <;> rfl
    simp only [m__law_stream]
    simp [cut63 (xs := ns.map .int) (by simpa using hl)]
    refine phi_forM (Φ := fun f => ∃ S, NsOk S ∧ ∃ k h', f = Fl.rt (D.ref k) h' ∧ h'[k]? = some (Ob.lst (S.map .int))) (fun j env h => ∃ x2 x3 x4 x5 S, env = [some (.lst (ns.map .int)), some (.ref 0), x2, x3, x4, x5] ∧ h = [.lst (S.map .int)] ∧ S.length ≤ 60 * j) ⟨none, none, none, none, [], rfl, rfl, by simp⟩ (by
      rintro j hj env h ⟨x2, x3, x4, x5, S, rfl, rfl, hS⟩
      obtain ⟨r, hr⟩ : ∃ r : Int, r = if ns[j] < 0 then -ns[j] else ns[j] := ⟨_, rfl⟩
      simp [pw]
      rw [← hr]
      by_cases z : 1000000000000000000 ≤ r
      · simp [z, r60]
        refine endl_forRB (fun i env h => ∃ (x4 : Option D) (q : Int) (S : List Int), env = [some (.lst (ns.map .int)), some (.ref 0), some (.int ns[j]), some (.int q), x4, x5] ∧ h = [.lst (S.map .int)] ∧ S.length ≤ 60 * j + i) (fun env h => ∃ (x4 : Option D) (q : Int) (S : List Int), env = [some (.lst (ns.map .int)), some (.ref 0), some (.int ns[j]), some (.int q), x4, x5] ∧ h = [.lst (S.map .int)] ∧ S.length ≤ 60 * j + 60) ⟨x4, r, S, rfl, rfl, by omega⟩ (by
          rintro i hi env h ⟨x4, q, S, rfl, rfl, hS⟩
          simp [iMod_int _ (show (1009 : Int) ≠ 0 by decide), iDiv_int _ (show (0 : Int) < 1009 by decide) (by decide), app0 (S := S) (by omega), -List.map_append]
          by_cases w : q.fdiv 1009 = 0
          · simp [w, -List.map_append]
            exact ⟨_, rfl, by simp; omega⟩
          · simp [w, -List.map_append]
            exact ⟨_, rfl, by simp; omega⟩) ?_
        rintro e h (⟨x4, q, S, rfl, rfl, hS⟩ | ⟨x4, q, S, rfl, rfl, hS⟩)
        · exact ⟨⟨_, _, _, _, rfl⟩, S, rfl, by omega⟩
        · exact ⟨⟨_, _, _, _, rfl⟩, S, rfl, by omega⟩
      · simp [z, r10, iMod_int _ (show (2147483647 : Int) ≠ 0 by decide)]
        refine endl_forR (fun i env h => ∃ (x4 : Option D) (q : Int) (S : List Int), env = [some (.lst (ns.map .int)), some (.ref 0), some (.int ns[j]), some (.int r), x4, some (.int q)] ∧ h = [.lst (S.map .int)] ∧ S.length ≤ 60 * j + i) ⟨x4, _, S, rfl, rfl, by omega⟩ (by
          rintro i hi env h ⟨x4, q, S, rfl, rfl, hS⟩
          simp [iMod_int _ (show (1009 : Int) ≠ 0 by decide), iMod_int _ (show (2147483647 : Int) ≠ 0 by decide), iMod_int _ (show (2147483629 : Int) ≠ 0 by decide), app0 (S := S) (by omega), -List.map_append, aMul_int _ _ (mulOk_r (i := q) (j := 48271) (by decide) (by decide)), aMul_int _ _ (mulOk_l (i := 7) (j := (i : Int)) (by decide) (by decide)), aMul_int _ _ (mulOk_r (i := (q * 48271 + 7 * (i : Int) + 11).fmod 2147483647) (j := 69621) (by decide) (by decide))]
          exact ⟨_, rfl, by simp; omega⟩) ?_
        rintro e h ⟨x4, q, S, rfl, rfl, hS⟩
        exact ⟨⟨_, _, _, _, rfl⟩, S, rfl, by omega⟩) ?_
    rintro e h ⟨x2, x3, x4, x5, S, rfl, rfl, hS⟩
    have e0 : ∀ h : Hh, fLen [.ref 0] [Ob.lst (S.map .int)] = some (.int S.length, [Ob.lst (S.map .int)]) := fun h => by
      rw [fLen_ref (xs := S.map .int) rfl, List.length_map]
    by_cases w : S.length = 0
    · have hS0 : S = [] := List.length_eq_zero_iff.mp w
      subst hS0
      have a0 := app0 (S := []) (by simp) 0
      simp only [List.map_nil] at a0
      simp [fLen_ref (n := 0) (xs := []) (h := [Ob.lst []]) rfl, a0]
      exact ⟨[0], ⟨by simp, by simp⟩, 0, _, ⟨rfl, rfl⟩, rfl⟩
    · have w2 : ¬ S = [] := fun e => w (by rw [e]; rfl)
      simp [fLen_ref (n := 0) (xs := S.map .int) (h := [Ob.lst (S.map .int)]) rfl, w2]
      exact ⟨S, ⟨by omega, by omega⟩, 0, _, ⟨rfl, rfl⟩, rfl⟩
  obtain ⟨S, hS, e⟩ := key
  exact ⟨S, hS, pure_rtL (by simp [norefs, noref]) (okF_lints 10 S) e⟩
end K56
namespace K56
open PySem PySem.Spec PyProof.Rows L2 Rf
/-! ### drawn graphs -/
theorem nr_es (es : List (Nat × Nat)) : norefs (es.map eD) = true := by
  rw [noref_all]
  intro a ha
  obtain ⟨e, _, rfl⟩ := List.mem_map.mp ha
  rfl
def esO (es : List (Nat × Nat)) : Ob := .lst (es.map eD)
theorem low_esO (k : Nat) (es : List (Nat × Nat)) : lowO k (esO es) = true := lows_of (nr_es es)
theorem next0 {ns : List Int} (hn : NsOk ns) {c : Nat} (hc : c < 2 ^ 40) {m : Nat} (hm : 1 ≤ m) : ∃ x : Nat, x < m ∧ F__law_next [.ref 0, .int m] [stO ns c] = .ok (.int x) [stO ns (c + 1)] := next_ok hn hc hm (r := []) rfl
theorem next1 {ns : List Int} (hn : NsOk ns) {c : Nat} (hc : c < 2 ^ 40) {m : Nat} (hm : 1 ≤ m) (es : List (Nat × Nat)) : ∃ x : Nat, x < m ∧ F__law_next [.ref 0, .int m] [stO ns c, esO es] = .ok (.int x) [stO ns (c + 1), esO es] := next_ok hn hc hm (r := [esO es]) (by simp only [List.all_cons, List.all_nil, low_esO, Bool.and_self])
theorem next2 {ns : List Int} (hn : NsOk ns) {c : Nat} (hc : c < 2 ^ 40) {m : Nat} (hm : 1 ≤ m) (es os : List (Nat × Nat)) : ∃ x : Nat, x < m ∧ F__law_next [.ref 0, .int m] [stO ns c, esO es, esO os] = .ok (.int x) [stO ns (c + 1), esO es, esO os] := next_ok hn hc hm (r := [esO es, esO os]) (by simp only [List.all_cons, List.all_nil, low_esO, Bool.and_self])
theorem app1 {ns : List Int} {c : Nat} {es : List (Nat × Nat)} (hz : es.length < 1000) (a b : Nat) : gAppend (.ref 1) [.tup [.int a, .int b]] [stO ns c, esO es] = some (.non, [stO ns c, esO (es ++ [(a, b)])]) := by
  have := app_last (h := [stO ns c]) (xs := es.map eD) (y := eD (a, b)) (by rw [List.length_map]; exact lt_SZ (by omega))
  simp only [esO, List.map_append, List.map_cons, List.map_nil]
  exact this
theorem app2 {ns : List Int} {c : Nat} {es os : List (Nat × Nat)} (hz : os.length < 1000) (e : Nat × Nat) : gAppend (.ref 2) [eD e] [stO ns c, esO es, esO os] = some (.non, [stO ns c, esO es, esO (os ++ [e])]) := by
  have := app_last (h := [stO ns c, esO es]) (xs := os.map eD) (y := eD e) (by rw [List.length_map]; exact lt_SZ (by omega))
  simp only [esO, List.map_append, List.map_cons, List.map_nil]
  exact this
def okEs' (n : Nat) (es : List (Nat × Nat)) : Prop := ∀ e ∈ es, e.1 < n ∧ e.2 < n
theorem okE_es (n : Nat) (es : List (Nat × Nat)) : okE (n + 2) (.lst (es.map eD)) = true := by
  simp only [okE, okEs_all, List.mem_map]
  rintro _ ⟨e, _, rfl⟩
  rfl
theorem ne_nil {ns : List Int} {c : Nat} {es os : List (Nat × Nat)} : gEqD true (.ref 1) (.lst []) [stO ns c, esO es, esO os] = some (.bl (decide (es ≠ [])), [stO ns c, esO es, esO os]) := by
  have r1 : resD [stO ns c, esO es, esO os] (.ref 1) = .lst (es.map eD) := rfl
  have g : gEqD true (.ref 1) (.lst []) [stO ns c, esO es, esO os] = if (okE dE (.lst (es.map eD)) && okE dE (.lst [])) = true then some (.bl (eqD (.lst (es.map eD)) (.lst []) ^^ true), [stO ns c, esO es, esO os]) else none := rfl
  rw [g, show okE dE (.lst (es.map eD)) = true from okE_es 28 es, show okE dE (.lst []) = true from rfl, if_pos (by rfl)]
  cases es with
  | nil => rfl
  | cons a r => rfl
theorem erase_map {α β : Type} (f : α → β) : ∀ (l : List α) (k : Nat), (l.map f).eraseIdx k = (l.eraseIdx k).map f
  | [], _ => rfl
  | _ :: _, 0 => rfl
  | a :: r, k + 1 => by simp [List.eraseIdx, erase_map f r k]
theorem pop1 {ns : List Int} {c : Nat} {es os : List (Nat × Nat)} {x : Nat} (hz : es.length < 1000) (hx : x < es.length) : gPopL (.ref 1) [.int x] [stO ns c, esO es, esO os] = some (eD es[x], [stO ns c, esO (es.eraseIdx x), esO os]) := by
  have e : gPopL (.ref 1) [.int x] [stO ns c, esO es, esO os] = onL (.ref 1) [stO ns c, esO es, esO os] fun l => if okR (x : Int) = true then (ixN l.length x).bind fun k => (l[k]?).map fun y => (y, l.eraseIdx k) else none := rfl
  have ix : ixN (es.map eD).length (x : Int) = some x := by unfold ixN; simp [hx]
  rw [e]
  simp only [onL, esO, List.getElem?_cons_succ, List.getElem?_cons_zero, okR_nat (show x ≤ 1000000 by omega), if_true, ix, Option.bind_some, List.getElem?_map, List.getElem?_eq_getElem hx, Option.map_some, erase_map]
  rfl
theorem ty1 {ns : List Int} {c : Nat} {es os : List (Nat × Nat)} : tyL (.ref 1) [stO ns c, esO es, esO os] = true := rfl
theorem ty2 {ns : List Int} {c : Nat} {es os : List (Nat × Nat)} : tyL (.ref 2) [stO ns c, esO es, esO os] = true := rfl
theorem ty1' {ns : List Int} {c : Nat} {es : List (Nat × Nat)} : tyL (.ref 1) [stO ns c, esO es] = true := rfl
structure Drawn (n : Nat) (es : List (Nat × Nat)) : Prop where
  lo : 1 ≤ n
  hi : n ≤ 6
  sz : es.length ≤ 60
  ok : okEs' n es
theorem okEs_snoc {n a b : Nat} {es : List (Nat × Nat)} (h : okEs' n es) (ha : a < n) (hb : b < n) : okEs' n (es ++ [(a, b)]) := fun e he => by
  rcases List.mem_append.mp he with z | z
  · exact h e z
  · rw [List.mem_singleton.mp z]; exact ⟨ha, hb⟩
def InvA (ns : List Int) (n c k : Nat) (acc : List D) (h : Hh) : Prop := ∃ es c', acc = es.map eD ∧ h = [stO ns c'] ∧ okEs' n es ∧ es.length ≤ k ∧ c' ≤ c + k
def InvB (ns : List Int) (n L c k : Nat) (env : Ev) (h : Hh) : Prop := ∃ x3 es c', env = [some (.ref 0), some (.int 6), some (.int n), x3, some (.ref 1), none, none, none] ∧ h = [stO ns c', esO es] ∧ okEs' n es ∧ es.length ≤ L + k ∧ c' ≤ c + 2 * k
def InvC (ns : List Int) (n L c : Nat) (env : Ev) (h : Hh) : Prop := ∃ x3 x6 x7 es os c', env = [some (.ref 0), some (.int 6), some (.int n), x3, some (.ref 1), some (.ref 2), x6, x7] ∧ h = [stO ns c', esO es, esO os] ∧ okEs' n es ∧ okEs' n os ∧ es.length + os.length ≤ L ∧ c' ≤ c + 2 * os.length
def InvE (ns : List Int) (n L c : Nat) (env : Ev) (h : Hh) : Prop := ∃ x3 x6 x7 os c', env = [some (.ref 0), some (.int 6), some (.int n), x3, some (.ref 1), some (.ref 2), x6, x7] ∧ h = [stO ns c', esO [], esO os] ∧ okEs' n os ∧ os.length ≤ L ∧ c' ≤ c + 2 * os.length
def muC (_ : Ev) (h : Hh) : Nat := match h with
  | [_, .lst l, _] => l.length
  | _ => 0
def OutD (ns : List Int) (c : Nat) (f : Fl) : Prop := ∃ n es c' h2, Drawn n es ∧ c' ≤ c + 1000 ∧ f = .rt (gD n es) ([stO ns c'] ++ h2)
theorem dense_ok {ns : List Int} (hn : NsOk ns) {c : Nat} (hc : c < 2 ^ 30) : ∃ n es c', Drawn n es ∧ c' ≤ c + 1000 ∧ F__law_dense [.ref 0, .int 6] [stO ns c] = .ok (gD n es) [stO ns c'] := by
  have key : OutD ns c (m__law_dense [some (.ref 0), some (.int 6), none, none, none, none, none, none] [stO ns c]) := by
    simp only [m__law_dense]
    obtain ⟨x, hx, ex⟩ := next0 hn (c := c) (by omega) (m := 5) (by omega)
    simp at ex
    simp [ex]
    obtain ⟨n, hN⟩ : ∃ n : Nat, n = 2 + x := ⟨_, rfl⟩
    have en : (2 : Int) + x = n := by omega
    rw [en]
    have nn : ((n : Int) * n) = ((n * n : Nat) : Int) := by simp
    have hnn : n * n ≤ 36 := Nat.mul_le_mul (show n ≤ 6 by omega) (show n ≤ 6 by omega)
    have rnn : okR ((n * n : Nat) : Int) = true := okR_nat (by omega)
    simp only [aMul_int _ _ (mulOk_r (i := (n : Int)) (j := (n : Int)) (by omega) (by omega)), nn]
    generalize n * n = N at *
    simp [rnn]
    generalize hX : compI _ _ _ none _ _ (rng 0 N) [] _ = X
    obtain ⟨acc, h1, e1, es, c1, rfl, rfl, hes, hl, hc1⟩ : ∃ acc h', X = .ok acc h' ∧ InvA ns n (c + 1) N acc h' := by
      rw [← hX]
      exact compR (fun k acc h => InvA ns n (c + 1) k acc h) ⟨[], c + 1, rfl, rfl, fun _ h => (nomatch h), Nat.le_refl _, by omega⟩ (by
        rintro k hk acc h ⟨es, c', rfl, rfl, hes, hl, hc'⟩
        obtain ⟨y, hy, ey⟩ := next0 hn (c := c') (by omega) (m := 4) (by omega)
        simp at ey
        have d1 : ∀ h : Hh, iDiv (.int (k : Int)) (.int (n : Int)) h = some (.int ((k / n : Nat) : Int), h) := fun h => by
          rw [iDiv_int _ (by omega) (by omega), fdiv_nat]
        have d2 : ∀ h : Hh, iMod (.int (k : Int)) (.int (n : Int)) h = some (.int ((k % n : Nat) : Int), h) := fun h => by
          rw [iMod_int _ (by omega), fmod_nat]
        have hm : k % n < n := Nat.mod_lt _ (by omega)
        generalize k / n = a at *
        generalize k % n = b at *
        simp [d1, d2]
        by_cases z : a < b
        · simp [z, ey]
          by_cases w : 0 < y
          · simp [w]
            exact ⟨lt_SZ (by omega), es ++ [(a, b)], c' + 1, by simp [eD], rfl, okEs_snoc hes (by omega) hm, by simp; omega, by omega⟩
          · simp [w]
            exact ⟨es, c' + 1, rfl, rfl, hes, by omega, by omega⟩
        · simp [z]
          exact ⟨es, c', rfl, rfl, hes, by omega, by omega⟩)
    clear hX
    rw [e1]
    obtain ⟨y, hy, ey⟩ := next1 hn (c := c1) (by omega) (m := 2) (by omega) es
    simp at ey
    simp only [esO] at ey
    have ry : okR (y : Int) = true := okR_nat (by omega)
    simp [ey, ry]
    refine phi_forR (Φ := OutD ns c) (fun k env h => InvB ns n es.length (c1 + 1) k env h) ⟨none, es, c1 + 1, rfl, rfl, hes, Nat.le_refl _, by omega⟩ (by
      rintro k hk env h ⟨x3, es', c2, rfl, rfl, hes', hl', hc2⟩
      obtain ⟨a, ha, ea⟩ := next1 hn (c := c2) (by omega) (m := n) (by omega) es'
      obtain ⟨b, hb, eb⟩ := next1 hn (c := c2 + 1) (by omega) (m := n) (by omega) es'
      simp [ea, eb, app1 (es := es') (by omega), ty1']
      exact ⟨_, _, _, rfl, rfl, okEs_snoc hes' ha hb, by simp; omega, by omega⟩) ?_
    rintro _ _ ⟨x3, es', c2, rfl, rfl, hes', hl', hc2⟩
    simp
    obtain ⟨e', h', ew, x3, x6, x7, os, c3, rfl, rfl, hos, lo, hc3⟩ := while_inv (t := (tV (mB (gEqD true) (mVar 4) (mLst false aNil)))) (b := (sSeq
                      (sAsg
                        (mMeth tyL gPopL (mVar 4)
                          (aCons (mCall F__law_next (aCons (mVar 0) (aCons (mF fLen (aCons (mVar 4) aNil)) aNil)))
                            aNil))
                        (Rf.gTup 2 (gsCons (gN 6) (gsCons (gN 7) gsNil))))
                      (sExpr
                        (mMeth tyL gAppend (mVar 5)
                          (aCons
                            (mB aIx
                              (mLst false
                                (aCons (mTup (aCons (mVar 6) (aCons (mVar 7) aNil)))
                                  (aCons (mTup (aCons (mVar 7) (aCons (mVar 6) aNil))) aNil)))
                              (mCall F__law_next (aCons (mVar 0) (aCons (mC (D.int 2)) aNil))))
                            aNil))))) (n := 100000) (env := [some (.ref 0), some (.int 6), some (.int n), x3, some (.ref 1), some (.ref 2), none, none]) (h := [stO ns c2, esO es', esO []]) (InvC ns n es'.length c2) (InvE ns n es'.length c2) muC ⟨x3, none, none, es', [], c2, rfl, rfl, hes', fun _ h => (nomatch h), by simp, by simp⟩ (by simp [muC, esO]; omega) (by
      rintro env h ⟨x3, x6, x7, es3, os, c3, rfl, rfl, h3, ho, hl3, hc3⟩
      by_cases z : es3 = []
      · left
        subst z
        refine ⟨_, by simp [ne_nil], x3, x6, x7, os, c3, rfl, rfl, ho, by simpa using hl3, hc3⟩
      · right
        have hl0 : es3.length ≠ 0 := fun w => z (List.length_eq_zero_iff.mp w)
        have lz : es3.length ≤ 60 := by omega
        obtain ⟨a, ha, ea⟩ := next2 hn (c := c3) (by omega) (m := es3.length) (by omega) es3 os
        obtain ⟨b, hb, eb⟩ := next2 hn (c := c3 + 1) (by omega) (m := 2) (by omega) (es3.eraseIdx a) os
        simp at eb
        obtain ⟨e, he⟩ : ∃ e, e = es3[a] := ⟨_, rfl⟩
        have hem := h3 _ (List.getElem_mem ha)
        rw [← he] at hem
        have pp := pop1 (ns := ns) (c := c3 + 1) (os := os) (show es3.length < 1000 by omega) ha
        rw [← he] at pp
        have fl : ∀ c, fLen [.ref 1] [stO ns c, esO es3, esO os] = some (.int es3.length, [stO ns c, esO es3, esO os]) := fun c => by
          rw [fLen_ref (xs := es3.map eD) rfl, List.length_map]
        have el : (es3.eraseIdx a).length = es3.length - 1 := by rw [List.length_eraseIdx]; simp [ha]
        have eo : okEs' n (es3.eraseIdx a) := fun x hx => h3 x (List.mem_of_mem_eraseIdx hx)
        have ap : ∀ x, gAppend (.ref 2) [eD x] [stO ns (c3 + 1 + 1), esO (es3.eraseIdx a), esO os] = some (.non, [stO ns (c3 + 1 + 1), esO (es3.eraseIdx a), esO (os ++ [x])]) := fun x => app2 (by omega) x
        have t1 : D.tup [.int (e.1 : Nat), .int (e.2 : Nat)] = eD e := rfl
        have t2 : D.tup [.int (e.2 : Nat), .int (e.1 : Nat)] = eD (e.2, e.1) := rfl
        have g1 : ∀ env h, Rf.gTup 2 (gsCons (gN 6) (gsCons (gN 7) gsNil)) (eD e) env h = some ((env.set 6 (some (.int e.1))).set 7 (some (.int e.2)), h) := fun env h => by simp [eD]
        have i0 : ∀ (x y : D) (h : Hh), aIx (.lst [x, y]) (.int 0) h = some (x, h) := fun x y h => aIx_lst h rfl
        have i1 : ∀ (x y : D) (h : Hh), aIx (.lst [x, y]) (.int 1) h = some (y, h) := fun x y h => aIx_lst h rfl
        have hb2 : b = 0 ∨ b = 1 := by omega
        refine ⟨[stO ns c3, esO es3, esO os], ?_⟩
        rcases hb2 with rfl | rfl
        · refine ⟨[some (.ref 0), some (.int 6), some (.int n), x3, some (.ref 1), some (.ref 2), some (.int e.1), some (.int e.2)], [stO ns (c3 + 1 + 1), esO (es3.eraseIdx a), esO (os ++ [e])], ?_, .inl ?_, ?_, ?_⟩
          · simp [ne_nil, z]
          · simp at eb
            simp [fl, ea, ty1, pp, g1, ty2, eb, t1, ap, i0, i1]
          · exact ⟨x3, _, _, _, _, _, rfl, rfl, eo, okEs_snoc ho hem.1 hem.2, by simp [el]; omega, by simp; omega⟩
          · simp [muC, esO, el]; omega
        · refine ⟨[some (.ref 0), some (.int 6), some (.int n), x3, some (.ref 1), some (.ref 2), some (.int e.1), some (.int e.2)], [stO ns (c3 + 1 + 1), esO (es3.eraseIdx a), esO (os ++ [(e.2, e.1)])], ?_, .inl ?_, ?_, ?_⟩
          · simp [ne_nil, z]
          · simp at eb
            simp [fl, ea, ty1, pp, g1, ty2, eb, t1, t2, ap, i0, i1]
          · exact ⟨x3, _, _, _, _, _, rfl, rfl, eo, okEs_snoc ho hem.2 hem.1, by simp [el]; omega, by simp; omega⟩
          · simp [muC, esO, el]; omega)
    have h5 : Ob.lst [] = esO [] := rfl
    have ft : fTup [.ref 2] [stO ns c3, esO [], esO os] = some (.tup (os.map eD), [stO ns c3, esO [], esO os]) := fTup_ref rfl
    rw [h5, ew]
    simp [ft]
    exact ⟨n, os, c3, [esO [], esO os], ⟨by omega, by omega, by omega, hos⟩, by omega, rfl⟩
  obtain ⟨n, es, c', h2, d, hc', e⟩ := key
  exact ⟨n, es, c', d, hc', raw_rt e rfl (okF_g 8 n es) (by simp only [List.all_cons, List.all_nil, low_stO, Bool.and_self])⟩
end K56
namespace K56
open PySem PySem.Spec PyProof.Rows L2 Rf
def InvF (ns : List Int) (n c k : Nat) (env : Ev) (h : Hh) : Prop := ∃ x5 es c', env = [some (.ref 0), some (.int 6), some (.int 9), some (.int n), some (.ref 1), x5] ∧ h = [stO ns c', esO es] ∧ okEs' n es ∧ es.length ≤ k ∧ c' ≤ c + 2 * k
def InvG (ns : List Int) (n c : Nat) (es : List (Nat × Nat)) (k : Nat) (acc : List D) (h : Hh) : Prop := ∃ fs c', acc = fs.map eD ∧ h = [stO ns c', esO es] ∧ okEs' n fs ∧ fs.length ≤ k ∧ c' ≤ c + k
theorem cut_ref {ns : List Int} {c : Nat} (es : List (Nat × Nat)) (t : Nat) : gCut false (.ref 1) none (some (t : Int)) [stO ns c, esO es] = some (.lst ((es.take t).map eD), [stO ns c, esO es]) := by
  have e : Rf.cutD (es.map eD) none (some (t : Int)) = (es.take t).map eD := by
    unfold Rf.cutD
    have e1 : HT.sIx (es.map eD).length 0 none = 0 := rfl
    have e2 : HT.sIx (es.map eD).length (es.map eD).length (some (t : Int)) = min t (es.map eD).length := by
      show (if (t : Int) < 0 then ((t : Int) + (es.map eD).length).toNat else min (t : Int).toNat (es.map eD).length) = _
      rw [if_neg (by omega)]; simp
    rw [e1, e2, List.drop_zero, Nat.sub_zero, List.map_take, List.take_eq_take_iff]; omega
  have g : getL [stO ns c, esO es] (.ref 1) = some (es.map eD) := rfl
  show (match getL [stO ns c, esO es] (.ref 1) with | some xs => mk false (Rf.cutD xs none (some (t : Int))) [stO ns c, esO es] | none => none) = _
  simp only [g, e]
  rfl
theorem graph_ok {ns : List Int} (hn : NsOk ns) {c : Nat} (hc : c < 2 ^ 30) : ∃ n es c', Drawn n es ∧ c' ≤ c + 1000 ∧ F__law_graph [.ref 0, .int 6, .int 9] [stO ns c] = .ok (gD n es) [stO ns c'] := by
  have key : OutD ns c (m__law_graph [some (.ref 0), some (.int 6), some (.int 9), none, none, none] [stO ns c]) := by
    simp only [m__law_graph]
    obtain ⟨x, hx, ex⟩ := next0 hn (c := c) (by omega) (m := 6) (by omega)
    simp at ex
    obtain ⟨y, hy, ey⟩ := next1 hn (c := c + 1) (by omega) (m := 10) (by omega) []
    simp only [esO, List.map_nil] at ey
    simp at ey
    have ry : okR (y : Int) = true := okR_nat (by omega)
    simp [ex, ey, ry]
    obtain ⟨n, hN⟩ : ∃ n : Nat, n = 1 + x := ⟨_, rfl⟩
    have en : (1 : Int) + x = n := by omega
    rw [en]
    refine phi_forR (Φ := OutD ns c) (fun k env h => InvF ns n (c + 2) k env h) ⟨none, [], c + 2, rfl, rfl, fun _ h => (nomatch h), Nat.le_refl _, by omega⟩ (by
      rintro k hk env h ⟨x5, es', c2, rfl, rfl, hes', hl', hc2⟩
      obtain ⟨a, ha, ea⟩ := next1 hn (c := c2) (by omega) (m := n) (by omega) es'
      obtain ⟨b, hb, eb⟩ := next1 hn (c := c2 + 1) (by omega) (m := n) (by omega) es'
      simp [ea, eb, app1 (es := es') (by omega), ty1']
      exact ⟨_, _, _, rfl, rfl, okEs_snoc hes' ha hb, by simp; omega, by omega⟩) ?_
    rintro _ _ ⟨x5, es, c2, rfl, rfl, hes, hl, hc2⟩
    obtain ⟨z, hz, ez⟩ := next1 hn (c := c2) (by omega) (m := 3) (by omega) es
    simp at ez
    simp [ez]
    by_cases w : 0 < z
    · obtain ⟨t, ht⟩ : ∃ t : Nat, t = 9 - n + 1 := ⟨_, rfl⟩
      have et : (9 : Int) - n + 1 = t := by omega
      have r1 : okR (1 : Int) = true := by decide
      have rn : okR (n : Int) = true := okR_nat (by omega)
      have t0 : 0 < t := by omega
      simp [w, et, t0, cut_ref, r1, rn]
      generalize hX : compI _ _ _ none _ _ (rng 1 (n - 1)) [] _ = X
      obtain ⟨acc, h1, e1, fs, c3, rfl, rfl, hfs, hlf, hc3⟩ : ∃ acc h', X = .ok acc h' ∧ InvG ns n (c2 + 1) es (n - 1) acc h' := by
        rw [← hX]
        exact compR (fun k acc h => InvG ns n (c2 + 1) es k acc h) ⟨[], c2 + 1, rfl, rfl, fun _ h => (nomatch h), Nat.le_refl _, by omega⟩ (by
          rintro k hk acc h ⟨fs, c', rfl, rfl, hfs, hl, hc'⟩
          obtain ⟨a, ha, ea⟩ := next1 hn (c := c') (by omega) (m := 1 + k) (by omega) es
          simp at ea
          simp [ea]
          exact ⟨lt_SZ (by omega), fs ++ [(a, 1 + k)], c' + 1, by simp [eD], rfl, okEs_snoc hfs (by omega) (by omega), by simp; omega, by omega⟩)
      clear hX
      rw [e1]
      have ha : ∀ h : Hh, aAdd true (.lst ((es.map eD).take t)) (.lst (fs.map eD)) h = some (.ref h.length, h ++ [esO (es.take t ++ fs)]) := fun h => by
        rw [aAdd_lst h true (getL_lst _ _) (getL_lst _ _) (le_SZ (by simp; omega)), mk_true]
        simp [esO]
      have ft : ∀ gs, fTup [.ref 2] [stO ns c3, esO es, esO gs] = some (.tup (gs.map eD), [stO ns c3, esO es, esO gs]) := fun gs => fTup_ref rfl
      simp [ha, ft, -List.map_take]
      refine ⟨n, es.take t ++ fs, c3, [esO es, esO (es.take t ++ fs)], ⟨by omega, by omega, by simp; omega, fun e he => ?_⟩, by omega, by simp [gD]⟩
      rcases List.mem_append.mp he with q | q
      · exact hes e (List.mem_of_mem_take q)
      · exact hfs e q
    · have ft : fTup [.ref 1] [stO ns (c2 + 1), esO es] = some (.tup (es.map eD), [stO ns (c2 + 1), esO es]) := fTup_ref rfl
      simp [w, ft]
      exact ⟨n, es, c2 + 1, [esO es], ⟨by omega, by omega, by omega, hes⟩, by omega, rfl⟩
  obtain ⟨n, es, c', h2, d, hc', e⟩ := key
  exact ⟨n, es, c', d, hc', raw_rt e rfl (okF_g 8 n es) (by simp only [List.all_cons, List.all_nil, low_stO, Bool.and_self])⟩
end K56
namespace K56
open PySem PySem.Spec PyProof.Rows L2 Rf
/-! ### the great ones -/
def wholeE (s : Nat) : List (Nat × Nat) := ((List.range (s * s)).filter fun k => decide (k / s < k % s)).map fun k => (k / s, k % s)
theorem whole_is (s : Nat) : isWhole s (wholeE s) := fun e => by
  simp only [wholeE, List.mem_map, List.mem_filter, List.mem_range, decide_eq_true_eq]
  constructor
  · rintro ⟨k, ⟨h1, h2⟩, rfl⟩
    have h3 : 0 < s := by
      rcases Nat.eq_zero_or_pos s with z | z
      · rw [z] at h1; omega
      · exact z
    exact ⟨h2, Nat.mod_lt _ h3⟩
  · rintro ⟨h1, h2⟩
    refine ⟨s * e.1 + e.2, ⟨?_, ?_⟩, ?_⟩
    · calc s * e.1 + e.2 < s * e.1 + s := by omega
        _ = s * (e.1 + 1) := by rw [Nat.mul_succ]
        _ ≤ s * s := Nat.mul_le_mul_left _ (by omega)
    · rw [Nat.mul_add_div (by omega), Nat.mul_add_mod, Nat.mod_eq_of_lt h2, Nat.div_eq_of_lt h2]; omega
    · rw [Nat.mul_add_div (by omega), Nat.mul_add_mod, Nat.mod_eq_of_lt h2, Nat.div_eq_of_lt h2]; rfl
theorem whole_ok {s : Nat} : ∀ e ∈ wholeE s, e.1 < s ∧ e.2 < s := fun e he => by
  have := (whole_is s e).mp he
  omega
def toldI (v : Int) : D := .tup [.str "told", .int v]
theorem okE_told (l : List Int) : okE dE (.lst (l.map toldI)) = true := by
  have e : okE dE (.lst (l.map toldI)) = okEs 29 (l.map toldI) := rfl
  rw [e, okEs_all]
  intro a ha
  obtain ⟨x, _, rfl⟩ := List.mem_map.mp ha
  have : okE 29 (toldI x) = okE 29 (toldI 0) := rfl
  rw [this]
  kernel_rfl
theorem simple_told (l : List Int) : simpleD (.lst (l.map toldI)) = true := by
  have e : simpleD (.lst (l.map toldI)) = simpleDs (l.map toldI) := rfl
  rw [e, simpleDs_all]
  intro a ha
  obtain ⟨x, _, rfl⟩ := List.mem_map.mp ha
  rfl
def OutB (ns : List Int) (c : Nat) (f : Fl) : Prop := ∃ c' h2, c' ≤ c + 1000 ∧ f = .rt (.bl true) ([stO ns c'] ++ h2)
def InvH (ns : List Int) (c s m : Nat) (rd ld wd : D) (k : Nat) (env : Ev) (h : Hh) : Prop := ∃ x3, env = [some (.ref 0), some (.int s), some (.int m), x3, some rd, some ld, some wd, some (.int (ffall m k)), none, none, none] ∧ h = [stO ns c]
theorem great_ok {ns : List Int} (hn : NsOk ns) {c : Nat} (hc : c < 2 ^ 30) : ∃ c', c' ≤ c + 1000 ∧ F__law_great [.ref 0] [stO ns c] = .ok (.bl true) [stO ns c'] := by
  have key : OutB ns c (m__law_great [some (.ref 0), none, none, none, none, none, none, none, none, none, none] [stO ns c]) := by
    simp only [m__law_great]
    obtain ⟨x, hx, ex⟩ := next0 hn (c := c) (by omega) (m := 7) (by omega)
    simp at ex
    obtain ⟨m, hm, em⟩ := next0 hn (c := c + 1) (by omega) (m := 5000) (by omega)
    simp at em
    simp [ex, em]
    obtain ⟨s, hs⟩ : ∃ s : Nat, s = 3 + x := ⟨_, rfl⟩
    have es : (3 : Int) + x = s := by omega
    rw [es]
    have rs : okR (s : Int) = true := okR_nat (by omega)
    have rs1 : okR ((s : Int) - 1) = true := by
      have := okR_nat (k := s - 1) (by omega)
      have e : (((s - 1 : Nat)) : Int) = (s : Int) - 1 := by omega
      rwa [e] at this
    obtain ⟨N, hN⟩ : ∃ N : Nat, N = s * s := ⟨_, rfl⟩
    have ss : ((s : Int) * s) = (N : Int) := by rw [hN]; simp
    have hss : N ≤ 81 := by rw [hN]; exact Nat.mul_le_mul (show s ≤ 9 by omega) (show s ≤ 9 by omega)
    have rss : okR (N : Int) = true := okR_nat (by omega)
    have t1 : ((s : Int) - 1).toNat = s - 1 := by omega
    simp [rs]
    rw [rng_map, comp_map (fun i : Nat => D.int (i : Nat)) (fun i => eD (i, (i + 1) % s)) (fun i hi => ⟨_, rfl, by
      have q := fmod_nat (i + 1) s
      simp at q
      simp [iMod_int _ (show (s : Int) ≠ 0 by omega), q, eD]⟩) (by simp only [List.length_range, List.length_nil, Nat.zero_add]; exact le_SZ (by omega))]
    have r1 : D.tup [.int s, .tup ((List.range s).map fun i => eD (i, (i + 1) % s))] = gD s (ringE s) := by simp [gD, ringE]
    have r2 : D.tup [.int s, .tup ((List.range (s - 1)).map fun i => eD (i, i + 1))] = gD s (lineE s) := by simp [gD, lineE]
    have r3 : D.tup [.int s, .tup (((List.range N).filter fun k => decide (k / s < k % s)).map fun k => eD (k / s, k % s))] = gD s (wholeE s) := by rw [hN]; simp [gD, wholeE]
    have r4 : D.tup [.int s, .tup []] = gD s [] := rfl
    simp [rs1, t1]
    rw [rng_map, comp_map (fun i : Nat => D.int (i : Nat)) (fun i => eD (i, i + 1)) (fun i hi => ⟨_, rfl, by
      simp [eD]⟩) (by simp only [List.length_range, List.length_nil, Nat.zero_add]; exact le_SZ (by omega))]
    simp [aMul_int _ _ (mulOk_r (i := (s : Int)) (j := (s : Int)) (by omega) (by omega)), ss, rss]
    have dd : ∀ k : Nat, (∀ h : Hh, iDiv (.int (k : Int)) (.int (s : Int)) h = some (.int ((k / s : Nat) : Int), h)) ∧ (∀ h : Hh, iMod (.int (k : Int)) (.int (s : Int)) h = some (.int ((k % s : Nat) : Int), h)) := fun k =>
      ⟨fun h => by rw [iDiv_int _ (by omega) (by omega), fdiv_nat], fun h => by rw [iMod_int _ (by omega), fmod_nat]⟩
    rw [rng_map, comp_pure (fun i : Nat => D.int (i : Nat)) (fun k => decide (k / s < k % s)) (fun k => eD (k / s, k % s)) (fun k hk => by
      obtain ⟨d1, d2⟩ := dd k
      generalize k / s = a at *
      generalize k % s = b at *
      exact ⟨_, rfl, by simp [d1, d2], fun _ => by simp [d1, d2, eD]⟩) (by simp only [List.length_range, List.length_nil, Nat.zero_add]; exact le_SZ (by omega))]
    simp
    rw [r1, r2, r3]
    simp [rs]
    refine phi_forR (Φ := OutB ns c) (fun k env h => InvH ns (c + 1 + 1) s m (gD s (ringE s)) (gD s (lineE s)) (gD s (wholeE s)) k env h) ⟨none, rfl, rfl⟩ (by
      rintro k hk env h ⟨x3, rfl, rfl⟩
      simp [aMul_int _ _ (mulOk_r (i := ffall (m : Int) k) (j := (m : Int) - k) (by omega) (by omega))]
      exact ⟨_, rfl, rfl⟩) ?_
    rintro _ _ ⟨x3, rfl, rfl⟩
    have g1 : OkG s (ringE s) := ⟨by omega, by omega, by simp [ringE]; omega, ring_ok⟩
    have g2 : OkG s (lineE s) := ⟨by omega, by omega, by simp [lineE]; omega, line_ok⟩
    have g3 : OkG s (wholeE s) := ⟨by omega, by omega, by
      have : (wholeE s).length ≤ (List.range (s * s)).length := by rw [wholeE, List.length_map]; exact List.length_filter_le _ _
      rw [List.length_range] at this; omega, whole_ok⟩
    have g4 : OkG s [] := ⟨by omega, by omega, by simp, fun _ h => (nomatch h)⟩
    have v1 := chi_ring m (s - 2)
    have v2 := chi_line m (s - 1)
    have v3 := chi_whole m s (wholeE s) (whole_is s)
    have v4 := chi_nil m s
    rw [show s - 2 + 2 = s by omega] at v1
    rw [show s - 1 + 1 = s by omega] at v2
    have p1 := fun h => lpower_ok (m := (m : Int) - 1) (by omega) (by omega) (k := s) (by omega) h
    have p2 := fun h => lpower_ok (m := (m : Int) - 1) (by omega) (by omega) (k := s - 1) (by omega) h
    have p3 := fun h => lpower_ok (m := (m : Int)) (by omega) (by omega) (k := s) (by omega) h
    rw [show (((s - 1 : Nat)) : Int) = (s : Int) - 1 by omega] at p2
    have md : ∀ h : Hh, iMod (.int (s : Int)) (.int 2) h = some (.int ((s % 2 : Nat) : Int), h) := fun h => by
      rw [iMod_int _ (by decide)]
      have := fmod_nat s 2
      rw [← this]; rfl
    have hb : s % 2 < 2 := Nat.mod_lt _ (by decide)
    have sg2 : sg s = 1 - 2 * ((s % 2 : Nat) : Int) := rfl
    rw [sg2] at v1
    generalize s % 2 = b at *
    simp [p1, p2, p3, md, aMul_int _ _ (mulOk_l (i := 2) (j := (b : Int)) (by decide) (by decide)), aMul_int _ _ (mulOk_l (i := (m : Int) - 1) (j := 1 - 2 * (b : Int)) (by omega) (by omega)), aMul_int _ _ (mulOk_l (i := (m : Int)) (j := ((m : Int) - 1) ^ (s - 1)) (by omega) (by omega)), r4, count_chi g1 (show m < 2 ^ 20 by omega), count_chi g2 (show m < 2 ^ 20 by omega), count_chi g3 (show m < 2 ^ 20 by omega), count_chi g4 (show m < 2 ^ 20 by omega), v1, v2, v3, v4]
    generalize ((m : Int) - 1) ^ s + ((m : Int) - 1) * (1 - 2 * (b : Int)) = w1
    generalize (m : Int) * ((m : Int) - 1) ^ (s - 1) = w2
    generalize ffall (m : Int) s = w3
    generalize (m : Int) ^ s = w4
    have f1 : [D.int w1, D.int w2, D.int w3, D.int w4] = [w1, w2, w3, w4].map D.int := rfl
    have f2 : [D.tup [.str "told", .int w1], .tup [.str "told", .int w2], .tup [.str "told", .int w3], .tup [.str "told", .int w4]] = [w1, w2, w3, w4].map toldI := rfl
    have f3 : ∀ h : Hh, gEqD false (.lst ([w1, w2, w3, w4].map toldI)) (.lst ([w1, w2, w3, w4].map toldI)) h = some (.bl true, h) := fun h => by
      rw [gEqD_simple (simple_told _) (simple_told _) (okE_told _) (okE_told _)]; simp
    rw [f2, f1, comp_map D.int toldI (fun v _ => ⟨_, rfl, by simp [toldI]⟩) (le_SZ (by simp))]
    simp only [R.bind_ok, f3, ofO_some, R.fl_ok]
    exact ⟨c + 1 + 1, [], by omega, rfl⟩
  obtain ⟨c', h2, hc', e⟩ := key
  exact ⟨c', hc', raw_rt e rfl rfl (by simp only [List.all_cons, List.all_nil, low_stO, Bool.and_self])⟩
end K56
namespace K56
open PySem PySem.Spec PyProof.Rows L2 Rf
/-! ### the graph fits -/
theorem poly_dc {n k : Nat} {es : List (Nat × Nat)} {q q1 q2 : List Int} (hok : ∀ e ∈ es, e.1 < n + 1 ∧ e.2 < n + 1) (hk : k < es.length) (hd : (es.getD k (0, 0)).1 ≠ (es.getD k (0, 0)).2)
    (p : Poly es (n + 1) q) (p1 : Poly (dropE es k) (n + 1) q1) (p2 : Poly (contrE es k) n q2) : q = (List.range (n + 2)).map fun i => q1.getD i 0 - (q2 ++ [0]).getD i 0 := by
  have l1 : (q2 ++ [0]).length = n + 2 := by simp [p2.len]
  have e1 : q = zipSub 1 q1 (q2 ++ [0]) := evP_inj _ _ 0 (by simp [zipSub, p.len, p1.len, p2.len]) fun m _ => by
    rw [evP_sub _ _ _ _ (by rw [p1.len, l1]), evP_app, p.ev, p1.ev, p2.ev, chi_dc hok hk hd]
    simp [evP]
  rw [e1]
  refine List.ext_getElem (by simp [zipSub, p1.len, p2.len]) fun i h1 h2 => ?_
  have a : i < q1.length := by rw [p1.len]; simpa using h2
  have b : i < (q2 ++ [0]).length := by rw [l1]; simpa using h2
  have g1 : q1.getD i 0 = q1[i] := by rw [List.getD_eq_getElem?_getD, List.getElem?_eq_getElem a]; rfl
  have g2 : (q2 ++ [0]).getD i 0 = (q2 ++ [0])[i] := by rw [List.getD_eq_getElem?_getD, List.getElem?_eq_getElem b]; rfl
  rw [List.getElem_map, List.getElem_range, g1, g2]
  simp only [zipSub, List.getElem_map, List.getElem_zip]
  omega
theorem Drawn.ok' {n : Nat} {es : List (Nat × Nat)} (d : Drawn n es) : OkG n es := ⟨d.lo, by have := d.hi; omega, by have := d.sz; omega, d.ok⟩
theorem drop_okG {n k : Nat} {es : List (Nat × Nat)} (g : OkG n es) (hk : k < es.length) : OkG n (dropE es k) := ⟨g.lo, g.hi, by have := dropE_len hk; have := g.sz; omega, fun e he => by
  obtain ⟨i, h1, _, rfl⟩ := mem_drop.mp he
  exact g.ok _ (mem_at.mpr ⟨i, h1, rfl⟩)⟩
theorem contr_okG {n k : Nat} {es : List (Nat × Nat)} (g : OkG (n + 1) es) (hk : k < es.length) (hd : (es.getD k (0, 0)).1 ≠ (es.getD k (0, 0)).2) : OkG n (contrE es k) := by
  have hb := g.ok _ (mem_at.mpr ⟨k, hk, rfl⟩)
  refine ⟨by omega, by have := g.hi; omega, by have := dropE_len hk; have := g.sz; simp only [contrE, List.length_map]; omega, fun e he => ?_⟩
  obtain ⟨x, hx, rfl⟩ := List.mem_map.mp he
  have := (drop_okG g hk).ok x hx
  exact ⟨nmC_lt (by omega) (by omega) (by omega), nmC_lt (by omega) (by omega) (by omega)⟩
theorem str_told (h : Hh) : gEqD true (.str "told") (.str "told") h = some (.bl false, h) := by
  rw [gEqD_simple rfl rfl (by kernel_rfl) (by kernel_rfl)]; simp
theorem ne_told (v : Int) (h : Hh) : gEqD true (.tup [.str "told", .int v]) (.tup [.str "told", .int v]) h = some (.bl false, h) := by
  have o : okE dE (.tup [.str "told", .int v]) = true := by
    have e : okE dE (.tup [.str "told", .int v]) = okE dE (.tup [.str "told", .int 0]) := rfl
    rw [e]; kernel_rfl
  rw [gEqD_simple rfl rfl o o]; simp
theorem ne_ints (neg : Bool) (l : List Int) (h : Hh) : gEqD neg (.tup (l.map .int)) (.tup (l.map .int)) h = some (.bl (true ^^ neg), h) := by
  have o : okE dE (.tup (l.map .int)) = true := by
    have e : okE dE (.tup (l.map .int)) = okEs 29 (l.map .int) := rfl
    rw [e]; exact okEs_ints _ _
  have s : simpleD (.tup (l.map .int)) = true := by
    have e : simpleD (.tup (l.map .int)) = simpleDs (l.map .int) := rfl
    rw [e, simpleDs_all]
    intro a ha
    obtain ⟨x, _, rfl⟩ := List.mem_map.mp ha
    rfl
  rw [gEqD_simple s s o o]; simp
def InvM (ns : List Int) (c n : Nat) (es : List (Nat × Nat)) (td : D) (q : List Int) (env : Ev) (h : Hh) : Prop := ∃ x4 x5, env = [some (.ref 0), some (gD n es), some td, some (.tup (q.map .int)), x4, x5, none, none, none, none, none, none, none] ∧ h = [stO ns c]
def InvN (ns : List Int) (c n : Nat) (es : List (Nat × Nat)) (td : D) (q : List Int) (env : Ev) (h : Hh) : Prop := ∃ x4 x5 x6 x7 x8 x9 x10 x11 x12, env = [some (.ref 0), some (gD n es), some td, some (.tup (q.map .int)), x4, x5, x6, x7, x8, x9, x10, x11, x12] ∧ h = [stO ns c]
theorem fits_ok {ns : List Int} (hn : NsOk ns) {c : Nat} (hc : c < 2 ^ 30) {n : Nat} {es : List (Nat × Nat)} (d : Drawn n es) : ∃ c', c' ≤ c + 1000 ∧ F__law_graph_fits [.ref 0, gD n es] [stO ns c] = .ok (.bl true) [stO ns c'] := by
  have key : OutB ns c (m__law_graph_fits [some (.ref 0), some (gD n es), none, none, none, none, none, none, none, none, none, none, none] [stO ns c]) := by
    have g := d.ok'
    have hlo := d.lo
    have hhi := d.hi
    have hes := d.sz
    obtain ⟨q, p, sm, eq⟩ := poly_ok g
    have ql := p.len
    have r5 : okR 5 = true := by decide
    simp only [m__law_graph_fits]
    simp [eq, str_told, ql, r5]
    generalize D.tup [.str "told", .tup (q.map .int)] = td
    refine phi_forR (Φ := OutB ns c) (fun k env h => InvM ns c n es td q env h) ⟨none, none, rfl, rfl⟩ (by
      rintro m hm env h ⟨x4, x5, rfl, rfl⟩
      simp
      have hz : m ^ n ≤ 1000000 := by
        calc m ^ n ≤ 4 ^ n := Nat.pow_le_pow_left (by omega) n
          _ ≤ 4 ^ 6 := Nat.pow_le_pow_right (by decide) hhi
          _ ≤ 1000000 := by decide
      have t1 := fun h => tried_ok g (m := m) (by omega) hz h
      have t2 := fun h => count_chi g (m := m) (by omega) h
      have t3 := fun h => lsum_ok (m := (m : Int)) (by omega) sm h
      rw [p.ev] at t3
      rw [tried_chi] at t1
      by_cases w : (n : Int) < 6
      · simp [w, t1, t2, t3, ne_told]
        exact ⟨_, _, rfl, rfl⟩
      · by_cases w2 : (m : Int) < 4
        · simp [w, w2, t1, t2, t3, ne_told]
          exact ⟨_, _, rfl, rfl⟩
        · simp [w, w2]
          exact ⟨_, _, rfl, rfl⟩) ?_
    rintro _ _ ⟨x4, x5, rfl, rfl⟩
    simp
    rw [comp_map eD (fun e => .bl (decide (e.1 = e.2))) (fun e he => ⟨_, rfl, by
      simp [eD, Int.ofNat_inj]⟩) (le_SZ (by omega))]
    cases hl : es.any fun e => decide (e.1 = e.2) with
    | true =>
      have qz : q = List.replicate (n + 1) 0 := evP_inj _ _ 0 (by simp [ql]) fun m _ => by rw [evP_zero, p.ev, chi_loop hl]
      have t0 : ∀ h : Hh, aMul false (.tup [.int 0]) (.int ((n : Int) + 1)) h = some (.tup (q.map .int), h) := fun h => by
        rw [aMul_tup h false (by simp) (by omega) (by omega) (by simp)]
        have e1 : ((n : Int) + 1).toNat = n + 1 := by omega
        rw [qz, e1]
        simp [List.map_replicate]
      simp only [R.bind_ok, fAny_map, hl, ofO_some, toB_bl, tvS_some, R.fl_ok, if_true, t0, ne_ints]
      exact ⟨c, [], by omega, rfl⟩
    | false =>
      simp only [R.bind_ok, fAny_map, hl, ofO_some, toB_bl, tvS_some, R.fl_ok, Bool.false_eq_true, if_false]
      obtain ⟨x, hx, ex⟩ := next0 hn (c := c) (by omega) (m := 900) (by omega)
      simp at ex
      obtain ⟨m, hm⟩ : ∃ m : Nat, m = 5 + x := ⟨_, rfl⟩
      have em : (5 : Int) + x = m := by omega
      have t2 := fun h => count_chi g (m := m) (by omega) h
      have t3 := fun h => lsum_ok (m := (m : Int)) (by omega) sm h
      rw [p.ev] at t3
      have one := p.one hl
      have nl := no_loop.mp hl
      have last : ∀ h : Hh, aIx (.tup (q.map .int)) (.int (-1)) h = some (.int 1, h) := fun h => by
        refine aIx_tup h ?_
        have e : q[n]'(by omega) = 1 := by
          rw [List.getD_eq_getElem?_getD, List.getElem?_eq_getElem (by omega)] at one
          exact one
        have e2 : q[n]? = some 1 := by rw [List.getElem?_eq_getElem (by omega), e]
        have t : (-1 + ((n : Int) + 1)).toNat = n := by omega
        unfold L2.atI ixN
        simp [ql]
        rw [if_pos (by omega), t]
        simp [e2]
      have rn : okR (n : Int) = true := okR_nat (by omega)
      simp [ex, em, last, t2, t3, ne_told, ql, rn]
      refine phi_forR (Φ := OutB ns c) (fun k env h => InvN ns (c + 1) n es td q env h) ⟨_, _, _, _, _, _, _, _, _, rfl, rfl⟩ (by
        rintro k hk env h ⟨x4, x5, x6, x7, x8, x9, x10, x11, x12, rfl, rfl⟩
        have kl : k < (q.map D.int).length := by simp [ql]; omega
        have kl' : k < q.length := by omega
        have sgn := p.sgn k (by omega)
        rw [List.getD_eq_getElem?_getD, List.getElem?_eq_getElem kl'] at sgn
        simp only [Option.getD_some] at sgn
        have md : ∀ h : Hh, iMod (.int ((n : Int) - k)) (.int 2) h = some (.int (((n - k) % 2 : Nat) : Int), h) := fun h => by
          rw [iMod_int _ (by decide)]
          have := fmod_nat (n - k) 2
          rw [← this, show (((n - k : Nat)) : Int) = (n : Int) - k by omega] <;> rfl
        have hb : (n - k) % 2 < 2 := Nat.mod_lt _ (by decide)
        have sg2 : sg (n - k) = 1 - 2 * (((n - k) % 2 : Nat) : Int) := rfl
        rw [sg2] at sgn
        generalize (n - k) % 2 = b at *
        have nn : ¬ q[k] * (1 - 2 * (b : Int)) < 0 := by omega
        simp [ql, md, aIx_nat kl, aMul_int _ _ (mulOk_l (i := 2) (j := (b : Int)) (by decide) (by decide)), aMul_int _ _ (mulOk_r (i := q[k]) (j := 1 - 2 * (b : Int)) (by omega) (by omega)), nn]
        exact ⟨_, _, _, _, _, _, _, _, _, rfl, rfl⟩) ?_
      rintro _ _ ⟨x4, x5, x6, x7, x8, x9, x10, x11, x12, rfl, rfl⟩
      have re : okR (es.length : Int) = true := okR_nat (by omega)
      simp [re]
      refine phi_forR (Φ := OutB ns c) (fun k env h => InvN ns (c + 1) n es td q env h) ⟨_, _, _, _, _, _, _, _, _, rfl, rfl⟩ (by
        rintro k hk env h ⟨x4, x5, x6, x7, x8, x9, x10, x11, x12, rfl, rfl⟩
        have hd := nl _ (mem_at.mpr ⟨k, hk, rfl⟩)
        have hb := g.ok _ (mem_at.mpr ⟨k, hk, rfl⟩)
        obtain ⟨n', rfl⟩ : ∃ n', n = n' + 1 := ⟨n - 1, by omega⟩
        have c1 := fun h => left_ok g hk h
        have c2 := fun h => contr_ok g hk hd h
        obtain ⟨q1, p1, sm1, eq1⟩ := poly_ok (drop_okG g hk)
        obtain ⟨q2, p2, sm2, eq2⟩ := poly_ok (contr_okG g hk hd)
        have dc := poly_dc g.ok hk hd p p1 p2
        rw [Nat.add_sub_cancel] at c2
        have rn2 : okR ((n' : Int) + 1 + 1) = true := okR_nat (k := n' + 1 + 1) (by omega)
        have cat : ∀ h : Hh, aAdd false (.tup (q2.map .int)) (.tup [.int 0]) h = some (.tup ((q2 ++ [0]).map .int), h) := fun h => by
          rw [aAdd_tup h false (by simp [p2.len]; exact le_SZ (by omega))]; simp
        have rq : okR (q.length : Int) = true := okR_nat (by omega)
        simp [c1, c2, str_told, eq1, eq2, rq, -List.map_append]
        rw [rng_map, ql, comp_map (fun i : Nat => D.int (i : Nat)) (fun i => .int (q1.getD i 0 - (q2 ++ [0]).getD i 0)) (fun i hi => by
          have hi' : i < n' + 2 := by simpa using hi
          have l1 : i < (q1.map D.int).length := by simp [p1.len]; omega
          have l2 : i < ((q2 ++ [0]).map D.int).length := by simp [p2.len]; omega
          have l1' : i < q1.length := by simpa using l1
          have l2' : i < (q2 ++ [0]).length := by simpa using l2
          have ix1 : ∀ h : Hh, aIx (.tup (q1.map .int)) (.int i) h = some (.int (q1.getD i 0), h) := fun h => by
            rw [aIx_nat l1, List.getD_eq_getElem?_getD, List.getElem?_eq_getElem l1']; simp
          have ix2 : ∀ h : Hh, aIx (.tup ((q2 ++ [0]).map .int)) (.int i) h = some (.int ((q2 ++ [0]).getD i 0), h) := fun h => by
            rw [aIx_nat l2, List.getD_eq_getElem?_getD, List.getElem?_eq_getElem l2', List.getElem_map]; rfl
          exact ⟨_, rfl, by simp [cat, ix1, ix2, -List.map_append, -List.getD_eq_getElem?_getD]⟩) (by simp only [List.length_range]; exact le_SZ (by omega))]
        have fin : (List.range (n' + 1 + 1)).map (fun i => D.int (q1.getD i 0 - (q2 ++ [0]).getD i 0)) = q.map .int := by
          rw [dc, List.map_map]; rfl
        rw [fin]
        simp [ne_ints]
        exact ⟨_, _, _, _, _, _, _, _, _, rfl, rfl⟩) ?_
      rintro _ _ ⟨x4, x5, x6, x7, x8, x9, x10, x11, x12, rfl, rfl⟩
      simp
      exact ⟨c + 1, [], by omega, rfl⟩
  obtain ⟨c', h2, hc', e⟩ := key
  exact ⟨c', hc', raw_rt e rfl rfl (by simp only [List.all_cons, List.all_nil, low_stO, Bool.and_self])⟩
end K56
namespace K56
open PySem PySem.Spec PyProof.Rows L2 Rf
/-! ### the law -/
def InvL (sc : D) (ns : List Int) (k : Nat) (env : Ev) (h : Hh) : Prop := ∃ x2 x3 c, env = [some sc, some (.ref 0), x2, x3] ∧ h = [stO ns c] ∧ c ≤ 3000 * k
theorem law_true (ns : List Int) (hl : ns.length ≤ 63) : F_law [.lst (ns.map .int)] [] = .ok (.bl true) [] := by
  refine pure_rtE (by simp [norefs, noref]) rfl ?_
  simp only [m_law, N_law]
  obtain ⟨S, hS, eS⟩ := stream_ok hl []
  have r3 : okR 3 = true := by decide
  simp [eS, r3]
  have h0 : Ob.lst [.lst (S.map .int), .int 0] = stO S 0 := rfl
  rw [h0]
  refine rt_forR (fun k env h => InvL (.lst (ns.map .int)) S k env h) ⟨none, none, 0, rfl, rfl, Nat.le_refl _⟩ (by
    rintro k hk env h ⟨x2, x3, c, rfl, rfl, hc⟩
    have tail : ∀ (n : Nat) (es : List (Nat × Nat)) (c' : Nat), Drawn n es → c' ≤ c + 1000 → ∃ c'', c'' ≤ c + 3000 ∧ ∃ c1, F__law_graph_fits [.ref 0, gD n es] [stO S c'] = .ok (.bl true) [stO S c1] ∧ F__law_refuses [gD n es] [stO S c1] = .ok (.bl true) [stO S c1] ∧ F__law_great [.ref 0] [stO S c1] = .ok (.bl true) [stO S c''] := fun n es c' d h' => by
      obtain ⟨c1, h1, e1⟩ := fits_ok hS (c := c') (by omega) d
      obtain ⟨c2, h2, e2⟩ := great_ok hS (c := c1) (by omega)
      exact ⟨c2, by omega, c1, e1, refuses_ok d.ok' _, e2⟩
    by_cases z : 0 < k
    · obtain ⟨n, es, c', d, h', e⟩ := dense_ok hS (c := c) (by omega)
      obtain ⟨c2, h2, c1, e1, e3, e4⟩ := tail n es c' d h'
      simp [z, e, e1, e3, e4]
      exact ⟨_, _, c2, rfl, rfl, by omega⟩
    · obtain ⟨n, es, c', d, h', e⟩ := graph_ok hS (c := c) (by omega)
      obtain ⟨c2, h2, c1, e1, e3, e4⟩ := tail n es c' d h'
      simp [z, e, e1, e3, e4]
      exact ⟨_, _, c2, rfl, rfl, by omega⟩) ?_
  rintro _ _ ⟨x2, x3, c, rfl, rfl, hc⟩
  simp
end K56
theorem PySem.Challenge.cw_flatproved_k56_whole_colours_counted_holds : PySem.Challenge.rw_flatproved_k56_whole_colours_counted.Holds := by
  exact K56.holds_of fun ns h1 _ => K56.law_true ns h1
