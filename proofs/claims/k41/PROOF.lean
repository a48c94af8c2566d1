import PyProof.Rows.All
import Wide.All
import OpenK.AllK
import Wide.FinOn
import HandS.ForMost
import HandS.Exc
import HandS.CallSlots
import KE.KDictKeyed
import KE.KStar
import HandS.Deep
import HandS.TupAny
import HandS.TupLe
import HandS.Wide
import HandS.Style
import HandS.Flow
import HandS.IsInst
import HandS.SortInts
import HandS.More
import HandS.Comp
import HandS.Walk
import HandS.Call
import HandS.Words
import HandS.Defaults
import HandS.HeadHook1
import HandS.HeadHook2
import HandS.HeadHook3
import HandS.HeadHook4
import HandS.OwnEq
import PyProof.InstEq
import KE.KDictPairs
import KE.KDictCopyH
import KE.KEqNest
import HandS.Iter
import KE.KDictWalk
import HandS.DictComp
import HandS.Ends
import HandS.Head0
import HandS.Head1
import HandS.Head2
import HandS.HeadEnd
import KE.KStateDown
import HandS.WordsExc
import PySem.Challenge.RW_cellswaps_k41_known_equal
set_option Elab.async false
set_option linter.all false
set_option maxRecDepth 100000
set_option maxHeartbeats 3999999
/-! The abstract machine: values, heap, and how they lie in the hand layer's heap. -/
namespace G47
open PySem L2
/-! ### texts as numbers -/
def encL : List Nat → Nat
  | [] => 0
  | c :: r => c + 2097152 * encL r + 1
def okC (l : List Nat) : Bool := l.all fun c => Nat.blt c 1114112
/-- a text that is not too long, of signs that are none too great -/
def okL (l : List Nat) : Bool := okC l && Nat.ble l.length 65536
theorem encC_inj : ∀ {a b : List Nat}, okC a = true → okC b = true → encL a = encL b → a = b
  | [], [], _, _, _ => rfl
  | [], _ :: _, _, _, e => by simp [encL] at e
  | _ :: _, [], _, _, e => by simp [encL] at e
  | c :: r, d :: t, ha, hb, e => by
    simp only [okC, List.all_cons, Bool.and_eq_true, Nat.blt_eq] at ha hb
    simp only [encL] at e
    have h1 : c = d := by omega
    have h2 : encL r = encL t := by omega
    rw [h1, encC_inj (a := r) (b := t) ha.2 hb.2 h2]
theorem encL_inj {a b : List Nat} (ha : okL a = true) (hb : okL b = true) (e : encL a = encL b) : a = b := by
  simp only [okL, Bool.and_eq_true] at ha hb
  exact encC_inj ha.1 hb.1 e
/-- the text x has the number n -/
def TxtN (n : Nat) (x : Str) : Prop := okL x.cps.toList = true ∧ encL x.cps.toList = n
theorem str_ext {x y : Str} (h : x.cps.toList = y.cps.toList) : x = y := by
  obtain ⟨a⟩ := x
  obtain ⟨b⟩ := y
  have : a = b := Array.toList_inj.mp h
  rw [this]
theorem TxtN.eq_iff {n m : Nat} {x y : Str} (hx : TxtN n x) (hy : TxtN m y) : x = y ↔ n = m := by
  constructor
  · rintro rfl; exact hx.2.symm.trans hy.2
  · intro e
    exact str_ext (encL_inj hx.1 hy.1 (hx.2.trans (e.trans hy.2.symm)))
theorem TxtN.inj {n : Nat} {x y : Str} (hx : TxtN n x) (hy : TxtN n y) : x = y := (hx.eq_iff hy).mpr rfl
theorem TxtN.fn {n m : Nat} {x : Str} (hx : TxtN n x) (hy : TxtN m x) : n = m := (hx.eq_iff hy).mp rfl
/-! ### values -/
inductive D where
  | non
  | bl (b : Bool)
  | int (i : Int)
  | str (n : Nat)
  | tup (xs : List D)
  | ref (l : Nat)
  /-- a thing by its name: a def or a class of the module, a built-in type -/
  | gl (n : Nat)
/-- what stands at a place of the abstract heap -/
inductive AO where
  /-- a list; locked: it is only read (the script) -/
  | lst (lk : Bool) (xs : List D)
  /-- a dict; locked while a loop walks it -/
  | dct (lk : Bool) (kvs : List (D × D))
  /-- an instance of the class with the number c -/
  | ins (c : Nat) (fs : List (Nat × D))
abbrev AH := List AO
/-! ### how a value lies -/
section
variable (K : PySem.W.Frag) (mg : Str → Option Value)
/-- a tuple, tracked or written -/
def TupAt (H : Hp) (a : Addr) (vs : List V) : Prop :=
  H a = some (.tup vs) ∨ ∃ (o : Obj) (its : Array Value) (n : Nat), K.lookup a = some o ∧ o.cls = .type "tuple" ∧ o.data = .seq its n ∧ its.size ≤ sizeLine ∧ Vals vs its.toList
variable (μ : List Addr) (H : Hp)
mutual
def DV : D → V → Prop
  | .non, v => v = .non
  | .bl b, v => v = .bl b
  | .int i, v => v = .int i
  | .str n, v => ∃ x, v = .str x ∧ TxtN n x
  | .tup ds, v => ∃ a vs, v = .ref a ∧ TupAt K H a vs ∧ DVs ds vs
  | .ref l, v => ∃ a, μ[l]? = some a ∧ v = .ref a
  | .gl n, v => ∃ x, TxtN n x ∧ ((∃ a, mg x = some (.ref a) ∧ v = .ref a) ∨ (mg x = none ∧ ∃ T, bootBuiltins x = some (.type T) ∧ v = .ty T))
def DVs : List D → List V → Prop
  | [], vs => vs = []
  | d :: ds, vs => ∃ v r, vs = v :: r ∧ DV d v ∧ DVs ds r
end
end
theorem TupAt.sq {K : PySem.W.Frag} {H : Hp} {a : Addr} {vs : List V} (h : TupAt K H a vs) : SqT K H a vs := by
  rcases h with h | h
  · exact .inl (.inl h)
  · exact .inr h
/-- tuples stay -/
def Kt (H H' : Hp) : Prop := ∀ a vs, H a = some (.tup vs) → H' a = some (.tup vs)
/-- tuples stay, and so does what is frozen -/
structure Keeps (H H' : Hp) : Prop where
  t : Kt H H'
  z : ∀ a o u, H a = some (.frz o u) → H' a = some (.frz o u)
instance {H H' : Hp} : Coe (Keeps H H') (Kt H H') := ⟨Keeps.t⟩
theorem Kt.refl (H : Hp) : Kt H H := fun _ _ h => h
theorem Kt.put {H : Hp} {p : Addr} {o o' : HO} (h : H p = some o) (ht : ∀ vs, o ≠ .tup vs) : Kt H (upd H p o') := fun a vs e => by
  rw [upd_ne]
  · exact e
  · rintro rfl
    rw [h] at e
    exact ht vs (Option.some.inj e)
theorem Keeps.refl (H : Hp) : Keeps H H := ⟨fun _ _ h => h, fun _ _ _ h => h⟩
theorem Keeps.trans {H H1 H2 : Hp} (a : Keeps H H1) (b : Keeps H1 H2) : Keeps H H2 := ⟨fun x v h => b.t x v (a.t x v h), fun x o v h => b.z x o v (a.z x o v h)⟩
theorem Keeps.new {H : Hp} {p : Addr} {o : HO} (h : H p = none) : Keeps H (upd H p o) := ⟨fun a vs e => by
  rw [upd_ne (ne_of_none e h)]; exact e, fun a o u e => by
  rw [upd_ne (ne_of_none e h)]; exact e⟩
theorem Keeps.put {H : Hp} {p : Addr} {o o' : HO} (h : H p = some o) (ht : ∀ vs, o ≠ .tup vs) (hz : ∀ z u, o ≠ .frz z u) : Keeps H (upd H p o') := ⟨Kt.put h ht, fun a z u e => by
  rw [upd_ne]
  · exact e
  · rintro rfl
    rw [h] at e
    exact hz z u (Option.some.inj e)⟩
theorem TupAt.keep {K : PySem.W.Frag} {H H' : Hp} {a : Addr} {vs : List V} (k : Kt H H') (h : TupAt K H a vs) : TupAt K H' a vs := by
  rcases h with h | h
  · exact .inl (k a vs h)
  · exact .inr h
/-- a list that begins another -/
abbrev Pre (μ μ' : List Addr) : Prop := μ <+: μ'
theorem Pre.get {μ μ' : List Addr} (p : Pre μ μ') {l : Nat} {a : Addr} (h : μ[l]? = some a) : μ'[l]? = some a := by
  obtain ⟨r, rfl⟩ := p
  rw [List.getElem?_append_left]
  · exact h
  · exact (List.getElem?_eq_some_iff.mp h).1
section
variable {K : PySem.W.Frag} {mg : Str → Option Value} {μ μ' : List Addr} {H H' : Hp}
mutual
theorem DV.keep (p : Pre μ μ') (k : Kt H H') : ∀ {d : D} {v : V}, DV K mg μ H d v → DV K mg μ' H' d v
  | .non, _, h => h
  | .bl _, _, h => h
  | .int _, _, h => h
  | .str _, _, h => h
  | .tup ds, v, h => by
    obtain ⟨a, vs, e, t, r⟩ := h
    exact ⟨a, vs, e, t.keep k, DVs.keep p k r⟩
  | .ref l, v, h => by
    obtain ⟨a, e, r⟩ := h
    exact ⟨a, p.get e, r⟩
  | .gl n, v, h => h
theorem DVs.keep (p : Pre μ μ') (k : Kt H H') : ∀ {ds : List D} {vs : List V}, DVs K mg μ H ds vs → DVs K mg μ' H' ds vs
  | [], _, h => h
  | d :: ds, vs, h => by
    obtain ⟨v, r, e, q, t⟩ := h
    exact ⟨v, r, e, DV.keep p k q, DVs.keep p k t⟩
end
theorem DVs.length : ∀ {ds : List D} {vs : List V}, DVs K mg μ H ds vs → vs.length = ds.length
  | [], _, h => by rw [show _ = [] from h]; rfl
  | d :: ds, vs, h => by
    obtain ⟨v, r, rfl, _, t⟩ := h
    simp [DVs.length t]
theorem DVs.get : ∀ {ds : List D} {vs : List V} {i : Nat} {d : D}, DVs K mg μ H ds vs → ds[i]? = some d → ∃ v, vs[i]? = some v ∧ DV K mg μ H d v
  | [], _, _, _, _, e => by simp at e
  | d :: ds, vs, 0, d', h, e => by
    obtain ⟨v, r, rfl, q, t⟩ := h
    simp at e; subst e
    exact ⟨v, rfl, q⟩
  | d :: ds, vs, i + 1, d', h, e => by
    obtain ⟨v, r, rfl, q, t⟩ := h
    obtain ⟨u, h1, h2⟩ := DVs.get (i := i) t (by simpa using e)
    exact ⟨u, by simpa using h1, h2⟩
theorem DVs.append : ∀ {ds es : List D} {vs us : List V}, DVs K mg μ H ds vs → DVs K mg μ H es us → DVs K mg μ H (ds ++ es) (vs ++ us)
  | [], _, _, _, h, g => by rw [show _ = [] from h]; exact g
  | d :: ds, es, vs, us, h, g => by
    obtain ⟨v, r, rfl, q, t⟩ := h
    exact ⟨v, r ++ us, rfl, q, DVs.append t g⟩
theorem DVs.take : ∀ {ds : List D} {vs : List V} (n : Nat), DVs K mg μ H ds vs → DVs K mg μ H (ds.take n) (vs.take n)
  | _, _, 0, _ => by simp [DVs]
  | [], _, n + 1, h => by rw [show _ = [] from h]; simp [DVs]
  | d :: ds, vs, n + 1, h => by
    obtain ⟨v, r, rfl, q, t⟩ := h
    exact ⟨v, r.take n, rfl, q, DVs.take n t⟩
theorem DVs.drop : ∀ {ds : List D} {vs : List V} (n : Nat), DVs K mg μ H ds vs → DVs K mg μ H (ds.drop n) (vs.drop n)
  | _, _, 0, h => h
  | [], _, n + 1, h => by rw [show _ = [] from h]; simp [DVs]
  | d :: ds, vs, n + 1, h => by
    obtain ⟨v, r, rfl, q, t⟩ := h
    exact DVs.drop n t
theorem DVs.set {d : D} {v : V} (q : DV K mg μ H d v) : ∀ {ds : List D} {vs : List V} (i : Nat), DVs K mg μ H ds vs → DVs K mg μ H (ds.set i d) (vs.set i v)
  | [], _, _, h => by rw [show _ = [] from h]; simp [DVs]
  | e :: ds, vs, 0, h => by
    obtain ⟨u, r, rfl, _, t⟩ := h
    exact ⟨v, r, rfl, q, t⟩
  | e :: ds, vs, i + 1, h => by
    obtain ⟨u, r, rfl, p, t⟩ := h
    exact ⟨u, r.set i v, rfl, p, DVs.set q i t⟩
theorem DVs.reverse : ∀ {ds : List D} {vs : List V}, DVs K mg μ H ds vs → DVs K mg μ H ds.reverse vs.reverse
  | [], _, h => by rw [show _ = [] from h]; simp [DVs]
  | d :: ds, vs, h => by
    obtain ⟨v, r, rfl, q, t⟩ := h
    rw [List.reverse_cons, List.reverse_cons]
    exact (DVs.reverse t).append ⟨v, [], rfl, q, rfl⟩
theorem DVs.one {d : D} {v : V} (q : DV K mg μ H d v) : DVs K mg μ H [d] [v] := ⟨v, [], rfl, q, rfl⟩
end
end G47
namespace G47
open PySem L2
/-! ### == of data -/
mutual
/-- Python's == on what dict keys may be: None, bools, ints, texts, tuples of these -/
def keq : D → D → Bool
  | .non, .non => true
  | .bl a, .bl b => a == b
  | .int a, .int b => a == b
  | .bl a, .int b => (if a then 1 else 0) == b
  | .int a, .bl b => a == (if b then 1 else 0)
  | .str a, .str b => Nat.beq a b
  | .tup a, .tup b => keqs a b
  | _, _ => false
def keqs : List D → List D → Bool
  | [], [] => true
  | a :: as, b :: bs => keq a b && keqs as bs
  | _, _ => false
end
/-- may be a key: its depth is at most n -/
def keyOk : Nat → D → Bool
  | _, .non => true
  | _, .bl _ => true
  | _, .int _ => true
  | _, .str _ => true
  | n + 1, .tup xs => xs.all (keyOk n)
  | _, _ => false
mutual
/-- the key that a datum is -/
def KeyD : D → NestedKey → Prop
  | .non, k => k = .none
  | .bl b, k => k = .num (if b = true then 1 else 0)
  | .int i, k => k = .num i
  | .str n, k => ∃ x, TxtN n x ∧ k = .text x
  | .tup ds, k => ∃ ks, KeyDs ds ks ∧ k = .tup ks
  | .ref _, _ => False
  | .gl _, _ => False
def KeyDs : List D → List NestedKey → Prop
  | [], ks => ks = []
  | d :: ds, ks => ∃ k r, ks = k :: r ∧ KeyD d k ∧ KeyDs ds r
end
theorem b2i_eq (a b : Bool) : ((if a = true then (1 : Int) else 0) = if b = true then 1 else 0) ↔ a = b := by cases a <;> cases b <;> decide
mutual
theorem KeyD.eq_iff : ∀ {d e : D} {k m : NestedKey}, KeyD d k → KeyD e m → (k = m ↔ keq d e = true)
  | .non, .non, k, m, hk, hm => by simp only [KeyD] at hk hm; subst hk hm; simp [keq]
  | .non, .bl _, k, m, hk, hm => by simp only [KeyD] at hk hm; subst hk hm; simp [keq]
  | .non, .int _, k, m, hk, hm => by simp only [KeyD] at hk hm; subst hk hm; simp [keq]
  | .non, .str _, k, m, hk, hm => by simp only [KeyD] at hk hm; obtain ⟨x, _, rfl⟩ := hm; subst hk; simp [keq]
  | .non, .tup _, k, m, hk, hm => by simp only [KeyD] at hk hm; obtain ⟨x, _, rfl⟩ := hm; subst hk; simp [keq]
  | .bl _, .non, k, m, hk, hm => by simp only [KeyD] at hk hm; subst hk hm; simp [keq]
  | .bl a, .bl b, k, m, hk, hm => by
    simp only [KeyD] at hk hm; subst hk hm
    simp only [NestedKey.num.injEq, b2i_eq, keq, beq_iff_eq]
  | .bl a, .int b, k, m, hk, hm => by
    simp only [KeyD] at hk hm; subst hk hm
    simp only [NestedKey.num.injEq, keq, beq_iff_eq]
  | .bl _, .str _, k, m, hk, hm => by simp only [KeyD] at hk hm; obtain ⟨x, _, rfl⟩ := hm; subst hk; simp [keq]
  | .bl _, .tup _, k, m, hk, hm => by simp only [KeyD] at hk hm; obtain ⟨x, _, rfl⟩ := hm; subst hk; simp [keq]
  | .int _, .non, k, m, hk, hm => by simp only [KeyD] at hk hm; subst hk hm; simp [keq]
  | .int a, .bl b, k, m, hk, hm => by
    simp only [KeyD] at hk hm; subst hk hm
    simp only [NestedKey.num.injEq, keq, beq_iff_eq]
  | .int a, .int b, k, m, hk, hm => by
    simp only [KeyD] at hk hm; subst hk hm
    simp only [NestedKey.num.injEq, keq, beq_iff_eq]
  | .int _, .str _, k, m, hk, hm => by simp only [KeyD] at hk hm; obtain ⟨x, _, rfl⟩ := hm; subst hk; simp [keq]
  | .int _, .tup _, k, m, hk, hm => by simp only [KeyD] at hk hm; obtain ⟨x, _, rfl⟩ := hm; subst hk; simp [keq]
  | .str _, .non, k, m, hk, hm => by simp only [KeyD] at hk hm; obtain ⟨x, _, rfl⟩ := hk; subst hm; simp [keq]
  | .str _, .bl _, k, m, hk, hm => by simp only [KeyD] at hk hm; obtain ⟨x, _, rfl⟩ := hk; subst hm; simp [keq]
  | .str _, .int _, k, m, hk, hm => by simp only [KeyD] at hk hm; obtain ⟨x, _, rfl⟩ := hk; subst hm; simp [keq]
  | .str a, .str b, k, m, hk, hm => by
    simp only [KeyD] at hk hm
    obtain ⟨x, hx, rfl⟩ := hk
    obtain ⟨y, hy, rfl⟩ := hm
    simp only [NestedKey.text.injEq, hx.eq_iff hy, keq, Nat.beq_eq]
  | .str _, .tup _, k, m, hk, hm => by
    simp only [KeyD] at hk hm
    obtain ⟨x, hx, rfl⟩ := hk
    obtain ⟨y, hy, rfl⟩ := hm
    simp [keq]
  | .tup _, .non, k, m, hk, hm => by simp only [KeyD] at hk hm; obtain ⟨x, _, rfl⟩ := hk; subst hm; simp [keq]
  | .tup _, .bl _, k, m, hk, hm => by simp only [KeyD] at hk hm; obtain ⟨x, _, rfl⟩ := hk; subst hm; simp [keq]
  | .tup _, .int _, k, m, hk, hm => by simp only [KeyD] at hk hm; obtain ⟨x, _, rfl⟩ := hk; subst hm; simp [keq]
  | .tup _, .str _, k, m, hk, hm => by
    simp only [KeyD] at hk hm
    obtain ⟨x, hx, rfl⟩ := hk
    obtain ⟨y, hy, rfl⟩ := hm
    simp [keq]
  | .tup a, .tup b, k, m, hk, hm => by
    simp only [KeyD] at hk hm
    obtain ⟨x, hx, rfl⟩ := hk
    obtain ⟨y, hy, rfl⟩ := hm
    simp only [NestedKey.tup.injEq, keq]
    exact KeyDs.eq_iff hx hy
  | .ref _, _, k, m, hk, hm => by simp only [KeyD] at hk
  | .gl _, _, k, m, hk, hm => by simp only [KeyD] at hk
  | .non, .ref _, k, m, hk, hm => by simp only [KeyD] at hm
  | .bl _, .ref _, k, m, hk, hm => by simp only [KeyD] at hm
  | .int _, .ref _, k, m, hk, hm => by simp only [KeyD] at hm
  | .str _, .ref _, k, m, hk, hm => by simp only [KeyD] at hm
  | .tup _, .ref _, k, m, hk, hm => by simp only [KeyD] at hm
  | .non, .gl _, k, m, hk, hm => by simp only [KeyD] at hm
  | .bl _, .gl _, k, m, hk, hm => by simp only [KeyD] at hm
  | .int _, .gl _, k, m, hk, hm => by simp only [KeyD] at hm
  | .str _, .gl _, k, m, hk, hm => by simp only [KeyD] at hm
  | .tup _, .gl _, k, m, hk, hm => by simp only [KeyD] at hm
theorem KeyDs.eq_iff : ∀ {ds es : List D} {ks ms : List NestedKey}, KeyDs ds ks → KeyDs es ms → (ks = ms ↔ keqs ds es = true)
  | [], [], ks, ms, hk, hm => by simp only [KeyDs] at hk hm; subst hk hm; simp [keqs]
  | [], _ :: _, ks, ms, hk, hm => by
    simp only [KeyDs] at hk hm
    obtain ⟨_, _, rfl, _⟩ := hm
    subst hk; simp [keqs]
  | _ :: _, [], ks, ms, hk, hm => by
    simp only [KeyDs] at hk hm
    obtain ⟨_, _, rfl, _⟩ := hk
    subst hm; simp [keqs]
  | a :: as, b :: bs, ks, ms, hk, hm => by
    simp only [KeyDs] at hk hm
    obtain ⟨k, r, rfl, h1, h2⟩ := hk
    obtain ⟨m, t, rfl, g1, g2⟩ := hm
    simp only [List.cons.injEq, keqs, Bool.and_eq_true]
    rw [KeyD.eq_iff h1 g1, KeyDs.eq_iff h2 g2]
end
/-! ### dicts in the hand layer's heap -/
/-- an entry: its key as data, the key's value, the value -/
abbrev Ent := NestedKey × V × V
def EntR (w : World) (p : Ent) (q : DictEntry) : Prop := q.hash = p.1.hash w ∧ RelV p.2.1 q.key ∧ RelV p.2.2 q.val
/-- a dict at a with these entries -/
def dHO (w : World) (a : Addr) (es : List Ent) : HO := .ext fun h => ∃ ob xs ep, h.get? a = some ob ∧ ob.ExactDict ∧ ob.data = .dict xs ep ∧ Paired (EntR w) es xs.toList ∧ es.length ≤ sizeLine ∧ (a == sysModules) = false
section
variable (K : PySem.W.Frag) (mg : Str → Option Value) (μ : List Addr) (H : Hp)
/-- the entries tell the pairs -/
def KVs : List (D × D) → List Ent → Prop
  | [], es => es = []
  | (k, v) :: r, es => ∃ nk kv vv t, es = (nk, kv, vv) :: t ∧ KeyD k nk ∧ keyOk 8 k = true ∧ DV K mg μ H k kv ∧ DV K mg μ H v vv ∧ KVs r t
def FsV : List (Nat × D) → List (Str × V) → Prop
  | [], gs => gs = []
  | (n, d) :: r, gs => ∃ x v t, gs = (x, v) :: t ∧ TxtN n x ∧ DV K mg μ H d v ∧ FsV r t
end
/-- all keys differ -/
def nodupK : List (D × D) → Bool
  | [] => true
  | (k, _) :: r => (r.all fun p => !keq k p.1) && nodupK r
/-- a key that the hand layer's own dicts have: an int, a text -/
def scal1 : D → Bool
  | .int _ => true
  | .str _ => true
  | _ => false
def tup1 : D → Bool
  | .tup _ => true
  | _ => false
def scalK (kvs : List (D × D)) : Bool := kvs.all fun p => scal1 p.1
def tupK (kvs : List (D × D)) : Bool := !kvs.isEmpty && kvs.all fun p => tup1 p.1
def KeyS : D → Key → Prop
  | .int i, k => k = Sum.inl i
  | .str n, k => ∃ x, TxtN n x ∧ k = Sum.inr x
  | _, _ => False
section
variable (K : PySem.W.Frag) (mg : Str → Option Value) (μ : List Addr) (H : Hp)
/-- the entries of a dict with ints and texts as keys -/
def KSs : List (D × D) → List (Key × V) → Prop
  | [], es => es = []
  | (k, v) :: r, es => ∃ nk vv t, es = (nk, vv) :: t ∧ KeyS k nk ∧ DV K mg μ H v vv ∧ KSs r t
/-- how a dict lies -/
def DL (w : World) (a : Addr) (kvs : List (D × D)) (u : HO) : Prop :=
  (scalK kvs = true ∧ ∃ ks, u = .dK ks ∧ KSs K mg μ H kvs ks) ∨ (tupK kvs = true ∧ ∃ es, u = dHO w a es ∧ KVs K mg μ H kvs es)
end
section
variable {K : PySem.W.Frag} {mg : Str → Option Value} {μ μ' : List Addr} {H H' : Hp}
theorem KVs.keep (p : Pre μ μ') (k : Kt H H') : ∀ {kvs : List (D × D)} {es : List Ent}, KVs K mg μ H kvs es → KVs K mg μ' H' kvs es
  | [], _, h => h
  | (_, _) :: _, _, h => by
    obtain ⟨nk, kv, vv, t, e, h1, h2, h3, h4, h5⟩ := h
    exact ⟨nk, kv, vv, t, e, h1, h2, h3.keep p k, h4.keep p k, KVs.keep p k h5⟩
theorem FsV.keep (p : Pre μ μ') (k : Kt H H') : ∀ {kvs : List (Nat × D)} {es : List (Str × V)}, FsV K mg μ H kvs es → FsV K mg μ' H' kvs es
  | [], _, h => h
  | (_, _) :: _, _, h => by
    obtain ⟨x, v, t, e, h1, h2, h3⟩ := h
    exact ⟨x, v, t, e, h1, h2.keep p k, FsV.keep p k h3⟩
theorem KSs.keep (p : Pre μ μ') (k : Kt H H') : ∀ {kvs : List (D × D)} {es : List (Key × V)}, KSs K mg μ H kvs es → KSs K mg μ' H' kvs es
  | [], _, h => h
  | (_, _) :: _, _, h => by
    obtain ⟨nk, vv, t, e, h1, h2, h3⟩ := h
    exact ⟨nk, vv, t, e, h1, h2.keep p k, KSs.keep p k h3⟩
theorem KSs.length : ∀ {kvs : List (D × D)} {es : List (Key × V)}, KSs K mg μ H kvs es → es.length = kvs.length
  | [], _, h => by rw [show _ = [] from h]; rfl
  | (_, _) :: _, _, h => by
    obtain ⟨nk, vv, t, rfl, h1, h2, h3⟩ := h
    simp [KSs.length h3]
theorem DL.keep {w : World} {a : Addr} {kvs : List (D × D)} {u : HO} (p : Pre μ μ') (k : Kt H H') (x : DL K mg μ H w a kvs u) : DL K mg μ' H' w a kvs u := by
  rcases x with ⟨h1, ks, e, r⟩ | ⟨h1, es, e, r⟩
  · exact .inl ⟨h1, ks, e, r.keep p k⟩
  · exact .inr ⟨h1, es, e, r.keep p k⟩
theorem DL.notTup {w : World} {a : Addr} {kvs : List (D × D)} {u : HO} (x : DL K mg μ H w a kvs u) : ∀ vs, u ≠ .tup vs := by
  rcases x with ⟨_, _, rfl, _⟩ | ⟨_, _, rfl, _⟩ <;> exact fun _ z => nomatch z
theorem DL.notFrz {w : World} {a : Addr} {kvs : List (D × D)} {u : HO} (x : DL K mg μ H w a kvs u) : ∀ z v, u ≠ .frz z v := by
  rcases x with ⟨_, _, rfl, _⟩ | ⟨_, _, rfl, _⟩ <;> exact fun _ _ z => nomatch z
theorem KVs.length : ∀ {kvs : List (D × D)} {es : List Ent}, KVs K mg μ H kvs es → es.length = kvs.length
  | [], _, h => by rw [show _ = [] from h]; rfl
  | (_, _) :: _, _, h => by
    obtain ⟨nk, kv, vv, t, rfl, h1, h2, h3, h4, h5⟩ := h
    simp [KVs.length h5]
end
/-! ### the link -/
mutual
/-- all places that are named lie below n -/
def rfB (n : Nat) : D → Bool
  | .ref l => Nat.blt l n
  | .tup ds => rfsB n ds
  | _ => true
def rfsB (n : Nat) : List D → Bool
  | [] => true
  | d :: ds => rfB n d && rfsB n ds
end
section
variable (X : Cx) (μ : List Addr) (H : Hp)
def OL (a : Addr) : AO → Prop
  | .lst lk ds => ∃ vs, (if lk = true then (∃ o, H a = some (.frz o (.lst vs))) ∧ rfsB 0 ds = true else H a = some (.lst vs)) ∧ DVs X.K X.mg μ H ds vs
  | .dct lk kvs => ∃ u, (if lk = true then ∃ o, H a = some (.frz o u) else H a = some u) ∧ DL X.K X.mg μ H X.w a kvs u ∧ nodupK kvs = true
  | .ins c fs => ∃ x C dx gs, TxtN c x ∧ X.mg x = some (.ref C) ∧ H a = some (.ins C dx gs) ∧ FsV X.K X.mg μ H fs gs
structure Lk (h : AH) : Prop where
  len : μ.length = h.length
  nd : μ.Nodup
  obj : ∀ (l : Nat) (o : AO), h[l]? = some o → ∃ a, μ[l]? = some a ∧ OL X μ H a o
end
section
variable {X : Cx} {μ μ' : List Addr} {H H' : Hp} {a p : Addr} {o : AO} {h : AH} {ho : HO}
theorem OL.tracked (x : OL X μ H a o) : ∃ u, H a = some u ∧ ∀ vs, u ≠ .tup vs := by
  cases o with
  | lst lk ds =>
    obtain ⟨vs, e, _⟩ := x
    split at e
    · obtain ⟨⟨o, e⟩, _⟩ := e; exact ⟨_, e, fun _ z => nomatch z⟩
    · exact ⟨_, e, fun _ z => nomatch z⟩
  | dct lk kvs =>
    obtain ⟨u, e, d, _⟩ := x
    split at e
    · obtain ⟨o, e⟩ := e; exact ⟨_, e, fun _ z => nomatch z⟩
    · exact ⟨_, e, d.notTup⟩
  | ins c fs => obtain ⟨_, _, _, _, _, _, e, _⟩ := x; exact ⟨_, e, fun _ z => nomatch z⟩
theorem OL.keep (x : OL X μ H a o) (q : Pre μ μ') (k : Kt H H') (e : H' a = H a) : OL X μ' H' a o := by
  cases o with
  | lst lk ds =>
    obtain ⟨vs, e1, r⟩ := x
    refine ⟨vs, ?_, r.keep q k⟩
    split at e1
    · rename_i hl; rw [if_pos hl, e]; exact e1
    · rename_i hl; rw [if_neg hl, e]; exact e1
  | dct lk kvs =>
    obtain ⟨es, e1, r, n⟩ := x
    refine ⟨es, ?_, r.keep q k, n⟩
    split at e1
    · rename_i hl; rw [if_pos hl, e]; exact e1
    · rename_i hl; rw [if_neg hl, e]; exact e1
  | ins c fs => obtain ⟨y, C, dx, gs, e1, e2, e3, r⟩ := x; exact ⟨y, C, dx, gs, e1, e2, e.trans e3, r.keep q k⟩
theorem Lk.tracked (L : Lk X μ H h) {l : Nat} (hl : μ[l]? = some a) : ∃ u, H a = some u ∧ ∀ vs, u ≠ .tup vs := by
  have hlt : l < h.length := by rw [← L.len]; exact (List.getElem?_eq_some_iff.mp hl).1
  obtain ⟨b, e, x⟩ := L.obj l h[l] (List.getElem?_eq_getElem hlt)
  rw [hl] at e; cases e
  exact x.tracked
theorem Lk.mem (L : Lk X μ H h) (hm : a ∈ μ) : ∃ u, H a = some u ∧ ∀ vs, u ≠ .tup vs := by
  obtain ⟨l, hl⟩ := List.getElem?_of_mem hm
  exact L.tracked hl
theorem Lk.fresh (L : Lk X μ H h) (hp : H p = none) : p ∉ μ := fun hm => by
  obtain ⟨u, e, _⟩ := L.mem hm
  rw [hp] at e; cases e
theorem Lk.at {l : Nat} (L : Lk X μ H h) (e : h[l]? = some o) (q : μ[l]? = some a) : OL X μ H a o := by
  obtain ⟨b, e1, x⟩ := L.obj l o e
  rw [q] at e1; cases e1
  exact x
/-- the heap changed where nothing of ours stands -/
theorem Lk.keep (L : Lk X μ H h) (k : Kt H H') (e : ∀ a ∈ μ, H' a = H a) : Lk X μ H' h :=
  ⟨L.len, L.nd, fun l o hl => by
    obtain ⟨b, e1, x⟩ := L.obj l o hl
    exact ⟨b, e1, x.keep (List.prefix_refl _) k (e b (List.mem_of_getElem? e1))⟩⟩
theorem Lk.side (L : Lk X μ H h) (hp : H p = none) : Lk X μ (upd H p ho) h := L.keep (Keeps.new hp).t fun a ha => upd_ne fun e => L.fresh hp (e ▸ ha)
/-- a new object -/
theorem Lk.new (L : Lk X μ H h) (hp : H p = none) (x : OL X (μ ++ [p]) (upd H p ho) p o) : Lk X (μ ++ [p]) (upd H p ho) (h ++ [o]) := by
  refine ⟨by simp [L.len], ?_, fun l u hl => ?_⟩
  · refine List.nodup_append.mpr ⟨L.nd, by simp, fun a ha b hb e => ?_⟩
    have : b = p := by simpa using hb
    exact L.fresh hp (this ▸ e ▸ ha)
  · by_cases hlt : l < h.length
    · rw [List.getElem?_append_left hlt] at hl
      obtain ⟨b, e1, y⟩ := L.obj l u hl
      refine ⟨b, Pre.get (List.prefix_append _ _) e1, y.keep (List.prefix_append _ _) (Keeps.new hp).t (upd_ne fun e => L.fresh hp (e ▸ List.mem_of_getElem? e1))⟩
    · have hl' : l = h.length := by
        have := (List.getElem?_eq_some_iff.mp hl).1
        simp at this; omega
      subst hl'
      rw [List.getElem?_append_right (Nat.le_refl _)] at hl
      simp at hl; subst hl
      exact ⟨p, by rw [← L.len, List.getElem?_append_right (Nat.le_refl _)]; simp, x⟩
theorem Lk.newRef (L : Lk X μ H h) : (μ ++ [p])[h.length]? = some p := by rw [← L.len, List.getElem?_append_right (Nat.le_refl _)]; simp
/-- an object changed -/
theorem Lk.put (L : Lk X μ H h) {l : Nat} (hl : μ[l]? = some a) (x : OL X μ (upd H a ho) a o) : Lk X μ (upd H a ho) (h.set l o) := by
  obtain ⟨u, hu, nt⟩ := L.tracked hl
  have kp : Kt H (upd H a ho) := Kt.put hu nt
  refine ⟨by simp [L.len], L.nd, fun m v hm => ?_⟩
  by_cases e : m = l
  · subst e
    have hlt : m < h.length := by
      have := (List.getElem?_eq_some_iff.mp hm).1
      simpa using this
    rw [List.getElem?_set_self hlt] at hm
    cases hm
    exact ⟨a, hl, x⟩
  · rw [List.getElem?_set_ne (Ne.symm e)] at hm
    obtain ⟨b, e1, y⟩ := L.obj m v hm
    refine ⟨b, e1, y.keep (List.prefix_refl _) kp (upd_ne fun z => ?_)⟩
    subst z
    exact e ((nodup_ix' L.nd e1 hl))
where
  nodup_ix' {N : List Addr} (hN : N.Nodup) {i j : Nat} {x : Addr} (a : N[i]? = some x) (b : N[j]? = some x) : i = j := by
    obtain ⟨h1, e1⟩ := List.getElem?_eq_some_iff.mp a
    obtain ⟨h2, e2⟩ := List.getElem?_eq_some_iff.mp b
    exact (List.getElem_inj hN).mp (e1.trans e2.symm)
end
end G47
namespace G47
open PySem L2
/-! ### runs of the abstract machine -/
/-- an error: the number of its class, its field -/
structure Xn where
  cls : Nat
  fld : Option (Nat × D)
inductive Out (α : Type) where
  | ok (a : α) (h : AH)
  | er (x : Xn) (h : AH)
/-- none: the machine does not tell -/
abbrev R (α : Type) := Option (Out α)
abbrev Sl0 := List (Option D)
abbrev ME := Sl0 → AH → R D
abbrev MT := Sl0 → AH → R Bool
abbrev MA := Sl0 → AH → R (List D)
def bnd {α β : Type} (m : R α) (f : α → AH → R β) : R β :=
  match m with
  | none => none
  | some (.er x h) => some (.er x h)
  | some (.ok a h) => f a h
def Out.err {α : Type} : Out α → Option (Xn × AH)
  | .ok _ _ => none
  | .er x h => some (x, h)
theorem bnd_some {α β : Type} {m : R α} {f : α → AH → R β} {r : Out β} (e : bnd m f = some r) :
    (∃ x h, m = some (.er x h) ∧ r = .er x h) ∨ ∃ a h, m = some (.ok a h) ∧ f a h = some r := by
  unfold bnd at e
  split at e
  · cases e
  · rename_i x h; exact .inl ⟨x, h, rfl, (Option.some.inj e).symm⟩
  · rename_i a h; exact .inr ⟨a, h, rfl, e⟩
section
variable (X : Cx)
/-- the slots -/
structure Sl (μ : List Addr) (H : Hp) (σA : Sl0) (σ : St) : Prop where
  len : σA.length = σ.length
  get : ∀ (i : Nat) d, σA[i]? = some (some d) → ∃ v, σ[i]? = some (some v) ∧ DV X.K X.mg μ H d v
/-- how an error lies -/
def XR (μ : List Addr) (H : Hp) (x : Xn) (cls : Value) (d : Option Addr) : Prop :=
  ∃ n C, TxtN x.cls n ∧ X.mg n = some (.ref C) ∧ cls = .ref C ∧
    match x.fld with
    | none => True
    | some (f, v) => ∃ dx y vv, d = some dx ∧ TxtN f y ∧ H dx = some (.xd [(y, vv)]) ∧ DV X.K X.mg μ H v vv
def ErOk (W : WX) (μ : List Addr) (H : Hp) (σA : Sl0) (x : Xn) (h : AH) : Prop :=
  ∀ μ' H' σ' cls d, Pre μ μ' → Keeps H H' → Lk X μ' H' h → Sl X μ' H' σA σ' → XR X μ' H' x cls d → W cls d σ' H'
/-- where the machine stands -/
structure At (W : WX) (pins : List (Addr × Obj)) (σA : Sl0) (h : AH) (σ : St) (H : Hp) (μ : List Addr) (s : Shared) (E : Option (Xn × AH)) : Prop where
  tk : Takes X W
  inv : Inv X pins σ H s
  lk : Lk X μ H h
  sl : Sl X μ H σA σ
  er : ∀ x h', E = some (x, h') → ErOk X W μ H σA x h'
end
section
variable {X : Cx} {μ μ' : List Addr} {H H' : Hp} {σA : Sl0} {σ : St} {W : WX} {x : Xn} {h h' : AH}
theorem Sl.keep (S : Sl X μ H σA σ) (p : Pre μ μ') (k : Kt H H') : Sl X μ' H' σA σ := ⟨S.len, fun i d e => by
  obtain ⟨v, e1, q⟩ := S.get i d e
  exact ⟨v, e1, q.keep p k⟩⟩
theorem ErOk.keep (E : ErOk X W μ H σA x h) (p : Pre μ μ') (k : Keeps H H') : ErOk X W μ' H' σA x h := fun μ2 H2 σ2 cls d p2 k2 => E μ2 H2 σ2 cls d (p.trans p2) (k.trans k2)
theorem Sl.set (S : Sl X μ H σA σ) {i : Nat} {d : D} {v : V} (q : DV X.K X.mg μ H d v) : Sl X μ H (σA.set i (some d)) (σ.set i (some v)) := by
  refine ⟨by simp [S.len], fun j e hj => ?_⟩
  by_cases hij : j = i
  · subst hij
    by_cases hl : j < σA.length
    · rw [List.getElem?_set_self hl] at hj
      simp at hj; subst hj
      exact ⟨v, List.getElem?_set_self (by rw [← S.len]; exact hl), q⟩
    · rw [List.getElem?_eq_none (by simpa using hl)] at hj
      cases hj
  · rw [List.getElem?_set_ne (Ne.symm hij)] at hj
    obtain ⟨u, e1, q1⟩ := S.get j e hj
    exact ⟨u, by rw [List.getElem?_set_ne (Ne.symm hij)]; exact e1, q1⟩
end
/-- behind an expression -/
def PostE (X : Cx) (pins : List (Addr × Obj)) (σ : St) (μ : List Addr) (H : Hp) (r : Out D) (u : Value) (s' : Shared) : Prop :=
  ∃ d h' v H' μ', r = .ok d h' ∧ Inv X pins σ H' s' ∧ RelV v u ∧ Pre μ μ' ∧ Keeps H H' ∧ Lk X μ' H' h' ∧ DV X.K X.mg μ' H' d v
def PostT (X : Cx) (pins : List (Addr × Obj)) (σ : St) (μ : List Addr) (H : Hp) (r : Out Bool) (b : Bool) (s' : Shared) : Prop :=
  ∃ h' H' μ', r = .ok b h' ∧ Inv X pins σ H' s' ∧ Pre μ μ' ∧ Keeps H H' ∧ Lk X μ' H' h'
def PostA (X : Cx) (pins : List (Addr × Obj)) (σ : St) (μ : List Addr) (H : Hp) (r : Out (List D)) (us : List Value) (s' : Shared) : Prop :=
  ∃ ds h' vs H' μ', r = .ok ds h' ∧ Inv X pins σ H' s' ∧ Vals vs us ∧ Pre μ μ' ∧ Keeps H H' ∧ Lk X μ' H' h' ∧ DVs X.K X.mg μ' H' ds vs
/-- the expression e does what the machine's m does -/
def SE (X : Cx) (e : Expr) (m : ME) : Prop := ∀ W pins σA h σ H μ s r, At X W pins σA h σ H μ s r.err → m σA h = some r →
  wpAny (model X.prog X.w) X.A (eval e X.env) (PostE X pins σ μ H r) X.xe s
def ST (X : Cx) (e : Expr) (m : MT) : Prop := ∀ W pins σA h σ H μ s r, At X W pins σA h σ H μ s r.err → m σA h = some r →
  wpAny (model X.prog X.w) X.A (isTrue e X.env (eval e X.env)) (PostT X pins σ μ H r) X.xe s
/-- items, with stars -/
def SA (X : Cx) (es : List Expr) (m : MA) : Prop := ∀ pos W pins σA h σ H μ s r, At X W pins σA h σ H μ s r.err → m σA h = some r →
  wpAny (model X.prog X.w) X.A (spliced (backTo pos (starEach es X.env))) (PostA X pins σ μ H r) X.xe s
section
variable {X : Cx} {W : WX} {pins : List (Addr × Obj)} {σA : Sl0} {h h1 : AH} {σ : St} {H H1 : Hp} {μ μ1 : List Addr} {s s1 : Shared} {E : Option (Xn × AH)}
theorem At.go (A : At X W pins σA h σ H μ s E) (I : Inv X pins σ H1 s1) (p : Pre μ μ1) (k : Keeps H H1) (L : Lk X μ1 H1 h1) : At X W pins σA h1 σ H1 μ1 s1 E :=
  ⟨A.tk, I, L, A.sl.keep p k, fun x h' e => (A.er x h' e).keep p k⟩
theorem At.same (A : At X W pins σA h σ H μ s E) (I : Inv X pins σ H s1) : At X W pins σA h σ H μ s1 E := ⟨A.tk, I, A.lk, A.sl, A.er⟩
theorem At.noerr (A : At X W pins σA h σ H μ s E) : At X W pins σA h σ H μ s none := ⟨A.tk, A.inv, A.lk, A.sl, fun _ _ z => nomatch z⟩
/-- one expression, then the rest -/
theorem SE.seq {β : Type} {e : Expr} {m : ME} {f : D → AH → R β} {r : Out β} {Q : Value → Shared → Prop} (ha : SE X e m) (A : At X W pins σA h σ H μ s r.err) (hm : bnd (m σA h) f = some r)
    (k : ∀ d h1 v u H1 μ1 s1, At X W pins σA h1 σ H1 μ1 s1 r.err → Pre μ μ1 → Keeps H H1 → RelV v u → DV X.K X.mg μ1 H1 d v → f d h1 = some r → Q u s1) :
    wpAny (model X.prog X.w) X.A (eval e X.env) Q X.xe s := by
  rcases bnd_some hm with ⟨x, h1, e1, rfl⟩ | ⟨d, h1, e1, e2⟩
  · refine thn (ha W pins σA h σ H μ s (.er x h1) A e1) fun u s1 ⟨_, _, _, _, _, z, _⟩ => nomatch z
  · refine thn (ha W pins σA h σ H μ s (.ok d h1) A.noerr e1) fun u s1 ⟨d', h', v, H1, μ1, z, I, rv, p, kk, L, q⟩ => ?_
    cases z
    exact k d h1 v u H1 μ1 s1 (A.go I p kk L) p kk rv q e2
theorem ST.seq {β : Type} {e : Expr} {m : MT} {f : Bool → AH → R β} {r : Out β} {Q : Bool → Shared → Prop} (ha : ST X e m) (A : At X W pins σA h σ H μ s r.err) (hm : bnd (m σA h) f = some r)
    (k : ∀ b h1 H1 μ1 s1, At X W pins σA h1 σ H1 μ1 s1 r.err → Pre μ μ1 → Keeps H H1 → f b h1 = some r → Q b s1) :
    wpAny (model X.prog X.w) X.A (isTrue e X.env (eval e X.env)) Q X.xe s := by
  rcases bnd_some hm with ⟨x, h1, e1, rfl⟩ | ⟨d, h1, e1, e2⟩
  · refine thn (ha W pins σA h σ H μ s (.er x h1) A e1) fun u s1 ⟨_, _, _, z, _⟩ => nomatch z
  · refine thn (ha W pins σA h σ H μ s (.ok d h1) A.noerr e1) fun u s1 ⟨h', H1, μ1, z, I, p, kk, L⟩ => ?_
    cases z
    exact k _ h1 H1 μ1 s1 (A.go I p kk L) p kk e2
theorem SA.seq {β : Type} {es : List Expr} {m : MA} {f : List D → AH → R β} {r : Out β} {Q : List Value → Shared → Prop} {pos : Pos} (ha : SA X es m) (A : At X W pins σA h σ H μ s r.err) (hm : bnd (m σA h) f = some r)
    (k : ∀ ds h1 vs us H1 μ1 s1, At X W pins σA h1 σ H1 μ1 s1 r.err → Pre μ μ1 → Keeps H H1 → Vals vs us → DVs X.K X.mg μ1 H1 ds vs → f ds h1 = some r → Q us s1) :
    wpAny (model X.prog X.w) X.A (spliced (backTo pos (starEach es X.env))) Q X.xe s := by
  rcases bnd_some hm with ⟨x, h1, e1, rfl⟩ | ⟨d, h1, e1, e2⟩
  · refine thn (ha pos W pins σA h σ H μ s (.er x h1) A e1) fun u s1 ⟨_, _, _, _, _, z, _⟩ => nomatch z
  · refine thn (ha pos W pins σA h σ H μ s (.ok d h1) A.noerr e1) fun u s1 ⟨d', h', v, H1, μ1, z, I, rv, p, kk, L, q⟩ => ?_
    cases z
    exact k d h1 v u H1 μ1 s1 (A.go I p kk L) p kk rv q e2
/-- the end: the value is there, nothing has changed since -/
theorem At.fin {d : D} {v : V} {u : Value} (A : At X W pins σA h1 σ H1 μ1 s1 E) (p : Pre μ μ1) (k : Keeps H H1) (rv : RelV v u) (q : DV X.K X.mg μ1 H1 d v) : PostE X pins σ μ H (.ok d h1) u s1 :=
  ⟨d, h1, v, H1, μ1, rfl, A.inv, rv, p, k, A.lk, q⟩
theorem PostE.lift {r : Out D} {u : Value} (P : PostE X pins σ μ1 H1 r u s1) (p : Pre μ μ1) (k : Keeps H H1) : PostE X pins σ μ H r u s1 := by
  obtain ⟨d, h', v, H', μ', e, I, rv, p', k', L, q⟩ := P
  exact ⟨d, h', v, H', μ', e, I, rv, p.trans p', k.trans k', L, q⟩
theorem PostT.lift {r : Out Bool} {u : Bool} (P : PostT X pins σ μ1 H1 r u s1) (p : Pre μ μ1) (k : Keeps H H1) : PostT X pins σ μ H r u s1 := by
  obtain ⟨h', H', μ', e, I, p', k', L⟩ := P
  exact ⟨h', H', μ', e, I, p.trans p', k.trans k', L⟩
theorem PostA.lift {r : Out (List D)} {u : List Value} (P : PostA X pins σ μ1 H1 r u s1) (p : Pre μ μ1) (k : Keeps H H1) : PostA X pins σ μ H r u s1 := by
  obtain ⟨d, h', v, H', μ', e, I, rv, p', k', L, q⟩ := P
  exact ⟨d, h', v, H', μ', e, I, rv, p.trans p', k.trans k', L, q⟩
end
/-! ### names, constants -/
section
variable {X : Cx}
def mVar (i : Nat) : ME := fun σ h => match σ[i]? with | some (some d) => some (.ok d h) | _ => none
theorem se_var {i : Nat} {x : Str} {pos : Pos} (hN : X.N[i]? = some x) (hv : Vis X.env.scope x) (hd : (x == ("__debug__" : Str)) = false) (hcd : (x == ("__classdict__" : Str)) = false) : SE X (.Name x pos) (mVar i) := by
  intro W pins σA h σ H μ s r A e
  unfold mVar at e
  split at e
  · rename_i d ed
    cases e
    obtain ⟨v, ev, q⟩ := A.sl.get i d ed
    refine thn ((pe_var hN hv hd hcd).run pins s σ H (fun v' H' => v' = v ∧ H' = H) A.inv ⟨v, ev, rfl, rfl⟩) fun u s1 ⟨v', H1, I1, rv, e1, e2⟩ => ?_
    subst e1; subst e2
    exact (A.same I1).fin (List.prefix_refl _) (Keeps.refl _) rv q
  · cases e
def mC (d : D) : ME := fun _ h => some (.ok d h)
theorem se_pe {e : Expr} {v : V} {d : D} (h : PE X e (tC v)) (q : ∀ μ H, DV X.K X.mg μ H d v) : SE X e (mC d) := by
  intro W pins σA h0 σ H μ s r A e
  cases e
  refine thn (h.run pins s σ H (fun v' H' => v' = v ∧ H' = H) A.inv ⟨rfl, rfl⟩) fun u s1 ⟨v', H1, I1, rv, e1, e2⟩ => ?_
  subst e1; subst e2
  exact (A.same I1).fin (List.prefix_refl _) (Keeps.refl _) rv (q _ _)
theorem se_int {i : Int} {j pos} : SE X (.Constant (.int i) j pos) (mC (.int i)) := se_pe pe_int fun _ _ => rfl
theorem se_bl {b : Bool} {j pos} : SE X (.Constant (.bool b) j pos) (mC (.bl b)) := se_pe pe_bl fun _ _ => rfl
theorem se_non {j pos} : SE X (.Constant .none j pos) (mC .non) := se_pe pe_non fun _ _ => rfl
theorem se_str {x : Str} {n : Nat} {j pos} (t : TxtN n x) : SE X (.Constant (.str x) j pos) (mC (.str n)) := se_pe pe_str fun _ _ => ⟨x, rfl, t⟩
/-- a module's constant -/
theorem se_glob {x : Str} {v : V} {u : Value} {d : D} {pos : Pos} (hg : Gl X x) (hm : X.mg x = some u) (r : RelV v u) (hd : (x == ("__debug__" : Str)) = false) (q : ∀ μ H, DV X.K X.mg μ H d v) : SE X (.Name x pos) (mC d) :=
  se_pe (pe_glob hg hm r hd) q
/-! ### items -/
def mNil : MA := fun _ h => some (.ok [] h)
def mCons (m : ME) (r : MA) : MA := fun σ h => bnd (m σ h) fun d h1 => bnd (r σ h1) fun ds h2 => some (.ok (d :: ds) h2)
theorem sa_nil : SA X [] mNil := by
  intro pos W pins σA h σ H μ s r A e
  cases e
  exact Calls.spliced_nil ⟨[], h, [], H, μ, rfl, A.inv, .nil, List.prefix_refl _, Keeps.refl _, A.lk, rfl⟩
theorem sa_cons {e : Expr} {es : List Expr} {m : ME} {r : MA} (ha : SE X e m) (hr : SA X es r) (hs : starEach (e :: es) X.env = (false, eval e X.env) :: starEach es X.env) : SA X (e :: es) (mCons m r) := by
  intro pos W pins σA h σ H μ s r A e1
  rw [hs]
  show wpAny _ X.A (spliced ((false, eval e X.env) :: backTo pos (starEach es X.env))) _ _ s
  refine Calls.spliced_cons ?_
  refine ha.seq A e1 fun d h1 v u H1 μ1 s1 A1 p1 k1 rv q e2 => ?_
  refine hr.seq A1 e2 fun ds h2 vs us H2 μ2 s2 A2 p2 k2 rvs qs e3 => ?_
  cases e3
  exact ⟨d :: ds, h2, v :: vs, H2, μ2, rfl, A2.inv, .cons rv rvs, p1.trans p2, k1.trans k2, A2.lk, v, vs, rfl, q.keep p2 k2, qs⟩
end
end G47
namespace G47
open PySem L2
/-! ### data: None, bools, ints, texts, tuples and lists of these -/
/-- it is data, at most n deep -/
def isDat (h : AH) : Nat → D → Bool
  | _, .non => true
  | _, .bl _ => true
  | _, .int _ => true
  | _, .str _ => true
  | n + 1, .tup ds => ds.all (isDat h n)
  | n + 1, .ref l => match h[l]? with
    | some (.lst _ ds) => ds.all (isDat h n)
    | _ => false
  | _, _ => false
/-- == of two data -/
def eqB (h : AH) : Nat → D → D → Bool
  | _, .non, .non => true
  | _, .bl a, .bl b => a == b
  | _, .bl a, .int j => (if a then 1 else 0) == j
  | _, .int i, .bl b => i == (if b then 1 else 0)
  | _, .int i, .int j => i == j
  | _, .str a, .str b => Nat.beq a b
  | n + 1, .tup a, .tup b => all2 (eqB h n) a b
  | n + 1, .ref a, .ref b => match h[a]?, h[b]? with
    | some (.lst _ xs), some (.lst _ ys) => all2 (eqB h n) xs ys
    | _, _ => false
  | _, _, _ => false
where
  all2 (f : D → D → Bool) : List D → List D → Bool
    | [], [] => true
    | a :: as, b :: bs => f a b && all2 f as bs
    | _, _ => false
/-- the data that a value is -/
def PD (h : AH) : Nat → D → PyData → Prop
  | _, .non, p => p = .none
  | _, .bl b, p => p = .bool b
  | _, .int i, p => p = .int i
  | _, .str n, p => ∃ x, TxtN n x ∧ p = .str x
  | n + 1, .tup ds, p => ∃ ps, Paired (PD h n) ds ps ∧ p = .tuple ps
  | n + 1, .ref l, p => ∃ lk ds ps, h[l]? = some (.lst lk ds) ∧ Paired (PD h n) ds ps ∧ p = .list ps
  | _, _, _ => False
theorem beq_str {x y : Str} : (x == y) = decide (x = y) := by
  by_cases e : x = y
  · subst e; simp
  · rw [decide_eq_false e]; exact beq_eq_false_iff_ne.mpr e
theorem TxtN.beq {n m : Nat} {x y : Str} (hx : TxtN n x) (hy : TxtN m y) : Nat.beq n m = (x == y) := by
  rw [beq_str]
  by_cases e : n = m
  · subst e
    rw [decide_eq_true (hx.inj hy)]
    exact Nat.beq_refl n
  · rw [decide_eq_false fun q => e ((hx.eq_iff hy).mp q)]
    cases q : Nat.beq n m with
    | true => exact absurd (Nat.eq_of_beq_eq_true q) e
    | false => rfl
theorem all2_eqv {h : AH} {n m : Nat} (ih : ∀ d e p q, PD h n d p → PD h m e q → eqB h n d e = PyData.eqv p q) : ∀ {a b : List D} {ps qs : List PyData}, Paired (PD h n) a ps → Paired (PD h m) b qs → eqB.all2 (eqB h n) a b = PyData.eqvAll ps qs
  | [], [], _, _, .nil, .nil => by simp [eqB.all2, PyData.eqvAll]
  | [], _ :: _, _, _, .nil, .cons _ _ => by simp [eqB.all2, PyData.eqvAll]
  | _ :: _, [], _, _, .cons _ _, .nil => by simp [eqB.all2, PyData.eqvAll]
  | _ :: _, _ :: _, _, _, .cons r t, .cons r' t' => by
    simp only [eqB.all2, PyData.eqvAll]
    rw [ih _ _ _ _ r r', all2_eqv ih t t']
theorem eqB_eqv {h : AH} : ∀ (n : Nat) (d e : D) (p q : PyData), PD h n d p → PD h n e q → eqB h n d e = PyData.eqv p q := by
  intro n
  induction n with
  | zero =>
    intro d e p q hd he
    cases d <;> cases e <;> simp only [PD] at hd he <;>
      first
      | (obtain ⟨x, hx, rfl⟩ := hd; obtain ⟨y, hy, rfl⟩ := he; simp only [eqB, PyData.eqv]; first | exact hx.beq hy | rfl)
      | (obtain ⟨x, hx, rfl⟩ := hd; subst he; simp [eqB, PyData.eqv])
      | (obtain ⟨y, hy, rfl⟩ := he; subst hd; simp [eqB, PyData.eqv])
      | (subst hd he; simp [eqB, PyData.eqv])
  | succ n ih =>
    intro d e p q hd he
    cases d with
    | tup a =>
      obtain ⟨ps, h1, rfl⟩ := hd
      cases e with
      | tup b => obtain ⟨qs, h2, rfl⟩ := he; simp only [eqB, PyData.eqv]; exact all2_eqv ih h1 h2
      | ref b => obtain ⟨_, _, qs, _, h2, rfl⟩ := he; simp [eqB, PyData.eqv]
      | str b => obtain ⟨x, hx, rfl⟩ := he; simp [eqB, PyData.eqv]
      | gl b => exact he.elim
      | non => simp only [PD] at he; subst he; simp [eqB, PyData.eqv]
      | bl b => simp only [PD] at he; subst he; simp [eqB, PyData.eqv]
      | int b => simp only [PD] at he; subst he; simp [eqB, PyData.eqv]
    | ref a =>
      obtain ⟨lk, ds, ps, e1, h1, rfl⟩ := hd
      cases e with
      | tup b => obtain ⟨qs, h2, rfl⟩ := he; simp [eqB, PyData.eqv]
      | ref b => obtain ⟨lk', es, qs, e2, h2, rfl⟩ := he; simp only [eqB, e1, e2, PyData.eqv]; exact all2_eqv ih h1 h2
      | str b => obtain ⟨x, hx, rfl⟩ := he; simp [eqB, PyData.eqv]
      | gl b => exact he.elim
      | non => simp only [PD] at he; subst he; simp [eqB, PyData.eqv]
      | bl b => simp only [PD] at he; subst he; simp [eqB, PyData.eqv]
      | int b => simp only [PD] at he; subst he; simp [eqB, PyData.eqv]
    | gl a => exact hd.elim
    | str a =>
      obtain ⟨x, hx, rfl⟩ := hd
      cases e with
      | tup b => obtain ⟨qs, h2, rfl⟩ := he; simp [eqB, PyData.eqv]
      | ref b => obtain ⟨_, _, qs, _, h2, rfl⟩ := he; simp [eqB, PyData.eqv]
      | str b => obtain ⟨y, hy, rfl⟩ := he; simp only [eqB, PyData.eqv]; exact hx.beq hy
      | gl b => exact he.elim
      | non => simp only [PD] at he; subst he; simp [eqB, PyData.eqv]
      | bl b => simp only [PD] at he; subst he; simp [eqB, PyData.eqv]
      | int b => simp only [PD] at he; subst he; simp [eqB, PyData.eqv]
    | non =>
      simp only [PD] at hd; subst hd
      cases e with
      | tup b => obtain ⟨qs, h2, rfl⟩ := he; simp [eqB, PyData.eqv]
      | ref b => obtain ⟨_, _, qs, _, h2, rfl⟩ := he; simp [eqB, PyData.eqv]
      | str b => obtain ⟨y, hy, rfl⟩ := he; simp [eqB, PyData.eqv]
      | gl b => exact he.elim
      | non => simp only [PD] at he; subst he; simp [eqB, PyData.eqv]
      | bl b => simp only [PD] at he; subst he; simp [eqB, PyData.eqv]
      | int b => simp only [PD] at he; subst he; simp [eqB, PyData.eqv]
    | bl a =>
      simp only [PD] at hd; subst hd
      cases e with
      | tup b => obtain ⟨qs, h2, rfl⟩ := he; simp [eqB, PyData.eqv]
      | ref b => obtain ⟨_, _, qs, _, h2, rfl⟩ := he; simp [eqB, PyData.eqv]
      | str b => obtain ⟨y, hy, rfl⟩ := he; simp [eqB, PyData.eqv]
      | gl b => exact he.elim
      | non => simp only [PD] at he; subst he; simp [eqB, PyData.eqv]
      | bl b => simp only [PD] at he; subst he; simp [eqB, PyData.eqv]
      | int b => simp only [PD] at he; subst he; simp [eqB, PyData.eqv]
    | int a =>
      simp only [PD] at hd; subst hd
      cases e with
      | tup b => obtain ⟨qs, h2, rfl⟩ := he; simp [eqB, PyData.eqv]
      | ref b => obtain ⟨_, _, qs, _, h2, rfl⟩ := he; simp [eqB, PyData.eqv]
      | str b => obtain ⟨y, hy, rfl⟩ := he; simp [eqB, PyData.eqv]
      | gl b => exact he.elim
      | non => simp only [PD] at he; subst he; simp [eqB, PyData.eqv]
      | bl b => simp only [PD] at he; subst he; simp [eqB, PyData.eqv]
      | int b => simp only [PD] at he; subst he; simp [eqB, PyData.eqv]
theorem strOk_of {n : Nat} {x : Str} (t : TxtN n x) : PyData.strOk x = true := by
  obtain ⟨h, _⟩ := t
  simp only [okL, okC, Bool.and_eq_true] at h
  unfold PyData.strOk
  rw [← Array.all_toList]
  refine List.all_eq_true.mpr fun c hc => ?_
  have := List.all_eq_true.mp h.1 c hc
  simpa [Nat.blt_eq] using this
theorem PD.lay {h : AH} : ∀ (n : Nat) (d : D) (p : PyData), PD h n d p → p.canLay0 = true ∧ p.depth ≤ n := by
  have all : ∀ (n : Nat), (∀ d p, PD h n d p → p.canLay0 = true ∧ p.depth ≤ n) → ∀ {ds : List D} {ps : List PyData}, Paired (PD h n) ds ps → PyData.canLayAll0 ps = true ∧ PyData.depthAll ps ≤ n := by
    intro n ih ds ps r
    induction r with
    | nil => simp [PyData.canLayAll0, PyData.depthAll]
    | cons a _ ihh =>
      obtain ⟨h1, h2⟩ := ih _ _ a
      simp only [PyData.canLayAll0, PyData.depthAll, h1, ihh.1, Bool.and_self, true_and]
      have := ihh.2
      omega
  have flat : ∀ (n : Nat) (d : D) (p : PyData), (match d with | .tup _ => False | .ref _ => False | _ => True) → PD h n d p → p.canLay0 = true ∧ p.depth ≤ n := by
    intro n d p hf hd
    cases d with
    | non => cases n <;> (simp only [PD] at hd; subst hd; simp [PyData.canLay0, PyData.depth])
    | bl b => cases n <;> (simp only [PD] at hd; subst hd; simp [PyData.canLay0, PyData.depth])
    | int b => cases n <;> (simp only [PD] at hd; subst hd; simp [PyData.canLay0, PyData.depth])
    | str m => cases n <;> (simp only [PD] at hd; obtain ⟨x, hx, rfl⟩ := hd; simp [PyData.canLay0, PyData.depth, strOk_of hx])
    | tup ds => exact hf.elim
    | ref l => exact hf.elim
    | gl m => cases n <;> exact hd.elim
  intro n
  induction n with
  | zero =>
    intro d p hd
    cases d with
    | tup ds => exact hd.elim
    | ref l => exact hd.elim
    | _ => exact flat _ _ _ trivial hd
  | succ n ih =>
    intro d p hd
    cases d with
    | tup ds =>
      obtain ⟨ps, r, rfl⟩ := hd
      have := all n ih r
      simp only [PyData.canLay0, PyData.depth]
      exact ⟨this.1, by omega⟩
    | ref l =>
      obtain ⟨_, _, ps, _, r, rfl⟩ := hd
      have := all n ih r
      simp only [PyData.canLay0, PyData.depth]
      exact ⟨this.1, by omega⟩
    | _ => exact flat _ _ _ trivial hd
/-- data that lies in the heap -/
theorem PD.ex {X : Cx} {μ : List Addr} {H : Hp} {h : AH} (L : Lk X μ H h) : ∀ (n : Nat) (d : D) (v : V), isDat h n d = true → DV X.K X.mg μ H d v → ∃ p, PD h n d p ∧ Dp X.K H v p := by
  have all : ∀ (n : Nat), (∀ d v, isDat h n d = true → DV X.K X.mg μ H d v → ∃ p, PD h n d p ∧ Dp X.K H v p) → ∀ {ds : List D} {vs : List V}, ds.all (isDat h n) = true → DVs X.K X.mg μ H ds vs → ∃ ps, Paired (PD h n) ds ps ∧ DpAll X.K H vs ps := by
    intro n ih ds
    induction ds with
    | nil => intro vs _ q; rw [show vs = [] from q]; exact ⟨[], .nil, .nil⟩
    | cons d ds ihh =>
      intro vs ha q
      obtain ⟨v, r, rfl, q1, q2⟩ := q
      simp only [List.all_cons, Bool.and_eq_true] at ha
      obtain ⟨p, h1, h2⟩ := ih d v ha.1 q1
      obtain ⟨ps, g1, g2⟩ := ihh ha.2 q2
      exact ⟨p :: ps, .cons h1 g1, .cons h2 g2⟩
  have flat : ∀ (n : Nat) (d : D) (v : V), (match d with | .tup _ => False | .ref _ => False | .gl _ => False | _ => True) → DV X.K X.mg μ H d v → ∃ p, PD h n d p ∧ Dp X.K H v p := by
    intro n d v hf q
    cases d with
    | non => cases q; cases n <;> exact ⟨.none, rfl, .non⟩
    | bl b => cases q; cases n <;> exact ⟨.bool b, rfl, .bl b⟩
    | int b => cases q; cases n <;> exact ⟨.int b, rfl, .int b⟩
    | str m => obtain ⟨x, rfl, t⟩ := q; cases n <;> exact ⟨.str x, ⟨x, t, rfl⟩, .str x⟩
    | tup ds => exact hf.elim
    | ref l => exact hf.elim
    | gl m => exact hf.elim
  intro n
  induction n with
  | zero =>
    intro d v hd q
    cases d with
    | tup ds => simp [isDat] at hd
    | ref l => simp [isDat] at hd
    | gl m => simp [isDat] at hd
    | _ => exact flat _ _ _ trivial q
  | succ n ih =>
    intro d v hd q
    cases d with
    | tup ds =>
      obtain ⟨a, vs, rfl, t, qs⟩ := q
      obtain ⟨ps, h1, h2⟩ := all n ih (by simpa [isDat] using hd) qs
      exact ⟨.tuple ps, ⟨ps, h1, rfl⟩, .tup t.sq h2⟩
    | ref l =>
      obtain ⟨a, e, rfl⟩ := q
      simp only [isDat] at hd
      split at hd
      · rename_i lk ds e1
        obtain ⟨vs, e2, qs⟩ := L.at e1 e
        obtain ⟨ps, h1, h2⟩ := all n ih hd qs
        refine ⟨.list ps, ⟨lk, ds, ps, e1, h1, rfl⟩, .lst ?_ h2⟩
        split at e2
        · exact .inl (.inr e2.1)
        · exact .inl (.inl e2)
      · cases hd
    | gl m => simp [isDat] at hd
    | _ => exact flat _ _ _ trivial q
/-- how deep we look -/
abbrev deep : Nat := 12
/-- the two are compared so -/
theorem eqAt_D {X : Cx} {pins : List (Addr × Obj)} {σ : St} {μ : List Addr} {H : Hp} {h : AH} {s : Shared} {A : Around} {d e : D} {v w : V} {u u' : Value} (I : Inv X pins σ H s) (L : Lk X μ H h) (hd : isDat h deep d = true) (he : isDat h deep e = true)
    (q : DV X.K X.mg μ H d v) (q' : DV X.K X.mg μ H e w) (r : RelV v u) (r' : RelV w u') (hu : A.units + 12 < cLine) : SeqAt.EqAt A s u u' (eqB h deep d e) := by
  obtain ⟨p, h1, h2⟩ := PD.ex L deep d v hd q
  obtain ⟨p', g1, g2⟩ := PD.ex L deep e w he q'
  obtain ⟨as, ra⟩ := Dp.reads I p v u h2 r
  obtain ⟨bs, rb⟩ := Dp.reads I p' w u' g2 r'
  rw [eqB_eqv deep d e p p' h1 g1]
  obtain ⟨l1, l2⟩ := h1.lay
  obtain ⟨l3, l4⟩ := g1.lay
  refine SeqAt.eqAt_reads p p' A s u u' as bs ra rb l1 l3 ?_
  have : min p.depth p'.depth ≤ p.depth := Nat.min_le_left _ _
  unfold deep at l2
  omega
end G47
namespace G47
open PySem L2
/-! ### operations on values -/
def QE (X : Cx) (μ : List Addr) (H : Hp) (d : D) (h' : AH) : VK := fun v H' => ∃ μ', Pre μ μ' ∧ Keeps H H' ∧ Lk X μ' H' h' ∧ DV X.K X.mg μ' H' d v
theorem QE.post {X : Cx} {pins : List (Addr × Obj)} {σ : St} {μ : List Addr} {H : Hp} {d : D} {h' : AH} {u : Value} {s' : Shared} (e : EP X pins σ (QE X μ H d h') u s') : PostE X pins σ μ H (.ok d h') u s' := by
  obtain ⟨v, H', I, r, μ', p, k, L, q⟩ := e
  exact ⟨d, h', v, H', μ', rfl, I, r, p, k, L, q⟩
section
variable {X : Cx} {μ : List Addr} {H : Hp} {h : AH}
/-- nothing changed -/
theorem QE.same {d : D} {v : V} (L : Lk X μ H h) (q : DV X.K X.mg μ H d v) : QE X μ H d h v H := ⟨μ, List.prefix_refl _, Keeps.refl _, L, q⟩
/-- a new tuple -/
theorem QE.tup {ds : List D} {vs : List V} {p : Addr} (L : Lk X μ H h) (q : DVs X.K X.mg μ H ds vs) (hp : H p = none) : QE X μ H (.tup ds) h (.ref p) (upd H p (.tup vs)) :=
  ⟨μ, List.prefix_refl _, Keeps.new hp, L.side hp, p, vs, rfl, .inl upd_same, q.keep (List.prefix_refl _) (Keeps.new hp).t⟩
/-- a new list -/
theorem QE.lst {ds : List D} {vs : List V} {p : Addr} (L : Lk X μ H h) (q : DVs X.K X.mg μ H ds vs) (hp : H p = none) : QE X μ H (.ref h.length) (h ++ [.lst false ds]) (.ref p) (upd H p (.lst vs)) :=
  ⟨μ ++ [p], List.prefix_append _ _, Keeps.new hp, L.new hp ⟨vs, by rw [if_neg (by decide)]; exact upd_same, q.keep (List.prefix_append _ _) (Keeps.new hp).t⟩, p, L.newRef, rfl⟩
/-- the list at l becomes another -/
theorem QE.put {l : Nat} {a : Addr} {ds : List D} {vs : List V} {d : D} {v : V} (L : Lk X μ H h) (hl : μ[l]? = some a) {vs0 : List V} (hu : H a = some (.lst vs0)) (q : DVs X.K X.mg μ H ds vs) (qd : DV X.K X.mg μ H d v) : QE X μ H d (h.set l (.lst false ds)) v (upd H a (.lst vs)) := by
  have kp : Keeps H (upd H a (.lst vs)) := Keeps.put hu (fun _ z => nomatch z) fun _ _ z => nomatch z
  exact ⟨μ, List.prefix_refl _, kp, L.put hl ⟨vs, by rw [if_neg (by decide)]; exact upd_same, q.keep (List.prefix_refl _) kp⟩, qd.keep (List.prefix_refl _) kp⟩
/-- a list of ours -/
theorem lst_at {l : Nat} {v : V} {lk : Bool} {ds : List D} (L : Lk X μ H h) (e : h[l]? = some (.lst lk ds)) (q : DV X.K X.mg μ H (.ref l) v) : ∃ a vs, v = .ref a ∧ μ[l]? = some a ∧ (lk = false → H a = some (.lst vs)) ∧ SqL X.K H a vs ∧ DVs X.K X.mg μ H ds vs := by
  obtain ⟨a, e1, rfl⟩ := q
  obtain ⟨vs, e2, qs⟩ := L.at e e1
  refine ⟨a, vs, rfl, e1, fun hl => ?_, ?_, qs⟩
  · subst hl; rw [if_neg (by decide)] at e2; exact e2
  · split at e2
    · exact .inl (.inr e2.1)
    · exact .inl (.inl e2)
end
/-- what a list or a tuple holds -/
def seqOf (h : AH) : D → Option (List D)
  | .tup ds => some ds
  | .ref l => match h[l]? with
    | some (.lst _ ds) => some ds
    | _ => none
  | _ => none
theorem seqOf_sq {X : Cx} {μ : List Addr} {H : Hp} {h : AH} {d : D} {v : V} {ds : List D} (L : Lk X μ H h) (q : DV X.K X.mg μ H d v) (e : seqOf h d = some ds) : ∃ a vs, v = .ref a ∧ (SqL X.K H a vs ∨ SqT X.K H a vs) ∧ DVs X.K X.mg μ H ds vs := by
  unfold seqOf at e
  split at e
  · cases e
    obtain ⟨a, vs, rfl, t, qs⟩ := q
    exact ⟨a, vs, rfl, .inr t.sq, qs⟩
  · split at e
    · rename_i l lk es e1
      cases e
      obtain ⟨a, vs, rfl, _, _, hs, qs⟩ := lst_at L e1 q
      exact ⟨a, vs, rfl, .inl hs, qs⟩
    · cases e
  · cases e
/-- f u v does what g does -/
def OpS (X : Cx) (f : Value → Value → Sem Value) (g : AH → D → D → Option (D × AH)) : Prop :=
  ∀ pins σ H μ h s x y u v dx dy d h', Inv X pins σ H s → Lk X μ H h → RelV x u → RelV y v → DV X.K X.mg μ H dx x → DV X.K X.mg μ H dy y → g h dx dy = some (d, h') →
    wpAny (model X.prog X.w) X.A (f u v) (PostE X pins σ μ H (.ok d h')) X.xe s
theorem OpS.of {X : Cx} {f : Value → Value → Sem Value} {g : AH → D → D → Option (D × AH)} {r : R2} (o : OpR X f r)
    (hr : ∀ H μ h x y dx dy d h', Lk X μ H h → DV X.K X.mg μ H dx x → DV X.K X.mg μ H dy y → g h dx dy = some (d, h') → r x y H (QE X μ H d h')) : OpS X f g :=
  fun pins σ H μ h s x y u v dx dy d h' I L rx ry qx qy e => thn (o pins s σ H x y u v _ I rx ry (hr H μ h x y dx dy d h' L qx qy e)) fun _ _ z => QE.post z
theorem OpS.or {X : Cx} {f : Value → Value → Sem Value} {g g' k : AH → D → D → Option (D × AH)} (o : OpS X f g) (o' : OpS X f g') (hk : ∀ h x y z, k h x y = some z → g h x y = some z ∨ g' h x y = some z) : OpS X f k :=
  fun pins σ H μ h s x y u v dx dy d h' I L rx ry qx qy e => (hk h dx dy _ e).elim (o pins σ H μ h s x y u v dx dy d h' I L rx ry qx qy) (o' pins σ H μ h s x y u v dx dy d h' I L rx ry qx qy)
theorem OpS.imp {X : Cx} {f : Value → Value → Sem Value} {g k : AH → D → D → Option (D × AH)} (o : OpS X f g) (hk : ∀ h x y z, k h x y = some z → g h x y = some z) : OpS X f k :=
  fun pins σ H μ h s x y u v dx dy d h' I L rx ry qx qy e => o pins σ H μ h s x y u v dx dy d h' I L rx ry qx qy (hk h dx dy _ e)
abbrev big : Nat := 65536
theorem big_line {n : Nat} (h : Nat.ble n big = true) : n ≤ sizeLine := Nat.le_trans (Nat.le_of_ble_eq_true h) (by rw [sizeLine_eq]; decide)
def fits (i : Int) : Bool := decide (-(2 ^ 64) < i) && decide (i < 2 ^ 64)
theorem fits_of {i : Int} (h : fits i = true) : -(2 ^ 64) < i ∧ i < 2 ^ 64 := by
  simpa [fits, Bool.and_eq_true] using h
/-! two ints -/
def iop (c : Int → Int → Bool) (f : Int → Int → D) : AH → D → D → Option (D × AH)
  | h, .int a, .int b => if c a b then some (f a b, h) else none
  | _, _, _ => none
theorem os_int {X : Cx} {f : Value → Value → Sem Value} {C : Int → Int → Prop} {c : Int → Int → Bool} {g : Int → Int → V} {gd : Int → Int → D} (o : OpR X f (rI C g)) (hc : ∀ i j, c i j = true → C i j) (hd : ∀ μ H i j, DV X.K X.mg μ H (gd i j) (g i j)) : OpS X f (iop c gd) :=
  OpS.of o fun H μ h x y dx dy d h' L qx qy e => by
    unfold iop at e
    split at e
    · rename_i a b
      split at e
      · rename_i hq
        cases e
        cases qx; cases qy
        exact ⟨a, b, rfl, rfl, hc a b hq, QE.same L (hd _ _ _ _)⟩
      · cases e
    · cases e
theorem os_int0 {X : Cx} {f : Value → Value → Sem Value} {g : Int → Int → V} {gd : Int → Int → D} (o : OpR X f (rI0 g)) (hd : ∀ μ H i j, DV X.K X.mg μ H (gd i j) (g i j)) : OpS X f (iop (fun _ _ => true) gd) :=
  OpS.of o fun H μ h x y dx dy d h' L qx qy e => by
    unfold iop at e
    split at e
    · rename_i a b
      cases e
      cases qx; cases qy
      exact ⟨a, b, rfl, rfl, QE.same L (hd _ _ _ _)⟩
    · cases e
/-- a + b -/
def addD (h : AH) : D → D → Option (D × AH)
  | .int a, .int b => some (.int (a + b), h)
  | .tup a, .tup b => if Nat.ble (a.length + b.length) big then some (.tup (a ++ b), h) else none
  | .ref a, .ref b => match h[a]?, h[b]? with
    | some (.lst false xs), some (.lst false ys) => if Nat.ble (xs.length + ys.length) big then some (.ref h.length, h ++ [.lst false (xs ++ ys)]) else none
    | _, _ => none
  | _, _ => none
section
variable {X : Cx}
theorem os_add_int : OpS X (binaryOp .Add) (iop (fun _ _ => true) fun i j => .int (i + j)) := os_int0 op_add fun _ _ _ _ => rfl
theorem os_add_tup : OpS X (binaryOp .Add) (fun h x y => match x, y with | .tup a, .tup b => if Nat.ble (a.length + b.length) big then some (.tup (a ++ b), h) else none | _, _ => none) :=
  OpS.of op_catA fun H μ h x y dx dy d h' L qx qy e => by
    split at e
    · rename_i a b
      split at e
      · rename_i hl
        cases e
        obtain ⟨p, vs, rfl, t, q⟩ := qx
        obtain ⟨p', ws, rfl, t', q'⟩ := qy
        refine ⟨p, p', vs, ws, rfl, rfl, t.sq, t'.sq, ?_, ?_, ?_, ?_⟩
        · rw [q.length, q'.length]; exact big_line hl
        · intro hv
          have ha : a = [] := by
            cases a with
            | nil => rfl
            | cons z zs => obtain ⟨_, _, z, _⟩ := q; rw [hv] at z; cases z
          subst ha
          exact QE.same L ⟨p', ws, rfl, t', q'⟩
        · intro hv hw
          have hb : b = [] := by
            cases b with
            | nil => rfl
            | cons z zs => obtain ⟨_, _, z, _⟩ := q'; rw [hw] at z; cases z
          subst hb
          rw [List.append_nil]
          exact QE.same L ⟨p, vs, rfl, t, q⟩
        · intro _ _ n hn
          exact QE.tup L (q.append q') hn
      · cases e
    · cases e
theorem os_add_lst : OpS X (binaryOp .Add) (fun h x y => match x, y with
    | .ref a, .ref b => match h[a]?, h[b]? with
      | some (.lst false xs), some (.lst false ys) => if Nat.ble (xs.length + ys.length) big then some (.ref h.length, h ++ [.lst false (xs ++ ys)]) else none
      | _, _ => none
    | _, _ => none) :=
  OpS.of op_cat fun H μ h x y dx dy d h' L qx qy e => by
    split at e
    · rename_i a b
      split at e
      · rename_i xs ys e1 e2
        split at e
        · rename_i hl
          cases e
          obtain ⟨p, vs, rfl, _, hp, _, q⟩ := lst_at L e1 qx
          obtain ⟨p', ws, rfl, _, hp', _, q'⟩ := lst_at L e2 qy
          refine ⟨p, p', vs, ws, rfl, rfl, hp rfl, hp' rfl, ?_, fun n hn => QE.lst L (q.append q') hn⟩
          rw [q.length, q'.length]; exact big_line hl
        · cases e
      · cases e
    · cases e
theorem os_add : OpS X (binaryOp .Add) addD := by
  refine OpS.or os_add_int (OpS.or os_add_tup os_add_lst (k := fun h x y => match x, y with | .int _, .int _ => none | x, y => addD h x y) fun h x y z e => ?_) fun h x y z e => ?_
  · cases x <;> cases y <;> simp only [addD] at e <;> first | exact .inl e | exact .inr e | cases e
  · cases x <;> cases y <;> simp only [addD] at e <;> first | exact .inl e | exact .inr e | cases e
end
end G47
namespace G47
open PySem L2
section
variable {X : Cx}
/-! ### the other operators -/
def subD (h : AH) : D → D → Option (D × AH) := iop (fun _ _ => true) (fun i j => .int (i - j)) h
theorem os_sub : OpS X (binaryOp .Sub) subD := os_int0 op_sub fun _ _ _ _ => rfl
def modD (h : AH) : D → D → Option (D × AH) := iop (fun _ j => decide (0 < j)) (fun i j => .int (i % j)) h
theorem os_mod : OpS X (binaryOp .Mod) modD := os_int op_mod (fun i j e => of_decide_eq_true e) fun _ _ _ _ => rfl
def fdivD (h : AH) : D → D → Option (D × AH) := iop (fun _ j => decide (0 < j) && Nat.blt j.natAbs.log2 9000) (fun i j => .int (i / j)) h
theorem os_fdiv : OpS X (binaryOp .FloorDiv) fdivD := os_int op_fdivW (fun i j e => by
  simp only [Bool.and_eq_true, Nat.blt_eq] at e
  exact ⟨of_decide_eq_true e.1, e.2⟩) fun _ _ _ _ => rfl
def powD (h : AH) : D → D → Option (D × AH) := iop (fun i j => fits i && decide (0 ≤ j) && decide (j ≤ 1000)) (fun i j => .int (i ^ j.toNat)) h
theorem os_pow : OpS X (binaryOp .Pow) powD := os_int op_pow (fun i j e => by
  simp only [Bool.and_eq_true, decide_eq_true_eq] at e
  have := fits_of e.1.1
  refine ⟨e.1.2, by omega, ?_⟩
  omega) fun _ _ _ _ => rfl
/-- a * b: ints, one of them not great; a list, as often as an int tells -/
def mulD (h : AH) : D → D → Option (D × AH)
  | .int a, .int b => if fits a || fits b then some (.int (a * b), h) else none
  | .ref l, .int k => match h[l]? with
    | some (.lst false xs) => if decide (0 ≤ k) && decide (k ≤ 65536) && Nat.ble (xs.length * k.toNat) big then some (.ref h.length, h ++ [.lst false (List.replicate k.toNat xs).flatten]) else none
    | _ => none
  | _, _ => none
theorem DVs.rep {μ : List Addr} {H : Hp} {ds : List D} {vs : List V} (q : DVs X.K X.mg μ H ds vs) : ∀ n : Nat, DVs X.K X.mg μ H (List.replicate n ds).flatten (List.replicate n vs).flatten
  | 0 => rfl
  | n + 1 => by
    simp only [List.replicate_succ, List.flatten_cons]
    exact q.append (DVs.rep q n)
theorem os_mul : OpS X (binaryOp .Mult) mulD := by
  refine OpS.or (g := iop (fun a b => fits a || fits b) fun i j => .int (i * j)) (g' := fun h x y => match x, y with
    | .ref l, .int k => match h[l]? with
      | some (.lst false xs) => if decide (0 ≤ k) && decide (k ≤ 65536) && Nat.ble (xs.length * k.toNat) big then some (.ref h.length, h ++ [.lst false (List.replicate k.toNat xs).flatten]) else none
      | _ => none
    | _, _ => none) (os_int op_mul (fun i j e => ?_) fun _ _ _ _ => rfl) (OpS.of op_rep fun H μ h x y dx dy d h' L qx qy e => ?_) fun h x y z e => ?_
  · rcases Bool.or_eq_true_iff.mp e with e | e
    · exact .inl (fits_of e)
    · exact .inr (fits_of e)
  · split at e
    · rename_i l k
      split at e
      · rename_i xs e1
        split at e
        · rename_i hc
          cases e
          simp only [Bool.and_eq_true, decide_eq_true_eq] at hc
          obtain ⟨p, vs, rfl, _, hp, _, q⟩ := lst_at L e1 qx
          cases qy
          refine ⟨p, k, vs, rfl, rfl, hp rfl, by omega, by omega, ?_, fun n hn => QE.lst L (q.rep k.toNat) hn⟩
          rw [q.length]; exact big_line hc.2
        · cases e
      · cases e
    · cases e
  · cases x <;> cases y <;> simp only [mulD] at e <;> first | exact .inl e | exact .inr e | cases e
def bopD : Operator → AH → D → D → Option (D × AH)
  | .Add => addD
  | .Sub => subD
  | .Mult => mulD
  | .Mod => modD
  | .FloorDiv => fdivD
  | .Pow => powD
  | _ => fun _ _ _ => none
theorem os_bop : ∀ op : Operator, OpS X (binaryOp op) (bopD op)
  | .Add => os_add
  | .Sub => os_sub
  | .Mult => os_mul
  | .Mod => os_mod
  | .FloorDiv => os_fdiv
  | .Pow => os_pow
  | .Div | .MatMult | .LShift | .RShift | .BitOr | .BitXor | .BitAnd => fun _ _ _ _ _ _ _ _ _ _ _ _ _ _ _ _ _ _ _ _ e => nomatch e
/-! ### comparisons -/
theorem os_eqat {op : CmpOp} {f : Bool → Bool} (hu : X.A.units + 12 < cLine)
    (rule : ∀ {u v : Value} {s : Shared} {Q : Value → Shared → Prop} {E : Value → Shared → Prop} {p q : PyData} {as bs : List Addr}, Reads s.heap u p as → Reads s.heap v q bs → p.canLay0 = true → q.canLay0 = true → X.A.units + min p.depth q.depth < cLine →
      Q (.bool (f (PyData.eqv p q))) s → wpAny (model X.prog X.w) X.A (compareOp op u v) Q E s) :
    OpS X (compareOp op) (fun h x y => if isDat h deep x && isDat h deep y then some (.bl (f (eqB h deep x y)), h) else none) := by
  intro pins σ H μ h s x y u v dx dy d h' I L rx ry qx qy e
  dsimp only at e
  split at e
  · rename_i hd
    cases e
    simp only [Bool.and_eq_true] at hd
    obtain ⟨p, h1, h2⟩ := PD.ex L deep dx x hd.1 qx
    obtain ⟨p', g1, g2⟩ := PD.ex L deep dy y hd.2 qy
    obtain ⟨as, ra⟩ := Dp.reads I p x u h2 rx
    obtain ⟨bs, rb⟩ := Dp.reads I p' y v g2 ry
    obtain ⟨l1, l2⟩ := h1.lay
    obtain ⟨l3, l4⟩ := g1.lay
    rw [eqB_eqv deep dx dy p p' h1 g1]
    refine rule ra rb l1 l3 ?_ ⟨.bl _, h, .bl _, H, μ, rfl, I, rfl, List.prefix_refl _, Keeps.refl _, L, rfl⟩
    have : min p.depth p'.depth ≤ p.depth := Nat.min_le_left _ _
    unfold deep at l2
    omega
  · cases e
/-- == of data -/
def eqD (h : AH) (x y : D) : Option (D × AH) := if isDat h deep x && isDat h deep y then some (.bl (eqB h deep x y), h) else none
def neD (h : AH) (x y : D) : Option (D × AH) := if isDat h deep x && isDat h deep y then some (.bl (!eqB h deep x y), h) else none
theorem os_eq (hu : X.A.units + 12 < cLine) : OpS X (compareOp .Eq) eqD := os_eqat (f := fun b => b) hu fun ra rb l1 l3 hm h => SeqAt.compareEq_reads ra rb l1 l3 hm h
theorem os_ne (hu : X.A.units + 12 < cLine) : OpS X (compareOp .NotEq) neD := os_eqat (f := fun b => !b) hu fun ra rb l1 l3 hm h => SeqAt.compareNe_reads ra rb l1 l3 hm h
def ltD (h : AH) : D → D → Option (D × AH) := iop (fun _ _ => true) (fun i j => .bl (decide (i < j))) h
def leD (h : AH) : D → D → Option (D × AH) := iop (fun _ _ => true) (fun i j => .bl (decide (i ≤ j))) h
def gtD (h : AH) : D → D → Option (D × AH) := iop (fun _ _ => true) (fun i j => .bl (decide (j < i))) h
def geD (h : AH) : D → D → Option (D × AH) := iop (fun _ _ => true) (fun i j => .bl (decide (j ≤ i))) h
theorem os_lt : OpS X (compareOp .Lt) ltD := os_int0 op_lt fun _ _ _ _ => rfl
theorem os_le : OpS X (compareOp .LtE) leD := os_int0 op_le fun _ _ _ _ => rfl
theorem os_gt : OpS X (compareOp .Gt) gtD := os_int0 op_gt fun _ _ _ _ => rfl
theorem os_ge : OpS X (compareOp .GtE) geD := os_int0 op_ge fun _ _ _ _ => rfl
def isNon : D → Bool
  | .non => true
  | _ => false
theorem isNon_eq {μ : List Addr} {H : Hp} {d : D} {v : V} (q : DV X.K X.mg μ H d v) : decide (v = V.non) = isNon d := by
  cases d with
  | non => cases q; rfl
  | bl b => cases q; rfl
  | int b => cases q; rfl
  | str b => obtain ⟨x, rfl, _⟩ := q; rfl
  | tup b => obtain ⟨x, _, rfl, _⟩ := q; rfl
  | ref b => obtain ⟨x, _, rfl⟩ := q; rfl
  | gl b => obtain ⟨x, _, ⟨_, _, rfl⟩ | ⟨_, _, _, rfl⟩⟩ := q <;> rfl
/-- is: None, two bools -/
def isD (h : AH) : D → D → Option (D × AH)
  | x, .non => some (.bl (isNon x), h)
  | .bl a, .bl b => some (.bl (decide (a = b)), h)
  | _, _ => none
def isnotD (h : AH) : D → D → Option (D × AH)
  | x, .non => some (.bl (!isNon x), h)
  | .bl a, .bl b => some (.bl (!decide (a = b)), h)
  | _, _ => none
theorem os_is : OpS X (compareOp .Is) isD := by
  refine OpS.or (g := fun h x y => match y with | .non => some (.bl (isNon x), h) | _ => none) (g' := fun h x y => match x, y with | .bl a, .bl b => some (.bl (decide (a = b)), h) | _, _ => none)
    (OpS.of op_isN fun H μ h x y dx dy d h' L qx qy e => ?_) (OpS.of op_is_bl fun H μ h x y dx dy d h' L qx qy e => ?_) fun h x y z e => ?_
  · split at e
    · cases e; cases qy
      refine ⟨rfl, QE.same L ?_⟩
      rw [isNon_eq qx]; rfl
    · cases e
  · split at e
    · cases e; cases qx; cases qy
      exact ⟨_, _, rfl, rfl, QE.same L rfl⟩
    · cases e
  · cases x <;> cases y <;> simp only [isD] at e <;> first | exact .inl e | exact .inr e | cases e
theorem os_isnot : OpS X (compareOp .IsNot) isnotD := by
  refine OpS.or (g := fun h x y => match y with | .non => some (.bl (!isNon x), h) | _ => none) (g' := fun h x y => match x, y with | .bl a, .bl b => some (.bl (!decide (a = b)), h) | _, _ => none)
    (OpS.of op_notN fun H μ h x y dx dy d h' L qx qy e => ?_) (OpS.of op_isnot_bl fun H μ h x y dx dy d h' L qx qy e => ?_) fun h x y z e => ?_
  · split at e
    · cases e; cases qy
      refine ⟨rfl, QE.same L ?_⟩
      rw [isNon_eq qx]; rfl
    · cases e
  · split at e
    · cases e; cases qx; cases qy
      exact ⟨_, _, rfl, rfl, QE.same L rfl⟩
    · cases e
  · cases x <;> cases y <;> simp only [isnotD] at e <;> first | exact .inl e | exact .inr e | cases e
end
end G47
namespace G47
open PySem L2 PyProof.Rows
section
variable {X : Cx}
/-! ### expressions of operators -/
def mBin (g : AH → D → D → Option (D × AH)) (a b : ME) : ME := fun σ h => bnd (a σ h) fun x h1 => bnd (b σ h1) fun y h2 => (g h2 x y).map fun z => .ok z.1 z.2
theorem some_map {g : Option (D × AH)} {r : Out D} (e : (g.map fun z => Out.ok z.1 z.2) = some r) : ∃ d h', g = some (d, h') ∧ r = .ok d h' := by
  cases g with
  | none => cases e
  | some z => exact ⟨z.1, z.2, rfl, (Option.some.inj e).symm⟩
theorem two_seq {a b : Expr} {ma mb : ME} {g : AH → D → D → Option (D × AH)} {f : Value → Value → Sem Value} (ho : OpS X f g) (ha : SE X a ma) (hb : SE X b mb) {W pins σA h σ H μ s} {r : Out D} (A : At X W pins σA h σ H μ s r.err) (e : mBin g ma mb σA h = some r) :
    wpAny (model X.prog X.w) X.A (eval a X.env) (fun v s₁ => wpAny (model X.prog X.w) X.A (eval b X.env) (fun u s₂ => wpAny (model X.prog X.w) X.A (f v u) (PostE X pins σ μ H r) X.xe s₂) X.xe s₁) X.xe s := by
  refine ha.seq A e fun d1 h1 v1 u1 H1 μ1 s1 A1 p1 k1 r1 q1 e1 => ?_
  refine hb.seq A1 e1 fun d2 h2 v2 u2 H2 μ2 s2 A2 p2 k2 r2 q2 e2 => ?_
  obtain ⟨d, h', e3, rfl⟩ := some_map e2
  exact thn (ho pins σ H2 μ2 h2 s2 v1 v2 u1 u2 d1 d2 d h' A2.inv A2.lk r1 r2 (q1.keep p2 k2) q2 e3) fun _ _ P => P.lift (p1.trans p2) (k1.trans k2)
theorem se_bin {a b : Expr} {ma mb : ME} {op : Operator} {g : AH → D → D → Option (D × AH)} {pos : Pos} (ho : OpS X (binaryOp op) g) (ha : SE X a ma) (hb : SE X b mb) : SE X (.BinOp a op b pos) (mBin g ma mb) :=
  fun W pins σA h σ H μ s r A e => wpAny_BinOp (two_seq ho ha hb A e)
theorem se_cmp {a b : Expr} {ma mb : ME} {op : CmpOp} {g : AH → D → D → Option (D × AH)} {pos : Pos} (ho : OpS X (compareOp op) g) (ha : SE X a ma) (hb : SE X b mb) (hm : behindInMarks op b = false) : SE X (.Compare a [op] [b] pos) (mBin g ma mb) :=
  fun W pins σA h σ H μ s r A e => wpAny_Compare1 (two_seq ho ha hb A e) hm
/-- a bool's truth -/
def asB : Out D → Option (Out Bool)
  | .ok (.bl b) h => some (.ok b h)
  | .er x h => some (.er x h)
  | _ => none
def mB (m : ME) : MT := fun σ h => (m σ h).bind asB
theorem asB_of {m : R D} {r : Out Bool} (e : m.bind asB = some r) : (∃ b h, m = some (.ok (.bl b) h) ∧ r = .ok b h) ∨ ∃ x h, m = some (.er x h) ∧ r = .er x h := by
  cases m with
  | none => cases e
  | some o =>
    simp only [Option.bind_some] at e
    unfold asB at e
    split at e
    · exact .inl ⟨_, _, rfl, (Option.some.inj e).symm⟩
    · exact .inr ⟨_, _, rfl, (Option.some.inj e).symm⟩
    · cases e
theorem st_cmp {a b : Expr} {ma mb : ME} {op : CmpOp} {g : AH → D → D → Option (D × AH)} {pos : Pos} (ho : OpS X (compareOp op) g) (ha : SE X a ma) (hb : SE X b mb) (hm : behindInMarks op b = false) : ST X (.Compare a [op] [b] pos) (mB (mBin g ma mb)) := by
  intro W pins σA h σ H μ s r A e
  have key : ∀ {r0 : Out D}, mBin g ma mb σA h = some r0 → At X W pins σA h σ H μ s r0.err → (∀ u s', PostE X pins σ μ H r0 u s' → wpAny (model X.prog X.w) X.A (truthy u) (PostT X pins σ μ H r) X.xe s') →
      wpAny (model X.prog X.w) X.A (isTrue (.Compare a [op] [b] pos) X.env (eval (.Compare a [op] [b] pos) X.env)) (PostT X pins σ μ H r) X.xe s := fun e0 A0 k =>
    wpAny_isTrue_Compare1 (thn (two_seq ho ha hb A0 e0) fun v s1 h1 => thn h1 fun u s2 h2 => thn h2 fun c s3 P => k c s3 P) hm
  rcases asB_of e with ⟨b0, h0, e0, rfl⟩ | ⟨x, h0, e0, rfl⟩
  · refine key e0 A fun u s' P => ?_
    obtain ⟨d, h', v, H', μ', ed, I, rv, p, k, L, q⟩ := P
    cases ed; cases q; cases rv
    exact wpAny_truthy_bool ⟨h0, H', μ', rfl, I, p, k, L⟩
  · refine key e0 A fun u s' P => ?_
    obtain ⟨d, h', v, H', μ', ed, _⟩ := P
    cases ed
/-- an expression that gives a bool, as a test -/
theorem st_val {e : Expr} {m : ME} (he : SE X e m) (hp : ∀ whole, isTrue e X.env whole = (do let v ← whole; standAt e.pos; holding [v] (truthy v))) : ST X e (mB m) := by
  intro W pins σA h σ H μ s r A e1
  rcases asB_of e1 with ⟨b0, h0, e0, rfl⟩ | ⟨x, h0, e0, rfl⟩
  · refine isTrue_plain (thn (he W pins σA h σ H μ s _ A e0) fun u s' P => ?_) (hp _)
    obtain ⟨d, h', v, H', μ', ed, I, rv, p, k, L, q⟩ := P
    cases ed; cases q; cases rv
    exact wpAny_truthy_bool ⟨h0, H', μ', rfl, I, p, k, L⟩
  · refine isTrue_plain (thn (he W pins σA h σ H μ s _ A e0) fun u s' P => ?_) (hp _)
    obtain ⟨d, h', v, H', μ', ed, _⟩ := P
    cases ed
/-! ### and, or, not -/
def mNotT (m : MT) : MT := fun σ h => bnd (m σ h) fun b h1 => some (.ok (!b) h1)
def mAndT (a b : MT) : MT := fun σ h => bnd (a σ h) fun x h1 => if x then b σ h1 else some (.ok false h1)
def mOrT (a b : MT) : MT := fun σ h => bnd (a σ h) fun x h1 => if x then some (.ok true h1) else b σ h1
/-- the tests of an and, of an or, one after the other -/
def SB (X : Cx) (op : BoolOp) (es : List Expr) (m : MT) : Prop := ∀ W pins σA h σ H μ s r, At X W pins σA h σ H μ s r.err → m σA h = some r →
  wpAny (model X.prog X.w) X.A (allTrue op es X.env) (PostT X pins σ μ H r) X.xe s
theorem At.finT {W pins σA h1 σ H1 μ1 s1 E} {μ : List Addr} {H : Hp} {b : Bool} (A : At X W pins σA h1 σ H1 μ1 s1 E) (p : Pre μ μ1) (k : Keeps H H1) : PostT X pins σ μ H (.ok b h1) b s1 := ⟨h1, H1, μ1, rfl, A.inv, p, k, A.lk⟩
theorem st_not {a : Expr} {m : MT} {pos : Pos} (ha : ST X a m) : ST X (.UnaryOp .Not a pos) (mNotT m) := by
  intro W pins σA h σ H μ s r A e
  refine isTrue_not (ha.seq A e fun b h1 H1 μ1 s1 A1 p k e1 => ?_)
  cases e1
  exact A1.finT p k
theorem sb_nil_and : SB X .And [] (fun _ h => some (.ok true h)) := by
  intro W pins σA h σ H μ s r A e
  cases e
  exact wpAny_pure (A.finT (List.prefix_refl _) (Keeps.refl _))
theorem sb_nil_or : SB X .Or [] (fun _ h => some (.ok false h)) := by
  intro W pins σA h σ H μ s r A e
  cases e
  exact wpAny_pure (A.finT (List.prefix_refl _) (Keeps.refl _))
theorem sb_and {a : Expr} {es : List Expr} {m n : MT} (ha : ST X a m) (hb : SB X .And es n) : SB X .And (a :: es) (mAndT m n) := by
  intro W pins σA h σ H μ s r A e
  show wpAny _ _ (isTrue a X.env (eval a X.env) >>= fun b => match BoolOp.And, b with | .And, false => pure false | .Or, true => pure true | _, _ => allTrue .And es X.env) _ _ s
  refine wpAny_bind (ha.seq A e fun b h1 H1 μ1 s1 A1 p k e1 => ?_)
  cases b with
  | true => exact thn (hb W pins σA h1 σ H1 μ1 s1 r A1 e1) fun _ _ P => P.lift p k
  | false => cases e1; exact wpAny_pure (A1.finT p k)
theorem sb_or {a : Expr} {es : List Expr} {m n : MT} (ha : ST X a m) (hb : SB X .Or es n) : SB X .Or (a :: es) (mOrT m n) := by
  intro W pins σA h σ H μ s r A e
  show wpAny _ _ (isTrue a X.env (eval a X.env) >>= fun b => match BoolOp.Or, b with | .And, false => pure false | .Or, true => pure true | _, _ => allTrue .Or es X.env) _ _ s
  refine wpAny_bind (ha.seq A e fun b h1 H1 μ1 s1 A1 p k e1 => ?_)
  cases b with
  | false => exact thn (hb W pins σA h1 σ H1 μ1 s1 r A1 e1) fun _ _ P => P.lift p k
  | true => cases e1; exact wpAny_pure (A1.finT p k)
theorem st_bool {op : BoolOp} {es : List Expr} {m : MT} {pos : Pos} (h : SB X op es m) : ST X (.BoolOp op es pos) m := fun W pins σA h0 σ H μ s r A e => h W pins σA h0 σ H μ s r A e
/-- as values: all but the last give bools -/
def mAndV (a b : ME) : ME := fun σ h => bnd (a σ h) fun x h1 => match x with | .bl true => b σ h1 | .bl false => some (.ok (.bl false) h1) | _ => none
def mOrV (a b : ME) : ME := fun σ h => bnd (a σ h) fun x h1 => match x with | .bl false => b σ h1 | .bl true => some (.ok (.bl true) h1) | _ => none
theorem se_one {op : BoolOp} {a : Expr} {m : ME} {pos : Pos} (h : SE X a m) : SE X (.BoolOp op [a] pos) m := fun W pins σA h0 σ H μ s r A e => BoolOp_one (h W pins σA h0 σ H μ s r A e)
theorem se_and {a b : Expr} {es : List Expr} {m n : ME} {pos : Pos} (ha : SE X a m) (hb : SE X (.BoolOp .And (b :: es) pos) n) : SE X (.BoolOp .And (a :: b :: es) pos) (mAndV m n) := by
  intro W pins σA h σ H μ s r A e
  refine BoolOp_and (ha.seq A e fun d h1 v u H1 μ1 s1 A1 p k rv q e1 => ?_)
  split at e1
  · cases q; cases rv
    exact wpAny_truthy_bool (thn (hb W pins σA h1 σ H1 μ1 s1 r A1 e1) fun _ _ P => P.lift p k)
  · cases q; cases rv; cases e1
    exact wpAny_truthy_bool (A1.fin p k (v := .bl false) rfl rfl)
  · cases e1
theorem se_or {a b : Expr} {es : List Expr} {m n : ME} {pos : Pos} (ha : SE X a m) (hb : SE X (.BoolOp .Or (b :: es) pos) n) : SE X (.BoolOp .Or (a :: b :: es) pos) (mOrV m n) := by
  intro W pins σA h σ H μ s r A e
  refine BoolOp_or (ha.seq A e fun d h1 v u H1 μ1 s1 A1 p k rv q e1 => ?_)
  split at e1
  · cases q; cases rv
    exact wpAny_truthy_bool (thn (hb W pins σA h1 σ H1 μ1 s1 r A1 e1) fun _ _ P => P.lift p k)
  · cases q; cases rv; cases e1
    exact wpAny_truthy_bool (A1.fin p k (v := .bl true) rfl rfl)
  · cases e1
def mNotV (a : ME) : ME := fun σ h => bnd (a σ h) fun x h1 => match x with | .bl b => some (.ok (.bl (!b)) h1) | _ => none
theorem se_not {a : Expr} {m : ME} {pos : Pos} (ha : SE X a m) : SE X (.UnaryOp .Not a pos) (mNotV m) := by
  intro W pins σA h σ H μ s r A e
  refine UnaryOp_ (ha.seq A e fun d h1 v u H1 μ1 s1 A1 p k rv q e1 => ?_)
  split at e1
  · cases q; cases rv; cases e1
    exact not_of (wpAny_truthy_bool (A1.fin p k (v := .bl _) rfl rfl))
  · cases e1
def mNeg (a : ME) : ME := fun σ h => bnd (a σ h) fun x h1 => match x with | .int i => some (.ok (.int (-i)) h1) | _ => none
theorem se_neg {a : Expr} {m : ME} {pos : Pos} (ha : SE X a m) : SE X (.UnaryOp .USub a pos) (mNeg m) := by
  intro W pins σA h σ H μ s r A e
  refine UnaryOp_ (ha.seq A e fun d h1 v u H1 μ1 s1 A1 p k rv q e1 => ?_)
  split at e1
  · rename_i i
    cases q; cases e1
    refine thn (un_neg pins s1 σ H1 (.int i) u (fun v' H' => v' = .int (-i) ∧ H' = H1) A1.inv rv ⟨i, rfl, rfl, rfl⟩) fun u' s2 ⟨v', H', I', rv', e1, e2⟩ => ?_
    subst e1; subst e2
    exact (A1.same I').fin p k rv' rfl
  · cases e1
/-- a if t else b -/
def mIf (t : MT) (a b : ME) : ME := fun σ h => bnd (t σ h) fun x h1 => if x then a σ h1 else b σ h1
theorem se_if {c a b : Expr} {t : MT} {m n : ME} {pos : Pos} (hc : ST X c t) (ha : SE X a m) (hb : SE X b n) : SE X (.IfExp c a b pos) (mIf t m n) := by
  intro W pins σA h σ H μ s r A e
  refine wpAny_IfExp (hc.seq A e fun d h1 H1 μ1 s1 A1 p k e1 => ?_)
  cases d with
  | true => exact thn (ha W pins σA h1 σ H1 μ1 s1 r A1 e1) fun _ _ P => P.lift p k
  | false => exact thn (hb W pins σA h1 σ H1 μ1 s1 r A1 e1) fun _ _ P => P.lift p k
/-- a op b op' c -/
def mChain (g g' : AH → D → D → Option (D × AH)) (a b c : ME) : ME := fun σ h => bnd (a σ h) fun x h1 => bnd (b σ h1) fun y h2 => match g h2 x y with
  | some (.bl true, h3) => bnd (c σ h3) fun z h4 => (g' h4 y z).map fun w => .ok w.1 w.2
  | some (.bl false, h3) => some (.ok (.bl false) h3)
  | _ => none
/-! ### displays -/
def mTup (m : MA) : ME := fun σ h => bnd (m σ h) fun ds h1 => if Nat.ble ds.length big then some (.ok (.tup ds) h1) else none
def mLst (m : MA) : ME := fun σ h => bnd (m σ h) fun ds h1 => if Nat.ble ds.length big then some (.ok (.ref h1.length) (h1 ++ [.lst false ds])) else none
theorem se_tup {es : List Expr} {m : MA} {x1} {pos : Pos} (ha : SA X es m) : SE X (.Tuple es x1 pos) (mTup m) := by
  intro W pins σA h σ H μ s r A e
  refine wpAny_Tuple_spliced (ha.seq A e fun ds h1 vs us H1 μ1 s1 A1 p k rv q e1 => ?_)
  split at e1
  · rename_i hb
    cases e1
    have hl : vs.length ≤ sizeLine := by rw [q.length]; exact big_line hb
    have hf : H1 s1.heap.objs.size = none := A1.inv.hok.fresh (Nat.le_refl _)
    refine ⟨by rw [← rv.length]; exact hl, ?_⟩
    have I2 : Inv X pins σ (upd H1 s1.heap.objs.size (.tup vs)) { s1 with heap := s1.heap.push { cls := .type "tuple", data := .seq us.toArray } } :=
      A1.inv.laid (t' := s1.toks) (fun b u e => Heap.get?_push_of_some _ e) (Nat.le_refl _) ⟨hl, us, rv, ⟨_, Heap.get?_push_size _ rfl, rfl, _, rfl⟩⟩
    obtain ⟨μ2, p2, k2, L2, q2⟩ := QE.tup (p := s1.heap.objs.size) A1.lk q hf
    exact ⟨_, _, .ref s1.heap.objs.size, _, μ2, rfl, I2, rfl, p.trans p2, k.trans k2, L2, q2⟩
  · cases e1
theorem se_lst {es : List Expr} {m : MA} {pos : Pos} (ha : SA X es m) : SE X (.List es pos) (mLst m) := by
  intro W pins σA h σ H μ s r A e
  refine wpAny_List_spliced (ha.seq A e fun ds h1 vs us H1 μ1 s1 A1 p k rv q e1 => ?_)
  split at e1
  · rename_i hb
    cases e1
    have hl : vs.length ≤ sizeLine := by rw [q.length]; exact big_line hb
    have hf : H1 s1.heap.objs.size = none := A1.inv.hok.fresh (Nat.le_refl _)
    refine ⟨by rw [← rv.length]; exact hl, ?_⟩
    have I2 : Inv X pins σ (upd H1 s1.heap.objs.size (.lst vs)) { s1 with heap := s1.heap.push { cls := .type "list", data := .seq us.toArray } } :=
      A1.inv.laid (t' := s1.toks) (fun b u e => Heap.get?_push_of_some _ e) (Nat.le_refl _) ⟨hl, us, 0, rv, Heap.get?_push_size _ rfl⟩
    obtain ⟨μ2, p2, k2, L2, q2⟩ := QE.lst (p := s1.heap.objs.size) A1.lk q hf
    exact ⟨_, _, .ref s1.heap.objs.size, _, μ2, rfl, I2, rfl, p.trans p2, k.trans k2, L2, q2⟩
  · cases e1
/-- *e among the items -/
def mStar (m : ME) (r : MA) : MA := fun σ h => bnd (m σ h) fun d h1 => match seqOf h1 d with
  | some ds => bnd (r σ h1) fun es h2 => some (.ok (ds ++ es) h2)
  | none => none
theorem star_of {pins : List (Addr × Obj)} {σ : L2.St} {H : Hp} {s : Shared} {a : Addr} {vs : List V} {Q : List Value → Shared → Prop} (I : Inv X pins σ H s) (hs : SqL X.K H a vs ∨ SqT X.K H a vs)
    (k : ∀ us s', Inv X pins σ H s' → Vals vs us → Q us s') : PySem.W.StarOf (model X.prog X.w) X.A X.xe (.ref a) Q s := by
  unfold PySem.W.StarOf notIterableAtAll
  rcases hs with hs | hs
  · obtain ⟨its, rv, ⟨o, n, ho, hc, _, hd⟩, hz⟩ := I.list hs
    have hT : s.TypeIs (.ref a) "list" := ⟨o, ho, hc⟩
    refine wpAny_bind (wpAny_specialOf hT PySem.F.slot_list_iter.lookup (wpAny_pure ⟨rfl, ?_⟩))
    refine wpAny_collect_seq a (.inl rfl) ho hc hd (fun h' hk => ?_) (by simp; rw [← rv.length]; exact hz)
    exact k _ _ (I.kept (t' := s.toks) hk) (by simpa using rv)
  · obtain ⟨its, rv, ⟨o, ho, hc, n, hd⟩, hz⟩ := I.tuple hs
    have hT : s.TypeIs (.ref a) "tuple" := ⟨o, ho, hc⟩
    refine wpAny_bind (wpAny_specialOf hT PySem.F.slot_tuple_iter.lookup (wpAny_pure ⟨rfl, ?_⟩))
    refine wpAny_collect_seq a (.inr rfl) ho hc hd (fun h' hk => ?_) (by simp; rw [← rv.length]; exact hz)
    exact k _ _ (I.kept (t' := s.toks) hk) (by simpa using rv)
theorem sa_star {e : Expr} {es : List Expr} {m : ME} {r : MA} {p : Pos} (ha : SE X e m) (hr : SA X es r) : SA X (.Starred e p :: es) (mStar m r) := by
  intro pos W pins σA h σ H μ s r A e1
  refine PySem.W.items_star (p := p) (ha.seq A e1 fun d h1 v u H1 μ1 s1 A1 p1 k1 rv q e2 => ?_)
  split at e2
  · rename_i ds ed
    obtain ⟨a, vs, rfl, hs, qs⟩ := seqOf_sq A1.lk q ed
    cases rv
    refine star_of A1.inv hs fun us s2 I2 rvs => ?_
    refine hr.seq (A1.same I2) e2 fun es' h2 ws us2 H2 μ2 s3 A3 p2 k2 rv2 q2 e3 => ?_
    cases e3
    exact ⟨ds ++ es', h2, vs ++ ws, H2, μ2, rfl, A3.inv, rvs.append rv2, p1.trans p2, k1.trans k2, A3.lk, (qs.keep p2 k2).append q2⟩
  · cases e2
end
end G47
namespace G47
open PySem L2 PyProof.Rows
/-! ### dicts -/
def dfind : List (D × D) → D → Option D
  | [], _ => none
  | (k, v) :: r, x => if keq k x then some v else dfind r x
def dput : List (D × D) → D → D → List (D × D)
  | [], x, y => [(x, y)]
  | (k, v) :: r, x, y => if keq k x then (k, y) :: r else (k, v) :: dput r x y
def ddel : List (D × D) → D → List (D × D)
  | [], _ => []
  | (k, v) :: r, x => if keq k x then r else (k, v) :: ddel r x
/-- x may be asked of such a dict -/
def okKey (kvs : List (D × D)) (x : D) : Bool := (scal1 x && scalK kvs) || (tup1 x && keyOk 8 x && (kvs.isEmpty || tupK kvs))
theorem KeyS.eq_iff {d e : D} {k m : Key} (hk : KeyS d k) (hm : KeyS e m) : k = m ↔ keq d e = true := by
  cases d <;> cases e <;> simp only [KeyS] at hk hm
  · subst hk hm; simp [keq]
  · obtain ⟨x, _, rfl⟩ := hm; subst hk; simp [keq]
  · obtain ⟨x, _, rfl⟩ := hk; subst hm; simp [keq]
  · obtain ⟨x, hx, rfl⟩ := hk
    obtain ⟨y, hy, rfl⟩ := hm
    simp only [Sum.inr.injEq, hx.eq_iff hy, keq, Nat.beq_eq]
theorem KeyS.ex {K : PySem.W.Frag} {mg : Str → Option Value} {μ : List Addr} {H : Hp} {d : D} {v : V} (h : scal1 d = true) (q : DV K mg μ H d v) : ∃ k, KeyS d k ∧ v = kV k := by
  cases d with
  | int i => cases q; exact ⟨.inl i, rfl, rfl⟩
  | str n => obtain ⟨x, rfl, t⟩ := q; exact ⟨.inr x, ⟨x, t, rfl⟩, rfl⟩
  | non => cases h
  | bl b => cases h
  | tup b => cases h
  | ref b => cases h
  | gl b => cases h
section
variable {K : PySem.W.Frag} {mg : Str → Option Value} {μ : List Addr} {H : Hp}
theorem KSs.find {x : D} {m : Key} (hx : KeyS x m) : ∀ {kvs : List (D × D)} {ks : List (Key × V)}, KSs K mg μ H kvs ks → (dfind kvs x = none ∧ valV ks m = none) ∨ ∃ d v, dfind kvs x = some d ∧ valV ks m = some v ∧ DV K mg μ H d v
  | [], _, h => by rw [show _ = [] from h]; exact .inl ⟨rfl, rfl⟩
  | (k, v) :: r, _, h => by
    obtain ⟨nk, vv, t, rfl, h1, h2, h3⟩ := h
    by_cases e : nk = m
    · refine .inr ⟨v, vv, ?_, valV_pos e, h2⟩
      rw [dfind, if_pos ((h1.eq_iff hx).mp e)]
    · rw [dfind, if_neg fun q => e ((h1.eq_iff hx).mpr q), valV_neg e]
      exact KSs.find hx h3
theorem KSs.put {x y : D} {m : Key} {v : V} (hx : KeyS x m) (qy : DV K mg μ H y v) : ∀ {kvs : List (D × D)} {ks : List (Key × V)}, KSs K mg μ H kvs ks → nodupK kvs = true → KSs K mg μ H (dput kvs x y) (putK ks m v)
  | [], _, h, _ => by rw [show _ = [] from h]; exact ⟨m, v, [], rfl, hx, qy, rfl⟩
  | (k, w) :: r, _, h, hn => by
    obtain ⟨nk, vv, t, rfl, h1, h2, h3⟩ := h
    simp only [nodupK, Bool.and_eq_true, List.all_eq_true] at hn
    by_cases e : nk = m
    · rw [dput, if_pos ((h1.eq_iff hx).mp e)]
      have hrest : ∀ {kvs : List (D × D)} {ks : List (Key × V)}, KSs K mg μ H kvs ks → (∀ p ∈ kvs, (!keq k p.1) = true) → (ks.map fun kv => if kv.1 = m then (kv.1, v) else kv) = ks := by
        intro kvs
        induction kvs with
        | nil => intro ks h _; rw [show ks = [] from h]; rfl
        | cons p r ih =>
          intro ks h ha
          obtain ⟨p1, p2⟩ := p
          obtain ⟨nk', vv', t', rfl, g1, g2, g3⟩ := h
          have hne : ¬ nk' = m := fun z => by
            have := ha (p1, p2) List.mem_cons_self
            have z2 : keq k p1 = true := (h1.eq_iff g1).mp (e.trans z.symm)
            simp [z2] at this
          simp only [List.map_cons, if_neg hne]
          rw [ih g3 fun q hq => ha q (List.mem_cons_of_mem _ hq)]
      have : putK ((nk, vv) :: t) m v = (nk, v) :: t := by
        unfold putK
        rw [if_pos (by simp [e])]
        simp only [List.map_cons, if_pos e, hrest h3 hn.1]
      rw [this]
      exact ⟨nk, v, t, rfl, h1, qy, h3⟩
    · rw [dput, if_neg fun q => e ((h1.eq_iff hx).mpr q)]
      have : putK ((nk, vv) :: t) m v = (nk, vv) :: putK t m v := by
        unfold putK
        simp only [List.any_cons, decide_eq_false e, Bool.false_or]
        split
        · simp only [List.map_cons, if_neg e]
        · rfl
      rw [this]
      exact ⟨nk, vv, _, rfl, h1, h2, KSs.put hx qy h3 hn.2⟩
end
theorem dput_scal {x y : D} (hx : scal1 x = true) : ∀ {kvs : List (D × D)}, scalK kvs = true → scalK (dput kvs x y) = true
  | [], _ => by simp [dput, scalK, hx]
  | (k, v) :: r, h => by
    simp only [scalK, List.all_cons, Bool.and_eq_true] at h
    unfold dput
    split
    · simp only [scalK, List.all_cons, Bool.and_eq_true]; exact h
    · simp only [scalK, List.all_cons, Bool.and_eq_true]
      exact ⟨h.1, dput_scal (kvs := r) hx h.2⟩
theorem dput_tup {x y : D} (hx : tup1 x = true) : ∀ {kvs : List (D × D)}, (kvs.all fun p => tup1 p.1) = true → tupK (dput kvs x y) = true
  | [], _ => by simp [dput, tupK, hx]
  | (k, v) :: r, h => by
    simp only [List.all_cons, Bool.and_eq_true] at h
    unfold dput
    split
    · simp only [tupK, List.isEmpty_cons, Bool.not_false, Bool.true_and, List.all_cons, Bool.and_eq_true]; exact h
    · have := dput_tup (y := y) (kvs := r) hx h.2
      simp only [tupK, Bool.and_eq_true] at this
      simp only [tupK, List.isEmpty_cons, Bool.not_false, Bool.true_and, List.all_cons, Bool.and_eq_true]
      exact ⟨h.1, this.2⟩
theorem keq_of_keys {x y z : D} {a b c : NestedKey} (ha : KeyD x a) (hb : KeyD y b) (hc : KeyD z c) : keq x y = true → keq y z = true → keq x z = true := fun h1 h2 =>
  (ha.eq_iff hc).mp (((ha.eq_iff hb).mpr h1).trans ((hb.eq_iff hc).mpr h2))
theorem keq_symm_of {x y : D} {a b : NestedKey} (ha : KeyD x a) (hb : KeyD y b) : keq x y = keq y x := by
  cases h : keq x y with
  | true => exact ((hb.eq_iff ha).mp ((ha.eq_iff hb).mpr h).symm).symm
  | false =>
    cases h2 : keq y x with
    | false => rfl
    | true => rw [(ha.eq_iff hb).mp ((hb.eq_iff ha).mpr h2).symm] at h; cases h
/-- the keys stay apart -/
theorem nodup_dput {x y : D} {b : NestedKey} (hb : KeyD x b) : ∀ {kvs : List (D × D)}, (∀ p ∈ kvs, ∃ a, KeyD p.1 a) → nodupK kvs = true → nodupK (dput kvs x y) = true
  | [], _, _ => rfl
  | (k, v) :: r, hk, h => by
    obtain ⟨a, ha⟩ := hk (k, v) List.mem_cons_self
    simp only [nodupK, Bool.and_eq_true, List.all_eq_true] at h
    unfold dput
    split
    · simp only [nodupK, Bool.and_eq_true, List.all_eq_true]; exact h
    · rename_i hne
      simp only [nodupK, Bool.and_eq_true, List.all_eq_true]
      refine ⟨?_, nodup_dput hb (fun p hp => hk p (List.mem_cons_of_mem _ hp)) h.2⟩
      have : ∀ {r : List (D × D)}, (∀ p ∈ r, (!keq k p.1) = true) → ∀ p ∈ dput r x y, (!keq k p.1) = true := by
        intro r
        induction r with
        | nil => intro _ p hp; simp [dput] at hp; subst hp; simpa using hne
        | cons q r ih =>
          intro hr p hp
          obtain ⟨q1, q2⟩ := q
          unfold dput at hp
          split at hp
          · rcases List.mem_cons.mp hp with rfl | hp
            · exact hr (q1, q2) List.mem_cons_self
            · exact hr p (List.mem_cons_of_mem _ hp)
          · rcases List.mem_cons.mp hp with rfl | hp
            · exact hr (q1, q2) List.mem_cons_self
            · exact ih (fun z hz => hr z (List.mem_cons_of_mem _ hz)) p hp
      exact this h.1
theorem KeyD.of_scal {d : D} {k : Key} (h : KeyS d k) : ∃ a, KeyD d a := by
  cases d with
  | int i => exact ⟨_, rfl⟩
  | str n => obtain ⟨x, t, _⟩ := h; exact ⟨.text x, x, t, rfl⟩
  | non => exact h.elim
  | bl b => exact h.elim
  | tup b => exact h.elim
  | ref b => exact h.elim
  | gl b => exact h.elim
theorem KSs.keyD {K : PySem.W.Frag} {mg : Str → Option Value} {μ : List Addr} {H : Hp} : ∀ {kvs : List (D × D)} {ks : List (Key × V)}, KSs K mg μ H kvs ks → ∀ p ∈ kvs, ∃ a, KeyD p.1 a
  | [], _, _, p, hp => by cases hp
  | (k, v) :: r, _, h, p, hp => by
    obtain ⟨nk, vv, t, rfl, h1, h2, h3⟩ := h
    rcases List.mem_cons.mp hp with rfl | hp
    · exact KeyD.of_scal h1
    · exact KSs.keyD h3 p hp
theorem KVs.keyD {K : PySem.W.Frag} {mg : Str → Option Value} {μ : List Addr} {H : Hp} : ∀ {kvs : List (D × D)} {ks : List Ent}, KVs K mg μ H kvs ks → ∀ p ∈ kvs, ∃ a, KeyD p.1 a
  | [], _, _, p, hp => by cases hp
  | (k, v) :: r, _, h, p, hp => by
    obtain ⟨nk, kv, vv, t, rfl, h1, h2, h3, h4, h5⟩ := h
    rcases List.mem_cons.mp hp with rfl | hp
    · exact ⟨nk, h1⟩
    · exact KVs.keyD h5 p hp
/-! ### keys that are tuples -/
mutual
/-- a key that lies in the heap -/
theorem nested_of {X : Cx} {pins : List (Addr × Obj)} {σ : L2.St} {μ : List Addr} {H : Hp} {s : Shared} (I : Inv X pins σ H s) : ∀ {d : D} {n : Nat} {v : V} {u : Value}, keyOk n d = true → DV X.K X.mg μ H d v → RelV v u → ∃ k, KeyD d k ∧ NestedIs s.heap k u ∧ k.depth ≤ n
  | .non, n, v, u, _, q, r => by cases q; cases r; exact ⟨.none, rfl, .none, Nat.zero_le _⟩
  | .bl b, n, v, u, _, q, r => by cases q; cases r; exact ⟨_, rfl, .bool rfl, Nat.zero_le _⟩
  | .int i, n, v, u, _, q, r => by cases q; obtain ⟨t, rfl⟩ := r; exact ⟨_, rfl, .int i t, Nat.zero_le _⟩
  | .str m, n, v, u, _, q, r => by obtain ⟨x, rfl, tx⟩ := q; obtain ⟨t, rfl⟩ := r; exact ⟨_, ⟨x, tx, rfl⟩, .text x t, Nat.zero_le _⟩
  | .tup ds, 0, v, u, h, q, r => by simp [keyOk] at h
  | .tup ds, n + 1, v, u, h, q, r => by
    obtain ⟨a, vs, rfl, t, qs⟩ := q
    cases r
    obtain ⟨its, rv, ⟨o, ho, hc, m, hd⟩, _⟩ := I.tuple t.sq
    obtain ⟨ks, h1, h2, h3⟩ := nesteds_of I (ds := ds) (n := n) (by simpa [keyOk] using h) qs rv
    refine ⟨.tup ks, ⟨ks, h1, rfl⟩, .tup ho hc hd (by simpa using h2), ?_⟩
    simp only [NestedKey.depth]; omega
  | .ref l, n, v, u, h, q, r => by cases n <;> simp [keyOk] at h
  | .gl l, n, v, u, h, q, r => by cases n <;> simp [keyOk] at h
theorem nesteds_of {X : Cx} {pins : List (Addr × Obj)} {σ : L2.St} {μ : List Addr} {H : Hp} {s : Shared} (I : Inv X pins σ H s) : ∀ {ds : List D} {n : Nat} {vs : List V} {us : List Value}, (ds.all (keyOk n)) = true → DVs X.K X.mg μ H ds vs → Vals vs us → ∃ ks, KeyDs ds ks ∧ NestedAll s.heap ks us ∧ NestedKey.depthAll ks ≤ n
  | [], n, vs, us, _, q, r => by rw [show vs = [] from q] at r; cases r; exact ⟨[], rfl, .nil, Nat.zero_le _⟩
  | d :: ds, n, vs, us, h, q, r => by
    obtain ⟨v, t, rfl, q1, q2⟩ := q
    cases r with
    | cons r1 r2 =>
      simp only [List.all_cons, Bool.and_eq_true] at h
      obtain ⟨k, h1, h2, h3⟩ := nested_of I h.1 q1 r1
      obtain ⟨ks, g1, g2, g3⟩ := nesteds_of I h.2 q2 r2
      refine ⟨k :: ks, ⟨k, ks, rfl, h1, g1⟩, .cons h2 g2, ?_⟩
      simp only [NestedKey.depthAll]; omega
end
theorem KeyD.fn {d : D} {k m : NestedKey} (hk : KeyD d k) (hm : KeyD d m) : k = m := (hk.eq_iff hm).mpr ((hm.eq_iff hm).mp rfl)
/-- entries, and what the library tells of them -/
def XsR : List Ent → List (NestedKey × Addr × Value) → Prop := Paired fun p q => p.1 = q.1 ∧ p.2.1 = .ref q.2.1 ∧ RelV p.2.2 q.2.2
theorem XsR.of {w : World} : ∀ {es : List Ent} {qs : List DictEntry}, Paired (EntR w) es qs → (∀ p ∈ es, ∃ b, p.2.1 = .ref b) → ∃ xs, XsR es xs ∧ ∀ prog, qs = xs.map (entryOfKey (nestedKind prog w))
  | _, _, .nil, _ => ⟨[], .nil, fun _ => rfl⟩
  | p :: es, q :: qs, .cons r t, h => by
    obtain ⟨xs, h1, h2⟩ := XsR.of t fun z hz => h z (List.mem_cons_of_mem _ hz)
    obtain ⟨b, hb⟩ := h p List.mem_cons_self
    obtain ⟨r1, r2, r3⟩ := r
    refine ⟨(p.1, b, q.val) :: xs, .cons ⟨rfl, hb, r3⟩ h1, fun prog => ?_⟩
    rw [List.map_cons, ← h2 prog]
    have hq : q.key = .ref b := by rw [hb] at r2; exact r2
    obtain ⟨qh, qk, qv⟩ := q
    simp only at r1 hq
    subst r1 hq
    rfl
theorem XsR.back {prog : Program} {w : World} : ∀ {es : List Ent} {xs : List (NestedKey × Addr × Value)}, XsR es xs → Paired (EntR w) es (xs.map (entryOfKey (nestedKind prog w)))
  | _, _, .nil => .nil
  | p :: es, x :: xs, .cons ⟨h1, h2, h3⟩ t => .cons ⟨by rw [h1]; rfl, by rw [h2]; rfl, h3⟩ (XsR.back t)
theorem XsR.keys : ∀ {es : List Ent} {xs : List (NestedKey × Addr × Value)}, XsR es xs → xs.map (·.1) = es.map (·.1)
  | _, _, .nil => rfl
  | p :: es, x :: xs, .cons ⟨h1, h2, h3⟩ t => by simp only [List.map_cons, XsR.keys t, h1]
section
variable {K : PySem.W.Frag} {mg : Str → Option Value} {μ : List Addr} {H : Hp}
theorem KVs.nodup : ∀ {kvs : List (D × D)} {es : List Ent}, KVs K mg μ H kvs es → nodupK kvs = true → (es.map (·.1)).Nodup
  | [], _, h, _ => by rw [show _ = [] from h]; simp
  | (k, v) :: r, _, h, hn => by
    obtain ⟨nk, kv, vv, t, rfl, h1, h2, h3, h4, h5⟩ := h
    simp only [nodupK, Bool.and_eq_true, List.all_eq_true] at hn
    simp only [List.map_cons, List.nodup_cons]
    refine ⟨fun hm => ?_, KVs.nodup h5 hn.2⟩
    have : ∀ {kvs : List (D × D)} {es : List Ent}, KVs K mg μ H kvs es → nk ∈ es.map (·.1) → ∃ p ∈ kvs, KeyD p.1 nk := by
      intro kvs
      induction kvs with
      | nil => intro es h hm; rw [show es = [] from h] at hm; cases hm
      | cons p r ih =>
        intro es h hm
        obtain ⟨p1, p2⟩ := p
        obtain ⟨nk', kv', vv', t', rfl, g1, g2, g3, g4, g5⟩ := h
        rcases List.mem_cons.mp hm with e | hm
        · exact ⟨(p1, p2), List.mem_cons_self, by simp only at e; rw [e]; exact g1⟩
        · obtain ⟨q, hq, hk⟩ := ih g5 hm
          exact ⟨q, List.mem_cons_of_mem _ hq, hk⟩
    obtain ⟨p, hp, hk⟩ := this h5 hm
    have := hn.1 p hp
    rw [(h1.eq_iff hk).mp rfl] at this
    simp at this
theorem KVs.find {x : D} {m : NestedKey} (hx : KeyD x m) : ∀ {kvs : List (D × D)} {es : List Ent} {xs : List (NestedKey × Addr × Value)}, KVs K mg μ H kvs es → XsR es xs →
    (dfind kvs x = none ∧ atKey xs m = none) ∨ ∃ d v b u, dfind kvs x = some d ∧ atKey xs m = some (b, u) ∧ RelV v u ∧ DV K mg μ H d v
  | [], _, _, h, r => by
    rw [show _ = [] from h] at r
    cases r
    exact .inl ⟨rfl, rfl⟩
  | (k, v) :: r, _, _, h, t => by
    obtain ⟨nk, kv, vv, t', rfl, h1, h2, h3, h4, h5⟩ := h
    cases t with
    | cons p t =>
      rename_i y ys
      obtain ⟨p1, p2, p3⟩ := p
      by_cases e : nk = m
      · refine .inr ⟨v, vv, y.2.1, y.2.2, ?_, ?_, p3, h4⟩
        · rw [dfind, if_pos ((h1.eq_iff hx).mp e)]
        · have e1 : y.1 = m := by rw [← p1]; exact e
          simp [atKey, List.find?_cons, e1]
      · rw [dfind, if_neg fun q => e ((h1.eq_iff hx).mpr q)]
        have e1 : ¬ y.1 = m := by rw [← p1]; exact e
        have : atKey (y :: ys) m = atKey ys m := by simp [atKey, List.find?_cons, e1]
        rw [this]
        exact KVs.find hx h5 t
/-- the entries behind a store -/
def putE (es : List Ent) (m : NestedKey) (kv vv : V) : List Ent :=
  match es with
  | [] => [(m, kv, vv)]
  | p :: r => if p.1 = m then (p.1, p.2.1, vv) :: r else p :: putE r m kv vv
theorem KVs.put {x y : D} {m : NestedKey} {kv vv : V} (hx : KeyD x m) (ok : keyOk 8 x = true) (qx : DV K mg μ H x kv) (qy : DV K mg μ H y vv) : ∀ {kvs : List (D × D)} {es : List Ent}, KVs K mg μ H kvs es → KVs K mg μ H (dput kvs x y) (putE es m kv vv)
  | [], _, h => by rw [show _ = [] from h]; exact ⟨m, kv, vv, [], rfl, hx, ok, qx, qy, rfl⟩
  | (k, v) :: r, _, h => by
    obtain ⟨nk, kv', vv', t', rfl, h1, h2, h3, h4, h5⟩ := h
    by_cases e : nk = m
    · rw [dput, if_pos ((h1.eq_iff hx).mp e), putE, if_pos e]
      exact ⟨nk, kv', vv, t', rfl, h1, h2, h3, qy, h5⟩
    · rw [dput, if_neg fun q => e ((h1.eq_iff hx).mpr q), putE, if_neg e]
      exact ⟨nk, kv', vv', _, rfl, h1, h2, h3, h4, KVs.put hx ok qx qy h5⟩
theorem XsR.put {m : NestedKey} {b : Addr} {vv : V} {u : Value} (rv : RelV vv u) : ∀ {es : List Ent} {xs : List (NestedKey × Addr × Value)}, XsR es xs → (xs.map (·.1)).Nodup → XsR (putE es m (.ref b) vv) (storedH xs m b u)
  | _, _, .nil, _ => .cons ⟨rfl, rfl, rv⟩ .nil
  | p :: es, x :: xs, .cons r t, hn => by
    obtain ⟨r1, r2, r3⟩ := r
    simp only [List.map_cons, List.nodup_cons] at hn
    by_cases e : p.1 = m
    · have e1 : x.1 = m := by rw [← r1]; exact e
      have h1 : storedH (x :: xs) m b u = (x.1, x.2.1, u) :: xs := by
        have hs : atKey (x :: xs) m = some x.2 := by simp [atKey, List.find?_cons, e1]
        rw [storedH_old hs, List.map_cons]
        have : xs.map (putAt m u) = xs := by
          rw [List.map_congr_left (g := id) fun z hz => ?_, List.map_id]
          have : ¬ z.1 = m := fun q => hn.1 (by rw [e1, ← q]; exact List.mem_map_of_mem hz)
          simp [putAt, this]
        rw [this]
        simp [putAt, e1]
      rw [h1, putE, if_pos e]
      exact .cons ⟨r1, r2, rv⟩ t
    · have e1 : ¬ x.1 = m := by rw [← r1]; exact e
      have h1 : storedH (x :: xs) m b u = x :: storedH xs m b u := by
        have hs : atKey (x :: xs) m = atKey xs m := by simp [atKey, List.find?_cons, e1]
        unfold storedH
        rw [hs]
        split
        · rw [List.map_cons]; simp [putAt, e1]
        · rfl
      rw [h1, putE, if_neg e]
      exact .cons ⟨r1, r2, r3⟩ (XsR.put rv t hn.2)
theorem putE_length (m : NestedKey) (kv vv : V) : ∀ es : List Ent, (putE es m kv vv).length ≤ es.length + 1
  | [] => by simp [putE]
  | p :: r => by
    unfold putE
    split
    · simp
    · have := putE_length m kv vv r
      simp only [List.length_cons]; omega
end
end G47
namespace G47
open PySem L2 PyProof.Rows
section
variable {X : Cx} {pins : List (Addr × Obj)} {σ : L2.St} {μ : List Addr} {H : Hp} {h : AH} {s : Shared} {A : Around} {E : Value → Shared → Prop}
/-- what may be read at a: the thing itself, or locked -/
theorem dct_rd {l : Nat} {x : V} {lk : Bool} {kvs : List (D × D)} (L : Lk X μ H h) (e : h[l]? = some (.dct lk kvs)) (q : DV X.K X.mg μ H (.ref l) x) :
    ∃ a u, x = .ref a ∧ μ[l]? = some a ∧ Rd H a u ∧ (lk = false → H a = some u) ∧ DL X.K X.mg μ H X.w a kvs u ∧ nodupK kvs = true := by
  obtain ⟨a, e1, rfl⟩ := q
  obtain ⟨u, e2, d, n⟩ := L.at e e1
  refine ⟨a, u, rfl, e1, ?_, fun hl => ?_, d, n⟩
  · split at e2
    · exact .inr e2
    · exact .inl e2
  · subst hl; rw [if_neg (by decide)] at e2; exact e2
theorem mem_tups {K : PySem.W.Frag} {mg : Str → Option Value} : ∀ {kvs : List (D × D)} {es : List Ent}, KVs K mg μ H kvs es → (kvs.all fun p => tup1 p.1) = true → ∀ p ∈ es, ∃ b, p.2.1 = .ref b
  | [], _, h, _, p, hp => by rw [show _ = [] from h] at hp; cases hp
  | (k, v) :: r, _, h, ht, p, hp => by
    obtain ⟨nk, kv, vv, t, rfl, h1, h2, h3, h4, h5⟩ := h
    simp only [List.all_cons, Bool.and_eq_true] at ht
    rcases List.mem_cons.mp hp with rfl | hp
    · cases k with
      | tup ds => obtain ⟨a, vs, e, _⟩ := h3; exact ⟨a, e⟩
      | _ => simp [tup1] at ht
    · exact mem_tups h5 ht.2 p hp
/-- the library's word of a dict whose keys are tuples -/
theorem keyed_of {a : Addr} {es : List Ent} {kvs : List (D × D)} (I : Inv X pins σ H s) (r : Rd H a (dHO X.w a es)) (q : KVs X.K X.mg μ H kvs es) (ht : (kvs.all fun p => tup1 p.1) = true) (hn : nodupK kvs = true) :
    ∃ xs, XsR es xs ∧ s.heap.DictOfH (nestedKind X.prog X.w) a xs ∧ es.length ≤ sizeLine ∧ (a == sysModules) = false := by
  obtain ⟨⟨ob, arr, ep, h1, h2, h3, h4, h5, h6⟩, _⟩ := r.ok I.hok
  obtain ⟨xs, g1, g2⟩ := XsR.of h4 (mem_tups q ht)
  refine ⟨xs, g1, ⟨ob, arr, ep, h1, h2, h3, g2 X.prog, ?_, ?_⟩, h5, h6⟩
  · have : ∀ {kvs : List (D × D)} {es : List Ent} {xs : List (NestedKey × Addr × Value)}, KVs X.K X.mg μ H kvs es → XsR es xs → ∀ x ∈ xs, (nestedKind X.prog X.w).is s.heap x.1 x.2.1 := by
      intro kvs
      induction kvs with
      | nil =>
        intro es xs q r x hx
        rw [show es = [] from q] at r
        cases r; cases hx
      | cons p r ih =>
        intro es xs q t x hx
        obtain ⟨k, v⟩ := p
        obtain ⟨nk, kv, vv, t', rfl, b1, b2, b3, b4, b5⟩ := q
        cases t with
        | cons p t =>
          obtain ⟨p1, p2, p3⟩ := p
          rcases List.mem_cons.mp hx with rfl | hx
          · simp only at p1 p2
            rw [p2] at b3
            obtain ⟨k', c1, c2, c3⟩ := nested_of I (u := .ref x.2.1) b2 b3 rfl
            have : k' = x.1 := by rw [c1.fn b1, p1]
            subst this
            exact ⟨c2, c3⟩
          · exact ih b5 t x hx
    exact this q g1
  · rw [g1.keys]; exact q.nodup hn
/-- an empty dict has no keys of any kind -/
theorem keyed_nil {a : Addr} {ks : List (Key × V)} (I : Inv X pins σ H s) (r : Rd H a (.dK ks)) (hk : ks = []) : s.heap.DictOfH (nestedKind X.prog X.w) a [] ∧ (a == sysModules) = false := by
  subst hk
  obtain ⟨_, hd, vs, rel, ob, arr, ep, h1, h2, h3, h4, h5, h6⟩ := dk_rd I.hok r
  cases rel
  have nil : arr.toList = ([] : List (NestedKey × Addr × Value)).map (entryOfKey (nestedKind X.prog X.w)) := by
   cases e : arr.toList with
   | nil => rfl
   | cons z zs => rw [e] at h5; cases h5
  exact ⟨⟨ob, arr, ep, h1, h2, h3, nil, (fun x hx => by cases hx), by simp⟩, hd⟩
/-- a key is asked of a dict: the two ways -/
theorem dct_ask {l : Nat} {x y : V} {k : D} {u : Value} {lk : Bool} {kvs : List (D × D)} (I : Inv X pins σ H s) (L : Lk X μ H h) (e : h[l]? = some (.dct lk kvs)) (q : DV X.K X.mg μ H (.ref l) x) (qk : DV X.K X.mg μ H k y) (ry : RelV y u) (ok : okKey kvs k = true) :
    ∃ a, x = .ref a ∧ μ[l]? = some a ∧ s.TypeIs (.ref a) "dict" ∧
      ((∃ o, DGet H a y o ∧ ((dfind kvs k = none ∧ o = none) ∨ ∃ d v, dfind kvs k = some d ∧ o = some v ∧ DV X.K X.mg μ H d v)) ∨
       ∃ b m xs, u = .ref b ∧ y = .ref b ∧ KeyD k m ∧ (nestedKind X.prog X.w).is s.heap m b ∧ s.heap.DictOfH (nestedKind X.prog X.w) a xs ∧ (a == sysModules) = false ∧
        ((dfind kvs k = none ∧ atKey xs m = none) ∨ ∃ d v c w, dfind kvs k = some d ∧ atKey xs m = some (c, w) ∧ RelV v w ∧ DV X.K X.mg μ H d v)) := by
  obtain ⟨a, ho, rfl, e1, rd, _, dl, hn⟩ := dct_rd L e q
  refine ⟨a, rfl, e1, ?_⟩
  unfold okKey at ok
  rcases Bool.or_eq_true_iff.mp ok with ok | ok
  · simp only [Bool.and_eq_true] at ok
    obtain ⟨nk, hk, rfl⟩ := KeyS.ex ok.1 qk
    rcases dl with ⟨_, ks, rfl, kss⟩ | ⟨tk, es, rfl, kvs'⟩
    · have g : DGet H a (kV nk) (valV ks nk) := .inl ⟨ks, nk, rd, rfl, rfl⟩
      refine ⟨dict_typeIs I g, .inl ⟨_, g, ?_⟩⟩
      rcases kss.find hk with ⟨h1, h2⟩ | ⟨d, v, h1, h2, h3⟩
      · exact .inl ⟨h1, h2⟩
      · exact .inr ⟨d, v, h1, h2, h3⟩
    · exfalso
      cases kvs with
      | nil => simp [tupK] at tk
      | cons p r =>
        have a1 := ok.2
        simp only [scalK, List.all_cons, Bool.and_eq_true] at a1
        simp only [tupK, List.all_cons, Bool.and_eq_true] at tk
        have b1 := a1.1
        have b2 := tk.2.1
        cases hp : p.1 <;> rw [hp] at b1 b2 <;> simp [scal1, tup1] at b1 b2
  · simp only [Bool.and_eq_true] at ok
    obtain ⟨⟨o1, o2⟩, o3⟩ := ok
    obtain ⟨b, hb⟩ : ∃ b, y = .ref b := by
      cases k with
      | tup ds => obtain ⟨a, vs, e, _⟩ := qk; exact ⟨a, e⟩
      | _ => simp [tup1] at o1
    subst hb
    obtain rfl : u = .ref b := ry
    obtain ⟨m, k1, k2, k3⟩ := nested_of I o2 qk rfl
    rcases dl with ⟨sk, ks, rfl, kss⟩ | ⟨tk, es, rfl, kvs'⟩
    · have hnil : kvs = [] := by
        cases kvs with
        | nil => rfl
        | cons p r =>
          exfalso
          rcases Bool.or_eq_true_iff.mp o3 with z | z
          · simp at z
          · simp only [scalK, List.all_cons, Bool.and_eq_true] at sk
            simp only [tupK, List.all_cons, Bool.and_eq_true] at z
            have b1 := sk.1
            have b2 := z.2.1
            cases hp : p.1 <;> rw [hp] at b1 b2 <;> simp [scal1, tup1] at b1 b2
      subst hnil
      obtain ⟨d1, d2⟩ := keyed_nil I rd kss
      exact ⟨d1.typeIs, .inr ⟨b, m, [], rfl, rfl, k1, ⟨k2, k3⟩, d1, d2, .inl ⟨rfl, rfl⟩⟩⟩
    · simp only [tupK, Bool.and_eq_true] at tk
      obtain ⟨xs, x1, x2, _, x3⟩ := keyed_of I rd kvs' tk.2 hn
      refine ⟨x2.typeIs, .inr ⟨b, m, xs, rfl, rfl, k1, ⟨k2, k3⟩, x2, x3, ?_⟩⟩
      exact kvs'.find k1 x1
/-- k in d -/
theorem din_ok {l : Nat} {x y : V} {k : D} {u v : Value} {lk : Bool} {kvs : List (D × D)} {Q : Value → Shared → Prop} (hu : A.units + 12 < cLine) (I : Inv X pins σ H s) (L : Lk X μ H h) (e : h[l]? = some (.dct lk kvs)) (q : DV X.K X.mg μ H (.ref l) x) (qk : DV X.K X.mg μ H k y)
    (rx : RelV x v) (ry : RelV y u) (ok : okKey kvs k = true) (hQ : ∀ s', Inv X pins σ H s' → Q (.bool (dfind kvs k).isSome) s') : wpAny (model X.prog X.w) A (compareOp .In u v) Q E s := by
  obtain ⟨a, rfl, _, _, c⟩ := dct_ask I L e q qk ry ok
  obtain rfl : v = .ref a := rx
  rcases c with ⟨o, g, r⟩ | ⟨b, m, xs, rfl, _, km, is, dd, hs, r⟩
  · refine d_in (by omega) I g ry fun s' I' => ?_
    rcases r with ⟨h1, h2⟩ | ⟨d, w, h1, h2, _⟩
    · have := hQ s' I'; rw [h1] at this; rw [h2]; exact this
    · have := hQ s' I'; rw [h1] at this; rw [h2]; exact this
  · refine wpAny_in_heap (by show A.units + 1 + 8 < cLine; omega) is hs dd ?_
    have := hQ _ (I.tok (s.toks + (nestedKind X.prog X.w).draws m))
    rcases r with ⟨h1, h2⟩ | ⟨d, w, c, z, h1, h2, _⟩
    · rw [h1] at this; rw [h2]; exact this
    · rw [h1] at this; rw [h2]; exact this
theorem dnotin_ok {l : Nat} {x y : V} {k : D} {u v : Value} {lk : Bool} {kvs : List (D × D)} {Q : Value → Shared → Prop} (hu : A.units + 12 < cLine) (I : Inv X pins σ H s) (L : Lk X μ H h) (e : h[l]? = some (.dct lk kvs)) (q : DV X.K X.mg μ H (.ref l) x) (qk : DV X.K X.mg μ H k y)
    (rx : RelV x v) (ry : RelV y u) (ok : okKey kvs k = true) (hQ : ∀ s', Inv X pins σ H s' → Q (.bool (!(dfind kvs k).isSome)) s') : wpAny (model X.prog X.w) A (compareOp .NotIn u v) Q E s := by
  obtain ⟨a, rfl, _, _, c⟩ := dct_ask I L e q qk ry ok
  obtain rfl : v = .ref a := rx
  rcases c with ⟨o, g, r⟩ | ⟨b, m, xs, rfl, _, km, is, dd, hs, r⟩
  · refine d_notIn (by omega) I g ry fun s' I' => ?_
    rcases r with ⟨h1, h2⟩ | ⟨d, w, h1, h2, _⟩
    · have := hQ s' I'; rw [h1] at this; rw [h2]; exact this
    · have := hQ s' I'; rw [h1] at this; rw [h2]; exact this
  · have key := notIn_keyed (E := E) (Q := Q) (A := A) (s := s) (by show A.units + 1 + 8 < cLine; omega) is hs ⟨xs, dd, rfl⟩
    refine key ?_
    rw [valueAt_pairsH, Option.isSome_map]
    have := hQ _ (I.tok (s.toks + (nestedKind X.prog X.w).draws m))
    rcases r with ⟨h1, h2⟩ | ⟨d, w, c, z, h1, h2, _⟩
    · rw [h1] at this; rw [h2]; exact this
    · rw [h1] at this; rw [h2]; exact this
/-- d[k] -/
theorem dget_ok {l : Nat} {x y : V} {k d : D} {u v : Value} {lk : Bool} {kvs : List (D × D)} {Q : Value → Shared → Prop} (hu : A.units + 12 < cLine) (I : Inv X pins σ H s) (L : Lk X μ H h) (e : h[l]? = some (.dct lk kvs)) (q : DV X.K X.mg μ H (.ref l) x) (qk : DV X.K X.mg μ H k y)
    (rx : RelV x v) (ry : RelV y u) (ok : okKey kvs k = true) (hd : dfind kvs k = some d) (hQ : ∀ s' z w, Inv X pins σ H s' → RelV z w → DV X.K X.mg μ H d z → Q w s') : s.TypeIs v "dict" ∧ wpAny (model X.prog X.w) A (getItem v u) Q E s := by
  obtain ⟨a, rfl, _, ty, c⟩ := dct_ask I L e q qk ry ok
  obtain rfl : v = .ref a := rx
  refine ⟨ty, ?_⟩
  rcases c with ⟨o, g, r⟩ | ⟨b, m, xs, rfl, _, km, is, dd, hs, r⟩
  · rcases r with ⟨h1, h2⟩ | ⟨d', w, h1, h2, h3⟩
    · rw [hd] at h1; cases h1
    · rw [hd] at h1; cases h1
      subst h2
      exact d_getItem (by omega) I g ry fun w' s' I' r' => hQ s' w w' I' r' h3
  · rcases r with ⟨h1, h2⟩ | ⟨d', w, c, z, h1, h2, h3, h4⟩
    · rw [hd] at h1; cases h1
    · rw [hd] at h1; cases h1
      exact wpAny_getItem_heap (by show A.units + 1 + 8 < cLine; omega) is dd h2 (hQ _ w z (I.tok _) h3 h4)
/-- d[k] = y -/
theorem dset_ok {l : Nat} {x y z : V} {k d : D} {u v w : Value} {kvs : List (D × D)} {Q : Unit → Shared → Prop} (hu : A.units + 12 < cLine) (I : Inv X pins σ H s) (L : Lk X μ H h) (e : h[l]? = some (.dct false kvs)) (q : DV X.K X.mg μ H (.ref l) x) (qk : DV X.K X.mg μ H k y)
    (qd : DV X.K X.mg μ H d z) (rx : RelV x v) (ry : RelV y u) (rz : RelV z w) (ok : okKey kvs k = true) (hl : Nat.ble kvs.length big = true)
    (hQ : ∀ s' H', Inv X pins σ H' s' → Keeps H H' → Lk X μ H' (h.set l (.dct false (dput kvs k d))) → Q () s') : wpAny (model X.prog X.w) A (setItem v u w) Q E s := by
  obtain ⟨a, ho, rfl, e1, rd, hh, dl, hn⟩ := dct_rd L e q
  obtain rfl : v = .ref a := rx
  have hH := hh rfl
  have hb : kvs.length < sizeLine := Nat.lt_of_le_of_lt (Nat.le_of_ble_eq_true hl) (by rw [sizeLine_eq]; decide)
  have kp : ∀ o, Keeps H (upd H a o) := fun o => Keeps.put hH dl.notTup dl.notFrz
  have putL : ∀ o, DL X.K X.mg μ (upd H a o) X.w a (dput kvs k d) o → nodupK (dput kvs k d) = true → Lk X μ (upd H a o) (h.set l (.dct false (dput kvs k d))) := fun o dl' nd' =>
    L.put e1 ⟨o, by rw [if_neg (by decide)]; exact upd_same, dl', nd'⟩
  unfold okKey at ok
  rcases Bool.or_eq_true_iff.mp ok with ok | ok
  · simp only [Bool.and_eq_true] at ok
    obtain ⟨nk, hk, rfl⟩ := KeyS.ex ok.1 qk
    rcases dl with ⟨sk, ks, rfl, kss⟩ | ⟨tk, es, rfl, kvs'⟩
    · obtain ⟨kd, hkd⟩ := KeyD.of_scal hk
      refine d_setItem (by omega) I (DPut.k (k := nk) hH (by rw [kss.length]; exact hb)) ry rz fun s' I' => hQ s' _ I' (kp _) (putL _ (.inl ⟨dput_scal ok.1 sk, _, rfl, ?_⟩) (nodup_dput hkd kss.keyD hn))
      exact (kss.put hk qd hn).keep (List.prefix_refl _) (kp _).t
    · exfalso
      cases kvs with
      | nil => simp [tupK] at tk
      | cons p r =>
        have a1 := ok.2
        simp only [scalK, List.all_cons, Bool.and_eq_true] at a1
        simp only [tupK, List.all_cons, Bool.and_eq_true] at tk
        have b1 := a1.1
        have b2 := tk.2.1
        cases hp : p.1 <;> rw [hp] at b1 b2 <;> simp [scal1, tup1] at b1 b2
  · simp only [Bool.and_eq_true] at ok
    obtain ⟨⟨o1, o2⟩, o3⟩ := ok
    obtain ⟨b, hb'⟩ : ∃ b, y = .ref b := by
      cases k with
      | tup ds => obtain ⟨a, vs, e, _⟩ := qk; exact ⟨a, e⟩
      | _ => simp [tup1] at o1
    subst hb'
    obtain rfl : u = .ref b := ry
    obtain ⟨m, k1, k2, k3⟩ := nested_of I o2 qk rfl
    -- the entries as they stand
    obtain ⟨es, xs, q1, q2, q3, q4, q5⟩ : ∃ es xs, KVs X.K X.mg μ H kvs es ∧ XsR es xs ∧ s.heap.DictOfH (nestedKind X.prog X.w) a xs ∧ (a == sysModules) = false ∧ (kvs.all fun p => tup1 p.1) = true := by
      rcases dl with ⟨sk, ks, rfl, kss⟩ | ⟨tk, es, rfl, kvs'⟩
      · have hnil : kvs = [] := by
          cases kvs with
          | nil => rfl
          | cons p r =>
            exfalso
            rcases Bool.or_eq_true_iff.mp o3 with z | z
            · simp at z
            · simp only [scalK, List.all_cons, Bool.and_eq_true] at sk
              simp only [tupK, List.all_cons, Bool.and_eq_true] at z
              have b1 := sk.1
              have b2 := z.2.1
              cases hp : p.1 <;> rw [hp] at b1 b2 <;> simp [scal1, tup1] at b1 b2
        subst hnil
        obtain ⟨d1, d2⟩ := keyed_nil I rd kss
        exact ⟨[], [], rfl, .nil, d1, d2, rfl⟩
      · simp only [tupK, Bool.and_eq_true] at tk
        obtain ⟨xs, x1, x2, _, x3⟩ := keyed_of I rd kvs' tk.2 hn
        exact ⟨es, xs, kvs', x1, x2, x3, tk.2⟩
    have hxl : xs.length ≤ sizeLine := by
      have := Paired.length q2
      rw [← this, q1.length]; exact Nat.le_of_lt hb
    refine wpAny_setItem_heap (knd := nestedKind X.prog X.w) (hsz := hxl) (by show A.units + 1 + 8 < cLine; omega) ⟨k2, k3⟩ q3 fun h' dd' hs => ?_
    obtain ⟨ob, arr, ep, b1, b2, b3, b4, _, b5⟩ := dd'
    have kq := q1.put k1 o2 qk qd
    have xq : XsR (putE es m (.ref b) z) (storedH xs m b w) := q2.put rz (by rw [q2.keys]; exact q1.nodup hn)
    have hzl : (putE es m (.ref b) z).length ≤ sizeLine := by
      have := putE_length m (.ref b) z es
      have := q1.length
      omega
    refine hQ _ (upd H a (dHO X.w a (putE es m (.ref b) z))) ?_ (kp _) (putL _ (.inr ⟨dput_tup o1 q5, _, rfl, kq.keep (List.prefix_refl _) (kp _).t⟩) (nodup_dput k1 q1.keyD hn))
    have mu : Mut (H a) := by
      rw [hH]
      rcases dl with ⟨_, _, rfl, _⟩ | ⟨_, _, rfl, _⟩ <;> exact True.intro
    refine d_write I mu hs ⟨ob, b1⟩ ⟨⟨ob, arr, ep, b1, b2, b3, by rw [b4]; exact xq.back, hzl, q4⟩, ⟨ob, b1⟩, fun h1 h2 hφ hk => ?_⟩
    obtain ⟨ob', arr', ep', c1, c2⟩ := hφ
    exact ⟨ob', arr', ep', hk ob' c1, c2⟩
end
/-! ### in, as an operation -/
section
variable {X : Cx}
/-- x in y -/
def inB (h : AH) (x y : D) : Option Bool :=
  match y with
  | .ref l => match h[l]? with
    | some (.dct _ kvs) => if okKey kvs x then some (dfind kvs x).isSome else none
    | some (.lst _ ds) => if isDat h deep x && isDat h deep y then some (ds.any fun z => eqB h deep z x) else none
    | _ => none
  | .tup ds => if isDat h deep x && isDat h deep y then some (ds.any fun z => eqB h deep z x) else none
  | _ => none
def inD (h : AH) (x y : D) : Option (D × AH) := (inB h x y).map fun b => (.bl b, h)
def notinD (h : AH) (x y : D) : Option (D × AH) := (inB h x y).map fun b => (.bl (!b), h)
theorem isDat_mono {h : AH} : ∀ (n : Nat) (d : D), isDat h n d = true → isDat h (n + 1) d = true := by
  intro n
  induction n with
  | zero => intro d hd; cases d <;> simp [isDat] at hd ⊢
  | succ n ih =>
    intro d hd
    cases d with
    | tup ds =>
      simp only [isDat, List.all_eq_true] at hd ⊢
      exact fun z hz => ih z (hd z hz)
    | ref l =>
      simp only [isDat] at hd ⊢
      split at hd
      · rename_i ds e
        simp only [List.all_eq_true] at hd ⊢
        exact fun z hz => ih z (hd z hz)
      · cases hd
    | _ => simp [isDat] at hd ⊢
/-- items against one: with the same look -/
theorem any_eqv {h : AH} {n : Nat} {x : D} {p : PyData} (hp : PD h (n + 1) x p) : ∀ {ds : List D} {ps : List PyData}, Paired (PD h n) ds ps → (ps.any fun z => PyData.eqv z p) = ds.any fun z => eqB h (n + 1) z x
  | _, _, .nil => rfl
  | _, _, .cons r t => by
    have up : ∀ (n : Nat) (d : D) (p : PyData), PD h n d p → PD h (n + 1) d p := by
      intro n
      induction n with
      | zero => intro d p hd; cases d <;> simp only [PD] at hd ⊢ <;> first | exact hd | exact hd.elim
      | succ n ih =>
        intro d p hd
        cases d with
        | tup ds => obtain ⟨ps, r, rfl⟩ := hd; exact ⟨ps, Paired.mapP r fun a b z => ih a b z, rfl⟩
        | ref l => obtain ⟨lk, ds, ps, e, r, rfl⟩ := hd; exact ⟨lk, ds, ps, e, Paired.mapP r fun a b z => ih a b z, rfl⟩
        | _ => first | exact hd | (simp only [PD] at hd ⊢; exact hd)
    simp only [List.any_cons]
    rw [eqB_eqv (n + 1) _ _ _ _ (up n _ _ r) hp, any_eqv hp t]
theorem in_core {h : AH} {pins : List (Addr × Obj)} {σ : L2.St} {μ : List Addr} {H : Hp} {s : Shared} {x y : V} {u v : Value} {dx dy : D} {b : Bool} (hu : X.A.units + 14 < cLine) (I : Inv X pins σ H s) (L : Lk X μ H h) (rx : RelV x u) (ry : RelV y v) (qx : DV X.K X.mg μ H dx x) (qy : DV X.K X.mg μ H dy y)
    (e : inB h dx dy = some b) : (∀ {Q : Value → Shared → Prop} {E : Value → Shared → Prop}, (∀ s', Inv X pins σ H s' → Q (.bool b) s') → wpAny (model X.prog X.w) X.A (compareOp .In u v) Q E s) ∧
      ∀ {Q : Value → Shared → Prop} {E : Value → Shared → Prop}, (∀ s', Inv X pins σ H s' → Q (.bool (!b)) s') → wpAny (model X.prog X.w) X.A (compareOp .NotIn u v) Q E s := by
  have seqs : ∀ {ds : List D}, isDat h deep dx = true → isDat h deep dy = true → b = (ds.any fun z => eqB h deep z dx) → ((dy = .tup ds) ∨ ∃ l lk, dy = .ref l ∧ h[l]? = some (.lst lk ds)) →
      (∀ {Q : Value → Shared → Prop} {E : Value → Shared → Prop}, (∀ s', Inv X pins σ H s' → Q (.bool b) s') → wpAny (model X.prog X.w) X.A (compareOp .In u v) Q E s) ∧
      ∀ {Q : Value → Shared → Prop} {E : Value → Shared → Prop}, (∀ s', Inv X pins σ H s' → Q (.bool (!b)) s') → wpAny (model X.prog X.w) X.A (compareOp .NotIn u v) Q E s := by
    intro ds hdx hdy hb hseq
    obtain ⟨p, h1, h2⟩ := PD.ex L deep dx x hdx qx
    obtain ⟨p', g1, g2⟩ := PD.ex L deep dy y hdy qy
    obtain ⟨as, ra⟩ := Dp.reads I p x u h2 rx
    obtain ⟨bs, rb⟩ := Dp.reads I p' y v g2 ry
    obtain ⟨l1, l2⟩ := h1.lay
    obtain ⟨l3, l4⟩ := g1.lay
    have room : ∀ xs : List PyData, X.A.units + 1 + min (PyData.depthAll xs) p.depth < cLine := fun xs => by
      have : min (PyData.depthAll xs) p.depth ≤ p.depth := Nat.min_le_right _ _
      unfold deep at l2
      omega
    rcases hseq with rfl | ⟨l, lk, rfl, hl⟩
    · obtain ⟨ps, r, rfl⟩ := g1
      have ha : (ps.any fun z => PyData.eqv z p) = b := by rw [hb]; exact any_eqv (n := 11) h1 r
      simp only [PyData.canLay0] at l3
      refine ⟨fun hQ => SeqAt.in_tuple_reads rb ra l3 l1 (room ps) ?_, fun hQ => SeqAt.notIn_tuple_reads rb ra l3 l1 (room ps) ?_⟩
      · rw [ha]; exact hQ s I
      · rw [ha]; exact hQ s I
    · obtain ⟨lk', ds', ps, e1, r, rfl⟩ := g1
      rw [hl] at e1; cases e1
      have ha : (ps.any fun z => PyData.eqv z p) = b := by rw [hb]; exact any_eqv (n := 11) h1 r
      simp only [PyData.canLay0] at l3
      refine ⟨fun hQ => SeqAt.in_list_reads rb ra l3 l1 (room ps) ?_, fun hQ => SeqAt.notIn_list_reads rb ra l3 l1 (room ps) ?_⟩
      · rw [ha]; exact hQ s I
      · rw [ha]; exact hQ s I
  unfold inB at e
  split at e
  · rename_i l
    split at e
    · rename_i lk kvs el
      split at e
      · rename_i ok
        cases e
        exact ⟨fun hQ => din_ok (by omega) I L el qy qx ry rx ok hQ, fun hQ => dnotin_ok (by omega) I L el qy qx ry rx ok hQ⟩
      · cases e
    · rename_i lk ds el
      split at e
      · rename_i hd
        cases e
        simp only [Bool.and_eq_true] at hd
        exact seqs hd.1 hd.2 rfl (.inr ⟨l, lk, rfl, el⟩)
      · cases e
    · cases e
  · rename_i ds
    split at e
    · rename_i hd
      cases e
      simp only [Bool.and_eq_true] at hd
      exact seqs hd.1 hd.2 rfl (.inl rfl)
    · cases e
  · cases e
theorem os_in (hu : X.A.units + 14 < cLine) : OpS X (compareOp .In) inD := by
  intro pins σ H μ h s x y u v dx dy d h' I L rx ry qx qy e
  obtain ⟨b, eb, ez⟩ := Option.map_eq_some_iff.mp e
  cases ez
  exact (in_core hu I L rx ry qx qy eb).1 fun s' I' => ⟨.bl b, h, .bl b, H, μ, rfl, I', rfl, List.prefix_refl _, Keeps.refl _, L, rfl⟩
theorem os_notin (hu : X.A.units + 14 < cLine) : OpS X (compareOp .NotIn) notinD := by
  intro pins σ H μ h s x y u v dx dy d h' I L rx ry qx qy e
  obtain ⟨b, eb, ez⟩ := Option.map_eq_some_iff.mp e
  cases ez
  exact (in_core hu I L rx ry qx qy eb).2 fun s' I' => ⟨.bl (!b), h, .bl (!b), H, μ, rfl, I', rfl, List.prefix_refl _, Keeps.refl _, L, rfl⟩
def copD : CmpOp → AH → D → D → Option (D × AH)
  | .Eq => eqD
  | .NotEq => neD
  | .Lt => ltD
  | .LtE => leD
  | .Gt => gtD
  | .GtE => geD
  | .Is => isD
  | .IsNot => isnotD
  | .In => inD
  | .NotIn => notinD
theorem os_cop (hu : X.A.units + 14 < cLine) : ∀ op : CmpOp, OpS X (compareOp op) (copD op)
  | .Eq => os_eq (by omega)
  | .NotEq => os_ne (by omega)
  | .Lt => os_lt
  | .LtE => os_le
  | .Gt => os_gt
  | .GtE => os_ge
  | .Is => os_is
  | .IsNot => os_isnot
  | .In => os_in hu
  | .NotIn => os_notin hu
end
end G47
namespace G47
open PySem L2 PyProof.Rows
section
variable {X : Cx}
/-! ### subscripts -/
theorem DVs.atI {μ : List Addr} {H : Hp} {ds : List D} {vs : List V} {i : Int} {d : D} (q : DVs X.K X.mg μ H ds vs) (e : L2.atI ds i = some d) : ∃ v, L2.atI vs i = some v ∧ DV X.K X.mg μ H d v := by
  unfold L2.atI at e ⊢
  rw [q.length]
  cases h : L2.ixN ds.length i with
  | none => rw [h] at e; cases e
  | some j =>
    rw [h] at e
    simp only [Option.bind_some] at e ⊢
    obtain ⟨v, h1, h2⟩ := q.get e
    exact ⟨v, h1, h2⟩
def ixD (h : AH) : D → D → Option D
  | .tup ds, .int i => L2.atI ds i
  | .ref l, k => match h[l]? with
    | some (.lst _ ds) => match k with
      | .int i => L2.atI ds i
      | _ => none
    | some (.dct _ kvs) => if okKey kvs k then dfind kvs k else none
    | _ => none
  | _, _ => none
def mIx (a b : ME) : ME := fun σ h => bnd (a σ h) fun x h1 => bnd (b σ h1) fun y h2 => (ixD h2 x y).map fun d => .ok d h2
theorem se_ix {a b : Expr} {ma mb : ME} {pos : Pos} (hu : X.A.units + 12 < cLine) (ha : SE X a ma) (hb : SE X b mb) (hs : ∀ o i, subscripted b false o i = operate [o, i] (getItem o i)) : SE X (.Subscript a b pos) (mIx ma mb) := by
  intro W pins σA h σ H μ s r A e
  refine Subscript_ (ha.seq A e fun dx h1 x u H1 μ1 s1 A1 p1 k1 rx qx e1 => ?_)
  refine hb.seq A1 e1 fun dy h2 y v H2 μ2 s2 A2 p2 k2 ry qy e2 => ?_
  obtain ⟨d, ed, er⟩ := Option.map_eq_some_iff.mp e2
  subst er
  have qx2 := qx.keep p2 k2.t
  have fin : ∀ {v' : V} {u' : Value} {s' : Shared}, Inv X pins σ H2 s' → RelV v' u' → DV X.K X.mg μ2 H2 d v' → PostE X pins σ μ H (.ok d h2) u' s' := fun I' r' q' => (A2.same I').fin (p1.trans p2) (k1.trans k2) r' q'
  unfold ixD at ed
  split at ed
  · rename_i ds i
    obtain ⟨p, vs, rfl, t, qs⟩ := qx2
    cases qy
    obtain ⟨v', e1, q1⟩ := qs.atI ed
    refine thn (ix_tup a b pins s2 σ H2 _ _ u v (fun z H' => z = v' ∧ H' = H2) A2.inv rx ry ⟨p, vs, i, v', rfl, rfl, t.sq, e1, rfl, rfl⟩ (hs _ _)) fun u' s3 ⟨z, H', I', r', ez, eH⟩ => ?_
    subst ez eH
    exact fin I' r' q1
  · rename_i l
    split at ed
    · rename_i lk ds el
      split at ed
      · rename_i i
        obtain ⟨p, vs, rfl, _, _, hsq, qs⟩ := lst_at A2.lk el qx2
        cases qy
        obtain ⟨v', e1, q1⟩ := qs.atI ed
        refine thn (ix_list a b pins s2 σ H2 _ _ u v (fun z H' => z = v' ∧ H' = H2) A2.inv rx ry ⟨p, vs, i, v', rfl, rfl, hsq, e1, rfl, rfl⟩ (hs _ _)) fun u' s3 ⟨z, H', I', r', ez, eH⟩ => ?_
        subst ez eH
        exact fin I' r' q1
      · cases ed
    · rename_i lk kvs el
      split at ed
      · rename_i ok
        obtain ⟨ty, wp⟩ := dget_ok (A := X.A) (E := X.xe) (Q := fun w s' => PostE X pins σ μ H (.ok d h2) w s') hu A2.inv A2.lk el qx2 qy rx ry ok ed fun s' z w I' r' q' => fin I' r' q'
        exact tail_any ty PySem.F.slot_dict_getitem.lookup wp (hs _ _)
      · cases ed
    · cases ed
  · cases ed
/-! ### slices -/
abbrev MO := Sl0 → AH → R (Option Int)
def SO (X : Cx) (e : Option Expr) (m : MO) : Prop := ∀ W pins σA h σ H μ s r, At X W pins σA h σ H μ s r.err → m σA h = some r →
  wpAny (model X.prog X.w) X.A (evalPart e X.env) (fun u s' => ∃ o h' H' μ', r = .ok o h' ∧ Inv X pins σ H' s' ∧ IsPart u o ∧ Pre μ μ' ∧ Keeps H H' ∧ Lk X μ' H' h') X.xe s
theorem so_none : SO X none (fun _ h => some (.ok none h)) := by
  intro W pins σA h σ H μ s r A e
  cases e
  rw [evalPart_none]
  exact wpAny_pure ⟨none, h, H, μ, rfl, A.inv, .none, List.prefix_refl _, Keeps.refl _, A.lk⟩
def mPart (m : ME) : MO := fun σ h => bnd (m σ h) fun x h1 => match x with | .int i => some (.ok (some i) h1) | _ => none
theorem so_some {e : Expr} {m : ME} (he : SE X e m) : SO X (some e) (mPart m) := by
  intro W pins σA h σ H μ s r A e1
  rw [evalPart_some]
  refine he.seq A e1 fun d h1 v u H1 μ1 s1 A1 p k rv q e2 => ?_
  split at e2
  · rename_i i
    cases e2; cases q
    obtain ⟨t, rfl⟩ := rv
    exact ⟨some i, h1, H1, μ1, rfl, A1.inv, .int i t, p, k, A1.lk⟩
  · cases e2
theorem SO.seq {β : Type} {e : Option Expr} {m : MO} {f : Option Int → AH → R β} {r : Out β} {Q : Value → Shared → Prop} {W pins σA h σ H μ s} (ha : SO X e m) (A : At X W pins σA h σ H μ s r.err) (hm : bnd (m σA h) f = some r)
    (k : ∀ o h1 u H1 μ1 s1, At X W pins σA h1 σ H1 μ1 s1 r.err → Pre μ μ1 → Keeps H H1 → IsPart u o → f o h1 = some r → Q u s1) :
    wpAny (model X.prog X.w) X.A (evalPart e X.env) Q X.xe s := by
  rcases bnd_some hm with ⟨x, h1, e1, rfl⟩ | ⟨d, h1, e1, e2⟩
  · refine thn (ha W pins σA h σ H μ s (.er x h1) A e1) fun u s1 ⟨_, _, _, _, z, _⟩ => nomatch z
  · refine thn (ha W pins σA h σ H μ s (.ok d h1) A.noerr e1) fun u s1 ⟨o, h', H1, μ1, z, I, ip, p, kk, L⟩ => ?_
    cases z
    exact k d h1 u H1 μ1 s1 (A.go I p kk L) p kk ip e2
def cutD (xs : List D) (lo hi : Option Int) : List D := (xs.drop (HT.sIx xs.length 0 lo)).take (HT.sIx xs.length xs.length hi - HT.sIx xs.length 0 lo)
theorem DVs.cut {μ : List Addr} {H : Hp} {ds : List D} {vs : List V} (q : DVs X.K X.mg μ H ds vs) (lo hi : Option Int) : DVs X.K X.mg μ H (cutD ds lo hi) (cutV vs lo hi) := by
  unfold cutD cutV
  rw [q.length]
  exact (q.drop _).take _
def slD (h : AH) (lo hi : Option Int) : D → Option (D × AH)
  | .tup ds => some (.tup (cutD ds lo hi), h)
  | .ref l => match h[l]? with
    | some (.lst _ ds) => some (.ref h.length, h ++ [.lst false (cutD ds lo hi)])
    | _ => none
  | _ => none
def mSl (m : ME) (lo hi : MO) : ME := fun σ h => bnd (m σ h) fun x h1 => bnd (lo σ h1) fun l h2 => bnd (hi σ h2) fun u h3 => (slD h3 l u x).map fun z => .ok z.1 z.2
theorem cut_whole {α : Type} (xs : List α) (lo hi : Option Int) (h : HT.sIx xs.length 0 lo = 0 ∧ HT.sIx xs.length xs.length hi = xs.length) : (xs.drop (HT.sIx xs.length 0 lo)).take (HT.sIx xs.length xs.length hi - HT.sIx xs.length 0 lo) = xs := by
  rw [h.1, h.2]; simp
theorem se_sl {e : Expr} {m : ME} {lo hi : Option Expr} {ml mh : MO} {p2 pos : Pos} (he : SE X e m) (hl : SO X lo ml) (hh : SO X hi mh) : SE X (.Subscript e (.Slice lo hi none p2) pos) (mSl m ml mh) := by
  intro W pins σA h σ H μ s r A e1
  refine Subscript_ (he.seq A e1 fun dx h1 x v H1 μ1 s1 A1 p1 k1 rx qx e2 => ?_)
  refine wpAny_Slice (hl.seq A1 e2 fun l h2 vl H2 μ2 s2 A2 p2 k2 pl e3 => ?_)
  refine hh.seq A2 e3 fun u h3 vu H3 μ3 s3 A3 p3 k3 pu e4 => ?_
  rw [evalPart_none]
  refine wpAny_pure ?_
  have I4 : Inv X pins σ H3 { s3 with heap := s3.heap.push { cls := .type "slice", data := .fields #[vl, vu, .none] } } := A3.inv.kept (t' := s3.toks) fun b ob q => Heap.get?_push_of_some _ q
  have qx3 := qx.keep (p2.trans p3) (k2.trans k3).t
  obtain ⟨d, h', ed, rfl⟩ := some_map e4
  have pp := (p1.trans p2).trans p3
  have kk := (k1.trans k2).trans k3
  unfold slD at ed
  split at ed
  · rename_i ds
    cases ed
    obtain ⟨a, vs, rfl, t, qs⟩ := qx3
    have whole : HT.sIx vs.length 0 l = 0 ∧ HT.sIx vs.length vs.length u = vs.length → QE X μ3 H3 (.tup (cutD ds l u)) h3 (.ref a) H3 := fun hw => by
      have : cutD ds l u = ds := cut_whole ds l u (by rw [← qs.length]; exact hw)
      rw [this]
      exact QE.same A3.lk ⟨a, vs, rfl, t, qs⟩
    obtain ⟨T, id, hT, ht, hg⟩ := sl_tupA pins _ σ H3 (.ref a) v vl vu l u s3.heap.objs.size (QE X μ3 H3 (.tup (cutD ds l u)) h3) I4 rx (Heap.IsSliceOf.new ..) pl pu ⟨a, vs, rfl, t.sq, whole, fun _ p hp => QE.tup A3.lk (qs.cut l u) hp⟩
    exact tail_any (ops := [.ref s3.heap.objs.size, v]) ht hT (thn hg fun _ _ z => (QE.post z).lift pp kk) (by with_unfolding_all rfl)
  · rename_i n
    split at ed
    · rename_i lk ds el
      cases ed
      obtain ⟨a, vs, rfl, _, _, hsq, qs⟩ := lst_at A3.lk el qx3
      obtain ⟨T, id, hT, ht, hg⟩ := sl_list pins _ σ H3 (.ref a) v vl vu l u s3.heap.objs.size (QE X μ3 H3 (.ref h3.length) (h3 ++ [.lst false (cutD ds l u)])) I4 rx (Heap.IsSliceOf.new ..) pl pu ⟨a, vs, rfl, hsq, fun p hp => QE.lst A3.lk (qs.cut l u) hp⟩
      exact tail_any (ops := [.ref s3.heap.objs.size, v]) ht hT (thn hg fun _ _ z => (QE.post z).lift pp kk) (by with_unfolding_all rfl)
    · cases ed
  · cases ed
/-! ### attributes -/
def fget : List (Nat × D) → Nat → Option D
  | [], _ => none
  | (n, d) :: r, m => if Nat.beq n m then some d else fget r m
def fput : List (Nat × D) → Nat → D → List (Nat × D)
  | [], m, y => [(m, y)]
  | (n, d) :: r, m, y => if Nat.beq n m then (n, y) :: r else (n, d) :: fput r m y
theorem beq_txt {n m : Nat} {x y : Str} (hx : TxtN n x) (hy : TxtN m y) : Nat.beq n m = decide (x = y) := by rw [hx.beq hy, beq_str]
section
variable {K : PySem.W.Frag} {mg : Str → Option Value} {μ : List Addr} {H : Hp}
theorem FsV.get {m : Nat} {y : Str} (hy : TxtN m y) : ∀ {fs : List (Nat × D)} {gs : List (Str × V)}, FsV K mg μ H fs gs → (fget fs m = none ∧ gs.lookup y = none) ∨ ∃ d v, fget fs m = some d ∧ gs.lookup y = some v ∧ DV K mg μ H d v
  | [], _, h => by rw [show _ = [] from h]; exact .inl ⟨rfl, rfl⟩
  | (n, d) :: r, _, h => by
    obtain ⟨x, v, t, rfl, tx, q, h'⟩ := h
    rw [fget, beq_txt tx hy, List.lookup_cons]
    by_cases e : x = y
    · subst e
      rw [if_pos (by simp)]
      simp only [beq_self_eq_true]
      exact .inr ⟨d, v, rfl, rfl, q⟩
    · rw [if_neg (by simpa using e)]
      have : (y == x) = false := beq_eq_false_iff_ne.mpr fun z => e z.symm
      rw [this]
      exact FsV.get hy h'
theorem FsV.put {m : Nat} {y : Str} {d : D} {v : V} (hy : TxtN m y) (q : DV K mg μ H d v) : ∀ {fs : List (Nat × D)} {gs : List (Str × V)}, FsV K mg μ H fs gs → FsV K mg μ H (fput fs m d) (putF y v gs)
  | [], _, h => by rw [show _ = [] from h]; exact ⟨y, v, [], rfl, hy, q, rfl⟩
  | (n, d') :: r, _, h => by
    obtain ⟨x, v', t, rfl, tx, q', h'⟩ := h
    rw [fput, beq_txt tx hy]
    by_cases e : x = y
    · subst e
      rw [if_pos (by simp)]
      have : putF x v ((x, v') :: t) = (x, v) :: t := by show (if x = x then _ else _) = _; rw [if_pos rfl]
      rw [this]
      exact ⟨x, v, t, rfl, tx, q, h'⟩
    · rw [if_neg (by simpa using e)]
      have : putF y v ((x, v') :: t) = (x, v') :: putF y v t := by show (if x = y then _ else _) = _; rw [if_neg e]
      rw [this]
      exact ⟨x, v', _, rfl, tx, q', FsV.put hy q h'⟩
theorem FsV.length : ∀ {fs : List (Nat × D)} {gs : List (Str × V)}, FsV K mg μ H fs gs → gs.length = fs.length
  | [], _, h => by rw [show _ = [] from h]; rfl
  | (n, d) :: r, _, h => by
    obtain ⟨x, v, t, rfl, tx, q, h'⟩ := h
    simp [FsV.length h']
end
/-- what is known of the class with the number c: it is plain, and the names in fs are no attributes of it -/
def ClsOk (X : Cx) (c : Nat) (f : Nat) : Prop := ∃ x C y, TxtN c x ∧ X.mg x = some (.ref C) ∧ Cls X.K C ∧ TxtN f y ∧ NoAttr X.K C y
def attrD (h : AH) (f : Nat) (ok : Nat → Nat → Bool) : D → Option D
  | .ref l => match h[l]? with
    | some (.ins c fs) => if ok c f then fget fs f else none
    | _ => none
  | _ => none
def mAttr (ok : Nat → Nat → Bool) (f : Nat) (m : ME) : ME := fun σ h => bnd (m σ h) fun x h1 => (attrD h1 f ok x).map fun d => .ok d h1
theorem se_attr {e : Expr} {m : ME} {f : Nat} {y : Str} {ok : Nat → Nat → Bool} {pos : Pos} (hy : TxtN f y) (hok : ∀ c g, ok c g = true → ClsOk X c g) (he : SE X e m) (hb : attributeBase e y X.env (eval e X.env) = eval e X.env) : SE X (.Attribute e y pos) (mAttr ok f m) := by
  intro W pins σA h σ H μ s r A e1
  refine attr_of hb (he.seq A e1 fun dx h1 x u H1 μ1 s1 A1 p k rx qx e2 => ?_)
  obtain ⟨d, ed, er⟩ := Option.map_eq_some_iff.mp e2
  subst er
  unfold attrD at ed
  split at ed
  · rename_i l
    split at ed
    · rename_i c fs el
      split at ed
      · rename_i hc
        obtain ⟨a, e3, rfl⟩ := qx
        obtain rfl : u = .ref a := rx
        obtain ⟨x, C, dx, gs, t1, g1, hH, fv⟩ := A1.lk.at el e3
        obtain ⟨x', C', y', t2, g2, cl, t3, na⟩ := hok c f hc
        obtain rfl := t1.inj t2
        rw [g1] at g2; cases g2
        obtain rfl := hy.inj t3
        rcases fv.get hy with ⟨h1', _⟩ | ⟨d', v', h1', h2', q'⟩
        · rw [ed] at h1'; cases h1'
        · rw [ed] at h1'; cases h1'
          exact getattr_ok A1.inv hH cl na h2' fun u' s' I' r' => (A1.same I').fin p k r' q'
      · cases ed
    · cases ed
  · cases ed
end
end G47
namespace G47
open PySem L2 PyProof.Rows
/-! ### calls of what is built in -/
def CallS (X : Cx) (f : Value) (g : AH → List D → Option (D × AH)) : Prop :=
  ∀ pins σ H μ h s xs us ds d h', Inv X pins σ H s → Lk X μ H h → Vals xs us → DVs X.K X.mg μ H ds xs → g h ds = some (d, h') →
    wpAny (model X.prog X.w) X.A (call f us) (PostE X pins σ μ H (.ok d h')) X.xe s
theorem CallS.of {X : Cx} {f : Value} {g : AH → List D → Option (D × AH)} {r : List V → Hp → VK → Prop} (o : CallR X f r)
    (hr : ∀ H μ h xs ds d h', Lk X μ H h → DVs X.K X.mg μ H ds xs → g h ds = some (d, h') → r xs H (QE X μ H d h')) : CallS X f g :=
  fun pins σ H μ h s xs us ds d h' I L rv q e => thn (o pins s σ H xs us _ I rv (hr H μ h xs ds d h' L q e)) fun _ _ z => QE.post z
theorem CallS.or {X : Cx} {f : Value} {g g' k : AH → List D → Option (D × AH)} (o : CallS X f g) (o' : CallS X f g') (hk : ∀ h ds z, k h ds = some z → g h ds = some z ∨ g' h ds = some z) : CallS X f k :=
  fun pins σ H μ h s xs us ds d h' I L rv q e => (hk h ds _ e).elim (o pins σ H μ h s xs us ds d h' I L rv q) (o' pins σ H μ h s xs us ds d h' I L rv q)
theorem DVs.one_inv {K : PySem.W.Frag} {mg : Str → Option Value} {μ : List Addr} {H : Hp} {d : D} {vs : List V} (q : DVs K mg μ H [d] vs) : ∃ v, vs = [v] ∧ DV K mg μ H d v := by
  obtain ⟨v, r, rfl, q1, q2⟩ := q
  exact ⟨v, by rw [show r = [] from q2], q1⟩
theorem DVs.two_inv {K : PySem.W.Frag} {mg : Str → Option Value} {μ : List Addr} {H : Hp} {d e : D} {vs : List V} (q : DVs K mg μ H [d, e] vs) : ∃ v w, vs = [v, w] ∧ DV K mg μ H d v ∧ DV K mg μ H e w := by
  obtain ⟨v, r, rfl, q1, q2⟩ := q
  obtain ⟨w, rfl, q3⟩ := DVs.one_inv q2
  exact ⟨v, w, rfl, q1, q3⟩
section
variable {X : Cx}
def mCall (g : AH → List D → Option (D × AH)) (m : MA) : ME := fun σ h => bnd (m σ h) fun ds h1 => (g h1 ds).map fun z => .ok z.1 z.2
theorem se_callB {x : Str} {id : String} {e : Expr} {es : List Expr} {g : AH → List D → Option (D × AH)} {m : MA} {p pos : Pos} (hc : CallS X (.builtin id) g) (hg : Gl X x) (hm : X.mg x = none) (hv : bootBuiltins x = some (.builtin id)) (ha : SA X (e :: es) m)
    (hn : x ≠ "__name__") (hdb : (x == ("__debug__" : Str)) = false) (he : starEach (e :: es) X.env = (false, eval e X.env) :: starEach es X.env) (hpl : (backTo pos (starEach es X.env)).any (·.1) = false) : SE X (.Call (.Name x p) (e :: es) [] pos) (mCall g m) := by
  intro W pins σA h σ H μ s r A e1
  refine wpAny_Call_Name_kw (ld_blt A.inv hg hm hv ?_ hn hdb)
  refine PyProof.Rows.callWith_builtin1 (ha.seq A e1 fun ds h1 vs us H1 μ1 s1 A1 p1 k1 rv q e2 => ?_) he hpl
  obtain ⟨d, h', ed, rfl⟩ := some_map e2
  exact thn (hc pins σ H1 μ1 h1 s1 vs us ds d h' A1.inv A1.lk rv q ed) fun _ _ P => P.lift p1 k1
theorem se_callTy {x : Str} {T : String} {e : Expr} {es : List Expr} {g : AH → List D → Option (D × AH)} {m : MA} {p pos : Pos} (hc : CallS X (.type T) g) (hg : Gl X x) (hm : X.mg x = none) (hv : bootBuiltins x = some (.type T)) (ha : SA X (e :: es) m)
    (hn : x ≠ "__name__") (hdb : (x == ("__debug__" : Str)) = false) (he : starEach (e :: es) X.env = (false, eval e X.env) :: starEach es X.env) (hpl : (backTo pos (starEach es X.env)).any (·.1) = false) : SE X (.Call (.Name x p) (e :: es) [] pos) (mCall g m) := by
  intro W pins σA h σ H μ s r A e1
  refine wpAny_Call_Name_kw (ld_blt A.inv hg hm hv ?_ hn hdb)
  refine PyProof.Rows.callWith_type1 (ha.seq A e1 fun ds h1 vs us H1 μ1 s1 A1 p1 k1 rv q e2 => ?_) he hpl
  obtain ⟨d, h', ed, rfl⟩ := some_map e2
  exact thn (hc pins σ H1 μ1 h1 s1 vs us ds d h' A1.inv A1.lk rv q ed) fun _ _ P => P.lift p1 k1
/-- a built-in type as a value -/
theorem se_ty {x : Str} {n : Nat} {T : String} {pos : Pos} (t : TxtN n x) (hg : Gl X x) (hm : X.mg x = none) (hv : bootBuiltins x = some (.type T)) (hn : x ≠ "__name__") (hdb : (x == ("__debug__" : Str)) = false) : SE X (.Name x pos) (mC (.gl n)) :=
  se_pe (pe_bltn (v := .ty T) hg hm hv rfl hn hdb) fun _ _ => ⟨x, t, .inr ⟨hm, T, hv, rfl⟩⟩
/-- a def, a class as a value -/
theorem se_own {x : Str} {n : Nat} {a : Addr} {pos : Pos} (t : TxtN n x) (hg : Gl X x) (hm : X.mg x = some (.ref a)) (hdb : (x == ("__debug__" : Str)) = false) : SE X (.Name x pos) (mC (.gl n)) :=
  se_pe (pe_glob (v := .ref a) hg hm rfl hdb) fun _ _ => ⟨x, t, .inl ⟨a, hm, rfl⟩⟩
/-! ### len, list, tuple, int, abs, sum, max, min, any, all, sorted -/
def lenD (h : AH) : List D → Option (D × AH)
  | [.tup ds] => some (.int ds.length, h)
  | [.ref l] => match h[l]? with
    | some (.lst _ ds) => some (.int ds.length, h)
    | some (.dct _ kvs) => some (.int kvs.length, h)
    | _ => none
  | _ => none
theorem cs_len : CallS X (.builtin "len") lenD := by
  intro pins σ H μ h s xs us ds d h' I L rv q e
  unfold lenD at e
  split at e
  · rename_i ds'
    cases e
    obtain ⟨v, rfl, a, vs, rfl, t, qs⟩ := DVs.one_inv q
    refine thn (call_len_seq pins s σ H _ us (QE X μ H _ h) I rv ⟨a, vs, rfl, .inr t.sq, ?_⟩) fun _ _ z => QE.post z
    rw [qs.length]; exact QE.same L rfl
  · rename_i l
    split at e
    · rename_i lk ds' el
      cases e
      obtain ⟨v, rfl, q1⟩ := DVs.one_inv q
      obtain ⟨a, vs, rfl, _, _, hs, qs⟩ := lst_at L el q1
      refine thn (call_len_seq pins s σ H _ us (QE X μ H _ h) I rv ⟨a, vs, rfl, .inl hs, ?_⟩) fun _ _ z => QE.post z
      rw [qs.length]; exact QE.same L rfl
    · rename_i lk kvs el
      cases e
      obtain ⟨v, rfl, q1⟩ := DVs.one_inv q
      obtain ⟨a, u, rfl, e1, rd, _, dl, hn⟩ := dct_rd L el q1
      rw [Vals.ref1 rv]
      rcases dl with ⟨sk, ks, rfl, kss⟩ | ⟨tk, es, rfl, kvs'⟩
      · refine d_len I rd fun t s' I' => ?_
        rw [kss.length]
        exact ⟨.int kvs.length, h, .int kvs.length, H, μ, rfl, I', ⟨t, rfl⟩, List.prefix_refl _, Keeps.refl _, L, rfl⟩
      · simp only [tupK, Bool.and_eq_true] at tk
        obtain ⟨xs, x1, x2, x4, x3⟩ := keyed_of I rd kvs' tk.2 hn
        have hl : xs.length = kvs.length := by rw [← Paired.length x1, kvs'.length]
        have hz : xs.length ≤ sizeLine := by rw [← Paired.length x1]; exact x4
        refine PyProof.Rows.call_len_slot (n := (xs.length : Int)) x2.typeIs PySem.F.slot_dict_len (fun Q' hq => len_keyed (knd := nestedKind X.prog X.w) (kvs := pairsH xs) x3 ⟨xs, x2, rfl⟩ (by rw [pairsH_length]; exact hq)) (by omega) (by rw [sizeLine_eq] at hz; omega) ?_
        rw [hl]
        exact ⟨.int kvs.length, h, .int kvs.length, H, μ, rfl, I.tok _, ⟨_, rfl⟩, List.prefix_refl _, Keeps.refl _, L, rfl⟩
    · cases e
  · cases e
def listD (h : AH) : List D → Option (D × AH)
  | [x] => (seqOf h x).map fun ds => (.ref h.length, h ++ [.lst false ds])
  | _ => none
theorem cs_list : CallS X (.type "list") listD := CallS.of call_list_of fun H μ h xs ds d h' L q e => by
  unfold listD at e
  split at e
  · obtain ⟨es, e1, e2⟩ := Option.map_eq_some_iff.mp e
    cases e2
    obtain ⟨v, rfl, q1⟩ := DVs.one_inv q
    obtain ⟨a, vs, rfl, hs, qs⟩ := seqOf_sq L q1 e1
    exact ⟨a, vs, rfl, hs, fun p hp => QE.lst L qs hp⟩
  · cases e
def tupleD (h : AH) : List D → Option (D × AH)
  | [x] => (seqOf h x).map fun ds => (.tup ds, h)
  | _ => none
theorem cs_tuple : CallS X (.type "tuple") tupleD := CallS.of call_tuple_of fun H μ h xs ds d h' L q e => by
  unfold tupleD at e
  split at e
  · rename_i x
    obtain ⟨es, e1, e2⟩ := Option.map_eq_some_iff.mp e
    cases e2
    obtain ⟨v, rfl, q1⟩ := DVs.one_inv q
    unfold seqOf at e1
    split at e1
    · cases e1
      obtain ⟨a, vs, rfl, t, qs⟩ := q1
      exact ⟨a, vs, rfl, .inr ⟨t.sq, QE.same L ⟨a, vs, rfl, t, qs⟩⟩⟩
    · split at e1
      · rename_i l lk es' el
        cases e1
        obtain ⟨a, vs, rfl, _, _, hs, qs⟩ := lst_at L el q1
        exact ⟨a, vs, rfl, .inl ⟨hs, fun p hp => QE.tup L qs hp⟩⟩
      · cases e1
    · cases e1
  · cases e
def intD (h : AH) : List D → Option (D × AH)
  | [.int i] => some (.int i, h)
  | [.bl b] => some (.int (if b then 1 else 0), h)
  | _ => none
theorem cs_int : CallS X (.type "int") intD := CallS.of call_int1 fun H μ h xs ds d h' L q e => by
  unfold intD at e
  split at e
  · cases e
    obtain ⟨v, rfl, q1⟩ := DVs.one_inv q
    cases q1
    exact .inl ⟨_, rfl, QE.same L rfl⟩
  · rename_i b
    cases e
    obtain ⟨v, rfl, q1⟩ := DVs.one_inv q
    cases q1
    exact .inr ⟨b, rfl, QE.same L (by cases b <;> rfl)⟩
  · cases e
def absD (h : AH) : List D → Option (D × AH)
  | [.int i] => some (.int (if i < 0 then -i else i), h)
  | _ => none
theorem cs_abs : CallS X (.builtin "abs") absD := CallS.of call_abs fun H μ h xs ds d h' L q e => by
  unfold absD at e
  split at e
  · cases e
    obtain ⟨v, rfl, q1⟩ := DVs.one_inv q
    cases q1
    exact ⟨_, rfl, QE.same L rfl⟩
  · cases e
/-- a list of ints, of bools -/
def intsOf : List D → Option (List Int)
  | [] => some []
  | .int i :: r => (intsOf r).map (i :: ·)
  | _ => none
theorem intsOf_eq : ∀ {ds : List D} {ns : List Int}, intsOf ds = some ns → ds = ns.map D.int
  | [], ns, e => by cases e; rfl
  | .int i :: r, ns, e => by
    obtain ⟨ms, e1, rfl⟩ := Option.map_eq_some_iff.mp (show (intsOf r).map (i :: ·) = some ns from e)
    rw [List.map_cons, ← intsOf_eq e1]
  | .non :: _, _, e => by cases e
  | .bl _ :: _, _, e => by cases e
  | .str _ :: _, _, e => by cases e
  | .tup _ :: _, _, e => by cases e
  | .ref _ :: _, _, e => by cases e
  | .gl _ :: _, _, e => by cases e
theorem DVs.ints {μ : List Addr} {H : Hp} : ∀ {ns : List Int} {vs : List V}, DVs X.K X.mg μ H (ns.map D.int) vs → vs = ns.map V.int
  | [], vs, q => q
  | n :: ns, vs, q => by
    obtain ⟨v, r, rfl, q1, q2⟩ := q
    cases q1
    rw [DVs.ints (ns := ns) q2]; rfl
theorem DVs.of_ints {μ : List Addr} {H : Hp} : ∀ (ns : List Int), DVs X.K X.mg μ H (ns.map D.int) (ns.map V.int)
  | [] => rfl
  | n :: ns => ⟨_, _, rfl, rfl, DVs.of_ints ns⟩
def bolsOf : List D → Option (List Bool)
  | [] => some []
  | .bl i :: r => (bolsOf r).map (i :: ·)
  | _ => none
theorem bolsOf_eq : ∀ {ds : List D} {ns : List Bool}, bolsOf ds = some ns → ds = ns.map D.bl
  | [], ns, e => by cases e; rfl
  | .bl i :: r, ns, e => by
    obtain ⟨ms, e1, rfl⟩ := Option.map_eq_some_iff.mp (show (bolsOf r).map (i :: ·) = some ns from e)
    rw [List.map_cons, ← bolsOf_eq e1]
  | .non :: _, _, e => by cases e
  | .int _ :: _, _, e => by cases e
  | .str _ :: _, _, e => by cases e
  | .tup _ :: _, _, e => by cases e
  | .ref _ :: _, _, e => by cases e
  | .gl _ :: _, _, e => by cases e
theorem DVs.bols {μ : List Addr} {H : Hp} : ∀ {ns : List Bool} {vs : List V}, DVs X.K X.mg μ H (ns.map D.bl) vs → vs = ns.map V.bl
  | [], vs, q => q
  | n :: ns, vs, q => by
    obtain ⟨v, r, rfl, q1, q2⟩ := q
    cases q1
    rw [DVs.bols (ns := ns) q2]; rfl
/-- one list -/
def lst1 (h : AH) : List D → Option (List D)
  | [.ref l] => match h[l]? with
    | some (.lst _ ds) => some ds
    | _ => none
  | _ => none
theorem lst1_sq {μ : List Addr} {H : Hp} {h : AH} {xs : List V} {ds es : List D} (L : Lk X μ H h) (q : DVs X.K X.mg μ H ds xs) (e : lst1 h ds = some es) : ∃ a vs, xs = [.ref a] ∧ SqL X.K H a vs ∧ DVs X.K X.mg μ H es vs := by
  unfold lst1 at e
  split at e
  · split at e
    · rename_i l lk es' el
      cases e
      obtain ⟨v, rfl, q1⟩ := DVs.one_inv q
      obtain ⟨a, vs, rfl, _, _, hs, qs⟩ := lst_at L el q1
      exact ⟨a, vs, rfl, hs, qs⟩
    · cases e
  · cases e
def sumD (h : AH) (ds : List D) : Option (D × AH) := ((lst1 h ds).bind intsOf).map fun ns => (.int ns.sum, h)
theorem cs_sum (hc : X.calm = true) : CallS X (.builtin "sum") sumD := CallS.of (cr_sum hc) fun H μ h xs ds d h' L q e => by
  obtain ⟨ns, e1, e2⟩ := Option.map_eq_some_iff.mp e
  cases e2
  obtain ⟨es, e3, e4⟩ := Option.bind_eq_some_iff.mp e1
  obtain ⟨a, vs, rfl, hs, qs⟩ := lst1_sq L q e3
  rw [intsOf_eq e4] at qs
  rw [DVs.ints qs] at hs
  exact ⟨a, ns, rfl, hs, QE.same L rfl⟩
def anyD (h : AH) (ds : List D) : Option (D × AH) := ((lst1 h ds).bind bolsOf).map fun bs => (.bl (bs.any id), h)
def allD (h : AH) (ds : List D) : Option (D × AH) := ((lst1 h ds).bind bolsOf).map fun bs => (.bl (bs.all id), h)
/-- the greatest, the least of ints -/
def maxI : List Int → Int
  | [] => 0
  | [a] => a
  | a :: r => if a < maxI r then maxI r else a
def minI : List Int → Int
  | [] => 0
  | [a] => a
  | a :: r => if minI r < a then minI r else a
theorem maxI_spec : ∀ {ns : List Int}, ns ≠ [] → maxI ns ∈ ns ∧ ∀ y ∈ ns, y ≤ maxI ns
  | [], h => absurd rfl h
  | [a], _ => by simp [maxI]
  | a :: b :: r, _ => by
    have ih := maxI_spec (ns := b :: r) (by simp)
    simp only [maxI]
    split
    · refine ⟨List.mem_cons_of_mem _ ih.1, fun y hy => ?_⟩
      rcases List.mem_cons.mp hy with rfl | hy
      · omega
      · exact ih.2 y hy
    · refine ⟨List.mem_cons_self, fun y hy => ?_⟩
      rcases List.mem_cons.mp hy with rfl | hy
      · exact Int.le_refl _
      · have := ih.2 y hy; omega
theorem minI_spec : ∀ {ns : List Int}, ns ≠ [] → minI ns ∈ ns ∧ ∀ y ∈ ns, minI ns ≤ y
  | [], h => absurd rfl h
  | [a], _ => by simp [minI]
  | a :: b :: r, _ => by
    have ih := minI_spec (ns := b :: r) (by simp)
    simp only [minI]
    split
    · refine ⟨List.mem_cons_of_mem _ ih.1, fun y hy => ?_⟩
      rcases List.mem_cons.mp hy with rfl | hy
      · omega
      · exact ih.2 y hy
    · refine ⟨List.mem_cons_self, fun y hy => ?_⟩
      rcases List.mem_cons.mp hy with rfl | hy
      · exact Int.le_refl _
      · have := ih.2 y hy; omega
def maxD (h : AH) : List D → Option (D × AH)
  | [.int i, .int j] => some (.int (if j > i then j else i), h)
  | ds => ((lst1 h ds).bind intsOf).bind fun ns => if ns.isEmpty then none else some (.int (maxI ns), h)
def minD (h : AH) : List D → Option (D × AH)
  | [.int i, .int j] => some (.int (if j < i then j else i), h)
  | ds => ((lst1 h ds).bind intsOf).bind fun ns => if ns.isEmpty then none else some (.int (minI ns), h)
theorem cs_max (hc : X.calm = true) : CallS X (.builtin "max") maxD := by
  refine CallS.or (g := fun h ds => match ds with | [.int i, .int j] => some (.int (if j > i then j else i), h) | _ => none)
    (g' := fun h ds => ((lst1 h ds).bind intsOf).bind fun ns => if ns.isEmpty then none else some (.int (maxI ns), h))
    (CallS.of (call_max2 hc) fun H μ h xs ds d h' L q e => ?_) (CallS.of (cr_max hc) fun H μ h xs ds d h' L q e => ?_) fun h ds z e => ?_
  · split at e
    · cases e
      obtain ⟨v, w, rfl, q1, q2⟩ := DVs.two_inv q
      cases q1; cases q2
      exact ⟨_, _, rfl, QE.same L rfl⟩
    · cases e
  · obtain ⟨ns, e1, e2⟩ := Option.bind_eq_some_iff.mp e
    obtain ⟨es, e3, e4⟩ := Option.bind_eq_some_iff.mp e1
    split at e2
    · cases e2
    · rename_i hne
      cases e2
      obtain ⟨a, vs, rfl, hs, qs⟩ := lst1_sq L q e3
      rw [intsOf_eq e4] at qs
      rw [DVs.ints qs] at hs
      have hn : ns ≠ [] := fun z => by subst z; simp at hne
      refine ⟨a, ns, rfl, hs, List.length_pos_iff.mpr hn, fun m hm hle => ?_⟩
      have sp := maxI_spec hn
      have : m = maxI ns := Int.le_antisymm (sp.2 m hm) (hle _ sp.1)
      subst this
      exact QE.same L rfl
  · unfold maxD at e
    split at e
    · exact .inl e
    · exact .inr e
theorem cs_min (hc : X.calm = true) : CallS X (.builtin "min") minD := by
  refine CallS.or (g := fun h ds => match ds with | [.int i, .int j] => some (.int (if j < i then j else i), h) | _ => none)
    (g' := fun h ds => ((lst1 h ds).bind intsOf).bind fun ns => if ns.isEmpty then none else some (.int (minI ns), h))
    (CallS.of (call_min2 hc) fun H μ h xs ds d h' L q e => ?_) (CallS.of (cr_min hc) fun H μ h xs ds d h' L q e => ?_) fun h ds z e => ?_
  · split at e
    · cases e
      obtain ⟨v, w, rfl, q1, q2⟩ := DVs.two_inv q
      cases q1; cases q2
      exact ⟨_, _, rfl, QE.same L rfl⟩
    · cases e
  · obtain ⟨ns, e1, e2⟩ := Option.bind_eq_some_iff.mp e
    obtain ⟨es, e3, e4⟩ := Option.bind_eq_some_iff.mp e1
    split at e2
    · cases e2
    · rename_i hne
      cases e2
      obtain ⟨a, vs, rfl, hs, qs⟩ := lst1_sq L q e3
      rw [intsOf_eq e4] at qs
      rw [DVs.ints qs] at hs
      have hn : ns ≠ [] := fun z => by subst z; simp at hne
      refine ⟨a, ns, rfl, hs, List.length_pos_iff.mpr hn, fun m hm hle => ?_⟩
      have sp := minI_spec hn
      have : m = minI ns := Int.le_antisymm (hle _ sp.1) (sp.2 m hm)
      subst this
      exact QE.same L rfl
  · unfold minD at e
    split at e
    · exact .inl e
    · exact .inr e
theorem cs_any (hc : X.calm = true) : CallS X (.builtin "any") anyD := CallS.of (cr_any hc) fun H μ h xs ds d h' L q e => by
  obtain ⟨ns, e1, e2⟩ := Option.map_eq_some_iff.mp e
  cases e2
  obtain ⟨es, e3, e4⟩ := Option.bind_eq_some_iff.mp e1
  obtain ⟨a, vs, rfl, hs, qs⟩ := lst1_sq L q e3
  rw [bolsOf_eq e4] at qs
  rw [DVs.bols qs] at hs
  exact ⟨a, ns, rfl, hs, QE.same L rfl⟩
theorem cs_all (hc : X.calm = true) : CallS X (.builtin "all") allD := CallS.of (cr_all hc) fun H μ h xs ds d h' L q e => by
  obtain ⟨ns, e1, e2⟩ := Option.map_eq_some_iff.mp e
  cases e2
  obtain ⟨es, e3, e4⟩ := Option.bind_eq_some_iff.mp e1
  obtain ⟨a, vs, rfl, hs, qs⟩ := lst1_sq L q e3
  rw [bolsOf_eq e4] at qs
  rw [DVs.bols qs] at hs
  exact ⟨a, ns, rfl, hs, QE.same L rfl⟩
end
end G47
namespace G47
open PySem L2 PyProof.Rows
/-! ### sorted -/
def ins1 (x : Int) : List Int → List Int
  | [] => [x]
  | y :: r => if x ≤ y then x :: y :: r else y :: ins1 x r
def isort : List Int → List Int
  | [] => []
  | x :: r => ins1 x (isort r)
theorem ins1_perm (x : Int) : ∀ l : List Int, (ins1 x l).Perm (x :: l)
  | [] => .refl _
  | y :: r => by
    unfold ins1
    split
    · exact .refl _
    · exact ((ins1_perm x r).cons y).trans (.swap x y r)
theorem isort_perm : ∀ l : List Int, (isort l).Perm l
  | [] => .refl _
  | x :: r => (ins1_perm x (isort r)).trans ((isort_perm r).cons x)
theorem ins1_sorted (x : Int) : ∀ {l : List Int}, l.Pairwise (· ≤ ·) → (ins1 x l).Pairwise (· ≤ ·)
  | [], _ => by simp [ins1]
  | y :: r, h => by
    rw [List.pairwise_cons] at h
    unfold ins1
    split
    · rename_i hxy
      rw [List.pairwise_cons, List.pairwise_cons]
      refine ⟨fun z hz => ?_, h⟩
      rcases List.mem_cons.mp hz with rfl | hz
      · exact hxy
      · exact Int.le_trans hxy (h.1 z hz)
    · rename_i hxy
      rw [List.pairwise_cons]
      refine ⟨fun z hz => ?_, ins1_sorted x h.2⟩
      rcases List.mem_cons.mp ((ins1_perm x r).mem_iff.mp hz) with rfl | hz
      · omega
      · exact h.1 z hz
theorem isort_sorted : ∀ l : List Int, (isort l).Pairwise (· ≤ ·)
  | [] => by simp [isort]
  | x :: r => ins1_sorted x (isort_sorted r)
theorem sorted_unique : ∀ {a b : List Int}, a.Perm b → a.Pairwise (· ≤ ·) → b.Pairwise (· ≤ ·) → a = b
  | [], b, p, _, _ => by rw [List.Perm.nil_eq p]
  | x :: a, [], p, _, _ => by have := p.length_eq; simp at this
  | x :: a, y :: b, p, ha, hb => by
    rw [List.pairwise_cons] at ha hb
    have e : x = y := by
      have h1 : x ∈ y :: b := p.mem_iff.mp List.mem_cons_self
      have h2 : y ∈ x :: a := p.mem_iff.mpr List.mem_cons_self
      rcases List.mem_cons.mp h1 with z | z
      · exact z
      · rcases List.mem_cons.mp h2 with w | w
        · exact w.symm
        · have := hb.1 x z
          have := ha.1 y w
          omega
    subst e
    rw [sorted_unique (List.Perm.cons_inv p) ha.2 hb.2]
section
variable {X : Cx}
/-- sorted of a list of ints; of a dict with int keys, fewer than 64 -/
def sortedD (h : AH) : List D → Option (D × AH)
  | [.ref l] => match h[l]? with
    | some (.lst _ ds) => (intsOf ds).map fun ns => (.ref h.length, h ++ [.lst false ((isort ns).map D.int)])
    | some (.dct _ kvs) => (intsOf (kvs.map (·.1))).bind fun ns => if Nat.blt ns.length 64 then some (.ref h.length, h ++ [.lst false ((isort ns).map D.int)]) else none
    | _ => none
  | _ => none
theorem KSs.ints {K : PySem.W.Frag} {mg : Str → Option Value} {μ : List Addr} {H : Hp} : ∀ {kvs : List (D × D)} {ks : List (Key × V)} {ns : List Int}, KSs K mg μ H kvs ks → kvs.map (·.1) = ns.map D.int → ks.map (·.1) = ns.map Sum.inl
  | [], _, ns, h, e => by
    rw [show _ = [] from h]
    cases ns with
    | nil => rfl
    | cons _ _ => cases e
  | (k, v) :: r, _, ns, h, e => by
    obtain ⟨nk, vv, t, rfl, h1, h2, h3⟩ := h
    cases ns with
    | nil => cases e
    | cons n ns =>
      simp only [List.map_cons, List.cons.injEq] at e ⊢
      obtain ⟨e1, e2⟩ := e
      subst e1
      exact ⟨h1, KSs.ints h3 e2⟩
theorem scalK_of_ints {kvs : List (D × D)} {ns : List Int} (e : kvs.map (·.1) = ns.map D.int) : (kvs.all fun p => tup1 p.1) = true → kvs = [] := fun h => by
  cases kvs with
  | nil => rfl
  | cons p r =>
    cases ns with
    | nil => cases e
    | cons n ns =>
      simp only [List.map_cons, List.cons.injEq] at e
      simp only [List.all_cons, Bool.and_eq_true] at h
      rw [e.1] at h
      cases h.1
theorem cs_sorted (hc : X.calm = true) : CallS X (.builtin "sorted") sortedD := by
  intro pins σ H μ h s xs us ds d h' I L rv q e
  unfold sortedD at e
  split at e
  · rename_i l
    split at e
    · rename_i lk es el
      obtain ⟨ns, e1, e2⟩ := Option.map_eq_some_iff.mp e
      cases e2
      obtain ⟨v, rfl, q1⟩ := DVs.one_inv q
      obtain ⟨a, vs, rfl, _, _, hs, qs⟩ := lst_at L el q1
      rw [intsOf_eq e1] at qs
      rw [DVs.ints qs] at hs
      refine thn (cr_sortedI pins s σ H _ us (QE X μ H _ _) I rv ⟨a, ns, rfl, hs, fun ns' p hp hr hn => ?_⟩) fun _ _ z => QE.post z
      have : ns' = isort ns := sorted_unique (hp.trans (isort_perm ns).symm) hr (isort_sorted ns)
      subst this
      exact QE.lst L (DVs.of_ints _) hn
    · rename_i lk kvs el
      obtain ⟨ns, e1, e2⟩ := Option.bind_eq_some_iff.mp e
      split at e2
      · rename_i h64
        cases e2
        obtain ⟨v, rfl, q1⟩ := DVs.one_inv q
        obtain ⟨a, u, rfl, e3, rd, _, dl, hn⟩ := dct_rd L el q1
        have hk := intsOf_eq e1
        rcases dl with ⟨sk, ks, rfl, kss⟩ | ⟨tk, es, rfl, kvs'⟩
        · refine thn (call_sortedDI hc pins s σ H _ us (QE X μ H _ _) I rv ⟨a, ks, ns, rfl, rd, kss.ints hk, Nat.blt_eq.mp h64, fun ns' p hp hr hn => ?_⟩) fun _ _ z => QE.post z
          have : ns' = isort ns := sorted_unique (hp.trans (isort_perm ns).symm) hr (isort_sorted ns)
          subst this
          exact QE.lst L (DVs.of_ints _) hn
        · exfalso
          simp only [tupK, Bool.and_eq_true] at tk
          have := scalK_of_ints hk tk.2
          subst this
          simp at tk
      · cases e2
    · cases e
  · cases e
/-! ### isinstance -/
/-- the type of a value: a built-in one by its name, an own one by its number -/
inductive BT where
  | non | bool | int | str | tuple | list | dict
def BT.nm : BT → String
  | .non => "NoneType"
  | .bool => "bool"
  | .int => "int"
  | .str => "str"
  | .tuple => "tuple"
  | .list => "list"
  | .dict => "dict"
inductive Tg where
  | bt (T : BT)
  | own (c : Nat)
def tag (h : AH) : D → Option Tg
  | .non => some (.bt .non)
  | .bl _ => some (.bt .bool)
  | .int _ => some (.bt .int)
  | .str _ => some (.bt .str)
  | .tup _ => some (.bt .tuple)
  | .ref l => match h[l]? with
    | some (.lst _ _) => some (.bt .list)
    | some (.dct _ _) => some (.bt .dict)
    | some (.ins c _) => some (.own c)
    | _ => none
  | .gl _ => none
def TgV (X : Cx) : Tg → Value → Prop
  | .bt T, v => v = .type T.nm
  | .own c, v => ∃ x C, TxtN c x ∧ X.mg x = some (.ref C) ∧ v = .ref C
/-- an own class whose instances may be asked for their class -/
def InsOk (X : Cx) (c : Nat) : Prop := ∃ x C, TxtN c x ∧ X.mg x = some (.ref C) ∧ Cls X.K C ∧ PySem.W.findIn X.K (.ref C) "__class__" = some (some (.builtin "object.__class__")) ∧
  PySem.W.specialIn X.K (.builtin "object.__class__") "__get__" = some (some (.builtin "getset_descriptor.__get__")) ∧ PySem.W.takesIn X.K (.builtin "object.__class__") = some true ∧ PySem.W.mroIn X.K C (.type "object") = some true
/-- what the written part tells of types -/
structure KitOk (X : Cx) (kit : Tg → Nat → Option Bool) : Prop where
  one : ∀ t n b v, kit t n = some b → TgV X t v → ∃ x w, TxtN n x ∧ ((∃ a, X.mg x = some (.ref a) ∧ w = .ref a) ∨ (X.mg x = none ∧ ∃ T, bootBuiltins x = some (.type T) ∧ w = .type T)) ∧ PySem.W.kitOne X.K v w = some b
  ins : ∀ c n b, kit (.own c) n = some b → InsOk X c
def isiAny (kit : Tg → Nat → Option Bool) (t : Tg) : List D → Option Bool
  | [] => some false
  | .gl n :: r => match kit t n with
    | some true => (isiAny kit t r).map fun _ => true
    | some false => isiAny kit t r
    | none => none
  | _ => none
def isiD (kit : Tg → Nat → Option Bool) (h : AH) : List D → Option (D × AH)
  | [x, .gl n] => ((tag h x).bind fun t => kit t n).map fun b => (.bl b, h)
  | [x, .tup (c :: cs)] => ((tag h x).bind fun t => isiAny kit t (c :: cs)).map fun b => (.bl b, h)
  | _ => none
theorem tag_kit {pins : List (Addr × Obj)} {σ : L2.St} {μ : List Addr} {H : Hp} {h : AH} {s : Shared} {d : D} {x : V} {u : Value} {t : Tg} (I : Inv X pins σ H s) (L : Lk X μ H h) (q : DV X.K X.mg μ H d x) (r : RelV x u) (e : tag h d = some t) (hi : ∀ c, t = .own c → InsOk X c) :
    ∃ v, TgV X t v ∧ ∃ P : Heap → Prop, PySem.W.KitX X.K u v P ∧ P s.heap ∧ u ≠ .builtin "__main__.__loader__#opaque" := by
  unfold tag at e
  split at e
  · cases e; cases q; cases r; exact ⟨_, rfl, _, PySem.W.kitx_none, True.intro, fun z => nomatch z⟩
  · cases e; cases q; cases r; exact ⟨_, rfl, _, PySem.W.kitx_bool, True.intro, fun z => nomatch z⟩
  · cases e; cases q; obtain ⟨t, rfl⟩ := r; exact ⟨_, rfl, _, PySem.W.kitx_int, True.intro, fun z => nomatch z⟩
  · cases e; obtain ⟨y, rfl, _⟩ := q; obtain ⟨t, rfl⟩ := r; exact ⟨_, rfl, _, PySem.W.kitx_str, True.intro, fun z => nomatch z⟩
  · cases e
    obtain ⟨a, vs, rfl, t, _⟩ := q
    cases r
    obtain ⟨its, rv, ⟨o, ho, hc, _⟩, _⟩ := I.tuple t.sq
    exact ⟨_, rfl, _, PySem.W.kitx_tuple, ⟨o, ho, hc⟩, fun z => nomatch z⟩
  · rename_i l
    split at e
    · rename_i lk ds el
      cases e
      obtain ⟨a, vs, rfl, _, _, hs, _⟩ := lst_at L el q
      cases r
      obtain ⟨its, rv, ⟨o, n, ho, hc, _⟩, _⟩ := I.list hs
      exact ⟨_, rfl, _, PySem.W.kitx_list, ⟨o, ho, hc⟩, fun z => nomatch z⟩
    · rename_i lk kvs el
      cases e
      obtain ⟨a, w, rfl, _, rd, _, dl, hn⟩ := dct_rd L el q
      cases r
      rcases dl with ⟨sk, ks, rfl, kss⟩ | ⟨tk, es, rfl, kvs'⟩
      · obtain ⟨_, _, vs, _, o, _, _, h1, h2, _⟩ := dk_rd I.hok rd
        exact ⟨_, rfl, _, PySem.W.kitx_dict, ⟨o, h1, h2.1⟩, fun z => nomatch z⟩
      · obtain ⟨⟨o, arr, ep, h1, h2, _⟩, _⟩ := rd.ok I.hok
        exact ⟨_, rfl, _, PySem.W.kitx_dict, ⟨o, h1, h2.1⟩, fun z => nomatch z⟩
    · rename_i c fs el
      cases e
      obtain ⟨a, e3, rfl⟩ := q
      obtain rfl : u = .ref a := r
      obtain ⟨x, C, dx, gs, t1, g1, hH, fv⟩ := L.at el e3
      obtain ⟨x', C', t2, g2, cl, ha, hn, htk, hm⟩ := hi c rfl
      obtain rfl := t1.inj t2
      rw [g1] at g2; cases g2
      obtain ⟨mA, O, _⟩ := ins_get I.hok hH
      obtain ⟨od, J, _⟩ := O.look
      exact ⟨.ref C, ⟨x, C, t1, g1, rfl⟩, _, PySem.W.kitx_own (cl.get _) cl.hd ha hn htk hm, J, fun z => nomatch z⟩
    · cases e
  · cases e
theorem gl_val {μ : List Addr} {H : Hp} {n : Nat} {v : V} {x : Str} {w u : Value} (q : DV X.K X.mg μ H (.gl n) v) (t : TxtN n x) (hw : (∃ a, X.mg x = some (.ref a) ∧ w = .ref a) ∨ (X.mg x = none ∧ ∃ T, bootBuiltins x = some (.type T) ∧ w = .type T)) (r : RelV v u) : u = w := by
  obtain ⟨y, t', z⟩ := q
  obtain rfl := t.inj t'
  rcases z with ⟨a, h1, rfl⟩ | ⟨h1, T, h2, rfl⟩
  · rcases hw with ⟨b, g1, rfl⟩ | ⟨g1, _⟩
    · rw [h1] at g1; cases g1; exact r
    · rw [h1] at g1; cases g1
  · rcases hw with ⟨b, g1, rfl⟩ | ⟨g1, T', g2, rfl⟩
    · rw [h1] at g1; cases g1
    · rw [h2] at g2; cases g2; exact r
theorem kitAny_of {kit : Tg → Nat → Option Bool} (ko : KitOk X kit) {t : Tg} {v : Value} (tv : TgV X t v) {μ : List Addr} {H : Hp} : ∀ {cs : List D} {vs : List V} {us : List Value} {b : Bool}, isiAny kit t cs = some b → DVs X.K X.mg μ H cs vs → Vals vs us → PySem.W.kitAny X.K v us = some b
  | [], vs, us, b, e, q, r => by
    cases e
    rw [show vs = [] from q] at r
    cases r
    exact kitAny_nil
  | .gl n :: cs, vs, us, b, e, q, r => by
    obtain ⟨v1, r1, rfl, q1, q2⟩ := q
    cases r with
    | cons r1 r2 =>
      unfold isiAny at e
      split at e
      · rename_i ek
        obtain ⟨b', e1, rfl⟩ := Option.map_eq_some_iff.mp e
        obtain ⟨x, w, tx, hw, hk⟩ := ko.one t n true v ek tv
        rw [gl_val q1 tx hw r1]
        exact kitAny_cons hk (fun z => by cases z) fun _ => rfl
      · rename_i ek
        obtain ⟨x, w, tx, hw, hk⟩ := ko.one t n false v ek tv
        rw [gl_val q1 tx hw r1]
        exact kitAny_cons hk (fun _ => kitAny_of ko tv e q2 r2) fun z => by cases z
      · cases e
  | .non :: _, _, _, _, e, _, _ => by cases e
  | .bl _ :: _, _, _, _, e, _, _ => by cases e
  | .int _ :: _, _, _, _, e, _, _ => by cases e
  | .str _ :: _, _, _, _, e, _, _ => by cases e
  | .tup _ :: _, _, _, _, e, _, _ => by cases e
  | .ref _ :: _, _, _, _, e, _, _ => by cases e
theorem cs_isi {kit : Tg → Nat → Option Bool} (ko : KitOk X kit) : CallS X (.builtin "isinstance") (isiD kit) := by
  intro pins σ H μ h s xs us ds d h' I L rv q e
  unfold isiD at e
  split at e
  · rename_i dx n
    obtain ⟨b, e1, e2⟩ := Option.map_eq_some_iff.mp e
    cases e2
    obtain ⟨t, e3, e4⟩ := Option.bind_eq_some_iff.mp e1
    obtain ⟨v, w, rfl, q1, q2⟩ := DVs.two_inv q
    obtain ⟨u1, u2, rfl, r1, r2⟩ := vals2 rv
    obtain ⟨tv, htv, P, Z, p, hx⟩ := tag_kit I L q1 r1 e3 fun c hc => ko.ins c n b (hc ▸ e4)
    obtain ⟨x, w', tx, hw, hk⟩ := ko.one t n b tv e4 htv
    rw [gl_val q2 tx hw r2]
    exact PySem.W.kia_one Z I.kIn p hk hx fun tk => ⟨.bl b, h, .bl b, H, μ, rfl, I.tok tk, rfl, List.prefix_refl _, Keeps.refl _, L, rfl⟩
  · rename_i dx y ys
    obtain ⟨b, e1, e2⟩ := Option.map_eq_some_iff.mp e
    cases e2
    obtain ⟨t, e3, e4⟩ := Option.bind_eq_some_iff.mp e1
    obtain ⟨v, w, rfl, q1, q2⟩ := DVs.two_inv q
    obtain ⟨u1, u2, rfl, r1, r2⟩ := vals2 rv
    obtain ⟨tv, htv, P, Z, p, hx⟩ := tag_kit I L q1 r1 e3 fun c hc => by
      subst hc
      cases y with
      | gl n =>
        unfold isiAny at e4
        split at e4
        · rename_i ek; exact ko.ins c n true ek
        · rename_i ek; exact ko.ins c n false ek
        · cases e4
      | _ => cases e4
    obtain ⟨a, vs, rfl, t', qs⟩ := q2
    obtain rfl : u2 = .ref a := r2
    obtain ⟨its, rv', ⟨o, ho, hc, n, hd⟩, _⟩ := I.tuple t'.sq
    have hk := kitAny_of ko htv e4 qs rv'
    obtain ⟨oc, od, dt, sl⟩ := o
    simp only at hc hd
    subst hc hd
    exact PySem.W.kia_tup Z I.kIn p ho hk hx fun tk => ⟨.bl b, h, .bl b, H, μ, rfl, I.tok tk, rfl, List.prefix_refl _, Keeps.refl _, L, rfl⟩
  · cases e
end
end G47
namespace G47
open PySem L2 PyProof.Rows
/-! ### methods of built-in types -/
/-- v.m(us) does what g does -/
def MtS (X : Cx) (id : String) (g : AH → D → List D → Option (D × AH)) : Prop :=
  ∀ pins σ H μ h s x xs v us dx ds d h', Inv X pins σ H s → Lk X μ H h → RelV x v → Vals xs us → DV X.K X.mg μ H dx x → DVs X.K X.mg μ H ds xs → g h dx ds = some (d, h') →
    wpAny (model X.prog X.w) X.A (call (.builtin id) (v :: us)) (PostE X pins σ μ H (.ok d h')) X.xe s
theorem MtS.of {X : Cx} {id : String} {g : AH → D → List D → Option (D × AH)} {r : V → List V → Hp → VK → Prop} (o : MtR X id r)
    (hr : ∀ H μ h x xs dx ds d h', Lk X μ H h → DV X.K X.mg μ H dx x → DVs X.K X.mg μ H ds xs → g h dx ds = some (d, h') → r x xs H (QE X μ H d h')) : MtS X id g :=
  fun pins σ H μ h s x xs v us dx ds d h' I L rx rv qx q e => thn (o pins s σ H x xs v us _ I rx rv (hr H μ h x xs dx ds d h' L qx q e)) fun _ _ z => QE.post z
theorem MtS.or {X : Cx} {id : String} {g g' k : AH → D → List D → Option (D × AH)} (o : MtS X id g) (o' : MtS X id g') (hk : ∀ h x ds z, k h x ds = some z → g h x ds = some z ∨ g' h x ds = some z) : MtS X id k :=
  fun pins σ H μ h s x xs v us dx ds d h' I L rx rv qx q e => (hk h dx ds _ e).elim (o pins σ H μ h s x xs v us dx ds d h' I L rx rv qx q) (o' pins σ H μ h s x xs v us dx ds d h' I L rx rv qx q)
/-- the receiver's type -/
inductive RT where
  | lst | dct | str
def recv (h : AH) : D → Option RT
  | .str _ => some .str
  | .ref l => match h[l]? with
    | some (.lst _ _) => some .lst
    | some (.dct _ _) => some .dct
    | _ => none
  | _ => none
def RT.nm : RT → String
  | .lst => "list"
  | .dct => "dict"
  | .str => "str"
section
variable {X : Cx}
theorem recv_is {pins : List (Addr × Obj)} {σ : L2.St} {μ : List Addr} {H : Hp} {h : AH} {s : Shared} {d : D} {x : V} {u : Value} {t : RT} (I : Inv X pins σ H s) (L : Lk X μ H h) (q : DV X.K X.mg μ H d x) (r : RelV x u) (e : recv h d = some t) :
    s.TypeIs u t.nm ∧ ∀ a, u = .ref a → ∃ ob, s.heap.get? a = some ob ∧ ob.dict = none := by
  unfold recv at e
  split at e
  · cases e
    obtain ⟨y, rfl, _⟩ := q
    obtain ⟨t, rfl⟩ := r
    exact ⟨typeIs_str s y t, fun _ z => nomatch z⟩
  · split at e
    · rename_i l lk ds el
      cases e
      obtain ⟨a, vs, rfl, _, _, hs, _⟩ := lst_at L el q
      cases r
      obtain ⟨its, rv, ⟨o, n, ho, hc, hd, _⟩, _⟩ := I.list hs
      exact ⟨⟨o, ho, hc⟩, fun b z => by cases z; exact ⟨o, ho, hd⟩⟩
    · rename_i l lk kvs el
      cases e
      obtain ⟨a, w, rfl, _, rd, _, dl, hn⟩ := dct_rd L el q
      cases r
      rcases dl with ⟨sk, ks, rfl, kss⟩ | ⟨tk, es, rfl, kvs'⟩
      · obtain ⟨_, _, vs, _, o, _, _, h1, h2, _⟩ := dk_rd I.hok rd
        exact ⟨⟨o, h1, h2.1⟩, fun b z => by cases z; exact ⟨o, h1, h2.2.1⟩⟩
      · obtain ⟨⟨o, arr, ep, h1, h2, _⟩, _⟩ := rd.ok I.hok
        exact ⟨⟨o, h1, h2.1⟩, fun b z => by cases z; exact ⟨o, h1, h2.2.1⟩⟩
    · cases e
  · cases e
/-- a method of a built-in type: what the receiver's type makes of it -/
structure MtE (X : Cx) (name : Str) (has : RT → Bool) (g : RT → AH → D → List D → Option (D × AH)) : Prop where
  ok : ∀ t, has t = true → ∃ id, PlainAttrs t.nm ∧ Slot t.nm name id ∧ typeOf (.builtin id) = pure (.type "method_descriptor") ∧ MtS X id (g t)
def mMeth (has : RT → Bool) (g : RT → AH → D → List D → Option (D × AH)) (o : ME) (m : MA) : ME := fun σ h => bnd (o σ h) fun x h1 => match recv h1 x with
  | some t => if has t then bnd (m σ h1) fun ds h2 => (g t h2 x ds).map fun z => .ok z.1 z.2 else none
  | none => none
theorem se_meth {o e : Expr} {es : List Expr} {name : Str} {has : RT → Bool} {g : RT → AH → D → List D → Option (D × AH)} {mo : ME} {ma : MA} {apos cpos : Pos} (hg : MtE X name has g) (ho : SE X o mo) (ha : SA X (e :: es) ma)
    (hbase : attributeBase o name X.env (eval o X.env) = eval o X.env)
    (hfew : ((backTo cpos (starEach (e :: es) X.env)).all (fun x => !x.1) && (backToKw cpos (keywordEach [] X.env)).all (fun x => x.1.isSome) && decide ((e :: es).length + ([] : List Keyword).length + (if ([] : List Keyword).isEmpty then 0 else 1) < 30)) = true)
    (hline : (apos.endLine == cpos.line) = true) (hs : starEach (e :: es) X.env = (false, eval e X.env) :: starEach es X.env) (hplain : (backTo cpos (starEach es X.env)).any (·.1) = false) :
    SE X (.Call (.Attribute o name apos) (e :: es) [] cpos) (mMeth has g mo ma) := by
  intro W pins σA h σ H μ s r A e1
  refine wpAny_Call_method_late hbase hfew hline rfl (ho.seq A e1 fun dx h1 x v H1 μ1 s1 A1 p1 k1 rx qx e2 => ?_)
  split at e2
  · rename_i t et
    split at e2
    · rename_i ht
      obtain ⟨h1', h2'⟩ := recv_is A1.inv A1.lk qx rx et
      obtain ⟨id, pa, slot, hty, hm⟩ := hg.ok t ht
      refine ⟨t.nm, id, pa, slot, hty, h1', h2', ?_⟩
      have hA := ha.seq (pos := cpos) (Q := fun us s' => wpAny (model X.prog X.w) X.A (call (.builtin id) ([v] ++ us) []) (PostE X pins σ μ H r) X.xe s') A1 e2 fun ds hh vs us H2 μ2 s2 A2 p2 k2 rv q2 eg => by
        obtain ⟨d, h', ed, rfl⟩ := some_map eg
        exact thn (hm pins σ H2 μ2 hh s2 x vs v us dx ds d h' A2.inv A2.lk rx rv (qx.keep p2 k2) q2 ed) fun _ _ P => P.lift (p1.trans p2) (k1.trans k2)
      rw [hs] at hA ⊢
      exact Calls.callWith_builtin (by show (false || (backTo cpos (starEach es X.env)).any (·.1)) = false; rw [hplain]; rfl) (Calls.evalArgs_plain hA)
    · cases e2
  · cases e2
theorem se_meth0 {o : Expr} {name : Str} {has : RT → Bool} {g : RT → AH → D → List D → Option (D × AH)} {mo : ME} {apos cpos : Pos} (hg : MtE X name has g) (ho : SE X o mo)
    (hbase : attributeBase o name X.env (eval o X.env) = eval o X.env) (hline : (apos.endLine == cpos.line) = true) : SE X (.Call (.Attribute o name apos) [] [] cpos) (mMeth has g mo mNil) := by
  intro W pins σA h σ H μ s r A e1
  refine wpAny_Call_method0_late hbase hline (ho.seq A e1 fun dx h1 x v H1 μ1 s1 A1 p1 k1 rx qx e2 => ?_)
  split at e2
  · rename_i t et
    split at e2
    · rename_i ht
      obtain ⟨h1', h2'⟩ := recv_is A1.inv A1.lk qx rx et
      obtain ⟨id, pa, slot, hty, hm⟩ := hg.ok t ht
      refine ⟨t.nm, id, pa, slot, hty, h1', h2', ?_⟩
      obtain ⟨d, h', ed, rfl⟩ := some_map (show ((g t h1 dx []).map fun z => Out.ok z.1 z.2) = some r from e2)
      refine Calls.callWith_builtin rfl (PySem.evalArgs_none ?_)
      exact thn (hm pins σ H1 μ1 h1 s1 x [] v [] dx [] d h' A1.inv A1.lk rx .nil qx rfl ed) fun _ _ P => P.lift p1 k1
    · cases e2
  · cases e2
/-! ### lists -/
/-- the list at l, which may be changed -/
def own (h : AH) : D → Option (Nat × List D)
  | .ref l => match h[l]? with
    | some (.lst false xs) => some (l, xs)
    | _ => none
  | _ => none
theorem own_at {μ : List Addr} {H : Hp} {h : AH} {d : D} {x : V} {l : Nat} {xs : List D} (L : Lk X μ H h) (q : DV X.K X.mg μ H d x) (e : own h d = some (l, xs)) : ∃ a vs, x = .ref a ∧ μ[l]? = some a ∧ H a = some (.lst vs) ∧ DVs X.K X.mg μ H xs vs ∧ h[l]? = some (.lst false xs) := by
  unfold own at e
  split at e
  · split at e
    · rename_i l' xs' el
      cases e
      obtain ⟨a, vs, rfl, h1, h2, _, qs⟩ := lst_at L el q
      exact ⟨a, vs, rfl, h1, h2 rfl, qs, el⟩
    · cases e
  · cases e
def appendL (h : AH) (x : D) : List D → Option (D × AH)
  | [y] => (own h x).bind fun (l, xs) => if Nat.blt xs.length big then some (.non, h.set l (.lst false (xs ++ [y]))) else none
  | _ => none
theorem ms_append : MtS X "list.append" appendL := MtS.of mt_append fun H μ h x xs dx ds d h' L qx q e => by
  unfold appendL at e
  split at e
  · obtain ⟨⟨l, ys⟩, e1, e2⟩ := Option.bind_eq_some_iff.mp e
    simp only at e2
    split at e2
    · rename_i hb
      cases e2
      obtain ⟨a, vs, rfl, h1, h2, qs, _⟩ := own_at L qx e1
      obtain ⟨v, rfl, q1⟩ := DVs.one_inv q
      refine ⟨a, vs, v, rfl, rfl, h2, ?_, QE.put L h1 h2 (qs.append (DVs.one q1)) rfl⟩
      rw [qs.length]
      exact Nat.lt_of_lt_of_le (Nat.blt_eq.mp hb) (by rw [sizeLine_eq]; decide)
    · cases e2
  · cases e
theorem DVs.eraseIdx {μ : List Addr} {H : Hp} : ∀ {ds : List D} {vs : List V} (i : Nat), DVs X.K X.mg μ H ds vs → DVs X.K X.mg μ H (ds.eraseIdx i) (vs.eraseIdx i)
  | [], _, _, h => by rw [show _ = [] from h]; simp [DVs]
  | d :: ds, vs, 0, h => by obtain ⟨v, r, rfl, q, t⟩ := h; exact t
  | d :: ds, vs, i + 1, h => by
    obtain ⟨v, r, rfl, q, t⟩ := h
    exact ⟨v, r.eraseIdx i, rfl, q, DVs.eraseIdx i t⟩
theorem DVs.dropLast {μ : List Addr} {H : Hp} : ∀ {ds : List D} {vs : List V}, DVs X.K X.mg μ H ds vs → DVs X.K X.mg μ H ds.dropLast vs.dropLast
  | [], _, h => by rw [show _ = [] from h]; simp [DVs]
  | [d], vs, h => by obtain ⟨v, rfl, q⟩ := DVs.one_inv h; simp [DVs]
  | d :: e :: ds, vs, h => by
    obtain ⟨v, r, rfl, q, t⟩ := h
    obtain ⟨w, r', rfl, q', t'⟩ := id t
    simp only [List.dropLast_cons₂]
    exact ⟨v, (w :: r').dropLast, rfl, q, DVs.dropLast t⟩
def popL (h : AH) (x : D) : List D → Option (D × AH)
  | [] => (own h x).bind fun (l, xs) => (xs[xs.length - 1]?).map fun y => (y, h.set l (.lst false xs.dropLast))
  | [.int i] => if decide (0 ≤ i) && decide (i < 1000000) then (own h x).bind fun (l, xs) => (L2.ixN xs.length i).bind fun k => (xs[k]?).map fun y => (y, h.set l (.lst false (xs.eraseIdx k))) else none
  | _ => none
theorem ms_popL : MtS X "list.pop" popL := by
  refine MtS.or (g := fun h x ds => match ds with | [] => (own h x).bind fun (l, xs) => (xs[xs.length - 1]?).map fun y => (y, h.set l (.lst false xs.dropLast)) | _ => none)
    (g' := fun h x ds => match ds with | [.int i] => if decide (0 ≤ i) && decide (i < 1000000) then (own h x).bind fun (l, xs) => (L2.ixN xs.length i).bind fun k => (xs[k]?).map fun y => (y, h.set l (.lst false (xs.eraseIdx k))) else none | _ => none)
    (MtS.of mt_pop fun H μ h x xs dx ds d h' L qx q e => ?_) (MtS.of mt_popAt fun H μ h x xs dx ds d h' L qx q e => ?_) fun h x ds z e => ?_
  · split at e
    · obtain ⟨⟨l, ys⟩, e1, e2⟩ := Option.bind_eq_some_iff.mp e
      obtain ⟨y, e3, e4⟩ := Option.map_eq_some_iff.mp e2
      cases e4
      obtain ⟨a, vs, rfl, h1, h2, qs, _⟩ := own_at L qx e1
      obtain ⟨v, e5, q5⟩ := qs.get e3
      refine ⟨a, vs, v, rfl, q, h2, by rw [qs.length]; exact e5, QE.put L h1 h2 qs.dropLast q5⟩
    · cases e
  · split at e
    · rename_i i
      split at e
      case isFalse => cases e
      rename_i hi
      simp only [Bool.and_eq_true, decide_eq_true_eq] at hi
      obtain ⟨⟨l, ys⟩, e1, e2⟩ := Option.bind_eq_some_iff.mp e
      obtain ⟨k, e6, e7⟩ := Option.bind_eq_some_iff.mp e2
      obtain ⟨y, e3, e4⟩ := Option.map_eq_some_iff.mp e7
      cases e4
      obtain ⟨a, vs, rfl, h1, h2, qs, el⟩ := own_at L qx e1
      obtain ⟨v, e5, q5⟩ := qs.get e3
      obtain ⟨w, rfl, q1⟩ := DVs.one_inv q
      cases q1
      obtain ⟨s1, s2, s3, s4⟩ := L2.ixN_seq e6
      exact ⟨a, vs, i, k, v, rfl, rfl, h2, by omega, by omega, by rw [qs.length]; exact s1, e5, QE.put L h1 h2 (qs.eraseIdx k) q5⟩
    · cases e
  · unfold popL at e
    split at e
    · exact .inl e
    · exact .inr e
    · cases e
/-- the first place of an equal one -/
def findI (h : AH) (x : D) : List D → Option Nat
  | [] => none
  | y :: r => if eqB h deep y x then some 0 else (findI h x r).map (· + 1)
def indexL (h : AH) (x : D) : List D → Option (D × AH)
  | [y] => match x with
    | .ref l => match h[l]? with
      | some (.lst _ xs) => if isDat h deep y && isDat h deep x then (findI h y xs).map fun (n : Nat) => (.int (n : Int), h) else none
      | _ => none
    | _ => none
  | _ => none
theorem PD.up {h : AH} : ∀ (n : Nat) (d : D) (p : PyData), PD h n d p → PD h (n + 1) d p := by
  intro n
  induction n with
  | zero => intro d p hd; cases d <;> simp only [PD] at hd ⊢ <;> first | exact hd | exact hd.elim
  | succ n ih =>
    intro d p hd
    cases d with
    | tup ds => obtain ⟨ps, r, rfl⟩ := hd; exact ⟨ps, Paired.mapP r fun a b z => ih a b z, rfl⟩
    | ref l => obtain ⟨lk, ds, ps, e, r, rfl⟩ := hd; exact ⟨lk, ds, ps, e, Paired.mapP r fun a b z => ih a b z, rfl⟩
    | _ => first | exact hd | (simp only [PD] at hd ⊢; exact hd)
theorem findI_spec {h : AH} {x : D} {p : PyData} (hp : PD h deep x p) : ∀ {ds : List D} {ps : List PyData} {j : Nat}, Paired (PD h 11) ds ps → findI h x ds = some j →
    (∃ z, ps[j]? = some z ∧ PyData.eqv z p = true) ∧ ∀ (m : Nat) (z' : PyData), m < j → ps[m]? = some z' → PyData.eqv z' p = false
  | [], _, _, _, e => by cases e
  | d :: ds, _, j, .cons r t, e => by
    rename_i z zs
    have he : eqB h deep d x = PyData.eqv z p := eqB_eqv 12 d x z p (PD.up 11 d z r) hp
    unfold findI at e
    split at e
    · rename_i hq
      cases e
      rw [he] at hq
      exact ⟨⟨z, rfl, hq⟩, fun m _ hm => absurd hm (Nat.not_lt_zero m)⟩
    · rename_i hq
      obtain ⟨i, e1, rfl⟩ := Option.map_eq_some_iff.mp e
      obtain ⟨⟨z1, g1, g2⟩, g3⟩ := findI_spec hp t e1
      refine ⟨⟨z1, by simpa using g1, g2⟩, fun m z' hm hz' => ?_⟩
      cases m with
      | zero =>
        simp at hz'; subst hz'
        rw [he] at hq
        simpa using hq
      | succ m => exact g3 m z' (by omega) (by simpa using hz')
theorem ms_index (hu : X.A.units + 80 < cLine) : MtS X "list.index" indexL := by
  refine MtS.of (mt_indexD (by omega)) fun H μ h x xs dx ds d h' L qx q e => ?_
  unfold indexL at e
  split at e
  · rename_i y
    split at e
    · rename_i l
      split at e
      · rename_i lk zs el
        split at e
        · rename_i hd
          obtain ⟨n, e1, e2⟩ := Option.map_eq_some_iff.mp e
          cases e2
          simp only [Bool.and_eq_true] at hd
          obtain ⟨v, rfl, q1⟩ := DVs.one_inv q
          obtain ⟨p, h1, h2⟩ := PD.ex L deep y v hd.1 q1
          obtain ⟨p', g1, g2⟩ := PD.ex L deep (.ref l) x hd.2 qx
          obtain ⟨a, vs, rfl, _, _, _, _⟩ := lst_at L el qx
          have lay := g1.lay
          obtain ⟨lk', ds', ps, el', r, rfl⟩ := g1
          rw [el] at el'; cases el'
          obtain ⟨⟨z, z1, z2⟩, z3⟩ := findI_spec h1 r e1
          have l1 := h1.lay
          refine ⟨a, v, p, ps, n, z, rfl, rfl, g2, h2, ?_, ?_, z1, z2, z3, QE.same L rfl⟩
          · simp only [SeqAt.shaped, Bool.and_eq_true, decide_eq_true_eq]; exact ⟨lay.1, Nat.le_trans lay.2 (by decide)⟩
          · simp only [SeqAt.shaped, Bool.and_eq_true, decide_eq_true_eq]; exact ⟨l1.1, Nat.le_trans l1.2 (by decide)⟩
        · cases e
      · cases e
    · cases e
  · cases e
def countL (h : AH) (x : D) : List D → Option (D × AH)
  | [y] => match x with
    | .ref l => match h[l]? with
      | some (.lst _ xs) => if isDat h deep y && isDat h deep x then some (.int (xs.countP fun z => eqB h deep z y), h) else none
      | _ => none
    | _ => none
  | _ => none
theorem count_eqv {h : AH} {x : D} {p : PyData} (hp : PD h deep x p) : ∀ {ds : List D} {ps : List PyData}, Paired (PD h 11) ds ps → (ps.countP fun z => PyData.eqv z p) = ds.countP fun z => eqB h deep z x
  | _, _, .nil => rfl
  | _, _, .cons r t => by
    simp only [List.countP_cons]
    rw [eqB_eqv 12 _ _ _ _ (PD.up 11 _ _ r) hp, count_eqv hp t]
theorem ms_count (hu : X.A.units + 80 < cLine) : MtS X "list.count" countL := by
  intro pins σ H μ h s x xs v us dx ds d h' I L rx rv qx q e
  unfold countL at e
  split at e
  · rename_i y
    split at e
    · rename_i l
      split at e
      · rename_i lk zs el
        split at e
        · rename_i hd
          cases e
          simp only [Bool.and_eq_true] at hd
          obtain ⟨w, rfl, q1⟩ := DVs.one_inv q
          obtain ⟨u, rfl, ru⟩ := rv.one
          obtain ⟨p, h1, h2⟩ := PD.ex L deep y w hd.1 q1
          obtain ⟨p', g1, g2⟩ := PD.ex L deep (.ref l) x hd.2 qx
          have lay := g1.lay
          obtain ⟨lk', ds', ps, el', r, rfl⟩ := g1
          rw [el] at el'; cases el'
          obtain ⟨bs, r1⟩ := Dp.reads I p w u h2 ru
          have l1 := h1.lay
          cases g2 with
          | lst hs ha =>
            cases rx
            obtain ⟨its, rv', ⟨⟨cls, dd, data, sls⟩, n, ho, hc, hdn, hdt⟩, hlen⟩ := I.list hs
            simp only at hc hdt
            subst hc hdt
            obtain ⟨as, h4⟩ := Dp.readsAll I ps _ its ha rv'
            have hxs : PyData.canLayAll0 ps = true := by have := lay.1; simpa only [PyData.canLay0] using this
            have hroom : X.A.units + 1 + min (PyData.depthAll ps) p.depth < cLine := by
              have : min (PyData.depthAll ps) p.depth ≤ p.depth := Nat.min_le_right _ _
              have := l1.2
              unfold deep at this
              omega
            refine call_meets PySem.F.slot_list_count ⟨_, ho, rfl⟩ PySem.F.entry_list_count (PySem.F.args_list_count_2 _ _)
              (SeqAt.list_countAt _ its.toArray n dd sls u (fun u => PyData.eqv (SeqAt.readOf s.heap u) p)) ⟨ho, SeqAt.items_eqAt (vs := its.toArray) (show ReadsAll s.heap its.toArray.toList ps as from h4) r1 hxs l1.1 hroom, ?_⟩
            have hmap : its.map (SeqAt.readOf s.heap) = ps := SeqAt.readsAll_map ps its as hxs h4
            have hcnt : (its.toArray.toList.countP fun u => PyData.eqv (SeqAt.readOf s.heap u) p) = zs.countP fun z => eqB h deep z y := by
              rw [← count_eqv h1 r, ← hmap, List.countP_map]
              rfl
            refine ⟨.int (zs.countP fun z => eqB h deep z y), h, .int (zs.countP fun z => eqB h deep z y), H, μ, rfl, I.tok _, ⟨s.toks, ?_⟩, List.prefix_refl _, Keeps.refl _, L, rfl⟩
            rw [hcnt]
        · cases e
      · cases e
    · cases e
  · cases e
end
end G47
namespace G47
open PySem L2 PyProof.Rows
section
variable {X : Cx}
def clearL (h : AH) (x : D) : List D → Option (D × AH)
  | [] => (own h x).map fun (l, _) => (.non, h.set l (.lst false []))
  | _ => none
theorem ms_clearL : MtS X "list.clear" clearL := MtS.of mt_clear fun H μ h x xs dx ds d h' L qx q e => by
  unfold clearL at e
  split at e
  · obtain ⟨⟨l, ys⟩, e1, e2⟩ := Option.map_eq_some_iff.mp e
    cases e2
    obtain ⟨a, vs, rfl, h1, h2, qs, _⟩ := own_at L qx e1
    exact ⟨a, vs, rfl, q, h2, QE.put (ds := []) (vs := []) L h1 h2 rfl rfl⟩
  · cases e
/-- the dict at l, which may be changed -/
def ownD (h : AH) : D → Option (Nat × List (D × D))
  | .ref l => match h[l]? with
    | some (.dct false kvs) => some (l, kvs)
    | _ => none
  | _ => none
theorem ownD_at {h : AH} {d : D} {l : Nat} {kvs : List (D × D)} (e : ownD h d = some (l, kvs)) : d = .ref l ∧ h[l]? = some (.dct false kvs) := by
  unfold ownD at e
  split at e
  · split at e
    · rename_i el
      cases e
      exact ⟨rfl, el⟩
    · cases e
  · cases e
theorem empty_dK {P : Program} {w : World} {H : Hp} {h : Heap} {a : Addr} (hs : (a == sysModules) = false) (dd : h.DictOfH (nestedKind P w) a []) : ObjOk P w H h a (.dK []) := by
  obtain ⟨ob, arr, ep, h1, h2, h3, h4, _, _⟩ := dd
  have ha : arr = #[] := by
    have : arr.toList = [] := h4
    exact Array.toList_inj.mp (by simpa using this)
  subst ha
  refine ⟨Nat.zero_le _, hs, [], .nil, ob, #[], ep, h1, h2, h3, ?_, .nil, by simp⟩
  intro e he
  simp at he
def clearDct (h : AH) (x : D) : List D → Option (D × AH)
  | [] => (ownD h x).map fun (l, _) => (.non, h.set l (.dct false []))
  | _ => none
theorem ms_clearD : MtS X "dict.clear" clearDct := by
  intro pins σ H μ h s x xs v us dx ds d h' I L rx rv qx q e
  unfold clearDct at e
  split at e
  · obtain ⟨⟨l, kvs⟩, e1, e2⟩ := Option.map_eq_some_iff.mp e
    cases e2
    obtain ⟨rfl, el⟩ := ownD_at e1
    obtain ⟨a, ho, rfl, e3, rd, hh, dl, hn⟩ := dct_rd L el qx
    have hH := hh rfl
    cases rx
    rw [show xs = [] from q] at rv
    cases rv
    have fin : ∀ s', Inv X pins σ (upd H a (.dK [])) s' → PostE X pins σ μ H (.ok .non (h.set l (.dct false []))) .none s' := fun s' I' =>
      ⟨.non, _, .non, _, μ, rfl, I', rfl, List.prefix_refl _, Keeps.put hH dl.notTup dl.notFrz, L.put e3 ⟨_, by rw [if_neg (by decide)]; exact upd_same, .inl ⟨rfl, [], rfl, rfl⟩, rfl⟩, rfl⟩
    have mu : Mut (H a) := by
      rw [hH]
      rcases dl with ⟨_, _, rfl, _⟩ | ⟨_, _, rfl, _⟩ <;> exact True.intro
    rcases dl with ⟨sk, ks, rfl, kss⟩ | ⟨tk, es, rfl, kvs'⟩
    · exact d_clear I hH fin
    · simp only [tupK, Bool.and_eq_true] at tk
      obtain ⟨xs, x1, x2, x4, x3⟩ := keyed_of I rd kvs' tk.2 hn
      refine clear_keyed (knd := nestedKind X.prog X.w) (kvs := pairsH xs) ⟨xs, x2, rfl⟩ (fun h' dd' hs => fin _ ?_) (by rw [pairsH_length, ← Paired.length x1]; exact x4)
      obtain ⟨xs', dd', hx⟩ := dd'
      have : xs' = [] := by
        have := congrArg List.length hx
        rw [pairsH_length] at this
        exact List.length_eq_zero_iff.mp this
      subst this
      have he : ∃ q, h'.get? a = some q := let ⟨q, _, _, hq, _⟩ := dd'; ⟨q, hq⟩
      exact d_write (t' := s.toks) I mu hs he (empty_dK x3 dd')
  · cases e
/-- d.get(k), d.get(k, y) -/
def getDct (h : AH) (x : D) : List D → Option (D × AH)
  | [k] => match x with
    | .ref l => match h[l]? with
      | some (.dct _ kvs) => if okKey kvs k then some ((dfind kvs k).getD .non, h) else none
      | _ => none
    | _ => none
  | [k, y] => match x with
    | .ref l => match h[l]? with
      | some (.dct _ kvs) => if okKey kvs k then some ((dfind kvs k).getD y, h) else none
      | _ => none
    | _ => none
  | _ => none
theorem ms_get (hu : X.A.units + 80 < cLine) : MtS X "dict.get" getDct := by
  intro pins σ H μ h s x xs v us dx ds d h' I L rx rv qx q e
  unfold getDct at e
  split at e
  · rename_i k
    split at e
    · rename_i l
      split at e
      · rename_i lk kvs el
        split at e
        · rename_i ok
          cases e
          obtain ⟨y, rfl, qk⟩ := DVs.one_inv q
          obtain ⟨u, rfl, ru⟩ := rv.one
          obtain ⟨a, rfl, _, ty, c⟩ := dct_ask I L el qx qk ru ok
          obtain rfl : v = .ref a := rx
          rcases c with ⟨o, g, r⟩ | ⟨b, m, zs, rfl, _, km, is, dd, hs, r⟩
          · refine d_get1 (by omega) I g ru fun w' s' I' r' => ?_
            rcases r with ⟨h1, h2⟩ | ⟨d', w, h1, h2, h3⟩
            · rw [h1]; rw [h2] at r'
              exact ⟨.non, h, .non, H, μ, rfl, I', r', List.prefix_refl _, Keeps.refl _, L, rfl⟩
            · rw [h1]; rw [h2] at r'
              exact ⟨d', h, w, H, μ, rfl, I', r', List.prefix_refl _, Keeps.refl _, L, h3⟩
          · refine get_keyed (knd := nestedKind X.prog X.w) (kvs := pairsH zs) (by show X.A.units + 1 + 8 < cLine; omega) is hs ⟨zs, dd, rfl⟩ ?_
            rw [valueAt_pairsH]
            rcases r with ⟨h1, h2⟩ | ⟨d', w, c, z, h1, h2, h3, h4⟩
            · rw [h1, h2]
              exact ⟨.non, h, .non, H, μ, rfl, I.tok _, rfl, List.prefix_refl _, Keeps.refl _, L, rfl⟩
            · rw [h1, h2]
              exact ⟨d', h, w, H, μ, rfl, I.tok _, h3, List.prefix_refl _, Keeps.refl _, L, h4⟩
        · cases e
      · cases e
    · cases e
  · rename_i k y
    split at e
    · rename_i l
      split at e
      · rename_i lk kvs el
        split at e
        · rename_i ok
          cases e
          obtain ⟨y1, y2, rfl, qk, qy⟩ := DVs.two_inv q
          obtain ⟨u, u2, rfl, ru, ru2⟩ := rv.two
          obtain ⟨a, rfl, _, ty, c⟩ := dct_ask I L el qx qk ru ok
          obtain rfl : v = .ref a := rx
          rcases c with ⟨o, g, r⟩ | ⟨b, m, zs, rfl, _, km, is, dd, hs, r⟩
          · refine d_get2 (by omega) I g ru ru2 fun w' s' I' r' => ?_
            rcases r with ⟨h1, h2⟩ | ⟨d', w, h1, h2, h3⟩
            · rw [h1]; rw [h2] at r'
              exact ⟨y, h, y2, H, μ, rfl, I', r', List.prefix_refl _, Keeps.refl _, L, qy⟩
            · rw [h1]; rw [h2] at r'
              exact ⟨d', h, w, H, μ, rfl, I', r', List.prefix_refl _, Keeps.refl _, L, h3⟩
          · refine getOr_keyed (knd := nestedKind X.prog X.w) (kvs := pairsH zs) (by show X.A.units + 1 + 8 < cLine; omega) is hs ⟨zs, dd, rfl⟩ ?_
            rw [valueAt_pairsH]
            rcases r with ⟨h1, h2⟩ | ⟨d', w, c, z, h1, h2, h3, h4⟩
            · rw [h1, h2]
              exact ⟨y, h, y2, H, μ, rfl, I.tok _, ru2, List.prefix_refl _, Keeps.refl _, L, qy⟩
            · rw [h1, h2]
              exact ⟨d', h, w, H, μ, rfl, I.tok _, h3, List.prefix_refl _, Keeps.refl _, L, h4⟩
        · cases e
      · cases e
    · cases e
  · cases e
/-! ### the methods by their names -/
inductive Mt where
  | append | pop | index | count | clear | get
def Mt.nm : Mt → Str
  | .append => "append"
  | .pop => "pop"
  | .index => "index"
  | .count => "count"
  | .clear => "clear"
  | .get => "get"
def Mt.has : Mt → RT → Bool
  | .append, .lst => true
  | .pop, .lst => true
  | .index, .lst => true
  | .count, .lst => true
  | .clear, .lst => true
  | .clear, .dct => true
  | .get, .dct => true
  | _, _ => false
def Mt.run : Mt → RT → AH → D → List D → Option (D × AH)
  | .append, .lst => appendL
  | .pop, .lst => popL
  | .index, .lst => indexL
  | .count, .lst => countL
  | .clear, .lst => clearL
  | .clear, .dct => clearDct
  | .get, .dct => getDct
  | _, _ => fun _ _ _ => none
theorem mt_ok (hu : X.A.units + 80 < cLine) : ∀ m : Mt, MtE X m.nm m.has m.run
  | .append => ⟨fun t ht => by
    cases t with
    | lst => exact ⟨_, PySem.F.plainAttrs_list, PySem.F.slot_list_append, PySem.F.type_list_append, ms_append⟩
    | _ => cases ht⟩
  | .pop => ⟨fun t ht => by
    cases t with
    | lst => exact ⟨_, PySem.F.plainAttrs_list, PySem.F.slot_list_pop, PySem.F.type_list_pop, ms_popL⟩
    | _ => cases ht⟩
  | .index => ⟨fun t ht => by
    cases t with
    | lst => exact ⟨_, PySem.F.plainAttrs_list, PySem.F.slot_list_index, PySem.F.type_list_index, ms_index hu⟩
    | _ => cases ht⟩
  | .count => ⟨fun t ht => by
    cases t with
    | lst => exact ⟨_, PySem.F.plainAttrs_list, PySem.F.slot_list_count, PySem.F.type_list_count, ms_count hu⟩
    | _ => cases ht⟩
  | .clear => ⟨fun t ht => by
    cases t with
    | lst => exact ⟨_, PySem.F.plainAttrs_list, PySem.F.slot_list_clear, PySem.F.type_list_clear, ms_clearL⟩
    | dct => exact ⟨_, PySem.F.plainAttrs_dict, PySem.F.slot_dict_clear, PySem.F.type_dict_clear, ms_clearD⟩
    | _ => cases ht⟩
  | .get => ⟨fun t ht => by
    cases t with
    | dct => exact ⟨_, PySem.F.plainAttrs_dict, PySem.F.slot_dict_get, PySem.F.type_dict_get, ms_get hu⟩
    | _ => cases ht⟩
end
end G47
namespace G47
open PySem L2 PyProof.Rows
/-! ### runs of statements -/
inductive OS where
  | nx (σ : Sl0) (h : AH)
  | rt (d : D) (h : AH)
  | er (x : Xn) (σ : Sl0) (h : AH)
abbrev MS := Sl0 → AH → Option OS
def OS.err : OS → Option (Xn × Sl0 × AH)
  | .er x σ h => some (x, σ, h)
  | _ => none
/-- an expression within a statement -/
def bnE {α : Type} (σ : Sl0) (m : R α) (f : α → AH → Option OS) : Option OS :=
  match m with
  | none => none
  | some (.er x h) => some (.er x σ h)
  | some (.ok a h) => f a h
theorem bnE_some {α : Type} {σ : Sl0} {m : R α} {f : α → AH → Option OS} {r : OS} (e : bnE σ m f = some r) :
    (∃ x h, m = some (.er x h) ∧ r = .er x σ h) ∨ ∃ a h, m = some (.ok a h) ∧ f a h = some r := by
  unfold bnE at e
  split at e
  · cases e
  · rename_i x h; exact .inl ⟨x, h, rfl, (Option.some.inj e).symm⟩
  · rename_i a h; exact .inr ⟨a, h, rfl, e⟩
section
variable (X : Cx)
structure AtS (W : WX) (pins : List (Addr × Obj)) (σA : Sl0) (h : AH) (σ : L2.St) (H : Hp) (μ : List Addr) (s : Shared) (E : Option (Xn × Sl0 × AH)) : Prop where
  tk : Takes X W
  inv : Inv X pins σ H s
  lk : Lk X μ H h
  sl : Sl X μ H σA σ
  er : ∀ x σ1 h1, E = some (x, σ1, h1) → ErOk X W μ H σ1 x h1
def PostS (pins : List (Addr × Obj)) (μ : List Addr) (H : Hp) (r : OS) (f : Flow) (s' : Shared) : Prop :=
  match r with
  | .nx σA h' => f = .next ∧ ∃ σ' H' μ', Inv X pins σ' H' s' ∧ Pre μ μ' ∧ Keeps H H' ∧ Lk X μ' H' h' ∧ Sl X μ' H' σA σ'
  | .rt d h' => ∃ u v σ' H' μ', f = .ret u ∧ Inv X pins σ' H' s' ∧ RelV v u ∧ Pre μ μ' ∧ Keeps H H' ∧ Lk X μ' H' h' ∧ DV X.K X.mg μ' H' d v
  | .er _ _ _ => False
def SS (st : Stmt) (m : MS) : Prop := ∀ W pins σA h σ H μ s r, AtS X W pins σA h σ H μ s r.err → m σA h = some r →
  wpAny (model X.prog X.w) X.A (exec st X.env) (PostS X pins μ H r) X.xe s
def SSs (sts : List Stmt) (m : MS) : Prop := ∀ W pins σA h σ H μ s r, AtS X W pins σA h σ H μ s r.err → m σA h = some r →
  wpAny (model X.prog X.w) X.A (execs sts X.env) (PostS X pins μ H r) X.xe s
end
section
variable {X : Cx} {W : WX} {pins : List (Addr × Obj)} {σA σB : Sl0} {h h1 : AH} {σ σ1 : L2.St} {H H1 : Hp} {μ μ1 : List Addr} {s s1 : Shared} {E : Option (Xn × Sl0 × AH)}
theorem AtS.go (A : AtS X W pins σA h σ H μ s E) (I : Inv X pins σ1 H1 s1) (p : Pre μ μ1) (k : Keeps H H1) (L : Lk X μ1 H1 h1) (S : Sl X μ1 H1 σB σ1) : AtS X W pins σB h1 σ1 H1 μ1 s1 E :=
  ⟨A.tk, I, L, S, fun x σ1 h' e => (A.er x σ1 h' e).keep p k⟩
theorem AtS.noerr (A : AtS X W pins σA h σ H μ s E) : AtS X W pins σA h σ H μ s none := ⟨A.tk, A.inv, A.lk, A.sl, fun _ _ _ z => nomatch z⟩
theorem AtS.at0 (A : AtS X W pins σA h σ H μ s E) : At X W pins σA h σ H μ s none := ⟨A.tk, A.inv, A.lk, A.sl, fun _ _ z => nomatch z⟩
theorem AtS.atE {x : Xn} {h' : AH} (A : AtS X W pins σA h σ H μ s (some (x, σA, h'))) : At X W pins σA h σ H μ s (some (x, h')) :=
  ⟨A.tk, A.inv, A.lk, A.sl, fun y h2 e => by cases e; exact A.er x σA h' rfl⟩
theorem PostS.lift {r : OS} {f : Flow} (P : PostS X pins μ1 H1 r f s1) (p : Pre μ μ1) (k : Keeps H H1) : PostS X pins μ H r f s1 := by
  cases r with
  | nx σ' h' => obtain ⟨e, σ', H', μ', I, p', k', L, S⟩ := P; exact ⟨e, σ', H', μ', I, p.trans p', k.trans k', L, S⟩
  | rt d h' => obtain ⟨u, v, σ', H', μ', e, I, rv, p', k', L, q⟩ := P; exact ⟨u, v, σ', H', μ', e, I, rv, p.trans p', k.trans k', L, q⟩
  | er x σ' h' => exact P.elim
theorem AtS.nx (A : AtS X W pins σB h1 σ1 H1 μ1 s1 E) (p : Pre μ μ1) (k : Keeps H H1) : PostS X pins μ H (.nx σB h1) .next s1 := ⟨rfl, σ1, H1, μ1, A.inv, p, k, A.lk, A.sl⟩
/-- one expression, then the rest of the statement -/
theorem SE.seqS {e : Expr} {m : ME} {f : D → AH → Option OS} {r : OS} {Q : Value → Shared → Prop} (ha : SE X e m) (A : AtS X W pins σA h σ H μ s r.err) (hm : bnE σA (m σA h) f = some r)
    (k : ∀ d h1 v u H1 μ1 s1, AtS X W pins σA h1 σ H1 μ1 s1 r.err → Pre μ μ1 → Keeps H H1 → RelV v u → DV X.K X.mg μ1 H1 d v → f d h1 = some r → Q u s1) :
    wpAny (model X.prog X.w) X.A (eval e X.env) Q X.xe s := by
  rcases bnE_some hm with ⟨x, h1, e1, rfl⟩ | ⟨d, h1, e1, e2⟩
  · refine thn (ha W pins σA h σ H μ s (.er x h1) A.atE e1) fun u s1 ⟨_, _, _, _, _, z, _⟩ => nomatch z
  · refine thn (ha W pins σA h σ H μ s (.ok d h1) A.at0 e1) fun u s1 ⟨d', h', v, H1, μ1, z, I, rv, p, kk, L, q⟩ => ?_
    cases z
    exact k d h1 v u H1 μ1 s1 (A.go I p kk L (A.sl.keep p kk)) p kk rv q e2
theorem ST.seqS {e : Expr} {m : MT} {f : Bool → AH → Option OS} {r : OS} {Q : Bool → Shared → Prop} (ha : ST X e m) (A : AtS X W pins σA h σ H μ s r.err) (hm : bnE σA (m σA h) f = some r)
    (k : ∀ b h1 H1 μ1 s1, AtS X W pins σA h1 σ H1 μ1 s1 r.err → Pre μ μ1 → Keeps H H1 → f b h1 = some r → Q b s1) :
    wpAny (model X.prog X.w) X.A (isTrue e X.env (eval e X.env)) Q X.xe s := by
  rcases bnE_some hm with ⟨x, h1, e1, rfl⟩ | ⟨d, h1, e1, e2⟩
  · refine thn (ha W pins σA h σ H μ s (.er x h1) A.atE e1) fun u s1 ⟨_, _, _, z, _⟩ => nomatch z
  · refine thn (ha W pins σA h σ H μ s (.ok d h1) A.at0 e1) fun u s1 ⟨h', H1, μ1, z, I, p, kk, L⟩ => ?_
    cases z
    exact k _ h1 H1 μ1 s1 (A.go I p kk L (A.sl.keep p kk)) p kk e2
theorem SA.seqS {es : List Expr} {m : MA} {f : List D → AH → Option OS} {r : OS} {Q : List Value → Shared → Prop} {pos : Pos} (ha : SA X es m) (A : AtS X W pins σA h σ H μ s r.err) (hm : bnE σA (m σA h) f = some r)
    (k : ∀ ds h1 vs us H1 μ1 s1, AtS X W pins σA h1 σ H1 μ1 s1 r.err → Pre μ μ1 → Keeps H H1 → Vals vs us → DVs X.K X.mg μ1 H1 ds vs → f ds h1 = some r → Q us s1) :
    wpAny (model X.prog X.w) X.A (spliced (backTo pos (starEach es X.env))) Q X.xe s := by
  rcases bnE_some hm with ⟨x, h1, e1, rfl⟩ | ⟨d, h1, e1, e2⟩
  · refine thn (ha pos W pins σA h σ H μ s (.er x h1) A.atE e1) fun u s1 ⟨_, _, _, _, _, z, _⟩ => nomatch z
  · refine thn (ha pos W pins σA h σ H μ s (.ok d h1) A.at0 e1) fun u s1 ⟨d', h', v, H1, μ1, z, I, rv, p, kk, L, q⟩ => ?_
    cases z
    exact k d h1 v u H1 μ1 s1 (A.go I p kk L (A.sl.keep p kk)) p kk rv q e2
end
/-! ### blocks -/
section
variable {X : Cx}
def sqS (m : Option OS) (f : MS) : Option OS :=
  match m with
  | some (.nx σ h) => f σ h
  | r => r
theorem sqS_some {m : Option OS} {f : MS} {r : OS} (e : sqS m f = some r) : (∃ σ h, m = some (.nx σ h) ∧ f σ h = some r) ∨ (m = some r ∧ ∀ σ h, r ≠ .nx σ h) := by
  unfold sqS at e
  split at e
  · exact .inl ⟨_, _, rfl, e⟩
  · rename_i hn
    exact .inr ⟨e, fun σ h z => hn σ h (by rw [e, z])⟩
def mNx : MS := fun σ h => some (.nx σ h)
def mSeq (a b : MS) : MS := fun σ h => sqS (a σ h) b
/-- a block's first, then the others -/
theorem seq_run {W pins σA h σ H μ s r} {st : Sem Flow} {m k : MS} {Q : Flow → Shared → Prop} (A : AtS X W pins σA h σ H μ s r.err) (e : sqS (m σA h) k = some r)
    (h1 : ∀ r1 : OS, AtS X W pins σA h σ H μ s r1.err → m σA h = some r1 → wpAny (model X.prog X.w) X.A st (PostS X pins μ H r1) X.xe s)
    (hn : ∀ σ1 h1 σ2 H2 μ2 s2, AtS X W pins σ1 h1 σ2 H2 μ2 s2 r.err → Pre μ μ2 → Keeps H H2 → k σ1 h1 = some r → Q .next s2)
    (hr : ∀ f s2, PostS X pins μ H r f s2 → (∀ σ h, r ≠ .nx σ h) → Q f s2) : wpAny (model X.prog X.w) X.A st Q X.xe s := by
  rcases sqS_some e with ⟨σ1, h2, e1, e2⟩ | ⟨e1, ne⟩
  · refine thn (h1 (.nx σ1 h2) A.noerr e1) fun f s2 P => ?_
    obtain ⟨rfl, σ2, H2, μ2, I, p, kk, L, S⟩ := P
    exact hn σ1 h2 σ2 H2 μ2 s2 (A.go I p kk L S) p kk e2
  · exact thn (h1 r A e1) fun f s2 P => hr f s2 P ne
theorem sss_nil : SSs X [] mNx := by
  intro W pins σA h σ H μ s r A e
  cases e
  exact wpAny_execs_nil (A.nx (List.prefix_refl _) (Keeps.refl _))
theorem sss_cons {st : Stmt} {rest : List Stmt} {m k : MS} (h1 : SS X st m) (h2 : SSs X rest k) : SSs X (st :: rest) (mSeq m k) := by
  intro W pins σA h σ H μ s r A e
  refine wpAny_execs_cons (seq_run A e (fun r1 A1 e1 => h1 W pins σA h σ H μ s r1 A1 e1) (fun σ1 h1 σ2 H2 μ2 s2 A2 p k e2 => ?_) fun f s2 P ne => ?_)
  · exact thn (h2 W pins σ1 h1 σ2 H2 μ2 s2 r A2 e2) fun _ _ P => P.lift p k
  · cases r with
    | nx σ h => exact absurd rfl (ne σ h)
    | rt d h' => obtain ⟨u, v, σ', H', μ', rfl, q⟩ := P; exact ⟨u, v, σ', H', μ', rfl, q⟩
    | er x σ h' => exact P.elim
theorem sss_one {st : Stmt} {m : MS} (h1 : SS X st m) : SSs X [st] m := by
  intro W pins σA h σ H μ s r A e
  refine wpAny_execs_cons (thn (h1 W pins σA h σ H μ s r A e) fun f s1 P => ?_)
  cases r with
  | nx σ h => obtain ⟨rfl, q⟩ := P; exact wpAny_execs_nil ⟨rfl, q⟩
  | rt d h' => obtain ⟨u, v, σ', H', μ', rfl, q⟩ := P; exact ⟨u, v, σ', H', μ', rfl, q⟩
  | er x σ h' => exact P.elim
def mNever : MS := fun _ _ => none
theorem sss_never {sts : List Stmt} : SSs X sts mNever := fun _ _ _ _ _ _ _ _ _ _ e => nomatch e
theorem ss_never {st : Stmt} : SS X st mNever := fun _ _ _ _ _ _ _ _ _ _ e => nomatch e
theorem ss_pass {pos : Pos} : SS X (.Pass pos) mNx := by
  intro W pins σA h σ H μ s r A e
  cases e
  exact wpAny_Pass (A.nx (List.prefix_refl _) (Keeps.refl _))
def mDrop (m : ME) : MS := fun σ h => bnE σ (m σ h) fun _ h1 => some (.nx σ h1)
theorem ss_expr {e : Expr} {m : ME} {pos : Pos} (he : SE X e m) (hs : swapsWith e none pos.line X.env = pure false) : SS X (.Expr e pos) (mDrop m) := by
  intro W pins σA h σ H μ s r A e1
  refine wpAny_Expr_any (he.seqS A e1 fun d h1 v u H1 μ1 s1 A1 p k rv q e2 => ?_) A.inv.quiet hs
  cases e2
  exact A1.nx p k
def mRet (m : ME) : MS := fun σ h => bnE σ (m σ h) fun d h1 => some (.rt d h1)
theorem ss_ret {e : Expr} {m : ME} {pos : Pos} (he : SE X e m) : SS X (.Return (some e) pos) (mRet m) := by
  intro W pins σA h σ H μ s r A e1
  refine wpAny_Return_some (he.seqS A e1 fun d h1 v u H1 μ1 s1 A1 p k rv q e2 => ?_)
  cases e2
  exact ⟨u, v, σ, H1, μ1, rfl, A1.inv, rv, p, k, A1.lk, q⟩
def mRetN : MS := fun _ h => some (.rt .non h)
theorem ss_retN {pos : Pos} : SS X (.Return none pos) mRetN := by
  intro W pins σA h σ H μ s r A e1
  cases e1
  exact wpAny_Return_none ⟨_, .non, σ, H, μ, rfl, A.inv, rfl, List.prefix_refl _, Keeps.refl _, A.lk, rfl⟩
def mIfS (c : MT) (a b : MS) : MS := fun σ h => bnE σ (c σ h) fun x h1 => if x then a σ h1 else b σ h1
theorem ss_if {c : Expr} {a b : List Stmt} {mc : MT} {ma mb : MS} {pos : Pos} (hc : ST X c mc) (ha : SSs X a ma) (hb : SSs X b mb) : SS X (.If c a b pos) (mIfS mc ma mb) := by
  intro W pins σA h σ H μ s r A e1
  refine wpAny_If (hc.seqS A e1 fun d h1 H1 μ1 s1 A1 p k e2 => ?_)
  cases d with
  | true => exact thn (ha W pins σA h1 σ H1 μ1 s1 r A1 e2) fun _ _ P => P.lift p k
  | false => exact thn (hb W pins σA h1 σ H1 μ1 s1 r A1 e2) fun _ _ P => P.lift p k
/-! ### targets -/
abbrev MG := D → Sl0 → AH → Option Sl0
/-- only the slots ts have changed -/
def Tch (ts : List Nat) (σ σ' : L2.St) : Prop := σ'.length = σ.length ∧ ∀ i, i ∉ ts → σ'[i]? = σ[i]?
theorem Tch.refl {ts : List Nat} {σ : L2.St} : Tch ts σ σ := ⟨rfl, fun _ _ => rfl⟩
theorem Tch.trans {ts us : List Nat} {σ σ1 σ2 : L2.St} (a : Tch ts σ σ1) (b : Tch us σ1 σ2) : Tch (ts ++ us) σ σ2 :=
  ⟨b.1.trans a.1, fun i hi => by simp only [List.mem_append, not_or] at hi; rw [b.2 i hi.2, a.2 i hi.1]⟩
theorem Tch.set {i : Nat} {σ : L2.St} {v : Option V} : Tch [i] σ (σ.set i v) := ⟨by simp, fun j hj => by simp at hj; exact List.getElem?_set_ne (Ne.symm hj)⟩
theorem wipe_ix {σ : L2.St} {i : Nat} : ∀ (vs : List Nat), (L2.wipe σ vs)[i]? = if i ∈ vs then (σ[i]?).map (fun _ => none) else σ[i]?
  | [] => by simp [L2.wipe]
  | v :: vs => by
    unfold L2.wipe
    by_cases hi : v = i
    · subst hi
      have ih := wipe_ix (σ := σ) (i := v) vs
      by_cases hv : v < σ.length
      · rw [List.getElem?_set_self (by rw [wipe_length]; exact hv), if_pos List.mem_cons_self, List.getElem?_eq_getElem hv]; rfl
      · rw [List.getElem?_eq_none (by rw [List.length_set, wipe_length]; omega), if_pos List.mem_cons_self, List.getElem?_eq_none (by omega)]; rfl
    · rw [List.getElem?_set_ne hi, wipe_ix vs]
      have : (i ∈ v :: vs) = (i ∈ vs) := by simp only [List.mem_cons, eq_iff_iff]; exact ⟨fun h => h.resolve_left (fun e => hi e.symm), .inr⟩
      simp only [this]
theorem Tch.wipe {ts vs : List Nat} {σ σ' : L2.St} (h : Tch ts σ σ') (hs : ∀ i ∈ ts, i ∈ vs) : L2.wipe σ' vs = L2.wipe σ vs := by
  refine List.ext_getElem? fun i => ?_
  rw [wipe_ix, wipe_ix]
  by_cases hi : i ∈ vs
  · rw [if_pos hi, if_pos hi]
    by_cases hl : i < σ.length
    · rw [List.getElem?_eq_getElem hl, List.getElem?_eq_getElem (by rw [h.1]; exact hl)]; rfl
    · have h1 := h.1
      rw [List.getElem?_eq_none (show σ'.length ≤ i by omega), List.getElem?_eq_none (show σ.length ≤ i by omega)]
  · rw [if_neg hi, if_neg hi, h.2 i fun z => hi (hs i z)]
def SG (X : Cx) (tg : Expr) (ts : List Nat) (m : MG) : Prop := ∀ (pins : List (Addr × Obj)) (s : Shared) (σ : L2.St) (H : Hp) (μ : List Addr) (h : AH) (σA σB : Sl0) (d : D) (v : V) (u : Value), Inv X pins σ H s → Lk X μ H h → Sl X μ H σA σ → RelV v u → DV X.K X.mg μ H d v → m d σA h = some σB →
  wpAny (model X.prog X.w) X.A (assign tg X.env u) (fun _ s' => ∃ σ', Inv X pins σ' H s' ∧ Sl X μ H σB σ' ∧ Tch ts σ σ') X.xe s
def SGs (X : Cx) (tgs : List Expr) (ts : List Nat) (m : List D → Sl0 → AH → Option Sl0) : Prop := ∀ (pins : List (Addr × Obj)) (s : Shared) (σ : L2.St) (H : Hp) (μ : List Addr) (h : AH) (σA σB : Sl0) (ds : List D) (vs : List V) (us : List Value), Inv X pins σ H s → Lk X μ H h → Sl X μ H σA σ → Vals vs us → DVs X.K X.mg μ H ds vs → m ds σA h = some σB →
  wpAny (model X.prog X.w) X.A (assignInOrder ((assignEach tgs X.env).map (·.2)) us) (fun _ s' => ∃ σ', Inv X pins σ' H s' ∧ Sl X μ H σB σ' ∧ Tch ts σ σ') X.xe s
/-- a local name: its place -/
structure LocI (X : Cx) (i : Nat) (x : Str) : Prop where
  nd : X.N.Nodup
  at_ : X.N[i]? = some x
  loc : Loc X.env.scope x
  fn : X.fn x = true ∨ X.env.scope.names.lookup x = some .local
def mgName (i : Nat) : MG := fun d σ _ => some (σ.set i (some d))
theorem sg_name {i : Nat} {x : Str} {pos : Pos} (l : LocI X i x) : SG X (.Name x pos) [i] (mgName i) := by
  intro pins s σ H μ h σA σB d v u I L S r q e
  cases e
  exact wpAny_assign_Name (store_ok I l.nd l.at_ l.loc r (fun s' I' => ⟨_, I', S.set q, Tch.set⟩) l.fn)
def mgNil : List D → Sl0 → AH → Option Sl0 := fun ds σ _ => match ds with | [] => some σ | _ => none
def mgCons (a : MG) (r : List D → Sl0 → AH → Option Sl0) : List D → Sl0 → AH → Option Sl0 := fun ds σ h => match ds with | d :: t => (a d σ h).bind fun σ1 => r t σ1 h | [] => none
theorem sgs_nil : SGs X [] [] mgNil := by
  intro pins s σ H μ h σA σB ds vs us I L S r q e
  unfold mgNil at e
  split at e
  · cases e
    cases q
    cases r
    exact assignInOrder_nil ⟨σ, I, S, Tch.refl⟩
  · cases e
theorem sgs_cons {t : Expr} {ts : List Expr} {a : MG} {r : List D → Sl0 → AH → Option Sl0} {is js : List Nat} (h1 : SG X t is a) (h2 : SGs X ts js r) (hs : (assignEach (t :: ts) X.env).map (·.2) = assign t X.env :: (assignEach ts X.env).map (·.2)) : SGs X (t :: ts) (is ++ js) (mgCons a r) := by
  intro pins s σ H μ h σA σB ds vs us I L S rv q e
  unfold mgCons at e
  split at e
  · rename_i d t
    obtain ⟨v, vr, rfl, q1, q2⟩ := q
    cases rv with
    | cons rv1 rv2 =>
      cases ea : a d σA h with
      | none => rw [ea] at e; cases e
      | some σ1 =>
        rw [ea] at e
        rw [hs]
        refine assignInOrder_cons (thn (h1 pins s σ H μ h σA σ1 d v _ I L S rv1 q1 ea) fun _ s1 ⟨σ2, I2, S2, T2⟩ => ?_)
        exact thn (h2 pins s1 σ2 H μ h σ1 σB _ vr _ I2 L S2 rv2 q2 e) fun _ s3 ⟨σ3, I3, S3, T3⟩ => ⟨σ3, I3, S3, T2.trans T3⟩
  · cases e
def mgTup (n : Nat) (m : List D → Sl0 → AH → Option Sl0) : MG := fun d σ h => match d with | .tup ds => if Nat.beq ds.length n then m ds σ h else none | _ => none
theorem sg_tup {es : List Expr} {k : Nat} {n : Nat} {m : List D → Sl0 → AH → Option Sl0} {is : List Nat} {pos : Pos} (hc : X.calm = true) (hm : SGs X es is m) (hn : (assignEach es X.env).length = n) (hst : (assignEach es X.env).findIdx? (·.1) = none) : SG X (.Tuple es k pos) is (mgTup n m) := by
  intro pins s σ H μ h σA σB d v u I L S r q e
  unfold mgTup at e
  split at e
  · rename_i ds
    split at e
    · rename_i hl
      have hl' := Nat.eq_of_beq_eq_true hl
      obtain ⟨a, vs, rfl, hq, qs⟩ := q
      obtain rfl : u = .ref a := r
      obtain ⟨its, rv, ht, hz⟩ := I.tuple hq.sq
      refine assign_Tuple_tuple (I.ok.hd hc) ht (by simp [hn, ← hl', ← rv.length, qs.length]) hst fun h' hx => ?_
      have I1 : Inv X pins σ H { s with heap := h' } := I.kept (t' := s.toks) fun b o e => hx b o (Nat.ne_of_lt (Heap.lt_size e)) e
      exact hm pins _ σ H μ h σA σB ds vs _ I1 L S (by simpa using rv) qs e
    · cases e
  · cases e
def mAsg (m : ME) (g : MG) : MS := fun σ h => bnE σ (m σ h) fun d h1 => (g d σ h1).map fun σ' => .nx σ' h1
theorem map_nx {o : Option Sl0} {h1 : AH} {r : OS} (e : (o.map fun σ' => OS.nx σ' h1) = some r) : ∃ σ', o = some σ' ∧ r = .nx σ' h1 := by
  cases o with
  | none => cases e
  | some z => exact ⟨z, rfl, (Option.some.inj e).symm⟩
theorem ss_asg {tg e : Expr} {m : ME} {g : MG} {is : List Nat} {pos : Pos} (he : SE X e m) (hg : SG X tg is g) (hs : swapsWithSole [tg] e pos.line X.env = pure false) (hw : swappedStores [tg] e X.env = pure none)
    (h1 : (assignEach [tg] X.env).map (·.2) = [assign tg X.env]) : SS X (.Assign [tg] e pos) (mAsg m g) := by
  intro W pins σA h σ H μ s r A e1
  refine wpAny_Assign_stores (he.seqS A e1 fun d h1' v u H1 μ1 s1 A1 p k rv q e2 => ?_) hs hw
  obtain ⟨σB, e3, rfl⟩ := map_nx e2
  rw [h1]
  refine thn (hg pins s1 σ H1 μ1 h1' σA σB d v u A1.inv A1.lk A1.sl rv q e3) fun _ s2 ⟨σ', I2, S2, _⟩ => ?_
  exact ⟨rfl, σ', H1, μ1, I2, p, k, A1.lk, S2⟩
theorem ss_set {i : Nat} {x : Str} {e : Expr} {m : ME} {pos pos' : Pos} (l : LocI X i x) (he : SE X e m) (hs : swapsWith e (some (.Name x pos')) pos.line X.env = pure false) : SS X (.Assign [.Name x pos'] e pos) (mAsg m (mgName i)) := by
  intro W pins σA h σ H μ s r A e1
  refine wpAny_Assign_Name (he.seqS A e1 fun d h1' v u H1 μ1 s1 A1 p k rv q e2 => ?_) hs
  cases e2
  exact store_ok A1.inv l.nd l.at_ l.loc rv (fun s2 I2 => ⟨rfl, _, H1, μ1, I2, p, k, A1.lk, A1.sl.set q⟩) l.fn
def mPar2 (i j : Nat) (m : MA) : MS := fun σ h => bnE σ (m σ h) fun ds h1 => match ds with | [a, b] => some (.nx ((σ.set i (some a)).set j (some b)) h1) | _ => none
theorem ss_par2 {i j : Nat} {x y : Str} {a b : Expr} {m : MA} {px py pt pos : Pos} {kt k2 pt2} (hc : X.calm = true) (lx : LocI X i x) (ly : LocI X j y) (hij : i ≠ j) (ha : SA X [a, b] m)
    (hw : swappedStores [.Tuple [.Name x px, .Name y py] kt pt] (.Tuple [a, b] k2 pt2) X.env = pure (some [x, y]))
    (hs : swapsWithSole [.Tuple [.Name x px, .Name y py] kt pt] (.Tuple [a, b] k2 pt2) pos.line X.env = pure false) :
    SS X (.Assign [.Tuple [.Name x px, .Name y py] kt pt] (.Tuple [a, b] k2 pt2) pos) (mPar2 i j m) := by
  intro W pins σA h σ H μ s r A e
  rw [exec_Assign_arm]
  refine wpAny_bind (wpAny_standAt ?_)
  rw [hs]
  refine wpAny_bind (wpAny_pure ?_)
  rw [if_neg (by decide)]
  refine wpAny_bind (Tuple_ (ha.seqS A e fun ds h1 vs us H1 μ1 s1 A1 p k rv q e2 => ?_))
  split at e2
  · rename_i d1 d2
    obtain ⟨v1, v2, rfl, q1, q2⟩ := q.two_inv
    cases e2
    cases rv with
    | cons r1 rr =>
      cases rr with
      | cons r2 rr =>
        cases rr
        rename_i u1 u2
        refine wpAny_newObj_type ?_ (by show 2 ≤ sizeLine; decide)
        have I2 : Inv X pins σ H1 { s1 with heap := s1.heap.push { cls := .type "tuple", data := .seq [u1, u2].toArray } } := A1.inv.kept (t' := s1.toks) fun b o e => Heap.get?_push_of_some _ e
        rw [hw]
        refine wpAny_bind (wpAny_pure ?_)
        show wpAny (model X.prog X.w) X.A (do rule "assign.swapped-stores"; let items ← unpackItems (.ref s1.heap.objs.size) 2 none; assignInOrder [fun v => bindName X.env y v, fun v => bindName X.env x v] items.reverse; pure Flow.next) _ _ _
        refine wpAny_bind (wpAny_rule (wpAny_bind (unpackItems_tuple (items := #[u1, u2]) (A1.inv.ok.hd hc) (IsTup.new s1.heap _) fun h' hx' => ?_)))
        have I3 := I2.kept (h' := h') (t' := s1.toks) fun b o e => hx' b o (Nat.ne_of_lt (Heap.lt_size e)) e
        show wpAny _ _ (assignInOrder [fun v => bindName X.env y v, fun v => bindName X.env x v] [u2, u1] >>= fun _ => pure Flow.next) _ _ _
        refine wpAny_bind (assignInOrder_cons (wpAny_bindName (store_ok I3 ly.nd ly.at_ ly.loc r2 (fun s2 I4 => ?_) ly.fn)))
        refine assignInOrder_cons (wpAny_bindName (store_ok I4 lx.nd lx.at_ lx.loc r1 (fun s3 I5 => assignInOrder_nil (wpAny_pure ?_)) lx.fn))
        rw [List.set_comm _ _ (Ne.symm hij)] at I5
        exact ⟨rfl, _, H1, μ1, I5, p, k, A1.lk, (A1.sl.set q1).set q2⟩
  · cases e2
def mPar3 (i j l : Nat) (m : MA) : MS := fun σ h => bnE σ (m σ h) fun ds h1 => match ds with | [a, b, c] => some (.nx (((σ.set i (some a)).set j (some b)).set l (some c)) h1) | _ => none
theorem DVs.three_inv {K : PySem.W.Frag} {mg : Str → Option Value} {μ : List Addr} {H : Hp} {d e f : D} {vs : List V} (q : DVs K mg μ H [d, e, f] vs) : ∃ v w z, vs = [v, w, z] ∧ DV K mg μ H d v ∧ DV K mg μ H e w ∧ DV K mg μ H f z := by
  obtain ⟨v, r, rfl, q1, q2⟩ := q
  obtain ⟨w, z, rfl, q3, q4⟩ := DVs.two_inv q2
  exact ⟨v, w, z, rfl, q1, q3, q4⟩
theorem ss_par3 {i j l : Nat} {x y z : Str} {a b c : Expr} {m : MA} {px py pz pt pos : Pos} {kt k2 pt2} (hc : X.calm = true) (lx : LocI X i x) (ly : LocI X j y) (lz : LocI X l z) (hij : i ≠ j) (hil : i ≠ l) (hjl : j ≠ l) (ha : SA X [a, b, c] m)
    (hw : swappedStores [.Tuple [.Name x px, .Name y py, .Name z pz] kt pt] (.Tuple [a, b, c] k2 pt2) X.env = pure (some [x, y, z]))
    (hs : swapsWithSole [.Tuple [.Name x px, .Name y py, .Name z pz] kt pt] (.Tuple [a, b, c] k2 pt2) pos.line X.env = pure false) :
    SS X (.Assign [.Tuple [.Name x px, .Name y py, .Name z pz] kt pt] (.Tuple [a, b, c] k2 pt2) pos) (mPar3 i j l m) := by
  intro W pins σA h σ H μ s r A e
  rw [exec_Assign_arm]
  refine wpAny_bind (wpAny_standAt ?_)
  rw [hs]
  refine wpAny_bind (wpAny_pure ?_)
  rw [if_neg (by decide)]
  refine wpAny_bind (Tuple_ (ha.seqS A e fun ds h1 vs us H1 μ1 s1 A1 p k rv q e2 => ?_))
  split at e2
  · rename_i d1 d2 d3
    obtain ⟨v1, v2, v3, rfl, q1, q2, q3⟩ := q.three_inv
    cases e2
    cases rv with
    | cons r1 rr =>
      cases rr with
      | cons r2 rr =>
        cases rr with
        | cons r3 rr =>
          cases rr
          rename_i u1 u2 u3
          refine wpAny_newObj_type ?_ (by show 3 ≤ sizeLine; decide)
          have I2 : Inv X pins σ H1 { s1 with heap := s1.heap.push { cls := .type "tuple", data := .seq [u1, u2, u3].toArray } } := A1.inv.kept (t' := s1.toks) fun b o e => Heap.get?_push_of_some _ e
          rw [hw]
          refine wpAny_bind (wpAny_pure ?_)
          show wpAny (model X.prog X.w) X.A (do rule "assign.swapped-stores"; let items ← unpackItems (.ref s1.heap.objs.size) 3 none; assignInOrder [fun v => bindName X.env z v, fun v => bindName X.env y v, fun v => bindName X.env x v] items.reverse; pure Flow.next) _ _ _
          refine wpAny_bind (wpAny_rule (wpAny_bind (unpackItems_tuple (items := #[u1, u2, u3]) (A1.inv.ok.hd hc) (IsTup.new s1.heap _) fun h' hx' => ?_)))
          have I3 := I2.kept (h' := h') (t' := s1.toks) fun b o e => hx' b o (Nat.ne_of_lt (Heap.lt_size e)) e
          show wpAny _ _ (assignInOrder [fun v => bindName X.env z v, fun v => bindName X.env y v, fun v => bindName X.env x v] [u3, u2, u1] >>= fun _ => pure Flow.next) _ _ _
          refine wpAny_bind (assignInOrder_cons (wpAny_bindName (store_ok I3 lz.nd lz.at_ lz.loc r3 (fun s2 I4 => ?_) lz.fn)))
          refine assignInOrder_cons (wpAny_bindName (store_ok I4 ly.nd ly.at_ ly.loc r2 (fun s3 I5 => ?_) ly.fn))
          refine assignInOrder_cons (wpAny_bindName (store_ok I5 lx.nd lx.at_ lx.loc r1 (fun s4 I6 => assignInOrder_nil (wpAny_pure ?_)) lx.fn))
          rw [List.set_comm _ _ (Ne.symm hjl), List.set_comm _ _ (Ne.symm hil), List.set_comm _ _ (Ne.symm hij)] at I6
          exact ⟨rfl, _, H1, μ1, I6, p, k, A1.lk, ((A1.sl.set q1).set q2).set q3⟩
  · cases e2
/-! ### o[i] = v -/
def setD (h : AH) (o i v : D) : Option AH :=
  match o with
  | .ref l => match h[l]? with
    | some (.lst false xs) => match i with
      | .int k => (ixN xs.length k).map fun j => h.set l (.lst false (xs.set j v))
      | _ => none
    | some (.dct false kvs) => if okKey kvs i && Nat.ble kvs.length big then some (h.set l (.dct false (dput kvs i v))) else none
    | _ => none
  | _ => none
theorem setD_ok {pins : List (Addr × Obj)} {σ : L2.St} {H : Hp} {μ : List Addr} {h h' : AH} {s : Shared} {o i v : D} {ox ix vx : V} {ov iv u : Value} (hu : X.A.units + 12 < cLine) (I : Inv X pins σ H s) (L : Lk X μ H h) (qo : DV X.K X.mg μ H o ox) (qi : DV X.K X.mg μ H i ix) (qv : DV X.K X.mg μ H v vx)
    (ro : RelV ox ov) (ri : RelV ix iv) (rv : RelV vx u) (e : setD h o i v = some h') :
    wpAny (model X.prog X.w) X.A (setItem ov iv u) (fun _ s' => ∃ H', Inv X pins σ H' s' ∧ Keeps H H' ∧ Lk X μ H' h') X.xe s := by
  unfold setD at e
  split at e
  · rename_i l
    split at e
    · rename_i xs el
      split at e
      · rename_i k
        cases ej : ixN xs.length k with
        | none => rw [ej] at e; cases e
        | some j =>
          rw [ej] at e
          cases e
          obtain ⟨a, vs, rfl, hl, hH, _, qs⟩ := lst_at L el qo
          have hH := hH rfl
          obtain rfl : ix = .int k := qi
          refine thn (set_list pins s σ H (.ref a) (.int k) vx ov iv u (fun H' => H' = upd H a (.lst (vs.set j vx))) I ro ri rv ⟨a, vs, k, j, rfl, rfl, hH, by rw [qs.length]; exact ej, rfl⟩) fun _ s' ⟨H', I', e'⟩ => ?_
          subst e'
          have kp : Keeps H (upd H a (.lst (vs.set j vx))) := Keeps.put hH (fun _ z => nomatch z) fun _ _ z => nomatch z
          exact ⟨_, I', kp, L.put hl ⟨_, upd_same, (DVs.set qv j qs).keep (List.prefix_refl _) kp⟩⟩
      · cases e
    · rename_i kvs el
      split at e
      · rename_i hb
        simp only [Bool.and_eq_true] at hb
        cases e
        exact dset_ok hu I L el qo qi qv ro ri rv hb.1 hb.2 fun s' H' I' kp L' => ⟨H', I', kp, L'⟩
      · cases e
    · cases e
  · cases e
def mSub (o i v : ME) : MS := fun σ h => bnE σ (v σ h) fun dv h1 => bnE σ (o σ h1) fun d h2 => bnE σ (i σ h2) fun di h3 => (setD h3 d di dv).map fun h4 => .nx σ h4
theorem ss_sub {o i value : Expr} {mo mi mv : ME} {pos pos' : Pos} (hu : X.A.units + 12 < cLine) (ho : SE X o mo) (hi : SE X i mi) (hv : SE X value mv) (hs : swapsWith value (some (.Subscript o i pos')) pos.line X.env = pure false) : SS X (.Assign [.Subscript o i pos'] value pos) (mSub mo mi mv) := by
  intro W pins σA h σ H μ s r A e
  refine wpAny_Assign_Subscript (hv.seqS A e fun dv h1 v u H1 μ1 s1 A1 p1 k1 r1 q1 e1 => ?_) hs
  refine ho.seqS A1 e1 fun d h2 v2 u2 H2 μ2 s2 A2 p2 k2 r2 q2 e2 => ?_
  refine hi.seqS A2 e2 fun di h3 v3 u3 H3 μ3 s3 A3 p3 k3 r3 q3 e3 => ?_
  cases e4 : setD h3 d di dv with
  | none => rw [e4] at e3; cases e3
  | some h4 =>
    rw [e4] at e3
    cases e3
    refine thn (setD_ok hu A3.inv A3.lk (q2.keep p3 k3) q3 (q1.keep (p2.trans p3) (k2.trans k3)) r2 r3 r1 e4) fun _ s4 ⟨H4, I4, k4, L4⟩ => ?_
    exact ⟨rfl, σ, H4, μ3, I4, p1.trans (p2.trans p3), k1.trans (k2.trans (k3.trans k4)), L4, A3.sl.keep (List.prefix_refl _) k4⟩
/-! ### o.f = v -/
def mFld (ok : Nat → Nat → Bool) (f : Nat) (o v : ME) : MS := fun σ h => bnE σ (v σ h) fun dv h1 => bnE σ (o σ h1) fun d h2 => match d with
  | .ref l => match h2[l]? with
    | some (.ins c fs) => if ok c f && Nat.blt fs.length 1000 then some (.nx σ (h2.set l (.ins c (fput fs f dv)))) else none
    | _ => none
  | _ => none
theorem ss_fld {o value : Expr} {mo mv : ME} {f : Nat} {y : Str} {ok : Nat → Nat → Bool} {pos pos' : Pos} (hy : TxtN f y) (hok : ∀ c g, ok c g = true → ClsOk X c g) (ho : SE X o mo) (hv : SE X value mv) (hs : swapsWith value (some (.Attribute o y pos')) pos.line X.env = pure false) : SS X (.Assign [.Attribute o y pos'] value pos) (mFld ok f mo mv) := by
  intro W pins σA h σ H μ s r A e
  refine plainObj_wpAny_Assign_Attribute (hv.seqS A e fun dv h1 v u H1 μ1 s1 A1 p1 k1 r1 q1 e1 => ?_) hs
  refine ho.seqS A1 e1 fun d h2 v2 u2 H2 μ2 s2 A2 p2 k2 r2 q2 e2 => ?_
  split at e2
  · rename_i l
    split at e2
    · rename_i c fs el
      split at e2
      · rename_i hb
        simp only [Bool.and_eq_true] at hb
        cases e2
        obtain ⟨x, C, y', t1, m1, cl, t2, na⟩ := hok c f hb.1
        obtain rfl := t2.inj hy
        obtain ⟨a, ea, rfl⟩ := q2
        obtain ⟨x', C', dx, gs, t3, m3, hH, fv⟩ := A2.lk.at el ea
        obtain rfl := t3.inj t1
        rw [m1] at m3
        cases m3
        obtain rfl : u2 = .ref a := r2
        have kp : ∀ o', Keeps H2 (upd H2 a o') := fun o' => Keeps.put hH (fun _ z => nomatch z) fun _ _ z => nomatch z
        refine setattr_ok A2.inv hH cl na (by rw [fv.length]; exact Nat.lt_of_lt_of_le (Nat.blt_eq.mp hb.2) (Nat.le_refl _)) r1 fun s3 I3 => ?_
        refine ⟨rfl, σ, _, μ2, I3, p1.trans p2, k1.trans (k2.trans (kp _)), A2.lk.put ea ⟨_, _, dx, _, t1, m1, upd_same, ?_⟩, A2.sl.keep (List.prefix_refl _) (kp _).t⟩
        exact ((FsV.put hy (q1.keep p2 k2) fv)).keep (List.prefix_refl _) (kp _).t
      · cases e2
    · cases e2
  · cases e2
/-! ### x += e -/
def mAug (i : Nat) (m : ME) : MS := fun σ h => match σ[i]? with
  | some (some (.int a)) => bnE σ (m σ h) fun d h1 => match d with | .int b => some (.nx (σ.set i (some (.int (a + b)))) h1) | _ => none
  | _ => none
/-! ### while -/
def mWhile (c : MT) (b : MS) : Nat → MS
  | 0 => fun _ _ => none
  | n + 1 => fun σ h => bnE σ (c σ h) fun x h1 => if x then sqS (b σ h1) (mWhile c b n) else some (.nx σ h1)
theorem ss_while {c : Expr} {body : List Stmt} {mc : MT} {mb : MS} {pos : Pos} (n : Nat) (hp : PassesOwn (model X.prog X.w) X.A X.env X.xe) (hc : ST X c mc) (hb : SSs X body mb) : SS X (.While c body [] pos) (mWhile mc mb n) := by
  intro W pins σA h σ H μ s r A e
  refine wpAny_While (codeAny_whileLoop (fun n s' => ∃ σA' h' σ' H' μ', AtS X W pins σA' h' σ' H' μ' s' r.err ∧ Pre μ μ' ∧ Keeps H H' ∧ mWhile mc mb n σA' h' = some r) ?_ n ⟨σA, h, σ, H, μ, A, List.prefix_refl _, Keeps.refl _, e⟩)
  rintro n s1 ⟨σ1, h1, σ2, H1, μ1, A1, p1, k1, e1⟩
  cases n with
  | zero => cases e1
  | succ n =>
    refine wpAny_passesOwn hp (hc.seqS A1 e1 fun b h2 H2 μ2 s2 A2 p2 k2 e2 => ?_)
    cases b with
    | true =>
      rw [if_pos rfl]
      refine wpAny_passesOwn hp (seq_run A2 e2 (fun r1 A3 e3 => hb W pins σ1 h2 σ2 H2 μ2 s2 r1 A3 e3) (fun σ3 h3 σ4 H4 μ4 s4 A4 p4 k4 e4 => ?_) fun f s4 P ne => ?_)
      · exact ⟨n, Nat.lt_succ_self n, σ3, h3, σ4, H4, μ4, A4, p1.trans (p2.trans p4), k1.trans (k2.trans k4), e4⟩
      · have P' := P.lift (p1.trans p2) (k1.trans k2)
        cases r with
        | nx σ h => exact absurd rfl (ne σ h)
        | rt d h' => obtain ⟨u, v, σ', H', μ', rfl, q⟩ := P'; exact ⟨u, v, σ', H', μ', rfl, q⟩
        | er x σ h' => exact P'.elim
    | false =>
      rw [if_neg Bool.false_ne_true]
      cases e2
      exact wpAny_execs_nil (A2.nx (p1.trans p2) (k1.trans k2))
end
end G47
namespace G47
open PySem L2 PyProof.Rows
/-! ### walks: at a turn it stops, or it gives a thing -/
abbrev AI := Nat → AH → Option (Option D)
abbrev MI := Sl0 → AH → R AI
section
variable (X : Cx)
def ItR (μ0 : List Addr) (H0 : Hp) (J : It) (ai : AI) : Prop := ∀ (i : Nat) (μ : List Addr) (H : Hp) (h : AH), Pre μ0 μ → Keeps H0 H → Lk X μ H h →
  (ai i h = some none → J.stop i H) ∧ ∀ d, ai i h = some (some d) → J.go i H ∧ ∀ x H', J.yld i H x H' → Keeps H H' ∧ Lk X μ H' h ∧ DV X.K X.mg μ H' d x
def PostI (pins : List (Addr × Obj)) (σ : L2.St) (tg : Expr) (μ : List Addr) (H : Hp) (r : Out AI) (itv : Value) (s2 : Shared) : Prop :=
  PIE X pins σ tg (fun J H' => ∃ ai h' μ', r = .ok ai h' ∧ Pre μ μ' ∧ Keeps H H' ∧ Lk X μ' H' h' ∧ ItR X μ' H' J ai) itv s2
def SI (tg iter : Expr) (m : MI) : Prop := ∀ W pins σA h σ H μ s r, At X W pins σA h σ H μ s r.err → m σA h = some r →
  wpAny (model X.prog X.w) X.A (eval iter X.env) (fun v s1 => wpAny (model X.prog X.w) X.A (pyIter v) (PostI X pins σ tg μ H r) X.xe s1) X.xe s
end
section
variable {X : Cx}
/-- what a list or a tuple gives -/
def walkD (h : AH) : D → Option AI
  | .tup ds => some fun i _ => some ds[i]?
  | .ref l => match h[l]? with
    | some (.lst _ _) => some fun i h' => match h'[l]? with | some (.lst _ xs) => some xs[i]? | _ => none
    | _ => none
  | _ => none
theorem itr_tup {μ : List Addr} {H : Hp} {a : Addr} {ds : List D} {vs : List V} (t : TupAt X.K H a vs) (q : DVs X.K X.mg μ H ds vs) : ItR X μ H (Itt X.K a) fun i _ => some ds[i]? := by
  intro i μ1 H1 h1 p k L
  have t1 : SqT X.K H1 a vs := (t.keep k).sq
  refine ⟨fun e => ?_, fun d e => ?_⟩
  · have e : ds[i]? = none := Option.some.inj e
    exact ⟨vs, t1, by rw [q.length]; exact List.getElem?_eq_none_iff.mp e⟩
  · have e : ds[i]? = some d := Option.some.inj e
    obtain ⟨v, e1, qv⟩ := (q.keep p k.t).get e
    refine ⟨⟨vs, v, t1, e1⟩, fun x H' ⟨e2, y⟩ => ?_⟩
    subst e2
    have := y vs t1
    rw [e1] at this
    cases this
    exact ⟨Keeps.refl _, L, qv⟩
theorem itr_list {μ : List Addr} {H : Hp} {a : Addr} {l : Nat} (hl : μ[l]? = some a) : ItR X μ H (Itl X.K a) fun i h' => match h'[l]? with | some (.lst _ xs) => some xs[i]? | _ => none := by
  intro i μ1 H1 h1 p k L
  have key : ∀ {lk xs}, h1[l]? = some (.lst lk xs) → ∃ vs, SqL X.K H1 a vs ∧ DVs X.K X.mg μ1 H1 xs vs := fun {lk xs} e => by
    obtain ⟨a', vs, e1, e2, _, s, q⟩ := lst_at L e (⟨a, p.get hl, rfl⟩ : DV X.K X.mg μ1 H1 (.ref l) (.ref a))
    cases e1
    exact ⟨vs, s, q⟩
  refine ⟨fun e => ?_, fun d e => ?_⟩ <;> simp only at e
  · split at e
    · rename_i lk xs el
      obtain ⟨vs, s, q⟩ := key el
      exact ⟨vs, s, by rw [q.length]; exact List.getElem?_eq_none_iff.mp (Option.some.inj e)⟩
    · cases e
  · split at e
    · rename_i lk xs el
      obtain ⟨vs, s, q⟩ := key el
      obtain ⟨v, e1, qv⟩ := q.get (Option.some.inj e)
      refine ⟨⟨vs, v, s, e1⟩, fun x H' ⟨e2, y⟩ => ?_⟩
      subst e2
      have := y vs s
      rw [e1] at this
      cases this
      exact ⟨Keeps.refl _, L, qv⟩
    · cases e
/-- the iterator of a value -/
theorem walk_iter {pins : List (Addr × Obj)} {σ : L2.St} {tg : Expr} {μ : List Addr} {H : Hp} {h : AH} {s : Shared} {d : D} {v : V} {u : Value} {ai : AI} {E : Value → Shared → Prop} (I : Inv X pins σ H s) (L : Lk X μ H h) (q : DV X.K X.mg μ H d v) (r : RelV v u) (e : walkD h d = some ai) :
    wpAny (model X.prog X.w) X.A (pyIter u) (PostI X pins σ tg μ H (.ok ai h)) E s := by
  have fpo : ∀ {o : Obj}, ∀ b ∈ [s.heap.objs.size], FpOk X pins H b := fun b hb => by
    have e : b = s.heap.objs.size := by simpa using hb
    subst e
    exact I.fpOk (Nat.le_refl _) (I.hok.fresh (Nat.le_refl _))
  unfold walkD at e
  split at e
  · rename_i ds
    cases e
    obtain ⟨a, vs, rfl, t, qs⟩ := q
    obtain rfl : u = .ref a := r
    obtain ⟨its, rv, p, hz⟩ := I.tuple t.sq
    refine wpAny_pyIter_tuple (show s.heap.IsTuple a its.toArray from p) ?_
    exact ⟨s.heap.objs.size, [s.heap.objs.size], _, _, H, rfl, I.kept (t' := s.toks) fun b o e => Heap.get?_push_of_some _ e, turn_tuple a _, ⟨_, Heap.get?_push_size _ rfl, rfl, rfl⟩, fpo (o := default),
      _, h, μ, rfl, List.prefix_refl _, Keeps.refl _, L, itr_tup t qs⟩
  · rename_i l
    split at e
    · rename_i lk xs el
      cases e
      obtain ⟨a, vs, rfl, hl, _, sq, qs⟩ := lst_at L el q
      obtain rfl : u = .ref a := r
      obtain ⟨its, rv, p, hz⟩ := I.list sq
      refine wpAny_pyIter_list p.isList ?_
      exact ⟨s.heap.objs.size, [s.heap.objs.size], _, _, H, rfl, I.kept (t' := s.toks) fun b o e => Heap.get?_push_of_some _ e, turn_list a _, ⟨_, Heap.get?_push_size _ rfl, rfl, rfl⟩, fpo (o := default),
        _, h, μ, rfl, List.prefix_refl _, Keeps.refl _, L, itr_list hl⟩
    · cases e
  · cases e
def mWalk (m : ME) : MI := fun σ h => bnd (m σ h) fun d h1 => (walkD h1 d).map fun ai => .ok ai h1
theorem PostI.lift {pins : List (Addr × Obj)} {σ : L2.St} {tg : Expr} {μ μ1 : List Addr} {H H1 : Hp} {r : Out AI} {u : Value} {s1 : Shared} (P : PostI X pins σ tg μ1 H1 r u s1) (p : Pre μ μ1) (k : Keeps H H1) : PostI X pins σ tg μ H r u s1 := by
  obtain ⟨it, fp, tn, J, H', e, I, T, st, f, ai, h', μ', e1, p', k', L, R⟩ := P
  exact ⟨it, fp, tn, J, H', e, I, T, st, f, ai, h', μ', e1, p.trans p', k.trans k', L, R⟩
theorem some_mapI {g : Option AI} {h1 : AH} {r : Out AI} (e : (g.map fun z => Out.ok z h1) = some r) : ∃ ai, g = some ai ∧ r = .ok ai h1 := by
  cases g with
  | none => cases e
  | some z => exact ⟨z, rfl, (Option.some.inj e).symm⟩
theorem si_val {tg e : Expr} {m : ME} (he : SE X e m) : SI X tg e (mWalk m) := by
  intro W pins σA h σ H μ s r A e1
  refine he.seq A e1 fun d h1 v u H1 μ1 s1 A1 p k rv q e2 => ?_
  obtain ⟨ai, e3, rfl⟩ := some_mapI e2
  exact thn (walk_iter A1.inv A1.lk q rv e3) fun _ _ P => P.lift p k
/-- range -/
def rngAI (lo : Int) (n : Nat) : AI := fun i _ => some (if Nat.blt i n then some (.int (lo + i)) else none)
theorem itr_range {μ : List Addr} {H : Hp} {lo : Int} {n : Nat} : ItR X μ H (Itr lo n) (rngAI lo n) := by
  intro i μ1 H1 h1 p k L
  unfold rngAI
  by_cases hi : Nat.blt i n = true
  · rw [if_pos hi]
    refine ⟨fun e => (nomatch e), fun d e => ?_⟩
    cases e
    exact ⟨Nat.blt_eq.mp hi, fun x H' ⟨e2, y⟩ => by subst e2; subst y; exact ⟨Keeps.refl _, L, rfl⟩⟩
  · rw [if_neg hi]
    refine ⟨fun e => ?_, fun d e => nomatch e⟩
    have : ¬ i < n := fun z => hi (Nat.blt_eq.mpr z)
    exact (by omega : n ≤ i)
def small (j : Int) : Bool := decide (-(2 ^ 62) ≤ j) && decide (j < 2 ^ 62)
theorem small_of {j : Int} (h : small j = true) : -(2 ^ 62) ≤ j ∧ j < 2 ^ 62 := by
  simp only [small, Bool.and_eq_true, decide_eq_true_eq] at h; exact h
def rngD : List D → Option AI
  | [.int j] => if small j then some (rngAI 0 j.toNat) else none
  | [.int i, .int j] => if small i && small j then some (rngAI i (j - i).toNat) else none
  | _ => none
def mRng (m : MA) : MI := fun σ h => bnd (m σ h) fun ds h1 => (rngD ds).map fun ai => .ok ai h1
theorem si_range {tg a : Expr} {es : List Expr} {m : MA} {p pos : Pos} (hg : Gl X "range") (hm : X.mg "range" = none) (ha : SA X (a :: es) m) (hs : starEach (a :: es) X.env = (false, eval a X.env) :: starEach es X.env) (hn : ((backTo pos (starEach es X.env)).any fun x => x.fst) = false) : SI X tg (.Call (.Name "range" p) (a :: es) [] pos) (mRng m) := by
  intro W pins σA h σ H μ s r A e1
  refine Call_ (ld_blt A.inv hg hm boot_range (PyProof.Rows.callWith_type1 (ha.seq A e1 fun ds h1 vs us H1 μ1 s1 A1 p k rv q e2 => ?_) hs hn))
  obtain ⟨ai, e3, rfl⟩ := some_mapI e2
  unfold rngD at e3
  split at e3
  · rename_i j
    split at e3
    · rename_i hj
      have hj := small_of hj
      cases e3
      obtain ⟨v, rfl, q1⟩ := q.one_inv
      cases rv with
      | cons r rr =>
        cases rr
        cases q1
        obtain ⟨t, rfl⟩ := r
        exact call_range_1 (range_it A1.inv (by omega) (by omega) hj.1 hj.2 ⟨_, h1, μ1, rfl, p, k, A1.lk, by simpa using itr_range⟩)
    · cases e3
  · rename_i i j
    split at e3
    · rename_i hj
      simp only [Bool.and_eq_true] at hj
      have hi := small_of hj.1
      have hj := small_of hj.2
      cases e3
      obtain ⟨v, w, rfl, q1, q2⟩ := q.two_inv
      cases rv with
      | cons r rr =>
        cases rr with
        | cons r' rr =>
          cases rr
          cases q1; cases q2
          obtain ⟨t, rfl⟩ := r
          obtain ⟨t', rfl⟩ := r'
          exact call_range_2 (range_it A1.inv hi.1 hi.2 hj.1 hj.2 ⟨_, h1, μ1, rfl, p, k, A1.lk, itr_range⟩)
    · cases e3
  · cases e3
/-! ### for -/
def forGo (ai : AI) (g : MG) (b : MS) : Nat → Nat → MS
  | 0, _ => fun _ _ => none
  | n + 1, i => fun σ h => match ai i h with
    | none => none
    | some none => some (.nx σ h)
    | some (some d) => match g d σ h with
      | none => none
      | some σ1 => sqS (b σ1 h) (forGo ai g b n (i + 1))
def mFor (n : Nat) (mi : MI) (g : MG) (b : MS) : MS := fun σ h => bnE σ (mi σ h) fun ai h1 => forGo ai g b n 0 σ h1
theorem SI.seqS {X : Cx} {W : WX} {pins : List (Addr × Obj)} {σA : Sl0} {h : AH} {σ : L2.St} {H : Hp} {μ : List Addr} {s : Shared} {tg e : Expr} {m : MI} {f : AI → AH → Option OS} {r : OS} {Q : Value → Shared → Prop} (ha : SI X tg e m) (A : AtS X W pins σA h σ H μ s r.err) (hm : bnE σA (m σA h) f = some r)
    (k : ∀ ai h1 u s1, PostI X pins σ tg μ H (.ok ai h1) u s1 → f ai h1 = some r → Q u s1) :
    wpAny (model X.prog X.w) X.A (eval e X.env) (fun v s1 => wpAny (model X.prog X.w) X.A (pyIter v) Q X.xe s1) X.xe s := by
  rcases bnE_some hm with ⟨x, h1, e1, rfl⟩ | ⟨d, h1, e1, e2⟩
  · refine thn (ha W pins σA h σ H μ s (.er x h1) A.atE e1) fun u s1 P => thn P fun w s2 P2 => ?_
    obtain ⟨it, fp, tn, J, H', e, I, T, st, f, ai, h', μ', z, _⟩ := P2
    cases z
  · exact thn (ha W pins σA h σ H μ s (.ok d h1) A.at0 e1) fun u s1 P => thn P fun w s2 P2 => k d h1 w s2 P2 e2
theorem ss_for {tg iter : Expr} {body : List Stmt} {mi : MI} {g : MG} {is : List Nat} {b : MS} {pos : Pos} (n : Nat) (hp : PassesOwn (model X.prog X.w) X.A X.env X.xe) (hc : X.calm = true) (hi : SI X tg iter mi) (hg : SG X tg is g) (hb : SSs X body b)
    (hs : ∀ x, foldedSetIterable iter X.env x = pure x) : SS X (.For tg iter body [] pos) (mFor n mi g b) := by
  intro W pins σA h σ H μ s r A e0
  refine wpAny_For (hi.seqS A e0 fun ai h1 itv s2 P2 e2 => ?_) hs
  obtain ⟨it, fp, tn, J, H2, rfl, I2, T, st2, f2, ai', h2, μ2, z, p2, k2, L2', R2⟩ := P2
  cases z
  have stat : ∀ {H' : Hp}, (∀ b ∈ fp, H' b = none) → ∀ b ∈ fp, FpOk X pins H' b := fun hn b hb => ⟨hn b hb, (f2 b hb).2⟩
  refine codeAny_forLoop_any (fun n s' => ∃ i σA' h' σ' H' μ', AtS X W pins σA' h' σ' H' μ' s' r.err ∧ Pre μ2 μ' ∧ Keeps H2 H' ∧ tn i s'.heap ∧ (∀ b ∈ fp, H' b = none) ∧ forGo ai g b n i σA' h' = some r) ?_ n
    ⟨0, σA, h1, σ, H2, μ2, A.go I2 p2 k2 L2' (A.sl.keep p2 k2), List.prefix_refl _, Keeps.refl _, st2, fun b hb => (f2 b hb).1, e2⟩
  rintro m s3 ⟨i, σ3, h3, σ3', H3, μ3, A3, p3, k3, st3, fr3, e3⟩
  cases m with
  | zero => cases e3
  | succ m =>
    have e3 : (match ai i h3 with
      | none => none
      | some none => some (.nx σ3 h3)
      | some (some d) => match g d σ3 h3 with
        | none => none
        | some σ1 => sqS (b σ1 h3) (forGo ai g b m (i + 1))) = some r := e3
    obtain ⟨Rs, Rg⟩ := R2 i μ3 H3 h3 p3 k3 A3.lk
    split at e3
    · cases e3
    · rename_i eai
      cases e3
      refine wpAny_passesOwn hp (thn (T.done X rfl rfl rfl hc i pins s3 σ3' H3 X.xe A3.inv (stat fr3) st3 (Rs eai)) fun r s4 ⟨hr, I4⟩ => ?_)
      subst hr
      exact wpAny_execs_nil ⟨rfl, σ3', H3, μ3, I4, p2.trans p3, k2.trans k3, A3.lk, A3.sl⟩
    · rename_i d eai
      split at e3
      · cases e3
      · rename_i σ4 eg
        obtain ⟨go, yl⟩ := Rg d eai
        refine wpAny_passesOwn hp (thn (T.item X rfl rfl rfl hc i pins s3 σ3' H3 X.xe A3.inv (stat fr3) st3 go) fun r s4 ⟨u, hr, h4⟩ => ?_)
        subst hr
        refine wpAny_passesOwn hp (thn h4 fun _ s5 ⟨x, H5, I5, r5, y5, st5, fr5⟩ => ?_)
        obtain ⟨k5, L5, q5⟩ := yl x H5 y5
        have I5' := I5.pinned (stat fr5) (T.obj _ _ st5)
        refine wpAny_passesOwn hp (thn (hg _ s5 σ3' H5 μ3 h3 σ3 σ4 d x u I5' L5 (A3.sl.keep (List.prefix_refl _) k5) r5 q5 eg) fun _ s6 ⟨σ6, I6, S6, _⟩ => ?_)
        have A6 : AtS X W (pins ++ pinsAt fp s5.heap) σ4 h3 σ6 H5 μ3 s6 r.err := ⟨A3.tk, I6, L5, S6, fun x σ1 h' e => (A3.er x σ1 h' e).keep (List.prefix_refl _) k5⟩
        refine wpAny_passesOwn hp (seq_run A6 e3 (fun r1 A7 e7 => hb W _ σ4 h3 σ6 H5 μ3 s6 r1 A7 e7) (fun σ7 h7 σ8 H7 μ7 s7 A7 p7 k7 e7 => ?_) fun f s7 P ne => ?_)
        · refine ⟨m, Nat.lt_succ_self m, i + 1, σ7, h7, σ8, H7, μ7, ⟨A7.tk, A7.inv.unpinned, A7.lk, A7.sl, A7.er⟩, p3.trans p7, k3.trans (k5.trans k7), T.keep _ _ _ st5 fun b hb o e => (A7.inv.pin (b, o) (List.mem_append_right _ (List.mem_append_right _ (mem_pinsAt hb e)))).1, fun b hb => ?_, e7⟩
          obtain ⟨o, e, d⟩ := T.obj _ _ st5 b hb
          exact (A7.inv.pin (b, o) (List.mem_append_right _ (List.mem_append_right _ (mem_pinsAt hb e)))).2.1
        · cases r with
          | nx σ h => exact absurd rfl (ne σ h)
          | rt d h' =>
            obtain ⟨u, v, σ', H', μ', rfl, I', rv, p', k', L', q'⟩ := P
            exact ⟨u, v, σ', H', μ', rfl, I'.unpinned, rv, p2.trans (p3.trans p'), k2.trans (k3.trans (k5.trans k')), L', q'⟩
          | er x σ h' => exact P.elim
end
end G47
namespace G47
open PySem L2 PyProof.Rows
/-! ### our judgements as the library's, for runs that end well -/
def teOf (X : Cx) (m : ME) : TE := fun σ H Q => ∃ μ σA h d h', Lk X μ H h ∧ Sl X μ H σA σ ∧ m σA h = some (.ok d h') ∧ ∀ v H' μ', Pre μ μ' → Keeps H H' → Lk X μ' H' h' → DV X.K X.mg μ' H' d v → Q v H'
def ttOf (X : Cx) (m : MT) : TT := fun σ H Q => ∃ μ σA h b h', Lk X μ H h ∧ Sl X μ H σA σ ∧ m σA h = some (.ok b h') ∧ ∀ H' μ', Pre μ μ' → Keeps H H' → Lk X μ' H' h' → Q b H'
def tgOf (X : Cx) (ts : List Nat) (m : MG) : TG := fun v σ H Q => ∃ μ σA h d σB, Lk X μ H h ∧ Sl X μ H σA σ ∧ DV X.K X.mg μ H d v ∧ m d σA h = some σB ∧ ∀ σ', Sl X μ H σB σ' → Tch ts σ σ' → Q σ' H
def tiOf (X : Cx) (m : MI) : TI := fun σ H R => ∃ μ σA h ai h', Lk X μ H h ∧ Sl X μ H σA σ ∧ m σA h = some (.ok ai h') ∧ ∀ J H' μ', Pre μ μ' → Keeps H H' → Lk X μ' H' h' → ItR X μ' H' J ai → R J H'
/-- another context over the same ground -/
structure Alk (X Y : Cx) : Prop where
  k : Y.K = X.K
  m : Y.mg = X.mg
  w : Y.w = X.w
theorem Alk.refl {X : Cx} : Alk X X := ⟨rfl, rfl, rfl⟩
theorem Lk.to {X Y : Cx} {μ : List Addr} {H : Hp} {h : AH} (a : Alk X Y) (L : Lk X μ H h) : Lk Y μ H h := by
  refine ⟨L.len, L.nd, fun l o e => ?_⟩
  obtain ⟨b, e1, x⟩ := L.obj l o e
  refine ⟨b, e1, ?_⟩
  unfold OL at x ⊢
  rw [a.k, a.m, a.w]
  exact x
theorem Lk.back {X Y : Cx} {μ : List Addr} {H : Hp} {h : AH} (a : Alk X Y) (L : Lk Y μ H h) : Lk X μ H h := L.to ⟨a.k.symm, a.m.symm, a.w.symm⟩
theorem Sl.to {X Y : Cx} {μ : List Addr} {H : Hp} {σA : Sl0} {σ : L2.St} (a : Alk X Y) (S : Sl X μ H σA σ) : Sl Y μ H σA σ := ⟨S.len, fun i d e => by
  obtain ⟨v, e1, q⟩ := S.get i d e
  exact ⟨v, e1, by rw [a.k, a.m]; exact q⟩⟩
theorem Sl.back {X Y : Cx} {μ : List Addr} {H : Hp} {σA : Sl0} {σ : L2.St} (a : Alk X Y) (S : Sl Y μ H σA σ) : Sl X μ H σA σ := S.to ⟨a.k.symm, a.m.symm, a.w.symm⟩
theorem no_takes {X : Cx} : Takes X fun _ _ _ _ => False := fun u s' ⟨a, B, sI, pins, σ, H, cls, d, e, I, nb, up, sky, na, os, ag, w⟩ => w.elim
theorem at_of {X : Cx} {pins σA h σ H μ s} (I : Inv X pins σ H s) (L : Lk X μ H h) (S : Sl X μ H σA σ) : At X (fun _ _ _ _ => False) pins σA h σ H μ s none := ⟨no_takes, I, L, S, fun _ _ z => nomatch z⟩
theorem pe_of {X Y : Cx} {e : Expr} {m : ME} (a : Alk X Y) (he : SE Y e m) : PE Y e (teOf X m) := by
  refine ⟨fun pins s σ H Q I ⟨μ, σA, h, d, h', L, S, e, k⟩ => ?_⟩
  refine thn (he _ pins σA h σ H μ s (.ok d h') (at_of I (L.to a) (S.to a)) e) fun u s' ⟨d', h2, v, H', μ', z, I', rv, p, kk, L', q⟩ => ?_
  cases z
  exact ⟨v, H', I', rv, k v H' μ' p kk (L'.back a) (by rw [← a.k, ← a.m]; exact q)⟩
theorem pt_of {X Y : Cx} {e : Expr} {m : MT} (a : Alk X Y) (he : ST Y e m) : PT Y e (ttOf X m) := by
  refine ⟨fun pins s σ H Q I ⟨μ, σA, h, b, h', L, S, e, k⟩ => ?_⟩
  refine thn (he _ pins σA h σ H μ s (.ok b h') (at_of I (L.to a) (S.to a)) e) fun u s' ⟨h2, H', μ', z, I', p, kk, L'⟩ => ?_
  cases z
  exact ⟨H', I', k H' μ' p kk (L'.back a)⟩
theorem pg_of {X Y : Cx} {e : Expr} {ts : List Nat} {m : MG} (a : Alk X Y) (he : SG Y e ts m) : PG Y e (tgOf X ts m) := by
  refine ⟨fun pins s σ H v u Q I r ⟨μ, σA, h, d, σB, L, S, q, e, k⟩ => ?_⟩
  refine thn (he pins s σ H μ h σA σB d v u I (L.to a) (S.to a) r (by rw [a.k, a.m]; exact q) e) fun _ s' ⟨σ', I', S', T⟩ => ?_
  exact ⟨σ', H, I', k σ' (S'.back a) T⟩
theorem pi_of {X : Cx} {tg e : Expr} {m : MI} (he : SI X tg e m) : PI X tg e (tiOf X m) := by
  refine ⟨fun pins s σ H R I ⟨μ, σA, h, ai, h', L, S, e, k⟩ => ?_⟩
  refine thn (he _ pins σA h σ H μ s (.ok ai h') (at_of I L S) e) fun u s1 P => thn P fun w s2 P2 => ?_
  obtain ⟨it, fp, tn, J, H', e, I, T, st, f, ai', h2, μ', z, p, kk, L', R'⟩ := P2
  cases z
  exact ⟨it, fp, tn, J, H', e, I, T, st, f, k J H' μ' p kk L' R'⟩
/-! ### list comprehensions -/
def wipeA (σ : Sl0) : List Nat → Sl0
  | [] => σ
  | v :: vs => (wipeA σ vs).set v none
theorem wipeA_length (σ : Sl0) : ∀ vs : List Nat, (wipeA σ vs).length = σ.length
  | [] => rfl
  | v :: vs => by unfold wipeA; rw [List.length_set, wipeA_length σ vs]
theorem wipeA_some {σ : Sl0} {i : Nat} {x : D} : ∀ {vs : List Nat}, (wipeA σ vs)[i]? = some (some x) → σ[i]? = some (some x) ∧ i ∉ vs
  | [], h => ⟨h, by simp⟩
  | v :: vs, h => by
    unfold wipeA at h
    by_cases hi : v = i
    · subst hi
      by_cases hv : v < (wipeA σ vs).length
      · rw [List.getElem?_set_self hv] at h; cases h
      · rw [List.getElem?_eq_none (by simpa using hv)] at h; cases h
    · rw [List.getElem?_set_ne hi] at h
      obtain ⟨h1, h2⟩ := wipeA_some h
      exact ⟨h1, by simp only [List.mem_cons, not_or]; exact ⟨fun e => hi e.symm, h2⟩⟩
theorem Sl.wipe {X : Cx} {μ : List Addr} {H : Hp} {σA : Sl0} {σ : L2.St} (S : Sl X μ H σA σ) (vs : List Nat) : Sl X μ H (wipeA σA vs) (L2.wipe σ vs) := by
  refine ⟨by rw [wipeA_length, wipe_length]; exact S.len, fun i d e => ?_⟩
  obtain ⟨e1, h1⟩ := wipeA_some e
  obtain ⟨v, e2, q⟩ := S.get i d e1
  exact ⟨v, by rw [wipe_ix, if_neg h1]; exact e2, q⟩
/-- the turns: the new list stands at l -/
def lcGo (ai : AI) (g : MG) (mt : MT) (me : ME) (σ : Sl0) (l : Nat) : Nat → Nat → AH → Option AH
  | 0, _, _ => none
  | n + 1, i, h => match ai i h with
    | none => none
    | some none => some h
    | some (some d) => match g d σ h with
      | none => none
      | some σ2 => match mt σ2 h with
        | some (.ok true h2) => match me σ2 h2 with
          | some (.ok y h3) => match h3[l]? with
            | some (.lst false acc) => if Nat.blt acc.length big then lcGo ai g mt me σ l n (i + 1) (h3.set l (.lst false (acc ++ [y]))) else none
            | _ => none
          | _ => none
        | some (.ok false h2) => lcGo ai g mt me σ l n (i + 1) h2
        | _ => none
def mLc (n : Nat) (vs : List Nat) (mi : MI) (g : MG) (mt : MT) (me : ME) : ME := fun σ h => match mi σ h with
  | some (.ok ai h1) => (lcGo ai g mt me (wipeA σ vs) h1.length n 0 (h1 ++ [.lst false []])).map fun h2 => .ok (.ref h1.length) h2
  | _ => none
theorem lc_run {X : Cx} {n : Nat} {vs ts : List Nat} {mi : MI} {g : MG} {mt : MT} {me : ME} {σA : Sl0} {h : AH} {σ : L2.St} {H : Hp} {μ : List Addr} {d : D} {hF : AH} {Q : VK} (hts : ∀ i ∈ ts, i ∈ vs) (L : Lk X μ H h) (S : Sl X μ H σA σ) (e : mLc n vs mi g mt me σA h = some (.ok d hF))
    (k : ∀ v H' μ', Pre μ μ' → Keeps H H' → Lk X μ' H' hF → DV X.K X.mg μ' H' d v → Q v H') : tLc (tiOf X mi) (tgOf X ts g) (ttOf X mt) (teOf X me) vs σ H Q := by
  unfold mLc at e
  split at e
  · rename_i ai h1 emi
    cases ego : lcGo ai g mt me (wipeA σA vs) h1.length n 0 (h1 ++ [.lst false []]) with
    | none => rw [ego] at e; cases e
    | some h2 =>
      rw [ego] at e
      cases e
      refine ⟨μ, σA, h, ai, h1, L, S, emi, fun J H1 μ1 p1 k1 L1 R1 D hD => ?_⟩
      have LD : Lk X (μ1 ++ [D]) (upd H1 D (.lst [])) (h1 ++ [.lst false []]) := L1.new hD ⟨[], upd_same, rfl⟩
      have lD : (μ1 ++ [D])[h1.length]? = some D := L1.newRef
      have pD : Pre μ1 (μ1 ++ [D]) := List.prefix_append _ _
      have kD : Keeps H1 (upd H1 D (.lst [])) := Keeps.new hD
      refine ⟨fun i m H2 => ∃ μ2 h3, Pre (μ1 ++ [D]) μ2 ∧ Keeps H1 H2 ∧ Lk X μ2 H2 h3 ∧ lcGo ai g mt me (wipeA σA vs) h1.length m i h3 = some hF, ⟨n, μ1 ++ [D], _, List.prefix_refl _, kD, LD, ego⟩, ?_⟩
      rintro i m H2 ⟨μ2, h3, p2, k2, L2', e2⟩
      cases m with
      | zero => cases e2
      | succ m =>
        have e2 : (match ai i h3 with
          | none => none
          | some none => some h3
          | some (some d) => match g d (wipeA σA vs) h3 with
            | none => none
            | some σ2 => match mt σ2 h3 with
              | some (.ok true h2) => match me σ2 h2 with
                | some (.ok y h3) => match h3[h1.length]? with
                  | some (.lst false acc) => if Nat.blt acc.length big then lcGo ai g mt me (wipeA σA vs) h1.length m (i + 1) (h3.set h1.length (.lst false (acc ++ [y]))) else none
                  | _ => none
                | _ => none
              | some (.ok false h2) => lcGo ai g mt me (wipeA σA vs) h1.length m (i + 1) h2
              | _ => none) = some hF := e2
        obtain ⟨Rs, Rg⟩ := R1 i μ2 H2 h3 (pD.trans p2) k2 L2'
        split at e2
        · cases e2
        · rename_i eai
          cases e2
          refine .inl ⟨Rs eai, k (.ref D) H2 μ2 (p1.trans (pD.trans p2)) (k1.trans k2) L2' ⟨D, p2.get lD, rfl⟩⟩
        · rename_i dd eai
          split at e2
          · cases e2
          · rename_i σ4 eg
            obtain ⟨go, yl⟩ := Rg dd eai
            refine .inr ⟨go, fun H' => ∃ μ' h', Pre (μ1 ++ [D]) μ' ∧ Keeps H1 H' ∧ Lk X μ' H' h' ∧ lcGo ai g mt me (wipeA σA vs) h1.length m (i + 1) h' = some hF, fun H' ⟨μ', h', z1, z2, z3, z4⟩ => ⟨m, Nat.lt_succ_self m, μ', h', z1, z2, z3, z4⟩, fun x H5 y5 => ?_⟩
            obtain ⟨k5, L5, q5⟩ := yl x H5 y5
            have S5 : Sl X μ2 H5 (wipeA σA vs) (L2.wipe σ vs) := (S.wipe vs).keep (p1.trans (pD.trans p2)) ((k1.trans k2).trans k5)
            refine ⟨μ2, wipeA σA vs, h3, dd, σ4, L5, S5, q5, eg, fun σ' S' T' => ⟨?_, ?_⟩⟩
            · rw [T'.wipe hts]
              refine List.ext_getElem? fun i => ?_
              rw [wipe_ix, wipe_ix]
              by_cases hi : i ∈ vs
              · rw [if_pos hi, if_pos hi]; cases σ[i]? <;> rfl
              · rw [if_neg hi, if_neg hi]
            · split at e2
              · rename_i h6 emt
                refine ⟨μ2, σ4, h3, true, h6, L5, S', emt, fun H6 μ6 p6 k6 L6 => ?_⟩
                simp only [if_true]
                split at e2
                · rename_i y h7 eme
                  refine ⟨μ6, σ4, h6, y, h7, L6, S'.keep p6 k6, eme, fun v H7 μ7 p7 k7 L7 q7 => ?_⟩
                  split at e2
                  · rename_i acc eacc
                    split at e2
                    · rename_i hb
                      have lD7 : μ7[h1.length]? = some D := p7.get (p6.get (p2.get lD))
                      obtain ⟨a, vs', e8, e9, hH, _, q8⟩ := lst_at L7 eacc (⟨D, lD7, rfl⟩ : DV X.K X.mg μ7 H7 (.ref h1.length) (.ref D))
                      cases e8
                      have hH := hH rfl
                      have kp : Keeps H7 (upd H7 D (.lst (vs' ++ [v]))) := Keeps.put hH (fun _ z => nomatch z) fun _ _ z => nomatch z
                      refine ⟨vs', hH, ?_, μ7, _, p2.trans (p6.trans p7), k2.trans (k5.trans (k6.trans (k7.trans kp))), L7.put (o := .lst false (acc ++ [y])) lD7 ⟨_, upd_same, ?_⟩, e2⟩
                      · rw [q8.length]
                        exact Nat.lt_of_lt_of_le (Nat.blt_eq.mp hb) (by rw [sizeLine_eq]; decide)
                      · exact (q8.append (DVs.one q7)).keep (List.prefix_refl _) kp
                    · cases e2
                  · cases e2
                · cases e2
              · rename_i h6 emt
                refine ⟨μ2, σ4, h3, false, h6, L5, S', emt, fun H6 μ6 p6 k6 L6 => ?_⟩
                simp only [Bool.false_eq_true, if_false]
                exact ⟨μ6, h6, p2.trans p6, k2.trans (k5.trans k6), L6, e2⟩
              · cases e2
  · cases e
section
variable {X : Cx}
/-- the tests of a clause -/
def STs (X : Cx) (ifs : List Expr) (m : MT) : Prop := PTs X ifs (ttOf X m)
def mYes : MT := fun _ h => some (.ok true h)
/-- what stands in the block of a comprehension -/
abbrev Blk (X : Cx) (scope : Scope) (P : Cx → Prop) : Prop := ∀ (s : Shared) (H : Hp) (C : Addr) (cl : List (Str × Addr)) (fp : List Addr), P (X.blk s H scope (compEnvC scope cl C X.env) fp)
theorem pts_yes {Y : Cx} (a : Alk X Y) : PTs Y [] (ttOf X mYes) := ⟨fun pins s σ H Q I ⟨μ, σA, h, b, h', L, S, e, k⟩ => by
  cases e
  exact wpAny_tests_nil ⟨H, I, k H μ (List.prefix_refl _) (Keeps.refl _) L⟩⟩
theorem pts_test {Y : Cx} {c : Expr} {m : MT} (a : Alk X Y) (h : ST Y c m) : PTs Y [c] (ttOf X m) := pts_one (pt_of a h)
theorem se_lc {elt tg iter : Expr} {ifs : List Expr} {scope : Scope} {own : List (Str × Nat)} {ts : List Nat} {pos : Pos} {mi : MI} {g : MG} {mt : MT} {me : ME} (n : Nat) (hc : X.calm = true) (hN : X.N.Nodup) (hi : SI X tg iter mi) (ok : BlkOk X.N X.env.scope scope own) (hts : ∀ i ∈ ts, i ∈ own.map (·.2))
    (hg : Blk X scope fun Y => SG Y tg ts g) (ht : Blk X scope fun Y => PTs Y ifs (ttOf X mt)) (he : Blk X scope fun Y => SE Y elt me) (hs : ∀ x, foldedSetIterable iter X.env x = pure x) :
    SE X (.ListComp elt [⟨tg, iter, ifs, 0⟩] scope pos) (mLc n (own.map (·.2)) mi g mt me) := by
  intro W pins σA h σ H μ s r A e
  have hr : ∃ d h', r = .ok d h' := by
    unfold mLc at e
    split at e
    · rename_i ai h1 _
      cases ego : lcGo ai g mt me (wipeA σA (own.map (·.2))) h1.length n 0 (h1 ++ [.lst false []]) with
      | none => rw [ego] at e; cases e
      | some h2 => rw [ego] at e; exact ⟨_, _, (Option.some.inj e).symm⟩
    · cases e
  obtain ⟨d, h', rfl⟩ := hr
  refine thn ((pe_lc (pos := pos) hc hN (pi_of hi) ok (fun s H C cl fp => pg_of ⟨rfl, rfl, rfl⟩ (hg s H C cl fp)) (fun s H C cl fp => ht s H C cl fp) (fun s H C cl fp => pe_of ⟨rfl, rfl, rfl⟩ (he s H C cl fp)) hs).run pins s σ H (QE X μ H d h') A.inv (lc_run hts A.lk A.sl e fun v H' μ' p k L q => ⟨μ', p, k, L, q⟩)) fun u s' P => QE.post P
theorem ss_setLc {i : Nat} {y : Str} {py : Pos} {elt tg iter : Expr} {ifs : List Expr} {scope : Scope} {own : List (Str × Nat)} {ts : List Nat} {pos spos : Pos} {mi : MI} {g : MG} {mt : MT} {me : ME} (n : Nat) (hc : X.calm = true) (l : LocI X i y) (hyl : X.env.scope.names.lookup y = some .local)
    (hsw : swapsWith (.ListComp elt [⟨tg, iter, ifs, 0⟩] scope pos) (some (.Name y py)) spos.line X.env = pure true) (hi : SI X tg iter mi) (ok : BlkOk X.N X.env.scope scope own) (hts : ∀ i ∈ ts, i ∈ own.map (·.2))
    (hg : Blk X scope fun Y => SG Y tg ts g) (ht : Blk X scope fun Y => PTs Y ifs (ttOf X mt)) (he : Blk X scope fun Y => SE Y elt me) (hs : ∀ x, foldedSetIterable iter X.env x = pure x) :
    SS X (.Assign [.Name y py] (.ListComp elt [⟨tg, iter, ifs, 0⟩] scope pos) spos) (mAsg (mLc n (own.map (·.2)) mi g mt me) (mgName i)) := by
  intro W pins σA h σ H μ s r A e
  have hr : ∃ d h', mLc n (own.map (·.2)) mi g mt me σA h = some (.ok d h') ∧ r = .nx (σA.set i (some d)) h' := by
    unfold mAsg at e
    rcases bnE_some e with ⟨x, h1, e1, _⟩ | ⟨d, h1, e1, e2⟩
    · exfalso
      unfold mLc at e1
      split at e1
      · rename_i ai h1 _
        cases ego : lcGo ai g mt me (wipeA σA (own.map (·.2))) h1.length n 0 (h1 ++ [.lst false []]) with
        | none => rw [ego] at e1; cases e1
        | some h2 => rw [ego] at e1; cases e1
      · cases e1
    · exact ⟨d, h1, e1, (Option.some.inj e2).symm⟩
  obtain ⟨d, h', e1, rfl⟩ := hr
  refine thn ((ps_setLc (pos := pos) (py := py) hc l.nd l.at_ hyl hsw (pi_of hi) ok (fun s H C cl fp => pg_of ⟨rfl, rfl, rfl⟩ (hg s H C cl fp)) (fun s H C cl fp => ht s H C cl fp) (fun s H C cl fp => pe_of ⟨rfl, rfl, rfl⟩ (he s H C cl fp)) hs).run pins s σ H
    { nx := fun σ' H' => ∃ μ', Pre μ μ' ∧ Keeps H H' ∧ Lk X μ' H' h' ∧ Sl X μ' H' (σA.set i (some d)) σ', rt := fun _ _ => False } A.inv (lc_run hts A.lk A.sl e1 fun v H' μ' p k L q => ⟨μ', p, k, L, (A.sl.keep p k).set q⟩)) fun f s' P => ?_
  cases f with
  | next => obtain ⟨σ', H', I', μ', p, k, L, S⟩ := P; exact ⟨rfl, σ', H', μ', I', p, k, L, S⟩
  | brk => obtain ⟨σ', H', I', z⟩ := P; exact z.elim
  | cont => obtain ⟨σ', H', I', z⟩ := P; exact z.elim
  | ret u => obtain ⟨v, σ', H', I', r, z⟩ := P; exact z.elim
end
end G47
namespace G47
open PySem L2 PyProof.Rows
/-! ### functions -/
abbrev MF := List D → AH → R D
/-- what a function promises -/
def spOf (K : PySem.W.Frag) (mg : Str → Option Value) (w : World) (n : Nat) (f : MF) : Sp := fun vs H Q E => ∃ (X : Cx) (μ : List Addr) (h : AH) (ds : List D) (r : Out D), X.K = K ∧ X.mg = mg ∧ X.w = w ∧ ds.length = n ∧ Lk X μ H h ∧ DVs X.K X.mg μ H ds vs ∧ f ds h = some r ∧
  (∀ d h', r = .ok d h' → ∀ v H' μ', Pre μ μ' → Keeps H H' → Lk X μ' H' h' → DV X.K X.mg μ' H' d v → Q v H') ∧
  (∀ x h', r = .er x h' → ∀ H' μ' cls dd, Pre μ μ' → Keeps H H' → Lk X μ' H' h' → XR X μ' H' x cls dd → E cls dd H')
theorem XR.to {X Y : Cx} {μ : List Addr} {H : Hp} {x : Xn} {cls : Value} {d : Option Addr} (a : Alk X Y) (h : XR X μ H x cls d) : XR Y μ H x cls d := by
  unfold XR at h ⊢
  rw [a.k, a.m]
  exact h
theorem Alk.symm {X Y : Cx} (a : Alk X Y) : Alk Y X := ⟨a.k.symm, a.m.symm, a.w.symm⟩
/-- a body's end -/
def endF : OS → Out D
  | .nx _ h => .ok .non h
  | .rt d h => .ok d h
  | .er x _ h => .er x h
def mFun (n : Nat) (b : MS) : MF := fun ds h => (b (ds.map some ++ List.replicate (n - ds.length) none) h).map endF
theorem sl_start {X : Cx} {μ : List Addr} {H : Hp} {ds : List D} {vs : List V} {N : List Str} (q : DVs X.K X.mg μ H ds vs) : Sl X μ H (ds.map some ++ List.replicate (N.length - ds.length) none) (L2.start N vs) := by
  unfold L2.start
  refine ⟨by simp [q.length], fun i d e => ?_⟩
  by_cases hi : i < ds.length
  · rw [List.getElem?_append_left (by simpa using hi), List.getElem?_map] at e
    cases ed : ds[i]? with
    | none => rw [ed] at e; cases e
    | some d' =>
      rw [ed] at e; cases e
      obtain ⟨v, ev, qv⟩ := q.get ed
      exact ⟨v, by rw [List.getElem?_append_left (by rw [List.length_map, q.length]; exact hi), List.getElem?_map, ev]; rfl, qv⟩
  · rw [List.getElem?_append_right (by simpa using hi), List.getElem?_replicate] at e
    split at e <;> cases e
section
variable {P : Program} {w : World} {K : PySem.W.Frag} {mg : Str → Option Value} {base : Heap}
theorem fn_S {k : Nat} {f : Addr} {name qual : Str} {params : Arguments} {body : List Stmt} {scope : Scope} {dV kV doc pm cdv ct oc : Value} {an od : Option Addr}
    {osl : Array (Option Value)} {N ps : List Str} {m : MS} (lk : K.lookup f = some ⟨oc, od, .func (PySem.W.fnOf name qual params body scope dV kV doc pm an cdv ct), osl⟩) (hcd : PySem.W.codeIn K cdv qual = true) (S : FnScope N ps scope)
    (hbody : ∀ (A : Around) (outer : List Env) (s : Shared) (H : Hp) (E : XK), Room k (A.deeper (envOfC qual scope s.heap.objs.size f cdv)) →
      SSs (cxOf (CX P w) P w K mg base N qual scope f cdv A outer s H E) body m) :
    FnOk P w K mg base (CX P w) (k + 1) f (PySem.W.fnOf name qual params body scope dV kV doc pm an cdv ct) ps (spOf K mg w ps.length (mFun N.length m)) := by
  refine fn_of lk hcd S (fun vs H Q E ⟨X, μ, h, ds, r, e1, e2, e3, hl, L, q, _⟩ => by rw [q.length, hl]) fun A outer s H vs Q E hr hsp => ?_
  have B := hbody A outer s H E hr
  generalize hX : cxOf (CX P w) P w K mg base N qual scope f cdv A outer s H E = X at B ⊢
  have tk : Takes X fun cls d _ H => E cls d H := by
    subst hX
    exact takes_of rfl rfl rfl rfl
  have al : ∀ {Y : Cx}, Y.K = K → Y.mg = mg → Y.w = w → Alk Y X := fun a b c => by subst hX; exact ⟨a.symm, b.symm, c.symm⟩
  refine ⟨fun D σ H1 => H1 = H ∧ σ = L2.start N vs ∧ D = { nx := fun _ H' => Q .non H', rt := Q }, ⟨fun pins s1 σ H1 D I ⟨eH, eσ, eD⟩ => ?_⟩, rfl, rfl, rfl⟩
  subst eH; subst eσ; subst eD
  obtain ⟨Y, μ, h, ds, r, e1, e2, e3, hl, L, q, ef, hok, her⟩ := hsp
  have a := al e1 e2 e3
  unfold mFun at ef
  cases em : m (ds.map some ++ List.replicate (N.length - ds.length) none) h with
  | none => rw [em] at ef; cases ef
  | some o =>
    rw [em] at ef
    have ef : endF o = r := Option.some.inj ef
    have qX : DVs X.K X.mg μ H1 ds vs := by rw [a.k, a.m]; exact q
    have A0 : AtS X (fun cls d _ H => E cls d H) pins (ds.map some ++ List.replicate (N.length - ds.length) none) h (L2.start N vs) H1 μ s1 o.err := by
      refine ⟨tk, I, L.to a, sl_start qX, fun x σ1 h1 eo => ?_⟩
      cases o with
      | nx _ _ => cases eo
      | rt _ _ => cases eo
      | er x' σ' h' =>
        cases eo
        intro μ' H' σ2 cls d p kk L' S' xr
        exact her x h1 ef.symm H' μ' cls d p kk (L'.back a) (xr.to a.symm)
    refine thn (B _ pins _ h _ H1 μ s1 o A0 em) fun fl s2 P => ?_
    cases o with
    | nx σA h' =>
      obtain ⟨rfl, σ', H', μ', I', p, kk, L', S'⟩ := P
      exact ⟨σ', H', I', hok .non h' ef.symm .non H' μ' p kk (L'.back a) rfl⟩
    | rt d h' =>
      obtain ⟨u, v, σ', H', μ', rfl, I', rv, p, kk, L', q'⟩ := P
      exact ⟨v, σ', H', I', rv, hok d h' ef.symm v H' μ' p kk (L'.back a) (by rw [← a.k, ← a.m]; exact q')⟩
    | er _ _ _ => exact P.elim
end
section
variable {X : Cx}
/-- a function, ready for a call: n its arguments -/
structure FnS (X : Cx) (f : Addr) (n : Nat) (φ : MF) : Prop where
  ex : ∃ k fd ps, FnOk X.prog X.w X.K X.mg X.base (CX X.prog X.w) k f fd ps (spOf X.K X.mg X.w n φ) ∧ Room k X.A ∧ Binds X.K fd ps [] ∧ ps.length = n
/-- the callee runs -/
theorem FnS.run {f : Addr} {n : Nat} {φ : MF} {W : WX} {pins σA h σ H μ s r} {ds : List D} {vs : List V} {us : List Value} (F : FnS X f n φ) (A : At X W pins σA h σ H μ s r.err) (q : DVs X.K X.mg μ H ds vs) (rv : Vals vs us) (hn : ds.length = n) (e : φ ds h = some r) :
    wpAny (model X.prog X.w) X.A (call (.ref f) us) (PostE X pins σ μ H r) X.xe s := by
  obtain ⟨k, fd, ps, F, hr, hb, hl⟩ := F.ex
  have hlu : us.length = ps.length := by rw [hl, ← hn, ← q.length, rv.length]
  have hb' := hb s us A.inv.kIn (by simpa using hlu)
  rw [List.append_nil] at hb'
  refine wpAny_call (codeAny_mono (F.run X.A X.stack s H ⟨us, []⟩ us vs (fun v H' => ∃ d h', r = .ok d h' ∧ QE X μ H d h' v H') (fun cls d H' => W cls d σ H') hr A.inv.env0 hb' rv
    ⟨X, μ, h, ds, r, rfl, rfl, rfl, hn, A.lk, q, e, fun d h' er v H' μ' p kk L q => ⟨d, h', er, μ', p, kk, L, q⟩, fun x h' er H' μ' cls dd p kk L xr => A.er x h' (by rw [er]; rfl) μ' H' σ cls dd p kk L (A.sl.keep p kk) xr⟩) fun rr s' hq => ?_)
  cases rr with
  | error ev => exact A.tk ev s' (XE.of_call A.inv (fun _ _ _ z => z) hq)
  | ok fl =>
    cases fl with
    | ret u =>
      obtain ⟨v, H', I', rv', d, h', er, μ', p, kk, L, q⟩ := A.inv.after hq
      subst er
      exact ⟨d, h', v, H', μ', rfl, I', rv', p, kk, L, q⟩
    | next => exact False.elim hq
    | brk => exact False.elim hq
    | cont => exact False.elim hq
def mCallF (n : Nat) (φ : MF) (m : MA) : ME := fun σ h => bnd (m σ h) fun ds h1 => if Nat.beq ds.length n then φ ds h1 else none
theorem se_call {x : Str} {f : Addr} {n : Nat} {φ : MF} {e : Expr} {es : List Expr} {m : MA} {p pos : Pos} (F : FnS X f n φ) (hg : Gl X x) (hm : X.mg x = some (.ref f)) (hk : PySem.W.keepIn X.K (.ref f) = true) (ha : SA X (e :: es) m)
    (hdb : (x == ("__debug__" : Str)) = false) (he : starEach (e :: es) X.env = (false, eval e X.env) :: starEach es X.env) (hpl : (backTo pos (starEach es X.env)).any (·.1) = false) : SE X (.Call (.Name x p) (e :: es) [] pos) (mCallF n φ m) := by
  intro W pins σA h σ H μ s r A e0
  refine wpAny_Call_Name_kw (ld_glob A.inv hg hm ?_ hdb)
  refine PySem.W.callWith_K (h₀ := X.base) A.inv.ok.mod.kin hk (ha.seq A e0 fun ds h1 vs us H1 μ1 s1 A1 p k rv q e1 => ⟨A1.inv.kIn, ?_⟩) he hpl
  split at e1
  · rename_i hn
    exact thn (F.run A1 q rv (Nat.eq_of_beq_eq_true hn) e1) fun _ _ P => P.lift p k
  · cases e1
def mCallF0 (φ : MF) : ME := fun σ h => φ [] h
theorem se_call0 {x : Str} {f : Addr} {φ : MF} {p pos : Pos} (F : FnS X f 0 φ) (hg : Gl X x) (hm : X.mg x = some (.ref f)) (hk : PySem.W.keepIn X.K (.ref f) = true) (hdb : (x == ("__debug__" : Str)) = false) : SE X (.Call (.Name x p) [] [] pos) (mCallF0 φ) := by
  intro W pins σA h σ H μ s r A e0
  refine wpAny_Call_Name_kw (ld_glob A.inv hg hm ?_ hdb)
  exact PySem.W.callWith_K0 A.inv.kIn hk (F.run (ds := []) (vs := []) (us := []) A rfl .nil rfl e0)
/-! ### methods of own classes -/
structure MethS (X : Cx) (c : Nat) (m : Str) (n : Nat) (φ : MF) : Prop where
  ex : ∃ x C f, TxtN c x ∧ X.mg x = some (.ref C) ∧ Cls X.K C ∧ Meth X.K C m f ∧ FnS X f n φ
/-- who it is, and the function -/
def ownM (tbl : Nat → Option (Nat × MF)) (mc : Nat) (h : AH) : D → Option (Nat × MF)
  | .ref l => match h[l]? with
    | some (.ins c fs) => match fget fs mc with
      | none => tbl c
      | some _ => none
    | _ => none
  | _ => none
def mMethF (tbl : Nat → Option (Nat × MF)) (mc : Nat) (o : ME) (m : MA) : ME := fun σ h => bnd (o σ h) fun x h1 => match ownM tbl mc h1 x with
  | some (n, φ) => bnd (m σ h1) fun ds h2 => if Nat.beq (ds.length + 1) n then φ (x :: ds) h2 else none
  | none => none
theorem ownM_at {tbl : Nat → Option (Nat × MF)} {mc : Nat} {mn : Str} {pins σ H μ s} {h : AH} {d : D} {v : V} {u : Value} {n : Nat} {φ : MF} {pl : Sem Bool} {Q : Value × List Value → Shared → Prop} {Af : Around} {E : Value → Shared → Prop} (ht : TxtN mc mn) (hT : ∀ c n φ, tbl c = some (n, φ) → MethS X c mn n φ) (I : Inv X pins σ H s) (L : Lk X μ H h) (q : DV X.K X.mg μ H d v) (r : RelV v u) (e : ownM tbl mc h d = some (n, φ))
    (k : ∀ a f, u = .ref a → v = .ref a → PySem.W.keepIn X.K (.ref f) = true → FnS X f n φ → Q (.ref f, [.ref a]) s) : wpAny (model X.prog X.w) Af (getMethod u mn pl) Q E s := by
  unfold ownM at e
  split at e
  · rename_i l
    split at e
    · rename_i c fs el
      split at e
      · rename_i ef
        obtain ⟨x, C, f, t1, m1, cl, mt, F⟩ := (hT c n φ e).ex
        obtain ⟨a, ea, rfl⟩ := q
        obtain ⟨x', C', dx, gs, t3, m3, hH, fv⟩ := L.at el ea
        obtain rfl := t3.inj t1
        rw [m1] at m3
        cases m3
        obtain rfl : u = .ref a := r
        have hn : gs.lookup mn = none := by
          rcases FsV.get ht fv with ⟨_, z⟩ | ⟨d, v, z, _⟩
          · exact z
          · rw [ef] at z; cases z
        exact getmeth_ok I hH cl mt hn (k a f rfl rfl mt.kp F)
      · cases e
    · cases e
  · cases e
theorem se_methF {o e : Expr} {es : List Expr} {mn : Str} {mc : Nat} {tbl : Nat → Option (Nat × MF)} {mo : ME} {ma : MA} {apos pos : Pos} {pl : Sem Bool} (ht : TxtN mc mn) (hT : ∀ c n φ, tbl c = some (n, φ) → MethS X c mn n φ) (ho : SE X o mo) (ha : SA X (e :: es) ma)
    (hst : starEach (e :: es) X.env = (false, eval e X.env) :: starEach es X.env) (hpl : (backTo pos (starEach es X.env)).any (·.1) = false)
    (hev : eval (.Call (.Attribute o mn apos) (e :: es) [] pos) X.env = (do
      let ov ← eval o X.env
      standAt apos.atName
      let (f, first) ← holding [ov] (getMethod ov mn pl)
      callWith pos f first (backTo pos (starEach (e :: es) X.env)) (backToKw pos (keywordEach [] X.env)))) : SE X (.Call (.Attribute o mn apos) (e :: es) [] pos) (mMethF tbl mc mo ma) := by
  intro W pins σA h σ H μ s r A e0
  refine PySem.W.methodCall_KW (pl := pl) (ho.seq A e0 fun x h1 v u H1 μ1 s1 A1 p1 k1 r1 q1 e1 => ?_) hev
  split at e1
  · rename_i n φ eo
    refine ownM_at ht hT A1.inv A1.lk q1 r1 eo fun a f eu ev kp F => ?_
    subst eu; subst ev
    refine PySem.W.callWith_K (first := [.ref a]) (h₀ := X.base) A1.inv.ok.mod.kin kp (ha.seq A1 e1 fun ds h2 vs us H2 μ2 s2 A2 p2 k2 rv q2 e2 => ⟨A2.inv.kIn, ?_⟩) hst hpl
    split at e2
    · rename_i hn
      exact thn (F.run (us := .ref a :: us) (vs := .ref a :: vs) (ds := x :: ds) A2 ⟨_, _, rfl, q1.keep p2 k2, q2⟩ (.cons rfl rv) (Nat.eq_of_beq_eq_true hn) e2) fun _ _ P => P.lift (p1.trans p2) (k1.trans k2)
    · cases e2
  · cases e1
def mMethF0 (tbl : Nat → Option (Nat × MF)) (mc : Nat) (o : ME) : ME := fun σ h => bnd (o σ h) fun x h1 => match ownM tbl mc h1 x with
  | some (n, φ) => if Nat.beq 1 n then φ [x] h1 else none
  | none => none
theorem se_methF0 {o : Expr} {mn : Str} {mc : Nat} {tbl : Nat → Option (Nat × MF)} {mo : ME} {apos pos : Pos} {pl : Sem Bool} (ht : TxtN mc mn) (hT : ∀ c n φ, tbl c = some (n, φ) → MethS X c mn n φ) (ho : SE X o mo)
    (hev : eval (.Call (.Attribute o mn apos) [] [] pos) X.env = (do
      let ov ← eval o X.env
      standAt apos.atName
      let (f, first) ← holding [ov] (getMethod ov mn pl)
      callWith pos f first (backTo pos (starEach [] X.env)) (backToKw pos (keywordEach [] X.env)))) : SE X (.Call (.Attribute o mn apos) [] [] pos) (mMethF0 tbl mc mo) := by
  intro W pins σA h σ H μ s r A e0
  refine PySem.W.methodCall_KW (pl := pl) (ho.seq A e0 fun x h1 v u H1 μ1 s1 A1 p1 k1 r1 q1 e1 => ?_) hev
  split at e1
  · rename_i n φ eo
    refine ownM_at ht hT A1.inv A1.lk q1 r1 eo fun a f eu ev kp F => ?_
    subst eu; subst ev
    split at e1
    · rename_i hn
      exact PySem.W.callWith_K0 (first := [.ref a]) A1.inv.kIn kp (thn (F.run (us := [.ref a]) (vs := [.ref a]) (ds := [x]) A1 (DVs.one q1) (.cons rfl .nil) (Nat.eq_of_beq_eq_true hn) e1) fun _ _ P => P.lift p1 k1)
    · cases e1
  · cases e1
/-! ### a new instance -/
def mMake (c n : Nat) (φ : MF) (m : MA) : ME := fun σ h => bnd (m σ h) fun ds h1 => if Nat.beq (ds.length + 1) n then bnd (φ (.ref h1.length :: ds) (h1 ++ [.ins c []])) fun d h2 => match d with | .non => some (.ok (.ref h1.length) h2) | _ => none else none
structure MakeS (X : Cx) (C f : Addr) (n : Nat) (φ : MF) : Prop where
  ex : ∃ k fd ps, Mk X.K C f ∧ FnOk X.prog X.w X.K X.mg X.base (CX X.prog X.w) k f fd ps (spOf X.K X.mg X.w n φ) ∧ Room (k + 1) X.A ∧ Binds X.K fd ps [] ∧ ps.length = n
theorem MakeS.run {C f : Addr} {c n : Nat} {cn : Str} {φ : MF} {W : WX} {pins σA h σ H μ s r} {ds : List D} {vs : List V} {us : List Value} (M : MakeS X C f n φ) (tc : TxtN c cn) (hm : X.mg cn = some (.ref C)) (A : At X W pins σA h σ H μ s r.err) (q : DVs X.K X.mg μ H ds vs) (rv : Vals vs us) (hn : ds.length + 1 = n)
    (e : (bnd (φ (.ref h.length :: ds) (h ++ [.ins c []])) fun d h2 => match d with | .non => some (.ok (.ref h.length) h2) | _ => none) = some r) :
    wpAny (model X.prog X.w) X.A (call (.ref C) us) (PostE X pins σ μ H r) X.xe s := by
  obtain ⟨k, fd, ps, M, F, hr, hb, hl⟩ := M.ex
  have I2 := Inv.made (C := C) A.inv
  have f1 : H s.heap.objs.size = none := A.inv.hok.fresh (Nat.le_refl _)
  have f2 : H (s.heap.objs.size + 1) = none := A.inv.hok.fresh (Nat.le_succ _)
  have ne : s.heap.objs.size + 1 ≠ s.heap.objs.size := Nat.succ_ne_self _
  have f2' : upd H s.heap.objs.size (.own (s.heap.objs.size + 1)) (s.heap.objs.size + 1) = none := by rw [upd_ne ne]; exact f2
  have L1 : Lk X μ (upd H s.heap.objs.size (.own (s.heap.objs.size + 1))) h := A.lk.side f1
  have L2' : Lk X (μ ++ [s.heap.objs.size + 1]) (upd (upd H s.heap.objs.size (.own (s.heap.objs.size + 1))) (s.heap.objs.size + 1) (.ins C s.heap.objs.size [])) (h ++ [.ins c []]) := L1.new f2' ⟨cn, C, _, [], tc, hm, upd_same, rfl⟩
  have k2 : Keeps H (upd (upd H s.heap.objs.size (.own (s.heap.objs.size + 1))) (s.heap.objs.size + 1) (.ins C s.heap.objs.size [])) := (Keeps.new f1).trans (Keeps.new f2')
  have p2 : Pre μ (μ ++ [s.heap.objs.size + 1]) := List.prefix_append _ _
  have me : (μ ++ [s.heap.objs.size + 1])[h.length]? = some (s.heap.objs.size + 1) := A.lk.newRef
  have r2 : Vals (V.ref (s.heap.objs.size + 1) :: vs) (Value.ref (s.heap.objs.size + 1) :: us) := .cons rfl rv
  have hlu : (Value.ref (s.heap.objs.size + 1) :: us).length = ps.length := by rw [hl, ← hn, List.length_cons, ← rv.length, q.length]
  have hb' := hb _ (Value.ref (s.heap.objs.size + 1) :: us) I2.kIn (by simpa using hlu)
  rw [List.append_nil] at hb'
  have q2 : DVs X.K X.mg (μ ++ [s.heap.objs.size + 1]) (upd (upd H s.heap.objs.size (.own (s.heap.objs.size + 1))) (s.heap.objs.size + 1) (.ins C s.heap.objs.size [])) (.ref h.length :: ds) (V.ref (s.heap.objs.size + 1) :: vs) := ⟨_, _, rfl, ⟨_, me, rfl⟩, q.keep p2 k2⟩
  have go : ∀ r1 : Out D, φ (.ref h.length :: ds) (h ++ [.ins c []]) = some r1 → (∀ x h', r1 = .er x h' → r = .er x h') → (∀ d h', r1 = .ok d h' → d = .non ∧ r = .ok (.ref h.length) h') →
      wpAny (model X.prog X.w) X.A (call (.ref C) us) (PostE X pins σ μ H r) X.xe s := fun r1 e1 her hok => by
    refine wpAny_call (make_map (f := f) A.inv.kIn M.makes M.init (beq_iff_eq.mp M.fn) (codeAny_mono (F.run _ X.stack _ _ ⟨Value.ref (s.heap.objs.size + 1) :: us, []⟩ (Value.ref (s.heap.objs.size + 1) :: us) _
      (fun v H' => v = .non ∧ ∃ h', r = .ok (.ref h.length) h' ∧ QE X μ H (.ref h.length) h' (.ref (s.heap.objs.size + 1)) H') (fun cls d H' => W cls d σ H') (hr.make C us [])
      (I2.env0.make C us []) hb' r2 ⟨X, _, _, _, r1, rfl, rfl, rfl, by rw [List.length_cons]; exact hn, L2', q2, e1, fun d h' er v H' μ' p kk L q => ?_, fun x h' er H' μ' cls dd p kk L xr => ?_⟩) fun rr s' hq' => ?_))
    · obtain ⟨rfl, er2⟩ := hok d h' er
      exact ⟨q, h', er2, μ', p2.trans p, k2.trans kk, L, ⟨_, p.get me, rfl⟩⟩
    · exact A.er x h' (by rw [her x h' er]; rfl) μ' H' σ cls dd (p2.trans p) (k2.trans kk) L (A.sl.keep (p2.trans p) (k2.trans kk)) xr
    · cases rr with
      | error ev => exact A.tk ev s' (XE.of_call I2 (fun _ _ _ z => z) hq')
      | ok fl =>
        cases fl with
        | ret u =>
          obtain ⟨v, H', I3, rv', ev, h', er, μ', p, kk, L, q⟩ := I2.after hq'
          subst ev
          subst er
          exact ⟨rv', ⟨_, h', V.ref (s.heap.objs.size + 1), H', μ', rfl, I3, rfl, p, kk, L, q⟩⟩
        | next => exact False.elim hq'
        | brk => exact False.elim hq'
        | cont => exact False.elim hq'
  rcases bnd_some e with ⟨x, h1, e1, rfl⟩ | ⟨d, h1, e1, e2⟩
  · exact go _ e1 (fun x' h' z => by cases z; rfl) (fun d h' z => nomatch z)
  · split at e2
    · cases e2
      exact go _ e1 (fun x' h' z => nomatch z) (fun d h' z => by cases z; exact ⟨rfl, rfl⟩)
    · cases e2
theorem se_make {x : Str} {c : Nat} {C f : Addr} {n : Nat} {φ : MF} {e : Expr} {es : List Expr} {m : MA} {p pos : Pos} (M : MakeS X C f n φ) (tc : TxtN c x) (hg : Gl X x) (hm : X.mg x = some (.ref C)) (ha : SA X (e :: es) m)
    (hdb : (x == ("__debug__" : Str)) = false) (he : starEach (e :: es) X.env = (false, eval e X.env) :: starEach es X.env) (hpl : (backTo pos (starEach es X.env)).any (·.1) = false) : SE X (.Call (.Name x p) (e :: es) [] pos) (mMake c n φ m) := by
  intro W pins σA h σ H μ s r A e0
  refine wpAny_Call_Name_kw (ld_glob A.inv hg hm ?_ hdb)
  have kp : PySem.W.keepIn X.K (.ref C) = true := by obtain ⟨_, _, _, M, _⟩ := M.ex; exact M.kp
  refine PySem.W.callWith_K (h₀ := X.base) A.inv.ok.mod.kin kp (ha.seq A e0 fun ds h1 vs us H1 μ1 s1 A1 p k rv q e1 => ⟨A1.inv.kIn, ?_⟩) he hpl
  split at e1
  · rename_i hn
    exact thn (M.run tc hm A1 q rv (Nat.eq_of_beq_eq_true hn) e1) fun _ _ P => P.lift p k
  · cases e1
end
end G47
namespace G47
open PySem L2 PyProof.Rows
/-! ### what the text's classes are -/
structure CI where
  name : Str
  code : Nat
  flds : List (Str × Nat)
def txtB (n : Nat) (x : Str) : Bool := okL x.cps.toList && Nat.beq (encL x.cps.toList) n
theorem txtB_ok {n : Nat} {x : Str} (h : txtB n x = true) : TxtN n x := by
  unfold txtB at h
  rw [Bool.and_eq_true] at h
  exact ⟨h.1, Nat.eq_of_beq_eq_true h.2⟩
def btAll : List BT := [.non, .bool, .int, .str, .tuple, .list, .dict]
def insB (K : PySem.W.Frag) (C : Addr) : Bool := He.eqO (PySem.W.findIn K (.ref C) "__class__") (some (some (.builtin "object.__class__"))) &&
  (He.eqO (PySem.W.specialIn K (.builtin "object.__class__") "__get__") (some (some (.builtin "getset_descriptor.__get__"))) && (decide (PySem.W.takesIn K (.builtin "object.__class__") = some true) && decide (PySem.W.mroIn K C (.type "object") = some true)))
def ciB (cs : List CI) (K : PySem.W.Frag) (c : CI) : Bool := (He.Fa.cls c.name).ok K && ((He.Fa.glo c.name).ok K && (insB K (He.ga K c.name) && (c.flds.all (fun f => (He.Fa.noat c.name f.1).ok K) &&
  (cs.all (fun d => decide (PySem.W.kitOne K (.ref (He.ga K c.name)) (.ref (He.ga K d.name)) = some (Nat.beq c.code d.code))) &&
  btAll.all fun b => decide (PySem.W.kitOne K (.type b.nm) (.ref (He.ga K c.name)) = some false) && decide (PySem.W.kitOne K (.ref (He.ga K c.name)) (.type b.nm) = some false)))))
/-- all that is asked of them -/
def exC (cs : List CI) (K : PySem.W.Frag) : Bool := cs.all (ciB cs K)
def txC (cs : List CI) : Bool := cs.all fun c => txtB c.code c.name && c.flds.all fun f => txtB f.2 f.1
/-- the built-in types that are named: how, their numbers -/
abbrev BI := List (Str × Nat × BT)
def bsB (bs : BI) : Bool := bs.all fun b => txtB b.2.1 b.1 && decide (bootBuiltins b.1 = some (.type b.2.2.nm))
structure Fac (cs : List CI) (bs : BI) (K : PySem.W.Frag) (mg : Str → Option Value) : Prop where
  ex : exC cs K = true
  tx : txC cs = true
  bz : bsB bs = true
  glo : ∀ c ∈ cs, mg c.name = some (.ref (He.ga K c.name))
  free : ∀ b ∈ bs, mg b.1 = none
def kitTy : BT → BT → Bool
  | .non, .non => true
  | .bool, .bool => true
  | .bool, .int => true
  | .int, .int => true
  | .str, .str => true
  | .tuple, .tuple => true
  | .list, .list => true
  | .dict, .dict => true
  | _, _ => false
theorem kitTy_ok {K : PySem.W.Frag} (a b : BT) : PySem.W.kitOne K (.type a.nm) (.type b.nm) = some (kitTy a b) := by
  refine kit_ty ?_
  cases a <;> cases b <;> decide +kernel
def ciAt (cs : List CI) (n : Nat) : Option CI := cs.find? fun c => Nat.beq c.code n
def biAt (bs : BI) (n : Nat) : Option (Str × Nat × BT) := bs.find? fun c => Nat.beq c.2.1 n
def kitL (cs : List CI) (bs : BI) : Tg → Nat → Option Bool
  | .bt a, n => match ciAt cs n with
    | some _ => some false
    | none => (biAt bs n).map fun b => kitTy a b.2.2
  | .own c, n => match ciAt cs c with
    | none => none
    | some _ => match ciAt cs n with
      | some _ => some (Nat.beq c n)
      | none => (biAt bs n).map fun _ => false
theorem ciAt_some {cs : List CI} {n : Nat} {c : CI} (h : ciAt cs n = some c) : c ∈ cs ∧ c.code = n := by
  unfold ciAt at h
  have e := List.find?_some h
  exact ⟨List.mem_of_find?_eq_some h, Nat.eq_of_beq_eq_true e⟩
theorem biAt_some {bs : BI} {n : Nat} {b : Str × Nat × BT} (h : biAt bs n = some b) : b ∈ bs ∧ b.2.1 = n := by
  unfold biAt at h
  have e := List.find?_some h
  exact ⟨List.mem_of_find?_eq_some h, Nat.eq_of_beq_eq_true e⟩
section
variable {cs : List CI} {bs : BI} {X : Cx}
theorem Fac.ci {c : CI} (F : Fac cs bs X.K X.mg) (h : c ∈ cs) : ciB cs X.K c = true ∧ TxtN c.code c.name ∧ (∀ f ∈ c.flds, TxtN f.2 f.1) ∧ X.mg c.name = some (.ref (He.ga X.K c.name)) := by
  have e1 := List.all_eq_true.mp F.ex c h
  have e2 := List.all_eq_true.mp F.tx c h
  rw [Bool.and_eq_true] at e2
  exact ⟨e1, txtB_ok e2.1, fun f hf => txtB_ok (List.all_eq_true.mp e2.2 f hf), F.glo c h⟩
theorem Fac.bi {b : Str × Nat × BT} (F : Fac cs bs X.K X.mg) (h : b ∈ bs) : TxtN b.2.1 b.1 ∧ bootBuiltins b.1 = some (.type b.2.2.nm) ∧ X.mg b.1 = none := by
  have e1 := List.all_eq_true.mp F.bz b h
  rw [Bool.and_eq_true] at e1
  exact ⟨txtB_ok e1.1, of_decide_eq_true e1.2, F.free b h⟩
theorem ciB_of {K : PySem.W.Frag} {c : CI} (h : ciB cs K c = true) : Cls K (He.ga K c.name) ∧ insB K (He.ga K c.name) = true ∧ (∀ f ∈ c.flds, NoAttr K (He.ga K c.name) f.1) ∧
    (∀ d ∈ cs, PySem.W.kitOne K (.ref (He.ga K c.name)) (.ref (He.ga K d.name)) = some (Nat.beq c.code d.code)) ∧
    ∀ b : BT, PySem.W.kitOne K (.type b.nm) (.ref (He.ga K c.name)) = some false ∧ PySem.W.kitOne K (.ref (He.ga K c.name)) (.type b.nm) = some false := by
  unfold ciB at h
  obtain ⟨h1, h⟩ := He.ba h
  obtain ⟨h2, h⟩ := He.ba h
  obtain ⟨h3, h⟩ := He.ba h
  obtain ⟨h4, h⟩ := He.ba h
  obtain ⟨h5, h6⟩ := He.ba h
  refine ⟨He.cls_ok h1, h3, fun f hf => He.noat_ok (List.all_eq_true.mp h4 f hf), fun d hd => of_decide_eq_true (List.all_eq_true.mp h5 d hd), fun b => ?_⟩
  obtain ⟨a1, a2⟩ := He.ba (List.all_eq_true.mp h6 b (by cases b <;> simp [btAll]))
  exact ⟨of_decide_eq_true a1, of_decide_eq_true a2⟩
theorem kit_of (F : Fac cs bs X.K X.mg) : KitOk X (kitL cs bs) := by
  refine ⟨fun t n b v e tv => ?_, fun c n b e => ?_⟩
  · cases t with
    | bt a =>
      unfold kitL at e
      obtain rfl : v = .type a.nm := tv
      simp only at e
      split at e
      · rename_i ci ec
        cases e
        obtain ⟨hm, hc⟩ := ciAt_some ec
        obtain ⟨z1, z2, z3, z4⟩ := F.ci hm
        exact ⟨ci.name, _, hc ▸ z2, .inl ⟨_, z4, rfl⟩, ((ciB_of z1).2.2.2.2 a).1⟩
      · cases eb : biAt bs n with
        | none => rw [eb] at e; cases e
        | some bi =>
          rw [eb] at e
          cases e
          obtain ⟨hm, hc⟩ := biAt_some eb
          obtain ⟨z1, z2, z3⟩ := F.bi hm
          exact ⟨bi.1, _, hc ▸ z1, .inr ⟨z3, _, z2, rfl⟩, kitTy_ok a bi.2.2⟩
    | own c =>
      unfold kitL at e
      simp only at e
      split at e
      · cases e
      · rename_i cc ecc
        obtain ⟨x, C, t1, m1, rfl⟩ := tv
        obtain ⟨hm0, hc0⟩ := ciAt_some ecc
        obtain ⟨y1, y2, y3, y4⟩ := F.ci hm0
        rw [hc0] at y2
        obtain rfl := t1.inj y2
        rw [m1] at y4
        cases y4
        split at e
        · rename_i ci ec
          cases e
          obtain ⟨hm, hc⟩ := ciAt_some ec
          obtain ⟨z1, z2, z3, z4⟩ := F.ci hm
          refine ⟨ci.name, _, hc ▸ z2, .inl ⟨_, z4, rfl⟩, ?_⟩
          rw [(ciB_of y1).2.2.2.1 ci hm, hc, hc0]
        · cases eb : biAt bs n with
          | none => rw [eb] at e; cases e
          | some bi =>
            rw [eb] at e
            cases e
            obtain ⟨hm, hc⟩ := biAt_some eb
            obtain ⟨z1, z2, z3⟩ := F.bi hm
            exact ⟨bi.1, _, hc ▸ z1, .inr ⟨z3, _, z2, rfl⟩, ((ciB_of y1).2.2.2.2 bi.2.2).2⟩
  · unfold kitL at e
    simp only at e
    split at e
    · cases e
    · rename_i cc ecc
      obtain ⟨hm0, hc0⟩ := ciAt_some ecc
      obtain ⟨y1, y2, y3, y4⟩ := F.ci hm0
      obtain ⟨w1, w2, _⟩ := ciB_of y1
      unfold insB at w2
      obtain ⟨v1, w2⟩ := He.ba w2
      obtain ⟨v2, w2⟩ := He.ba w2
      obtain ⟨v3, v4⟩ := He.ba w2
      exact ⟨cc.name, _, hc0 ▸ y2, y4, w1, He.eqO_ok v1, He.eqO_ok v2, of_decide_eq_true v3, of_decide_eq_true v4⟩
/-- the fields of a class -/
def okA (cs : List CI) (c f : Nat) : Bool := match ciAt cs c with
  | some d => d.flds.any fun g => Nat.beq g.2 f
  | none => false
theorem okA_ok (F : Fac cs bs X.K X.mg) (c f : Nat) (h : okA cs c f = true) : ClsOk X c f := by
  unfold okA at h
  split at h
  · rename_i d ed
    obtain ⟨hm, hc⟩ := ciAt_some ed
    obtain ⟨z1, z2, z3, z4⟩ := F.ci hm
    obtain ⟨g, hg, eg⟩ := List.any_eq_true.mp h
    have eg := Nat.eq_of_beq_eq_true eg
    obtain ⟨w1, _, w3, _⟩ := ciB_of z1
    exact ⟨d.name, _, g.1, hc ▸ z2, z4, w1, eg ▸ z3 g hg, w3 g hg⟩
  · cases h
/-! ### functions by their texts -/
structure FnG (P : Program) (w : World) (K : PySem.W.Frag) (mg : Str → Option Value) (base : Heap) (k : Nat) (f : Addr) (n : Nat) (φ : MF) : Prop where
  ex : ∃ fd ps, FnOk P w K mg base (CX P w) k f fd ps (spOf K mg w n φ) ∧ Binds K fd ps [] ∧ ps.length = n
  kp : PySem.W.keepIn K (.ref f) = true
theorem FnG.s {k j n : Nat} {f : Addr} {φ : MF} (F : FnG X.prog X.w X.K X.mg X.base k f n φ) (hr : Room j X.A) (h : k ≤ j) : FnS X f n φ := by
  obtain ⟨fd, ps, h1, h2, h3⟩ := F.ex
  exact ⟨k, fd, ps, h1, hr.mono h, h2, h3⟩
theorem FnG.make {k j n : Nat} {C f : Addr} {φ : MF} (M : Mk X.K C f) (F : FnG X.prog X.w X.K X.mg X.base k f n φ) (hr : Room j X.A) (h : k + 1 ≤ j) : MakeS X C f n φ := by
  obtain ⟨fd, ps, h1, h2, h3⟩ := F.ex
  exact ⟨k, fd, ps, M, h1, hr.mono h, h2, h3⟩
theorem fn_D {P : Program} {w : World} {K : PySem.W.Frag} {mg : Str → Option Value} {base : Heap} {x qual : Str} {params : Arguments} {body : List Stmt} {scope : Scope} {kws : List (Str × V)} {f : Addr} {fd : FuncData} {N ps : List Str} {k : Nat} {m : MS}
    (F : FunD K x qual params body scope [] kws f fd) (S : FnScope N ps scope)
    (hb : ∀ (kV doc pm : Value) (an : Option Addr) (cdv ct : Value) (us : List Value), us.length = ps.length → bindArgs (PySem.W.fnOf x qual params body scope .none kV doc pm an cdv ct) ⟨us, []⟩ = pure (ps.zip us))
    (hbody : ∀ (cdv : Value) (A : Around) (outer : List Env) (s : Shared) (H : Hp) (E : XK), Room k (A.deeper (envOfC qual scope s.heap.objs.size f cdv)) → SSs (cxOf (CX P w) P w K mg base N qual scope f cdv A outer s H E) body m) :
    FnG P w K mg base (k + 1) f ps.length (mFun N.length m) := by
  refine ⟨⟨fd, ps, ?_, F.bindsN hb, rfl⟩, F.kp⟩
  obtain ⟨oc, od, dV, kV, doc, pm, an, cdv, ct, osl, rfl, lk, hcd, _, _⟩ := F.ex
  exact fn_S lk hcd S fun A outer s H E hr => hbody cdv A outer s H E hr
theorem ru12 {k : Nat} {A : Around} (r : Room k A) : A.units + 12 < cLine := by have := r.un; omega
theorem ru14 {k : Nat} {A : Around} (r : Room k A) : A.units + 14 < cLine := by have := r.un; omega
theorem ru80 {k : Nat} {A : Around} (r : Room k A) : A.units + 80 < cLine := by have := r.un; omega
def mStuck : ME := fun _ _ => none
theorem se_stuck {e : Expr} : SE X e mStuck := fun _ _ _ _ _ _ _ _ _ _ e => nomatch e
def mStuckI : MI := fun _ _ => none
theorem si_stuck {tg e : Expr} : SI X tg e mStuckI := fun _ _ _ _ _ _ _ _ _ _ e => nomatch e
end
end G47
namespace G47
open PySem L2 PyProof.Rows
/-! ### a text's facts -/
structure Fx (fa : List He.Fa) (fn : List He.DefD) (cs : List CI) (bs : BI) (K : PySem.W.Frag) (mg : Str → Option Value) : Prop where
  fact : ∀ (i : Nat) (f : He.Fa), fa[i]? = some f → f.ok K = true
  glo : ∀ (i : Nat) (x : Str), fa[i]? = some (.glo x) → mg x = some (.ref (He.ga K x))
  free : ∀ (i : Nat) (x : Str), fa[i]? = some (.free x) → mg x = none
  defs : ∀ (i : Nat) (d : He.DefD), fn[i]? = some d → ∃ fd, FunD K d.name d.qual d.params d.body d.scope (d.dvs K) (d.kws K) (He.fAd K d.at_) fd
  fac : Fac cs bs K mg
theorem fn_F {P : Program} {w : World} {K : PySem.W.Frag} {mg : Str → Option Value} {base : Heap} {x qual : Str} {params : Arguments} {body : List Stmt} {scope : Scope} {dvs : List V} {kws : List (Str × V)} {f : Addr} {fd : FuncData} {N ps : List Str} {k : Nat} {m : MS}
    (F : FunD K x qual params body scope dvs kws f fd) (S : FnScope N ps scope)
    (hbody : ∀ (cdv : Value) (A : Around) (outer : List Env) (s : Shared) (H : Hp) (E : XK), Room k (A.deeper (envOfC qual scope s.heap.objs.size f cdv)) → SSs (cxOf (CX P w) P w K mg base N qual scope f cdv A outer s H E) body m) :
    FnOk P w K mg base (CX P w) (k + 1) f fd ps (spOf K mg w ps.length (mFun N.length m)) := by
  obtain ⟨oc, od, dV, kV, doc, pm, an, cdv, ct, osl, rfl, lk, hcd, _, _⟩ := F.ex
  exact fn_S lk hcd S fun A outer s H E hr => hbody cdv A outer s H E hr
section
variable {X : Cx} {cs : List CI} {bs : BI}
theorem se_tyB {b : Str × Nat × BT} {pos : Pos} (F : Fac cs bs X.K X.mg) (i : Nat) (hb : bs[i]? = some b) (hg : Gl X b.1) (hn : b.1 ≠ "__name__") (hdb : (b.1 == ("__debug__" : Str)) = false) : SE X (.Name b.1 pos) (mC (.gl b.2.1)) := by
  obtain ⟨h1, h2, h3⟩ := F.bi (List.mem_of_getElem? hb)
  exact se_ty h1 hg h3 h2 hn hdb
/-! ### methods by classes -/
def tblL (l : List (Nat × Nat × MF)) (c : Nat) : Option (Nat × MF) := match l with
  | [] => none
  | e :: r => if Nat.beq e.1 c then some e.2 else tblL r c
def AllM (X : Cx) (mn : Str) : List (Nat × Nat × MF) → Prop
  | [] => True
  | e :: r => MethS X e.1 mn e.2.1 e.2.2 ∧ AllM X mn r
theorem tbl_ok {mn : Str} : ∀ {l : List (Nat × Nat × MF)}, AllM X mn l → ∀ c n φ, tblL l c = some (n, φ) → MethS X c mn n φ
  | [], _, c, n, φ, e => by cases e
  | x :: r, ⟨h1, h2⟩, c, n, φ, e => by
    unfold tblL at e
    split at e
    · rename_i hb
      have hb := Nat.eq_of_beq_eq_true hb
      have e : x.2 = (n, φ) := Option.some.inj e
      rw [← hb]
      rw [e] at h1
      exact h1
    · exact tbl_ok h2 c n φ e
/-! ### truth -/
def truD (h : AH) : D → Option Bool
  | .bl b => some b
  | _ => none
end
end G47
namespace PySem.W
open PySem
section
variable {prog : Program} {w : World} {K : Frag} {A : Around} {E : Value → Shared → Prop} {s : Shared} {x C f L : Addr} {ox : Obj} {od : Option Obj} {b tb : Value}
/-- != by an own __eq__, no own __ne__ -/
theorem ne_ownK {Q : Value → Shared → Prop} (hu : A.units + 1 < cLine) (X : K.In s.heap) (I : InstAt s.heap x ox C od) (hb : Looks (model prog w) s.heap (typeOf b) tb) (hn : notFirst K C tb = true)
    (hne : findIn K (.ref C) "__ne__" = some (some (.builtin "object.__ne__"))) (hob : subIn K (.ref C) (.type "object") = some true) (hs : findIn K (.ref C) "__eq__" = some (some (.ref f))) (hf : isFn K (.ref f) = true)
    (h : wpAny (model prog w) A.in1 (call (.ref f) [.ref x, b]) (fun v s' => ∃ r, v = .bool r ∧ Q (.bool (!r)) s') E s) : wpAny (model prog w) A (richCompare .NotEq (.ref x) b) Q E s := by
  have LI : Looks (model prog w) s.heap (isInstance (.ref x) (.type "object")) true := I.type.andThen (looks_subIn X hob)
  have ent : wpAny (model prog w) A.in1 (Builtin.«object.__ne__» ⟨[.ref x, b], []⟩) (fun fin s' => ∃ r, fin = .done (.ret (.bool r)) ∧ Q (.bool r) s') E s := by
    unfold Builtin.«object.__ne__»
    repeat (first
      | with_reducible refine wpAny_cRoomFor (A := A.in1) hu ?_
      | (refine wpAny_bind (m := callSpecialIfBound? (.ref x) (Str.ofString "__eq__") [b]) (ifBound_K X I hs hf (wpAny_mono h (fun v s' hv => by
          obtain ⟨r, rfl, hq⟩ := hv
          repeat (first | exact ⟨_, rfl, hq⟩ | exact wpAny_pure ⟨_, rfl, hq⟩ | (refine wpAny_bind (m := truthy (.bool _)) (wpAny_truthy_bool ?_)) | wp_step)) fun _ _ e => e)))
      | wp_step)
  have chk : ∀ {Q' : Unit → Shared → Prop}, Q' () s → wpAny (model prog w) A.in1 (checkBuiltinCall "object.__ne__" ⟨[.ref x, b], []⟩) Q' E s := fun {Q'} hq => by
    simp only [checkBuiltinCall, PySem.F.cmpKind_ne, PySem.F.cmpSplit_ne]
    refine wpAny_bind (wpAny_bind (I.type.here ((looks_subIn X hob).here ?_)))
    simp only [Bool.not_true, Bool.false_eq_true, if_false]
    have ha := PySem.F.cmpArgs_ne (.ref x) b
    cases hsig : Manifest.signature? "object.__ne__" with
    | none => exact wpAny_pure hq
    | some sig =>
      simp only [argsOk, hsig] at ha
      have h2 : Bind.checkArgs "object.__ne__" sig ⟨[.ref x, b], []⟩ = pure () := ha
      show wpAny _ _ (Bind.checkArgs "object.__ne__" sig ⟨[.ref x, b], []⟩) Q' E _
      rw [h2]; exact wpAny_pure hq
  have cal : wpAny (model prog w) A (call (.builtin "object.__ne__") [.ref x, b]) (fun v s' => ∃ r, v = .bool r ∧ Q (.bool r) s') E s := by
    refine wpAny_call (codeAny_call_builtin PySem.F.cmp_object.ne.plain PySem.F.cmpEntry_ne (chk ?_))
    refine wpAny_mono ent (fun fin s' ⟨r, e, hq⟩ => ?_) fun _ _ e => e
    subst e
    exact ⟨r, rfl, hq⟩
  have one : wpAny (model prog w) A (tryCompare (.ref x) (cmpInfo .NotEq).2.1 b) (fun r s' => ∃ v, r = some v ∧ Q v s') E s := by
    unfold tryCompare
    rw [cmpInfo_NotEq]
    dsimp only
    refine wpAny_bind ?_
    simp only [callSpecialIfBound?, bindSpecialIfBound?]
    refine wpAny_holding (wpAny_bind (wpAny_bind (wpAny_bind (I.type.here ((looks_findIn X hne).here ?_)))))
    refine wpAny_bind (wpAny_askSetting (wpAny_ite ?_))
    simp only [PySem.F.cmp_object.ne.bind]
    split
    · exact wpAny_bind (wpAny_pure (wpAny_pure (by exact wpAny_bind (wpAny_mono cal (fun v s' ⟨r, e, hq⟩ => by subst e; exact wpAny_pure (wpAny_pure ⟨_, rfl, hq⟩)) fun _ _ e => e))))
    · exact wpAny_tryCatch (wpAny_bind (wpAny_pure (wpAny_pure (by exact wpAny_bind (wpAny_mono cal (fun v s' ⟨r, e, hq⟩ => by subst e; exact wpAny_pure (wpAny_pure ⟨_, rfl, hq⟩)) fun _ _ e => e)))))
  unfold richCompare
  simp only [oneThing_ref]
  refine wpAny_holding (wpAny_bind (wpAny_cRoomFor (Nat.lt_of_succ_lt hu) ?_))
  refine wpAny_bind (I.type.here (wpAny_bind (hb.here ?_)))
  split
  · rename_i q
    have e : subIn K tb (.ref C) = some false := by
      rcases Bool.or_eq_true_iff.mp hn with e | e
      · rw [beq_iff_eq.mp e] at q; simp at q
      · exact beq_iff_eq.mp e
    refine wpAny_bind ((looks_subIn X e).here ?_)
    simp only [Bool.false_eq_true, if_false]
    refine wpAny_bind (wpAny_mono one (fun r s' z => ?_) fun _ _ e => e)
    obtain ⟨v, rfl, hq⟩ := z
    exact wpAny_pure hq
  · refine wpAny_bind (wpAny_pure ?_)
    simp only [Bool.false_eq_true, if_false]
    refine wpAny_bind (wpAny_mono one (fun r s' z => ?_) fun _ _ e => e)
    obtain ⟨v, rfl, hq⟩ := z
    exact wpAny_pure hq
end
end PySem.W
namespace G47
open PySem L2 PyProof.Rows
/-! ### == and != by an own __eq__ -/
/-- what is asked of the classes that are compared -/
def eqB1 (cs : List CI) (K : PySem.W.Frag) : Bool := cs.all fun c => He.eqO (PySem.W.findIn K (.ref (He.ga K c.name)) "__ne__") (some (some (.builtin "object.__ne__"))) &&
  (decide (PySem.W.subIn K (.ref (He.ga K c.name)) (.type "object") = some true) && cs.all fun d => PySem.W.notFirst K (He.ga K c.name) (.ref (He.ga K d.name)))
structure EqS (X : Cx) (c : Nat) (φ : MF) : Prop where
  ex : ∃ x C f k fd ps, TxtN c x ∧ X.mg x = some (.ref C) ∧ PySem.W.findIn X.K (.ref C) "__eq__" = some (some (.ref f)) ∧ PySem.W.isFn X.K (.ref f) = true ∧ FnOk X.prog X.w X.K X.mg X.base (CX X.prog X.w) k f fd ps (spOf X.K X.mg X.w 2 φ) ∧ Room (k + 1) X.A ∧ Binds X.K fd ps [] ∧ ps.length = 2
def eqT (l : List (Nat × MF)) (c : Nat) : Option MF := match l with
  | [] => none
  | e :: r => if Nat.beq e.1 c then some e.2 else eqT r c
def AllQ (X : Cx) : List (Nat × MF) → Prop
  | [] => True
  | e :: r => EqS X e.1 e.2 ∧ AllQ X r
section
variable {X : Cx} {cs : List CI} {bs : BI}
theorem eqT_ok : ∀ {l : List (Nat × MF)}, AllQ X l → ∀ c φ, eqT l c = some φ → EqS X c φ
  | [], _, c, φ, e => by cases e
  | x :: r, ⟨h1, h2⟩, c, φ, e => by
    unfold eqT at e
    split at e
    · rename_i hb
      have hb := Nat.eq_of_beq_eq_true hb
      have e : x.2 = φ := Option.some.inj e
      rw [← hb, ← e]
      exact h1
    · exact eqT_ok h2 c φ e
/-- the two are instances -/
def eqI (tbl : Nat → Option MF) (cs : List CI) (neg : Bool) (h : AH) (x y : D) : Option (D × AH) :=
  match x, y with
  | .ref a, .ref b => match h[a]?, h[b]? with
    | some (.ins c _), some (.ins c' _) => match tbl c, ciAt cs c, ciAt cs c' with
      | some φ, some _, some _ => match φ [.ref a, .ref b] h with
        | some (.ok (.bl r) h') => some (.bl (r != neg), h')
        | _ => none
      | _, _, _ => none
    | _, _ => none
  | _, _ => none
theorem sl_none {μ : List Addr} {H : Hp} {σ : L2.St} : Sl X μ H (List.replicate σ.length none) σ := ⟨by simp, fun i d e => by
  rw [List.getElem?_replicate] at e
  split at e <;> cases e⟩
theorem eq_own_run {k n : Nat} {f : Addr} {fd : FuncData} {ps : List Str} {φ : MF} {pins σ H μ s} {h h' : AH} {d : D} {ds : List D} {vs : List V} {us : List Value} {A' : Around} (F : FnOk X.prog X.w X.K X.mg X.base (CX X.prog X.w) k f fd ps (spOf X.K X.mg X.w n φ)) (hr : Room k A') (fr : A'.frames = X.A.frames)
    (hb : Binds X.K fd ps []) (hl : ps.length = n) (I : Inv X pins σ H s) (L : Lk X μ H h) (q : DVs X.K X.mg μ H ds vs) (rv : Vals vs us) (hn : ds.length = n) (e : φ ds h = some (.ok d h')) :
    wpAny (model X.prog X.w) A' (call (.ref f) us) (PostE X pins σ μ H (.ok d h')) X.xe s := by
  have hlu : us.length = ps.length := by rw [hl, ← hn, ← q.length, rv.length]
  have hb' := hb s us I.kIn (by simpa using hlu)
  rw [List.append_nil] at hb'
  have e0 : Env0 X.prog X.w X.K X.mg X.base A' X.stack s H := by
    have e := I.env0
    exact ⟨by rw [fr]; exact e.frames, e.mod, e.bs, e.bsz, e.funs, e.frf, e.hok, e.bare⟩
  refine wpAny_call (codeAny_mono (F.run A' X.stack s H ⟨us, []⟩ us vs (QE X μ H d h') (fun _ _ _ => False) hr e0 hb' rv
    ⟨X, μ, h, ds, _, rfl, rfl, rfl, hn, L, q, e, fun d2 h2 er v H' μ' p kk L q => by cases er; exact ⟨μ', p, kk, L, q⟩, fun x h' er => nomatch er⟩) fun rr s' hq => ?_)
  cases rr with
  | error ev =>
    obtain ⟨_, _, _, _, _, _, _, _, _, _, _, _, z⟩ := hq
    exact z.elim
  | ok fl =>
    cases fl with
    | ret u => exact QE.post (I.after hq)
    | next => exact False.elim hq
    | brk => exact False.elim hq
    | cont => exact False.elim hq
theorem eqI_at {tbl : Nat → Option MF} {neg : Bool} {h h' : AH} {x y d : D} (e : eqI tbl cs neg h x y = some (d, h')) : ∃ a b c fs c' gs φ ci ci' r, x = .ref a ∧ y = .ref b ∧ h[a]? = some (.ins c fs) ∧ h[b]? = some (.ins c' gs) ∧ tbl c = some φ ∧ ciAt cs c = some ci ∧ ciAt cs c' = some ci' ∧ φ [.ref a, .ref b] h = some (.ok (.bl r) h') ∧ d = .bl (r != neg) := by
  unfold eqI at e
  split at e
  · split at e
    · rename_i e1 e2
      split at e
      · rename_i e3 e4 e5
        split at e
        · rename_i e6
          cases e
          exact ⟨_, _, _, _, _, _, _, _, _, _, rfl, rfl, e1, e2, e3, e4, e5, e6, rfl⟩
        · cases e
      · cases e
    · cases e
  · cases e
theorem os_eqI {tbl : Nat → Option MF} (F : Fac cs bs X.K X.mg) (hq : eqB1 cs X.K = true) (hT : ∀ c φ, tbl c = some φ → EqS X c φ) : OpS X (compareOp .Eq) (eqI tbl cs false) ∧ OpS X (compareOp .NotEq) (eqI tbl cs true) := by
  have key : ∀ {neg pins σ H μ h s x y u v dx dy d h'}, Inv X pins σ H s → Lk X μ H h → RelV x u → RelV y v → DV X.K X.mg μ H dx x → DV X.K X.mg μ H dy y → eqI tbl cs neg h dx dy = some (d, h') →
      ∃ a b C tb f k fd ps φ r oa od, u = .ref a ∧ v = .ref b ∧ PySem.W.InstAt s.heap a oa C od ∧ PySem.W.Looks (model X.prog X.w) s.heap (typeOf (.ref b)) (.ref tb) ∧ PySem.W.notFirst X.K C (.ref tb) = true ∧ PySem.W.findIn X.K (.ref C) "__ne__" = some (some (.builtin "object.__ne__")) ∧
        PySem.W.subIn X.K (.ref C) (.type "object") = some true ∧ PySem.W.findIn X.K (.ref C) "__eq__" = some (some (.ref f)) ∧ PySem.W.isFn X.K (.ref f) = true ∧ FnOk X.prog X.w X.K X.mg X.base (CX X.prog X.w) k f fd ps (spOf X.K X.mg X.w 2 φ) ∧ Room (k + 1) X.A ∧ Binds X.K fd ps [] ∧ ps.length = 2 ∧
        φ [dx, dy] h = some (.ok (.bl r) h') ∧ d = .bl (r != neg) ∧ x = .ref a ∧ y = .ref b := by
    intro neg pins σ H μ h s x y u v dx dy d h' I L rx ry qx qy e
    obtain ⟨a, b, c, fs, c', gs, φ, ci, ci', r, rfl, rfl, e1, e2, e3, e4, e5, e6, rfl⟩ := eqI_at e
    obtain ⟨x1, C, f, k, fd, ps, t1, m1, hf, hfn, FO, hr, hb, hl⟩ := (hT c φ e3).ex
    obtain ⟨am, ea, rfl⟩ := qx
    obtain ⟨bm, eb, rfl⟩ := qy
    obtain ⟨x3, C3, dx3, gs3, t3, m3, hH3, fv3⟩ := L.at e1 ea
    obtain ⟨x4, C4, dx4, gs4, t4, m4, hH4, fv4⟩ := L.at e2 eb
    obtain rfl := t3.inj t1
    rw [m1] at m3; cases m3
    obtain ⟨hm, hc⟩ := ciAt_some e4
    obtain ⟨hm', hc'⟩ := ciAt_some e5
    obtain ⟨_, z2, _, z4⟩ := F.ci hm
    obtain ⟨_, w2, _, w4⟩ := F.ci hm'
    rw [hc] at z2; rw [hc'] at w2
    obtain rfl := t3.inj z2
    obtain rfl := t4.inj w2
    rw [m1] at z4; cases z4
    rw [m4] at w4; cases w4
    have g := List.all_eq_true.mp hq ci hm
    obtain ⟨g1, g⟩ := He.ba g
    obtain ⟨g2, g3⟩ := He.ba g
    have g3 := List.all_eq_true.mp g3 ci' hm'
    obtain ⟨mA, J, _⟩ := ins_get I.hok hH3
    obtain ⟨mB, J', _⟩ := ins_get I.hok hH4
    obtain ⟨od, J, _⟩ := J.look
    obtain ⟨od', J', _⟩ := J'.look
    cases rx; cases ry
    exact ⟨am, bm, _, _, f, k, fd, ps, φ, r, _, _, rfl, rfl, J, J'.type, g3, He.eqO_ok g1, of_decide_eq_true g2, hf, hfn, FO, hr, hb, hl, e6, rfl, rfl, rfl⟩
  constructor
  · intro pins σ H μ h s x y u v dx dy d h' I L rx ry qx qy e
    obtain ⟨a, b, C, tb, f, k, fd, ps, φ, r, oa, od, rfl, rfl, J, LB, nf, hne, hob, hf, hfn, FO, hr, hb, hl, e6, rfl, rfl, rfl⟩ := key I L rx ry qx qy e
    obtain ⟨m, hF⟩ := I.fr
    show wpAny (model X.prog X.w) X.A (richCompare .Eq (.ref a) (.ref b)) _ _ _
    refine PySem.W.cmp_K (op := .Eq) hr.units0 hF I.ok.mod.kin J LB nf hf hfn ?_
    refine thn (eq_own_run (n := 2) (us := [.ref a, .ref b]) (vs := [.ref a, .ref b]) (ds := [dx, dy]) FO (hr.mono (Nat.le_succ k)) rfl hb hl I L ⟨_, _, rfl, qx, _, _, rfl, qy, rfl⟩ (.cons rfl (.cons rfl .nil)) rfl e6) fun w s' P => ?_
    obtain ⟨d', h2, v, H', μ', z, I', rv, p, kk, L', q⟩ := P
    cases z; cases q; cases rv
    exact ⟨.bl r, h', .bl r, H', μ', by cases r <;> rfl, I', rfl, p, kk, L', rfl⟩
  · intro pins σ H μ h s x y u v dx dy d h' I L rx ry qx qy e
    obtain ⟨a, b, C, tb, f, k, fd, ps, φ, r, oa, od, rfl, rfl, J, LB, nf, hne, hob, hf, hfn, FO, hr, hb, hl, e6, rfl, rfl, rfl⟩ := key I L rx ry qx qy e
    show wpAny (model X.prog X.w) X.A (richCompare .NotEq (.ref a) (.ref b)) _ _ _
    refine PySem.W.ne_ownK (by have := hr.un; omega) I.kIn J LB nf hne hob hf hfn ?_
    refine thn (eq_own_run (n := 2) (us := [.ref a, .ref b]) (vs := [.ref a, .ref b]) (ds := [dx, dy]) (A' := X.A.in1) FO hr.in1 rfl hb hl I L ⟨_, _, rfl, qx, _, _, rfl, qy, rfl⟩ (.cons rfl (.cons rfl .nil)) rfl e6) fun w s' P => ?_
    obtain ⟨d', h2, v, H', μ', z, I', rv, p, kk, L', q⟩ := P
    cases z; cases q; cases rv
    exact ⟨r, rfl, .bl (!r), h', .bl (!r), H', μ', by cases r <;> rfl, I', rfl, p, kk, L', rfl⟩
/-- compare: data, or instances -/
def copE (tbl : Nat → Option MF) (cs : List CI) (op : CmpOp) (h : AH) (x y : D) : Option (D × AH) := match copD op h x y with
  | some z => some z
  | none => match op with
    | .Eq => eqI tbl cs false h x y
    | .NotEq => eqI tbl cs true h x y
    | _ => none
theorem os_copE {tbl : Nat → Option MF} (hu : X.A.units + 14 < cLine) (F : Fac cs bs X.K X.mg) (hq : eqB1 cs X.K = true) (hT : ∀ c φ, tbl c = some φ → EqS X c φ) (op : CmpOp) : OpS X (compareOp op) (copE tbl cs op) := by
  obtain ⟨h1, h2⟩ := os_eqI F hq hT
  intro pins σ H μ h s x y u v dx dy d h' I L rx ry qx qy e
  unfold copE at e
  split at e
  · rename_i z ez
    cases e
    exact os_cop hu op pins σ H μ h s x y u v dx dy d h' I L rx ry qx qy ez
  · split at e
    · exact h1 pins σ H μ h s x y u v dx dy d h' I L rx ry qx qy e
    · exact h2 pins σ H μ h s x y u v dx dy d h' I L rx ry qx qy e
    · cases e
end
end G47
namespace G47
open PySem L2 PyProof.Rows
theorem FnG.q {X : Cx} {k j c : Nat} {x : Str} {C f : Addr} {φ : MF} (F : FnG X.prog X.w X.K X.mg X.base k f 2 φ) (M : Meth X.K C "__eq__" f) (t : TxtN c x) (g : X.mg x = some (.ref C)) (hr : Room j X.A) (h : k + 1 ≤ j) : EqS X c φ := by
  obtain ⟨fd, ps, h1, h2, h3⟩ := F.ex
  exact ⟨x, C, f, k, fd, ps, t, g, M.at_, M.fn, h1, hr.mono h, h2, h3⟩
end G47
namespace G47
open PySem L2 PyProof.Rows
/-! ### dict(pairs) -/
def prsOf : List D → Option (List (D × D))
  | [] => some []
  | .tup [k, v] :: r => (prsOf r).map fun t => (k, v) :: t
  | _ => none
theorem prsOf_eq : ∀ {ds : List D} {prs : List (D × D)}, prsOf ds = some prs → ds = prs.map fun p => .tup [p.1, p.2]
  | [], _, e => by cases e; rfl
  | .tup [k, v] :: r, prs, e => by
    have e : ((prsOf r).map fun t => (k, v) :: t) = some prs := e
    cases er : prsOf r with
    | none => rw [er] at e; cases e
    | some t =>
      rw [er] at e
      cases e
      rw [List.map_cons, ← prsOf_eq er]
  | .tup [] :: _, _, e => by simp [prsOf] at e
  | .tup [_] :: _, _, e => by simp [prsOf] at e
  | .tup (_ :: _ :: _ :: _) :: _, _, e => by simp [prsOf] at e
  | .non :: _, _, e => by simp [prsOf] at e
  | .bl _ :: _, _, e => by simp [prsOf] at e
  | .int _ :: _, _, e => by simp [prsOf] at e
  | .str _ :: _, _, e => by simp [prsOf] at e
  | .ref _ :: _, _, e => by simp [prsOf] at e
  | .gl _ :: _, _, e => by simp [prsOf] at e
def dputs (kvs : List (D × D)) (prs : List (D × D)) : List (D × D) := match prs with
  | [] => kvs
  | p :: r => dputs (dput kvs p.1 p.2) r
section
variable {X : Cx} {pins : List (Addr × Obj)} {σ : L2.St} {μ : List Addr} {H : Hp} {s : Shared}
/-- a pair as it stands -/
def PrR (X : Cx) (μ : List Addr) (H : Hp) (hp : Heap) (p : D × D) (x : NestedKey × Addr × Value) : Prop :=
  KeyD p.1 x.1 ∧ keyOk 8 p.1 = true ∧ tup1 p.1 = true ∧ (nestedKind X.prog X.w).is hp x.1 x.2.1 ∧ DV X.K X.mg μ H p.1 (.ref x.2.1) ∧ ∃ vv, RelV vv x.2.2 ∧ DV X.K X.mg μ H p.2 vv
theorem prs_at (I : Inv X pins σ H s) : ∀ {prs : List (D × D)} {vs : List V} {us : List Value}, (prs.all fun p => tup1 p.1 && keyOk 8 p.1) = true → DVs X.K X.mg μ H (prs.map fun p => .tup [p.1, p.2]) vs → Vals vs us →
    ∃ (Ts : List Addr) (ps : List (NestedKey × Addr × Value)), us = Ts.map Value.ref ∧ Ts.length = prs.length ∧ Paired (PrR X μ H s.heap) prs ps ∧ ∀ (j : Nat) (x : NestedKey × Addr × Value), ps[j]? = some x → ∃ T, Ts[j]? = some T ∧ PairAt s.heap T (.ref x.2.1) x.2.2
  | [], vs, us, _, q, r => by
    rw [show vs = [] from q] at r
    cases r
    exact ⟨[], [], rfl, rfl, .nil, fun j x e => by simp at e⟩
  | p :: prs, vs, us, hk, q, r => by
    simp only [List.all_cons, Bool.and_eq_true] at hk
    obtain ⟨⟨hk1, hk2⟩, hk3⟩ := hk
    obtain ⟨v, vr, rfl, q1, q2⟩ := q
    cases r with
    | cons r1 r2 =>
      rename_i u us'
      obtain ⟨T, ws, rfl, t, qs⟩ := q1
      obtain ⟨kv, vv, rfl, qk, qv⟩ := qs.two_inv
      obtain rfl : u = .ref T := r1
      obtain ⟨b, rfl⟩ : ∃ b, kv = .ref b := by
        cases hp : p.1 with
        | tup ds => rw [hp] at qk; obtain ⟨a, vs, e, _⟩ := qk; exact ⟨a, e⟩
        | _ => rw [hp] at hk1; simp [tup1] at hk1
      obtain ⟨its, rv, ht, _⟩ := I.tuple t.sq
      cases rv with
      | cons ra rb =>
        cases rb with
        | cons rb rc =>
          cases rc
          rename_i ua ub
          obtain rfl : ua = .ref b := ra
          obtain ⟨m, k1, k2, k3⟩ := nested_of I hk2 qk (show RelV (.ref b) (.ref b) from rfl)
          obtain ⟨Ts, ps, e1, e2, e3, e4⟩ := prs_at I hk3 q2 r2
          refine ⟨T :: Ts, (m, b, ub) :: ps, by rw [e1]; rfl, by simp [e2], .cons ⟨k1, hk2, hk1, ⟨k2, k3⟩, qk, vv, rb, qv⟩ e3, fun j x e => ?_⟩
          cases j with
          | zero =>
            cases e
            exact ⟨T, rfl, .inl ht⟩
          | succ j => exact e4 j x e
theorem dict_fold : ∀ {prs : List (D × D)} {ps : List (NestedKey × Addr × Value)} {hp : Heap}, Paired (PrR X μ H hp) prs ps → ∀ {acc : List (D × D)} {es : List Ent} {xs : List (NestedKey × Addr × Value)}, KVs X.K X.mg μ H acc es → XsR es xs → nodupK acc = true → (acc.all fun p => tup1 p.1) = true →
    ∃ es', KVs X.K X.mg μ H (dputs acc prs) es' ∧ XsR es' (storedAllH xs ps) ∧ nodupK (dputs acc prs) = true ∧ ((dputs acc prs).all fun p => tup1 p.1) = true ∧ es'.length ≤ es.length + prs.length
  | [], _, _, .nil, acc, es, xs, q, x, n, t => ⟨es, q, x, n, t, Nat.le_refl _⟩
  | p :: prs, y :: ps, hp, .cons r rr, acc, es, xs, q, x, n, t => by
    obtain ⟨k1, o2, o1, ki, qk, vv, rv, qv⟩ := r
    have kq := q.put k1 o2 qk qv
    have xq := x.put (m := y.1) (b := y.2.1) rv (by rw [x.keys]; exact q.nodup n)
    have nd := nodup_dput (y := p.2) k1 q.keyD n
    have tq := dput_tup (y := p.2) o1 t
    simp only [tupK, Bool.and_eq_true] at tq
    obtain ⟨es', z1, z2, z3, z4, z5⟩ := dict_fold rr kq xq nd tq.2
    refine ⟨es', z1, z2, z3, z4, ?_⟩
    have := putE_length y.1 (.ref y.2.1) vv es
    simp only [List.length_cons]
    omega
/-- dict(list of pairs), the keys tuples -/
def dictT (h : AH) (ds : List D) : Option (D × AH) := match (lst1 h ds).bind prsOf with
  | some prs => if !prs.isEmpty && (prs.all fun p => tup1 p.1 && keyOk 8 p.1) && Nat.ble prs.length big then some (.ref h.length, h ++ [.dct false (dputs [] prs)]) else none
  | none => none
theorem dputs_ne : ∀ {prs acc : List (D × D)}, (prs.isEmpty = false ∨ acc.isEmpty = false) → (dputs acc prs).isEmpty = false
  | [], acc, h => h.resolve_left (by simp)
  | p :: r, acc, _ => dputs_ne (prs := r) (.inr (by cases acc with
    | nil => rfl
    | cons q t => unfold dput; split <;> rfl))
theorem cs_dictT (hc : X.calm = true) (hu : X.A.units + 14 < cLine) : CallS X (.type "dict") dictT := by
  intro pins σ H μ h s vs us ds d h' I L rv q e
  unfold dictT at e
  split at e
  · rename_i prs ep
    split at e
    · rename_i hb
      simp only [Bool.and_eq_true, Bool.not_eq_true'] at hb
      obtain ⟨⟨hb1, hb2⟩, hb3⟩ := hb
      cases e
      cases el : lst1 h ds with
      | none => rw [el] at ep; cases ep
      | some es =>
        rw [el] at ep
        have ee := prsOf_eq ep
        subst ee
        obtain ⟨a, ws, rfl, sq, qs⟩ := lst1_sq L q el
        obtain ⟨u, eu, rx⟩ := vals1 rv
        subst eu
        obtain rfl : u = .ref a := rx
        obtain ⟨its, rvs, pl, hz⟩ := I.list sq
        obtain ⟨Ts, ps, e1, e2, e3, e4⟩ := prs_at I hb2 qs rvs
        subst e1
        obtain ⟨o, n, ho, hcl, hd, hdat⟩ := pl
        have hpl : ps.length = prs.length := (Paired.length e3).symm
        have ok : PlainSeq "list" s.heap a (Ts.map Value.ref).toArray ∧ PairItems s.heap (Ts.map Value.ref).toArray (fun j => Ts.getD j 0) (ps.map fun x => (.ref x.2.1, x.2.2)) := by
          refine ⟨⟨o, n, ho, hcl, hd, hdat⟩, by simp [hpl, e2], fun j k v ej => ?_⟩
          rw [List.getElem?_map] at ej
          cases ex : ps[j]? with
          | none => rw [ex] at ej; cases ej
          | some x =>
            rw [ex] at ej
            cases ej
            obtain ⟨T, eT, pT⟩ := e4 j x ex
            have eg : Ts.getD j 0 = T := by rw [List.getD_eq_getElem?_getD, eT]; rfl
            refine ⟨by simp [eT, eg], ?_⟩
            show PairAt s.heap (Ts.getD j 0) _ _
            rw [eg]; exact pT
        have isP : ∀ x ∈ ps, (nestedKind X.prog X.w).is s.heap x.1 x.2.1 := by
          have : ∀ {prs : List (D × D)} {ps : List (NestedKey × Addr × Value)}, Paired (PrR X μ H s.heap) prs ps → ∀ x ∈ ps, (nestedKind X.prog X.w).is s.heap x.1 x.2.1 := by
            intro prs ps h
            induction h with
            | nil => intro x hx; cases hx
            | cons r _ ih =>
              intro x hx
              rcases List.mem_cons.mp hx with rfl | hx
              · exact r.2.2.2.1
              · exact ih x hx
          exact this e3
        have stay : ∀ h', (∀ b o, s.heap.get? b = some o → h'.get? b = some o) → ∀ x ∈ ps, (nestedKind X.prog X.w).is h' x.1 x.2.1 := fun h' hk x hx => by
          obtain ⟨z1, z2⟩ := isP x hx
          exact ⟨NestedIs.at (fun a o _ _ e _ => hk a o e) _ _ z1, z2⟩
        have hmp : (ps.map fun x => ((.ref x.2.1 : Value), x.2.2)).length = ps.length := by simp
        refine PySem.call_dict_pairsH (knd := nestedKind X.prog X.w) (ps := ps) (PairArg.list a (Ts.map Value.ref).toArray (fun j => Ts.getD j 0) (ps.map fun x => (.ref x.2.1, x.2.2))) (I.ok.hd hc) (by show X.A.units + 1 + 1 + 8 < cLine; omega) ok ⟨by simp, fun i key v hr => ?_⟩ (fun h' hk x hx => ?_) ?_ fun h' tk dd hk => ?_
        · have hr : (ps.map fun x => ((.ref x.2.1 : Value), x.2.2))[i]? = some (key, v) := hr
          rw [List.getElem?_map] at hr
          cases ex : ps[i]? with
          | none => rw [ex] at hr; cases hr
          | some x => rw [ex] at hr; cases hr; exact ⟨x.1, x.2.1, rfl, rfl⟩
        · obtain ⟨z1, z2⟩ := isP x hx
          exact ⟨NestedIs.at (fun a o _ _ e _ => hk a o (Nat.ne_of_lt (Heap.lt_size e)) (by simp) e) _ _ z1, z2⟩
        · rw [hmp, hpl]
          exact big_line hb3
        · obtain ⟨es', z1, z2, z3, z4, z5⟩ := dict_fold e3 (acc := []) (es := []) (xs := []) rfl .nil rfl rfl
          have hf : H s.heap.objs.size = none := I.hok.fresh (Nat.le_refl _)
          have kp : Keeps H (upd H s.heap.objs.size (dHO X.w s.heap.objs.size es')) := Keeps.new hf
          have pp : Pre μ (μ ++ [s.heap.objs.size]) := List.prefix_append _ _
          have hlen : es'.length ≤ sizeLine := by
            have := big_line hb3
            simp only [List.length_nil] at z5
            omega
          have hm : (s.heap.objs.size == sysModules) = false := beq_eq_false_iff_ne.mpr (Nat.ne_of_gt I.big)
          obtain ⟨ob, arr, ep', b1, b2, b3, b4, _, b5⟩ := dd
          have I' : Inv X pins σ (upd H s.heap.objs.size (dHO X.w s.heap.objs.size es')) { s with heap := h', toks := tk } := by
            refine I.laid (t' := tk) (fun b o e => hk b o (by simp) e) (Nat.le_refl _) ⟨⟨ob, arr, ep', b1, b2, b3, by rw [b4]; exact z2.back, hlen, hm⟩, ⟨ob, b1⟩, fun h1 h2 hφ hk' => ?_⟩
            obtain ⟨ob', arr', ep'', c1, c2⟩ := hφ
            exact ⟨ob', arr', ep'', hk' ob' c1, c2⟩
          have L' : Lk X (μ ++ [s.heap.objs.size]) (upd H s.heap.objs.size (dHO X.w s.heap.objs.size es')) (h ++ [.dct false (dputs [] prs)]) := by
            refine L.new hf ⟨_, by rw [if_neg (by decide)]; exact upd_same, .inr ⟨?_, es', rfl, z1.keep pp kp⟩, z3⟩
            unfold tupK
            rw [dputs_ne (.inl hb1), z4]
            rfl
          exact ⟨_, _, .ref s.heap.objs.size, _, _, rfl, I', rfl, pp, kp, L', ⟨_, L.newRef, rfl⟩⟩
    · cases e
  · cases e
end
end G47
namespace PySem
section
variable {prog : Program} {w : World} {K : Type} [DecidableEq K] {knd : HeapKind prog w K} {A : Around} {E : Value → Shared → Prop} {s : Shared}
/-- dict(d), keys that are tuples, none of equal hash -/
theorem dict_of_dictH {o : Addr} {more : List (K × Addr × Value)} {Q : Value → Shared → Prop} (hu : knd.room A.in1.in1) (hoS : (o == sysModules) = false) (ho : s.heap.DictOfH knd o more) (hty : ∀ x ∈ more, s.TypeIs (.ref x.2.1) "tuple") (hap : (more.map fun x => knd.hash x.1).Nodup) (hsz : more.length ≤ sizeLine)
    (hst : ∀ h', (∀ b o, s.heap.get? b = some o → h'.get? b = some o) → ∀ x ∈ more, knd.is h' x.1 x.2.1)
    (h : ∀ h', h'.DictOfH knd s.heap.objs.size (storedAllH [] more) → (∀ b o, s.heap.get? b = some o → h'.get? b = some o) → Q (.ref s.heap.objs.size) { s with heap := h' }) :
    wpAny (model prog w) A (call (.type "dict") [.ref o]) Q E s := by
  refine callType_codes (Q₁ := fun obj s₁ => obj = .ref s.heap.objs.size ∧ s₁ = { s with heap := s.heap.push { cls := .type "dict", data := .dict #[] } }) F.kt_called_dict (F.kt_typeCall_dict_1 _) F.entry_dict_init (kt_code_dict_new _ ⟨rfl, rfl⟩) ?_
  rintro obj s₁ ⟨rfl, rfl⟩
  have hnew : (s.heap.push { cls := .type "dict", data := .dict #[] }).DictOfH knd s.heap.objs.size [] := Heap.DictOfH.new s.heap
  have kp : ∀ b o, s.heap.get? b = some o → (s.heap.push { cls := .type "dict", data := .dict #[] }).get? b = some o := fun b o e => Heap.get?_push_of_some _ e
  have ho' : (s.heap.push { cls := .type "dict", data := .dict #[] }).DictOfH knd o more := ho.at' (fun u e => kp _ _ e) (hst _ kp)
  have hdo : s.heap.objs.size ≠ o := fun e => absurd ho.lt_size (by rw [e]; exact Nat.lt_irrefl _)
  refine ⟨hnew.typeIs, F.args_dict_init_2 _ _, ?_⟩
  unfold Builtin.«dict.__init__»
  refine wpAny_bind ?_
  unfold Builtin.Dict.selfAndRest
  refine wpAny_bind (wpAny_notOrdered_dict hnew.typeIs ?_)
  show wpAny _ _ (pure (s.heap.objs.size, [Value.ref o])) _ _ _
  refine wpAny_pure ?_
  show wpAny _ _ (Builtin.Dict.updateFrom "dict.__init__" s.heap.objs.size (.ref o) [] .none) _ _ _
  refine updateFrom_dictH (A := A.in1) .none hu hdo hoS hnew ho' (.inr ⟨fun x hx => ?_, hap⟩) (by simpa using hsz) fun h' hd' _ hs => ?_
  · obtain ⟨u, e1, e2⟩ := hty x hx
    exact ⟨u, kp _ _ e1, e2⟩
  · exact ⟨rfl, h h' hd' fun b u e => (hs.2 b (Nat.ne_of_lt (Heap.lt_size e))).trans (kp _ _ e)⟩
end
end PySem
namespace G47
open PySem L2 PyProof.Rows
section
variable {X : Cx}
/-- dict(d): ints and texts as keys, or one tuple -/
def dictC (h : AH) : List D → Option (D × AH)
  | [.ref l] => match h[l]? with
    | some (.dct _ kvs) => if (scalK kvs || (tupK kvs && Nat.beq kvs.length 1)) && Nat.ble kvs.length big then some (.ref h.length, h ++ [.dct false kvs]) else none
    | _ => none
  | _ => none
theorem cs_dictC (hu : X.A.units + 14 < cLine) : CallS X (.type "dict") dictC := by
  intro pins σ H μ h s vs us ds d h' I L rv q e
  unfold dictC at e
  split at e
  · rename_i l
    split at e
    · rename_i lk kvs el
      split at e
      · rename_i hb
        simp only [Bool.and_eq_true] at hb
        obtain ⟨hb1, hb2⟩ := hb
        cases e
        obtain ⟨v, rfl, qv⟩ := q.one_inv
        obtain ⟨a, u, rfl, e1, rd, _, dl, hn⟩ := dct_rd L el qv
        have scal : scalK kvs = true → ∀ ks, u = .dK ks → KSs X.K X.mg μ H kvs ks → wpAny (model X.prog X.w) X.A (call (.type "dict") us) (PostE X pins σ μ H (.ok (.ref h.length) (h ++ [.dct false kvs]))) X.xe s := fun hs ks eu kss => by
          subst eu
          refine thn (call_dictD pins s σ H [.ref a] us (QE X μ H (.ref h.length) (h ++ [.dct false kvs])) I rv ⟨a, ks, rfl, rd, fun p hp => ?_⟩) fun _ _ P => QE.post P
          refine ⟨μ ++ [p], List.prefix_append _ _, Keeps.new hp, L.new hp ⟨_, by rw [if_neg (by decide)]; exact upd_same, .inl ⟨hs, ks, rfl, kss.keep (List.prefix_append _ _) (Keeps.new hp).t⟩, hn⟩, ⟨p, L.newRef, rfl⟩⟩
        rcases dl with ⟨sk, ks, eu, kss⟩ | ⟨tk, es, eu, kq⟩
        · exact scal sk ks eu kss
        · subst eu
          have ht : (kvs.all fun p => tup1 p.1) = true := by
            simp only [tupK, Bool.and_eq_true] at tk
            exact tk.2
          have h1 : kvs.length = 1 := by
            rcases Bool.or_eq_true_iff.mp hb1 with z | z
            · exfalso
              cases kvs with
              | nil => simp [tupK] at tk
              | cons p r =>
                simp only [scalK, List.all_cons, Bool.and_eq_true] at z
                simp only [List.all_cons, Bool.and_eq_true] at ht
                have b1 := z.1
                have b2 := ht.1
                cases hp : p.1 <;> rw [hp] at b1 b2 <;> simp [scal1, tup1] at b1 b2
            · simp only [Bool.and_eq_true] at z
              exact Nat.eq_of_beq_eq_true z.2
          obtain ⟨xs, x1, x2, x3, x4⟩ := keyed_of I rd kq ht hn
          have hxl : xs.length = 1 := by rw [← Paired.length x1, kq.length, h1]
          obtain ⟨x, rfl⟩ : ∃ x, xs = [x] := by
            match xs, hxl with
            | [x], _ => exact ⟨x, rfl⟩
          obtain ⟨u, eu, rx⟩ := vals1 rv
          subst eu
          obtain rfl : u = .ref a := rx
          have isx : (nestedKind X.prog X.w).is s.heap x.1 x.2.1 := by
            obtain ⟨_, _, _, _, _, _, _, z, _⟩ := x2
            exact z x (by simp)
          have tyx : s.TypeIs (.ref x.2.1) "tuple" := by
            cases x1 with
            | cons r _ =>
              cases kvs with
              | nil => simp at h1
              | cons p t =>
                obtain ⟨k, v⟩ := p
                obtain ⟨nk, kv, vv, t', ee, c1, c2, c3, c4, c5⟩ := kq
                cases ee
                obtain ⟨r1, r2, r3⟩ := r
                simp only at r2
                simp only [List.all_cons, Bool.and_eq_true] at ht
                cases k with
                | tup ds =>
                  obtain ⟨b, ws, eb, tb, _⟩ := c3
                  rw [r2] at eb
                  cases eb
                  obtain ⟨its, _, ⟨o, ho, hc, _⟩, _⟩ := I.tuple tb.sq
                  exact ⟨o, ho, hc⟩
                | _ => simp [tup1] at ht
          refine PySem.dict_of_dictH (knd := nestedKind X.prog X.w) (by show X.A.units + 1 + 1 + 8 < cLine; omega) x4 x2 (fun y hy => ?_) (by simp) (by simp; rw [sizeLine_eq]; decide) (fun hp hk y hy => ?_) fun hp dd hk => ?_
          · rw [List.mem_singleton.mp hy]; exact tyx
          · rw [List.mem_singleton.mp hy]
            exact ⟨NestedIs.at (fun a o _ _ e _ => hk a o e) _ _ isx.1, isx.2⟩
          · have hf : H s.heap.objs.size = none := I.hok.fresh (Nat.le_refl _)
            have kp : Keeps H (upd H s.heap.objs.size (dHO X.w s.heap.objs.size es)) := Keeps.new hf
            have pp : Pre μ (μ ++ [s.heap.objs.size]) := List.prefix_append _ _
            have hm : (s.heap.objs.size == sysModules) = false := beq_eq_false_iff_ne.mpr (Nat.ne_of_gt I.big)
            obtain ⟨ob, arr, ep', b1, b2, b3, b4, _, b5⟩ := dd
            have est : storedAllH [] [x] = [x] := by simp [storedAllH, storedH, atKey]
            rw [est] at b4
            have I' : Inv X pins σ (upd H s.heap.objs.size (dHO X.w s.heap.objs.size es)) { s with heap := hp } := by
              refine I.laid (t' := s.toks) hk (Nat.le_refl _) ⟨⟨ob, arr, ep', b1, b2, b3, by rw [b4]; exact x1.back, x3, hm⟩, ⟨ob, b1⟩, fun h1 h2 hφ hk' => ?_⟩
              obtain ⟨ob', arr', ep'', c1, c2⟩ := hφ
              exact ⟨ob', arr', ep'', hk' ob' c1, c2⟩
            have L' : Lk X (μ ++ [s.heap.objs.size]) (upd H s.heap.objs.size (dHO X.w s.heap.objs.size es)) (h ++ [.dct false kvs]) :=
              L.new hf ⟨_, by rw [if_neg (by decide)]; exact upd_same, .inr ⟨tk, es, rfl, kq.keep pp kp⟩, hn⟩
            exact ⟨_, _, .ref s.heap.objs.size, _, _, rfl, I', rfl, pp, kp, L', ⟨_, L.newRef, rfl⟩⟩
      · cases e
    · cases e
  · cases e
/-- dict(x) -/
def dictD (h : AH) (ds : List D) : Option (D × AH) := match dictT h ds with
  | some z => some z
  | none => dictC h ds
theorem cs_dict (hc : X.calm = true) (hu : X.A.units + 14 < cLine) : CallS X (.type "dict") dictD := CallS.or (cs_dictT hc hu) (cs_dictC hu) fun h ds z e => by
  unfold dictD at e
  split at e
  · rename_i ez; cases e; exact .inl ez
  · exact .inr e
end
end G47
namespace PySem.W
open PySem PySem.SeqAt
section
variable {prog : Program} {w : World} {s : Shared} {K : Type} [DecidableEq K] {knd : HeapKind prog w K} {A : Around} {E : Value → Shared → Prop}
/-- the entries of one dict asked of another: keys that are objects -/
inductive HitsH (prog : Program) (w : World) {K : Type} [DecidableEq K] (A : Around) (s : Shared) (kb : List (K × Addr × Value)) : List (K × Addr × Value) → Bool → Prop
  | nil : HitsH prog w A s kb [] true
  | miss {x : K × Addr × Value} {r : List (K × Addr × Value)} : atKey kb x.1 = none → HitsH prog w A s kb (x :: r) false
  | hit {x : K × Addr × Value} {y : Addr × Value} {r : List (K × Addr × Value)} {e b : Bool} : atKey kb x.1 = some y → EqIn prog w A s x.2.2 y.2 e → HitsH prog w A s kb r b → HitsH prog w A s kb (x :: r) (e && b)
theorem HitsH.inv {kb : List (K × Addr × Value)} {x : K × Addr × Value} {r : List (K × Addr × Value)} {b : Bool} (h : HitsH prog w A s kb (x :: r) b) :
    (atKey kb x.1 = none ∧ b = false) ∨ ∃ y e b', atKey kb x.1 = some y ∧ EqIn prog w A s x.2.2 y.2 e ∧ HitsH prog w A s kb r b' ∧ b = (e && b') := by
  cases h with
  | miss z => exact .inl ⟨z, rfl⟩
  | hit z1 z2 z3 => exact .inr ⟨_, _, _, z1, z2, z3, rfl⟩
theorem samePairsH {nm : String} {a b : Addr} {ka kb : List (K × Addr × Value)} {r : Bool} {Q : Bool → Shared → Prop} (hu : knd.room A) (ha : (a == sysModules) = false) (hb : (b == sysModules) = false)
    (da : s.heap.DictOfH knd a ka) (db : s.heap.DictOfH knd b kb) (hits : ka.length = kb.length → HitsH prog w A s kb ka r) (h : Q (ka.length == kb.length && r) s) : wpAny (model prog w) A (Builtin.Dict.samePairs nm a b) Q E s := by
  obtain ⟨ox, ta, pa, oka, _, dta, ent1, key1, _⟩ := da
  obtain ⟨oy, tb, pb, okb, _, dtb, ent2, key2, nod2⟩ := db
  have len1 : ka.length = ta.size := (size_of_entries ent1).symm
  have len2 : kb.length = tb.size := (size_of_entries ent2).symm
  rw [len1, len2] at h
  unfold Builtin.Dict.samePairs
  unfold Builtin.Dict.showsAll
  simp only [ha, hb, Bool.false_eq_true, if_false]
  refine wpAny_bind (wpAny_pure (wpAny_bind (wpAny_pure (wpAny_bind (wpAny_dictEntries oka dta ?_)))))
  refine wpAny_bind (wpAny_dictEntries okb dtb ?_)
  by_cases eqsz : ta.size = tb.size
  case neg =>
    rw [if_pos (by simpa using eqsz)]
    have nlen : (ta.size == tb.size) = false := by simpa using eqsz
    rw [nlen, Bool.false_and] at h
    exact wpAny_bind (wpAny_rule (wpAny_pure (by exact h)))
  case pos =>
    have goal0 : Q r s := by simpa [eqsz] using h
    have hit0 := hits (by rw [len1, len2]; exact eqsz)
    rw [if_neg (by rw [eqsz]; simp)]
    refine wpAny_bind (wpAny_dictEpoch oka dta ?_)
    refine wpAny_bind ?_
    (rw [Std.Legacy.Range.forIn_eq_forIn_range']); simp only [Nat.div_one, Std.Legacy.Range.size, Nat.add_sub_cancel, Nat.sub_zero]
    refine wpAny_forIn_list _
      (fun rest q s' => s' = s ∧ q = (none, ()) ∧ ∃ i, rest = List.range' i (ta.size - i) ∧ i ≤ ta.size ∧ HitsH prog w A s kb (ka.drop i) r)
      _ ?_ ?_ _ _ ⟨rfl, rfl, 0, by simp, Nat.zero_le _, hit0⟩
    · rintro x rest q s' ⟨rfl, rfl, i, rngE, lei, left0⟩
      have lti : i < ta.size := by
        rcases Nat.lt_or_ge i ta.size with h | h
        · exact h
        · rw [Nat.sub_eq_zero_of_le h] at rngE; simp at rngE
      obtain ⟨rfl, rest1⟩ : x = i ∧ rest = List.range' (i + 1) (ta.size - (i + 1)) := by
        have e : ta.size - i = (ta.size - (i + 1)) + 1 := by omega
        rw [e, List.range'_succ] at rngE
        injection rngE with h1 h2
        exact ⟨h1, h2⟩
      refine wpAny_bind (wpAny_dictEntries oka dta ?_)
      rw [Array.getElem?_eq_getElem lti]
      have ltk : x < ka.length := by rw [len1]; exact lti
      have ent3 : ta[x] = entryOfKey knd ka[x] := by
        have z := entry_at ent1 x
        rw [Array.getElem?_eq_getElem lti, List.getElem?_eq_getElem ltk] at z
        exact Option.some.inj z
      have drop1 : ka.drop x = ka[x] :: ka.drop (x + 1) := List.drop_eq_getElem_cons ltk
      rw [drop1] at left0
      rw [ent3]
      generalize hy : ka[x] = y at *
      have hiy : knd.is s'.heap y.1 y.2.1 := key1 y (by rw [← hy]; exact List.getElem_mem ltk)
      show wpAny _ _ (holding [Value.ref y.2.1, y.2.2] _ >>= _) _ _ _
      refine wpAny_bind (wpAny_holding (wpAny_bind (wpAny_dictFind_heap hu hiy okb dtb ent2 key2 nod2 (fun none0 => ?_) fun j p hj => ?_)))
      · have none1 : atKey kb y.1 = none := atKey_none_of_get none0
        rcases left0.inv with ⟨_, er0⟩ | ⟨z, _, _, hz0, _⟩
        · rw [er0] at goal0
          refine wpAny_pure ?_
          exact (show wpAny _ _ (if (!false) = true then _ else _) _ _ _ from by rw [if_pos (by decide)]; exact wpAny_pure (wpAny_pure goal0))
        · rw [none1] at hz0; exact nomatch hz0
      · have some1 : atKey kb y.1 = some p := atKey_of_get nod2 hj
        have ent4 : tb[j]? = some (entryOfKey knd (y.1, p)) := by rw [entry_at ent2 j, hj]; rfl
        refine wpAny_bind (wpAny_dictEntries okb dtb ?_)
        rw [ent4]
        rcases left0.inv with ⟨none0, _⟩ | ⟨z, e, b', hz0, eq0, tail0, er0⟩
        · rw [some1] at none0; exact nomatch none0
        · rw [some1] at hz0
          cases hz0
          refine wpAny_holding (eq0 _ _ ?_)
          cases e with
          | false =>
            rw [er0, Bool.false_and] at goal0
            exact (show wpAny _ _ (if (!false) = true then _ else _) _ _ _ from by rw [if_pos (by decide)]; exact wpAny_pure (wpAny_pure goal0))
          | true =>
            rw [Bool.true_and] at er0
            rw [← er0] at tail0
            (show wpAny _ _ (if (!true) = true then _ else _) _ _ _); (rw [if_neg (by decide)])
            refine wpAny_bind (wpAny_dictEpoch oka dta ?_)
            rw [if_neg (by simp)]
            exact wpAny_pure ⟨rfl, rfl, x + 1, rest1, lti, tail0⟩
    · rintro q s' ⟨rfl, rfl, i, rngE, lei, left0⟩
      have iend : i = ta.size := by
        rcases Nat.lt_or_ge i ta.size with h | h
        · have e : ta.size - i = (ta.size - (i + 1)) + 1 := by omega
          rw [e, List.range'_succ] at rngE; exact nomatch rngE
        · exact Nat.le_antisymm lei h
      refine wpAny_pure ?_
      rw [iend, ← len1, List.drop_length] at left0
      cases left0
      exact goal0
theorem rc_dictsH {a b : Addr} {ka kb : List (K × Addr × Value)} {r : Bool} {Q : Value → Shared → Prop} (hu' : knd.room A.in1) (ha : (a == sysModules) = false) (hb : (b == sysModules) = false)
    (xa : s.heap.DictOfH knd a ka) (xb : s.heap.DictOfH knd b kb) (hu : A.units < cLine) (hits : ka.length = kb.length → HitsH prog w A.in1 s kb ka r) (h : Q (.bool (ka.length == kb.length && r)) s) :
    wpAny (model prog w) A (richCompare .Eq (.ref a) (.ref b)) Q E s := by
  refine wpAny_richCompare_same_room (op := .Eq) xa.typeIs xb.typeIs PySem.F.slot_dict_eq (wpAny_call_entry PySem.F.slot_dict_eq xa.typeIs PySem.F.entry_dict_eq ?_ (PySem.F.args_dict_eq_2 _ _)) hu
  refine (show wpAny _ _ (Builtin.Dict.dictSlotArgs "__eq__" ⟨[.ref a, .ref b], []⟩ >>= _) _ _ s from wpAny_bind ?_); unfold Builtin.Dict.dictSlotArgs
  refine wpAny_bind (wpAny_notOrdered_dict xa.typeIs ?_)
  refine (show wpAny _ _ (pure (Value.ref a, Value.ref b)) _ _ s from wpAny_pure ?_)
  refine wpAny_bind (wpAny_isInstance (T := "dict") xb.typeIs PySem.F.sub_dict_dict ?_)
  simp only [Bool.false_eq_true, Bool.not_true, if_false]
  refine wpAny_bind (wpAny_pure (wpAny_bind (wpAny_pure (wpAny_bind (samePairsH hu' ha hb xa xb hits ?_)))))
  exact wpAny_pure ⟨_, rfl, (fun x => nomatch x), by simpa using h⟩
end
end PySem.W
namespace G47
open PySem L2 PyProof.Rows
/-! ### == of data and of what holds dicts -/
theorem all2_refl {f : D → D → Bool} : ∀ {ds : List D}, (∀ d ∈ ds, f d d = true) → eqB.all2 f ds ds = true
  | [], _ => by simp [eqB.all2]
  | d :: r, h => by
    simp only [eqB.all2, h d List.mem_cons_self, Bool.true_and]
    exact all2_refl fun e he => h e (List.mem_cons_of_mem _ he)
theorem eqB_refl {h : AH} : ∀ (n : Nat) (d : D), isDat h n d = true → eqB h n d d = true := by
  intro n
  induction n with
  | zero => intro d hd; cases d <;> simp [isDat, eqB] at hd ⊢
  | succ n ih =>
    intro d hd
    cases d with
    | tup ds =>
      simp only [isDat, List.all_eq_true] at hd
      simp only [eqB]
      exact all2_refl fun e he => ih e (hd e he)
    | ref l =>
      simp only [isDat] at hd
      split at hd
      · rename_i lk ds e
        simp only [List.all_eq_true] at hd
        simp only [eqB, e]
        exact all2_refl fun e he => ih e (hd e he)
      · cases hd
    | gl m => simp [isDat] at hd
    | _ => simp [eqB]
section
variable {X : Cx} {pins : List (Addr × Obj)} {σ : L2.St} {μ : List Addr} {H : Hp} {h : AH} {s : Shared}
theorem mu_inj (L : Lk X μ H h) {l m : Nat} {a : Addr} (e1 : μ[l]? = some a) (e2 : μ[m]? = some a) : l = m :=
  (List.getElem?_inj (List.getElem?_eq_some_iff.mp e1).1 L.nd).mp (e1.trans e2.symm)
theorem eqB_same (I : Inv X pins σ H s) (L : Lk X μ H h) : ∀ (n : Nat) (d e : D) (v : V), isDat h n d = true → isDat h n e = true → DV X.K X.mg μ H d v → DV X.K X.mg μ H e v → eqB h n d e = true := by
  intro n
  induction n with
  | zero =>
    intro d e v hd he q1 q2
    cases d <;> cases e <;> simp [isDat] at hd he <;> simp only [DV] at q1 q2 <;>
      first
      | (obtain ⟨y, ey, _⟩ := q2; subst q1; cases ey)
      | (subst q1; cases q2; simp [eqB])
      | (obtain ⟨x, rfl, t⟩ := q1; obtain ⟨y, ey, t'⟩ := q2; cases ey; have := t.fn t'; subst this; simp [eqB])
      | (obtain ⟨x, rfl, t⟩ := q1; cases q2)
      | (obtain ⟨x, rfl, t⟩ := q2; cases q1)
  | succ n ih =>
    intro d e v hd he q1 q2
    have lists : ∀ (as bs : List D) (vs : List V), (∀ x ∈ as, isDat h n x = true) → (∀ x ∈ bs, isDat h n x = true) → DVs X.K X.mg μ H as vs → DVs X.K X.mg μ H bs vs → eqB.all2 (eqB h n) as bs = true := by
      intro as
      induction as with
      | nil =>
        intro bs vs _ _ r1 r2
        rw [show vs = [] from r1] at r2
        cases bs with
        | nil => simp [eqB.all2]
        | cons b bs => obtain ⟨_, _, z, _⟩ := r2; cases z
      | cons a as iha =>
        intro bs vs h1 h2 r1 r2
        obtain ⟨v1, vr, rfl, p1, p2⟩ := r1
        cases bs with
        | nil => cases r2
        | cons b bs =>
          obtain ⟨v2, vr2, z, p3, p4⟩ := r2
          cases z
          simp only [eqB.all2, Bool.and_eq_true]
          exact ⟨ih a b v1 (h1 a List.mem_cons_self) (h2 b List.mem_cons_self) p1 p3, iha bs vr (fun x hx => h1 x (List.mem_cons_of_mem _ hx)) (fun x hx => h2 x (List.mem_cons_of_mem _ hx)) p2 p4⟩
    cases d with
    | tup as =>
      cases e with
      | tup bs =>
        simp only [isDat, List.all_eq_true] at hd he
        obtain ⟨a, vs, rfl, t1, r1⟩ := q1
        obtain ⟨b, ws, z, t2, r2⟩ := q2
        cases z
        have := I.tuple_inj t1.sq t2.sq
        subst this
        simp only [eqB]
        exact lists as bs vs hd he r1 r2
      | ref l =>
        exfalso
        obtain ⟨a, vs, rfl, t1, r1⟩ := q1
        obtain ⟨b, e1, z⟩ := q2
        cases z
        obtain ⟨its, _, ⟨o, ho, hc, _⟩, _⟩ := I.tuple t1.sq
        simp only [isDat] at he
        split at he
        · rename_i lk ds el
          obtain ⟨a', vs', z, _, _, sq, _⟩ := lst_at L el (⟨a, e1, rfl⟩ : DV X.K X.mg μ H (.ref l) (.ref a))
          cases z
          obtain ⟨its', _, pl, _⟩ := I.list sq
          obtain ⟨o', n', ho', hc', _⟩ := pl
          rw [ho] at ho'; cases ho'
          rw [hc] at hc'
          injection hc' with ee
          exact absurd ee (by decide)
        · cases he
      | gl m => simp [isDat] at he
      | _ => first | (obtain ⟨a, vs, rfl, _⟩ := q1; obtain ⟨x, z, _⟩ := q2; cases z) | (obtain ⟨a, vs, rfl, _⟩ := q1; cases q2) | (simp [isDat] at he)
    | ref l =>
      cases e with
      | ref m =>
        obtain ⟨a, e1, rfl⟩ := q1
        obtain ⟨b, e2, z⟩ := q2
        cases z
        have := mu_inj L e1 e2
        subst this
        exact eqB_refl (n + 1) _ hd
      | tup bs =>
        exfalso
        obtain ⟨b, ws, rfl, t2, r2⟩ := q2
        obtain ⟨a, e1, z⟩ := q1
        cases z
        obtain ⟨its, _, ⟨o, ho, hc, _⟩, _⟩ := I.tuple t2.sq
        simp only [isDat] at hd
        split at hd
        · rename_i lk ds el
          obtain ⟨a', vs', z, _, _, sq, _⟩ := lst_at L el (⟨b, e1, rfl⟩ : DV X.K X.mg μ H (.ref l) (.ref b))
          cases z
          obtain ⟨its', _, pl, _⟩ := I.list sq
          obtain ⟨o', n', ho', hc', _⟩ := pl
          rw [ho] at ho'; cases ho'
          rw [hc] at hc'
          injection hc' with ee
          exact absurd ee (by decide)
        · cases hd
      | gl m => simp [isDat] at he
      | _ => first | (obtain ⟨a, e1, rfl⟩ := q1; obtain ⟨x, z, _⟩ := q2; cases z) | (obtain ⟨a, e1, rfl⟩ := q1; cases q2) | (simp [isDat] at he)
    | gl m => simp [isDat] at hd
    | str a =>
      obtain ⟨x, rfl, t⟩ := q1
      cases e with
      | str b => obtain ⟨y, ey, t'⟩ := q2; cases ey; have := t.fn t'; subst this; simp [eqB]
      | tup bs => obtain ⟨_, _, z, _⟩ := q2; cases z
      | ref l => obtain ⟨_, _, z⟩ := q2; cases z
      | gl m => simp [isDat] at he
      | _ => cases q2
    | non => cases q1; cases e with
      | non => simp [eqB]
      | str b => obtain ⟨y, ey, _⟩ := q2; cases ey
      | tup bs => obtain ⟨_, _, z, _⟩ := q2; cases z
      | ref l => obtain ⟨_, _, z⟩ := q2; cases z
      | gl m => simp [isDat] at he
      | _ => cases q2
    | bl b0 => cases q1; cases e with
      | bl b1 => cases q2; simp [eqB]
      | str b => obtain ⟨y, ey, _⟩ := q2; cases ey
      | tup bs => obtain ⟨_, _, z, _⟩ := q2; cases z
      | ref l => obtain ⟨_, _, z⟩ := q2; cases z
      | gl m => simp [isDat] at he
      | _ => cases q2
    | int i0 => cases q1; cases e with
      | int i1 => cases q2; simp [eqB]
      | str b => obtain ⟨y, ey, _⟩ := q2; cases ey
      | tup bs => obtain ⟨_, _, z, _⟩ := q2; cases z
      | ref l => obtain ⟨_, _, z⟩ := q2; cases z
      | gl m => simp [isDat] at he
      | _ => cases q2
def eqTup (f : D → D → Option Bool) : List D → List D → Option Bool
  | [], [] => some true
  | [], _ :: _ => some false
  | _ :: _, [] => some false
  | a :: as, b :: bs => match f a b, eqTup f as bs with
    | some x, some y => some (x && y)
    | _, _ => none
/-- each entry of ks asked of ls -/
def eqHit (f : D → D → Option Bool) (ls : List (D × D)) : List (D × D) → Option Bool
  | [] => some true
  | (k, v) :: r => match dfind ls k with
    | none => some false
    | some y => match f v y, eqHit f ls r with
      | some x, some z => some (x && z)
      | _, _ => none
def eqN (h : AH) : Nat → D → D → Option Bool
  | 0, d, e => if isDat h deep d && isDat h deep e then some (eqB h deep d e) else none
  | n + 1, d, e => if isDat h deep d && isDat h deep e then some (eqB h deep d e) else match d, e with
    | .tup a, .tup b => eqTup (eqN h n) a b
    | .ref l, .ref m => if Nat.beq l m then some true else match h[l]?, h[m]? with
      | some (.dct _ ks), some (.dct _ ls) => if tupK ks && tupK ls then (if Nat.beq ks.length ls.length then eqHit (eqN h n) ls ks else some false) else none
      | _, _ => none
    | _, _ => none
theorem eqTup_same {f : D → D → Option Bool} (hf : ∀ d e v r, DV X.K X.mg μ H d v → DV X.K X.mg μ H e v → f d e = some r → r = true) : ∀ {as bs : List D} {vs : List V} {r : Bool}, DVs X.K X.mg μ H as vs → DVs X.K X.mg μ H bs vs → eqTup f as bs = some r → r = true
  | [], [], _, _, _, _, e => by cases e; rfl
  | [], b :: bs, vs, _, r1, r2, e => by
    rw [show vs = [] from r1] at r2
    obtain ⟨_, _, z, _⟩ := r2
    cases z
  | a :: as, [], vs, _, r1, r2, e => by
    rw [show vs = [] from r2] at r1
    obtain ⟨_, _, z, _⟩ := r1
    cases z
  | a :: as, b :: bs, vs, r, r1, r2, e => by
    obtain ⟨v1, vr, rfl, p1, p2⟩ := r1
    obtain ⟨v2, vr2, z, p3, p4⟩ := r2
    cases z
    unfold eqTup at e
    split at e
    · rename_i x y e1 e2
      cases e
      rw [hf a b v1 x p1 p3 e1, eqTup_same hf p2 p4 e2]
      rfl
    · cases e
theorem eqN_same (I : Inv X pins σ H s) (L : Lk X μ H h) : ∀ (n : Nat) (d e : D) (v : V) (r : Bool), DV X.K X.mg μ H d v → DV X.K X.mg μ H e v → eqN h n d e = some r → r = true := by
  intro n
  induction n with
  | zero =>
    intro d e v r q1 q2 e0
    unfold eqN at e0
    split at e0
    · rename_i hb
      simp only [Bool.and_eq_true] at hb
      cases e0
      exact eqB_same I L deep d e v hb.1 hb.2 q1 q2
    · cases e0
  | succ n ih =>
    intro d e v r q1 q2 e0
    unfold eqN at e0
    split at e0
    · rename_i hb
      simp only [Bool.and_eq_true] at hb
      cases e0
      exact eqB_same I L deep d e v hb.1 hb.2 q1 q2
    · split at e0
      · rename_i a b hneg
        obtain ⟨p, vs, rfl, t1, r1⟩ := q1
        obtain ⟨p', ws, z, t2, r2⟩ := q2
        cases z
        have := I.tuple_inj t1.sq t2.sq
        subst this
        exact eqTup_same ih r1 r2 e0
      · rename_i l m hneg
        obtain ⟨p, e1, rfl⟩ := q1
        obtain ⟨p', e2, z⟩ := q2
        cases z
        have := mu_inj L e1 e2
        subst this
        rw [if_pos (Nat.beq_refl l)] at e0
        cases e0
        rfl
      · cases e0
/-- the answer for the j-th two -/
def eAt (f : D → D → Option Bool) (as bs : List D) (j : Nat) : Bool := match as[j]?, bs[j]? with
  | some a, some b => (f a b).getD false
  | _, _ => false
theorem eqTup_all {f : D → D → Option Bool} : ∀ {as bs : List D} {r : Bool}, eqTup f as bs = some r → ((List.range (min as.length bs.length)).all (eAt f as bs) && as.length == bs.length) = r
  | [], [], _, e => by cases e; rfl
  | [], b :: bs, _, e => by cases e; simp
  | a :: as, [], _, e => by cases e; simp
  | a :: as, b :: bs, r, e => by
    unfold eqTup at e
    split at e
    · rename_i x y e1 e2
      cases e
      have ih := eqTup_all e2
      have hm : min (a :: as).length (b :: bs).length = min as.length bs.length + 1 := by simp only [List.length_cons]; omega
      rw [hm, List.range_succ_eq_map, List.all_cons, List.all_map]
      have h0 : eAt f (a :: as) (b :: bs) 0 = x := by simp [eAt, e1]
      have hs : (eAt f (a :: as) (b :: bs) ∘ Nat.succ) = eAt f as bs := by funext j; simp [eAt]
      rw [h0, hs, Bool.and_assoc]
      have hl : ((a :: as).length == (b :: bs).length) = (as.length == bs.length) := by simp
      rw [hl, ih]
    · cases e
theorem eqTup_at {f : D → D → Option Bool} : ∀ {as bs : List D} {r : Bool} {j : Nat} {a b : D}, eqTup f as bs = some r → as[j]? = some a → bs[j]? = some b → f a b = some (eAt f as bs j)
  | [], _, _, _, _, _, _, h1, _ => by simp at h1
  | _ :: _, [], _, _, _, _, _, _, h2 => by simp at h2
  | a :: as, b :: bs, r, j, x, y, e, h1, h2 => by
    unfold eqTup at e
    split at e
    · rename_i u v e1 e2
      cases j with
      | zero => simp at h1 h2; subst h1 h2; simp [eAt, e1]
      | succ j =>
        simp at h1 h2
        have := eqTup_at e2 h1 h2
        rw [this]
        simp [eAt]
    · cases e
theorem eqN_ok (I : Inv X pins σ H s) (L : Lk X μ H h) : ∀ (n : Nat) (d e : D) (v w : V) (u u' : Value) (r : Bool) (A : Around), eqN h n d e = some r → DV X.K X.mg μ H d v → DV X.K X.mg μ H e w → RelV v u → RelV w u' → A.units + n + 14 < cLine → SeqAt.EqIn X.prog X.w A s u u' r := by
  have base : ∀ (d e : D) (v w : V) (u u' : Value) (A : Around), isDat h deep d = true → isDat h deep e = true → DV X.K X.mg μ H d v → DV X.K X.mg μ H e w → RelV v u → RelV w u' → A.units + 14 < cLine → SeqAt.EqIn X.prog X.w A s u u' (eqB h deep d e) := fun d e v w u u' A hd he q1 q2 r1 r2 hu =>
    SeqAt.EqAt.inModel (eqAt_D I L hd he q1 q2 r1 r2 (by omega)) _ _
  intro n
  induction n with
  | zero =>
    intro d e v w u u' r A e0 q1 q2 r1 r2 hu
    unfold eqN at e0
    split at e0
    · rename_i hb
      simp only [Bool.and_eq_true] at hb
      cases e0
      exact base d e v w u u' A hb.1 hb.2 q1 q2 r1 r2 (by omega)
    · cases e0
  | succ n ih =>
    intro d e v w u u' r A e0 q1 q2 r1 r2 hu
    have e00 := e0
    unfold eqN at e0
    split at e0
    · rename_i hb
      simp only [Bool.and_eq_true] at hb
      cases e0
      exact base d e v w u u' A hb.1 hb.2 q1 q2 r1 r2 (by omega)
    · split at e0
      · rename_i as bs hneg
        have q1' := q1
        have q2' := q2
        obtain ⟨p, vs, rfl, t1, s1⟩ := q1
        obtain ⟨p', ws, rfl, t2, s2⟩ := q2
        obtain rfl : u = .ref p := r1
        obtain rfl : u' = .ref p' := r2
        by_cases hp : p = p'
        · subst hp
          rw [eqN_same I L (n + 1) _ _ _ _ q1' q2' e00]
          exact SeqAt.EqAt.inModel (SeqAt.EqAt.same (.ref p)) _ _
        · obtain ⟨its, rv, ht, _⟩ := I.tuple t1.sq
          obtain ⟨its', rv', ht', _⟩ := I.tuple t2.sq
          have l1 : its.length = as.length := by rw [← rv.length, s1.length]
          have l2 : its'.length = bs.length := by rw [← rv'.length, s2.length]
          refine SeqAt.EqIn.of_refs hp fun E Q hq => SeqAt.rcIn_tuples (e := eAt (eqN h n) as bs) ht ht' (by omega) (fun j h1 h2 => ?_) ?_
          · simp only [List.size_toArray] at h1 h2
            have ha : as[j]? = some as[j] := List.getElem?_eq_getElem (by omega)
            have hb : bs[j]? = some bs[j] := List.getElem?_eq_getElem (by omega)
            obtain ⟨v1, ev1, qv1⟩ := s1.get ha
            obtain ⟨v2, ev2, qv2⟩ := s2.get hb
            obtain ⟨u1, eu1, ru1⟩ := rv.get ev1
            obtain ⟨u2, eu2, ru2⟩ := rv'.get ev2
            have z1 : its.toArray[j] = u1 := by
              have : its[j]? = some its[j] := List.getElem?_eq_getElem h1
              rw [eu1] at this
              simpa using (Option.some.inj this).symm
            have z2 : its'.toArray[j] = u2 := by
              have : its'[j]? = some its'[j] := List.getElem?_eq_getElem h2
              rw [eu2] at this
              simpa using (Option.some.inj this).symm
            rw [z1, z2]
            exact ih as[j] bs[j] v1 v2 u1 u2 _ A.in1 (eqTup_at e0 ha hb) qv1 qv2 ru1 ru2 (by show A.units + 1 + n + 14 < cLine; omega)
          · have := eqTup_all e0
            rw [← this] at hq
            simpa [l1, l2] using hq
      · rename_i l m hneg
        split at e0
        · rename_i hlm
          cases e0
          have := Nat.eq_of_beq_eq_true hlm
          subst this
          obtain ⟨p, e1, rfl⟩ := q1
          obtain ⟨p', e2, rfl⟩ := q2
          rw [e1] at e2; cases e2
          obtain rfl : u = .ref p := r1
          obtain rfl : u' = .ref p := r2
          exact SeqAt.EqAt.inModel (SeqAt.EqAt.same (.ref p)) _ _
        · rename_i hlm
          split at e0
          · rename_i ka ks kb ls el em
            split at e0
            · rename_i hk
              simp only [Bool.and_eq_true] at hk
              obtain ⟨a, o1, rfl, f1, rd1, _, dl1, nd1⟩ := dct_rd L el q1
              obtain ⟨b, o2, rfl, f2, rd2, _, dl2, nd2⟩ := dct_rd L em q2
              obtain rfl : u = .ref a := r1
              obtain rfl : u' = .ref b := r2
              have hab : a ≠ b := fun z => by
                subst z
                exact hlm (by rw [mu_inj L f1 f2]; exact Nat.beq_refl m)
              have tupd : ∀ {kvs : List (D × D)} {o : HO} {a : Addr}, tupK kvs = true → DL X.K X.mg μ H X.w a kvs o → ∃ es, o = dHO X.w a es ∧ KVs X.K X.mg μ H kvs es ∧ (kvs.all fun p => tup1 p.1) = true := fun {kvs o a} ht dl => by
                have ht2 : (kvs.all fun p => tup1 p.1) = true := by simp only [tupK, Bool.and_eq_true] at ht; exact ht.2
                rcases dl with ⟨sk, kss, rfl, _⟩ | ⟨_, es, rfl, kq⟩
                · exfalso
                  cases kvs with
                  | nil => simp [tupK] at ht
                  | cons p r =>
                    simp only [scalK, List.all_cons, Bool.and_eq_true] at sk
                    simp only [List.all_cons, Bool.and_eq_true] at ht2
                    have b1 := sk.1
                    have b2 := ht2.1
                    cases hp : p.1 <;> rw [hp] at b1 b2 <;> simp [scal1, tup1] at b1 b2
                · exact ⟨es, rfl, kq, ht2⟩
              obtain ⟨es1, rfl, kq1, t1⟩ := tupd hk.1 dl1
              obtain ⟨es2, rfl, kq2, t2⟩ := tupd hk.2 dl2
              obtain ⟨xs1, x1, dd1, _, sm1⟩ := keyed_of I rd1 kq1 t1 nd1
              obtain ⟨xs2, x2, dd2, _, sm2⟩ := keyed_of I rd2 kq2 t2 nd2
              have len1 : xs1.length = ks.length := by rw [← Paired.length x1, kq1.length]
              have len2 : xs2.length = ls.length := by rw [← Paired.length x2, kq2.length]
              have hits : ∀ {kvs : List (D × D)} {es : List Ent} {xs : List (NestedKey × Addr × Value)} {z : Bool}, KVs X.K X.mg μ H kvs es → XsR es xs → eqHit (eqN h n) ls kvs = some z → PySem.W.HitsH X.prog X.w A.in1 s xs2 xs z := by
                intro kvs
                induction kvs with
                | nil =>
                  intro es xs z kq xr ez
                  rw [show es = [] from kq] at xr
                  cases xr
                  cases ez
                  exact .nil
                | cons p kr ihk =>
                  obtain ⟨k, v⟩ := p
                  intro es xs z kq xr ez
                  obtain ⟨nk, kv, vv, t', rfl, c1, c2, c3, c4, c5⟩ := kq
                  cases xr with
                  | cons r rr =>
                    obtain ⟨w1, w2, w3⟩ := r
                    simp only at w1 w2 w3
                    unfold eqHit at ez
                    rcases KVs.find c1 kq2 x2 with ⟨g1, g2⟩ | ⟨dv, vv2, bb, uu, g1, g2, g3, g4⟩
                    · rw [g1] at ez
                      cases ez
                      exact .miss (by rw [← w1]; exact g2)
                    · rw [g1] at ez
                      simp only at ez
                      split at ez
                      · rename_i x0 z0 ex0 ez0
                        cases ez
                        exact .hit (by rw [← w1]; exact g2) (ih v dv vv vv2 _ uu x0 A.in1 ex0 c4 g4 w3 g3 (by show A.units + 1 + n + 14 < cLine; omega)) (ihk c5 rr ez0)
                      · cases ez
              refine SeqAt.EqIn.of_refs hab fun E Q hq => ?_
              split at e0
              · rename_i hlen
                have hlen := Nat.eq_of_beq_eq_true hlen
                refine PySem.W.rc_dictsH (knd := nestedKind X.prog X.w) (by show A.units + 1 + 8 < cLine; omega) sm1 sm2 dd1 dd2 (by omega) (fun _ => hits kq1 x1 e0) ?_
                have : (xs1.length == xs2.length) = true := by rw [len1, len2, hlen]; simp
                rw [this, Bool.true_and]
                exact hq
              · rename_i hlen
                cases e0
                have hne : (xs1.length == xs2.length) = false := by
                  rw [len1, len2]
                  exact beq_eq_false_iff_ne.mpr fun z => hlen (by rw [z]; exact Nat.beq_refl _)
                refine PySem.W.rc_dictsH (r := false) (knd := nestedKind X.prog X.w) (by show A.units + 1 + 8 < cLine; omega) sm1 sm2 dd1 dd2 (by omega) (fun z => ?_) (by rw [hne]; exact hq)
                rw [z] at hne
                simp at hne
            · cases e0
          · cases e0
      · cases e0
end
end G47
namespace G47
open PySem L2 PyProof.Rows
section
variable {X : Cx} {cs : List CI} {bs : BI}
/-- == of two tuples, of two dicts whose keys are tuples -/
def eqX (h : AH) (d e : D) : Option Bool := match d, e with
  | .tup a, .tup b => eqTup (eqN h 6) a b
  | .ref l, .ref m => match h[l]?, h[m]? with
    | some (.dct _ ks), some (.dct _ ls) => if tupK ks && tupK ls && !Nat.beq l m then (if Nat.beq ks.length ls.length then eqHit (eqN h 6) ls ks else some false) else none
    | _, _ => none
  | _, _ => none
theorem rc_dct {pins : List (Addr × Obj)} {σ : L2.St} {μ : List Addr} {H : Hp} {h : AH} {s : Shared} {A : Around} {E : Value → Shared → Prop} {Q : Value → Shared → Prop} {f : D → D → Option Bool} {l m : Nat} {ka kb : Bool} {ks ls : List (D × D)} {a b : Addr} {o1 o2 : HO} {r : Bool} (I : Inv X pins σ H s) (hu : A.units + 14 < cLine)
    (rd1 : Rd H a o1) (dl1 : DL X.K X.mg μ H X.w a ks o1) (nd1 : nodupK ks = true) (rd2 : Rd H b o2) (dl2 : DL X.K X.mg μ H X.w b ls o2) (nd2 : nodupK ls = true) (hk1 : tupK ks = true) (hk2 : tupK ls = true)
    (hf : ∀ d e v w u u' r, f d e = some r → DV X.K X.mg μ H d v → DV X.K X.mg μ H e w → RelV v u → RelV w u' → SeqAt.EqIn X.prog X.w A.in1 s u u' r)
    (e0 : (if Nat.beq ks.length ls.length then eqHit f ls ks else some false) = some r) (hq : Q (.bool r) s) : wpAny (model X.prog X.w) A (richCompare .Eq (.ref a) (.ref b)) Q E s := by
  have tupd : ∀ {kvs : List (D × D)} {o : HO} {a : Addr}, tupK kvs = true → DL X.K X.mg μ H X.w a kvs o → ∃ es, o = dHO X.w a es ∧ KVs X.K X.mg μ H kvs es ∧ (kvs.all fun p => tup1 p.1) = true := fun {kvs o a} ht dl => by
    have ht2 : (kvs.all fun p => tup1 p.1) = true := by simp only [tupK, Bool.and_eq_true] at ht; exact ht.2
    rcases dl with ⟨sk, kss, rfl, _⟩ | ⟨_, es, rfl, kq⟩
    · exfalso
      cases kvs with
      | nil => simp [tupK] at ht
      | cons p r =>
        simp only [scalK, List.all_cons, Bool.and_eq_true] at sk
        simp only [List.all_cons, Bool.and_eq_true] at ht2
        have b1 := sk.1
        have b2 := ht2.1
        cases hp : p.1 <;> rw [hp] at b1 b2 <;> simp [scal1, tup1] at b1 b2
    · exact ⟨es, rfl, kq, ht2⟩
  obtain ⟨es1, rfl, kq1, t1⟩ := tupd hk1 dl1
  obtain ⟨es2, rfl, kq2, t2⟩ := tupd hk2 dl2
  obtain ⟨xs1, x1, dd1, _, sm1⟩ := keyed_of I rd1 kq1 t1 nd1
  obtain ⟨xs2, x2, dd2, _, sm2⟩ := keyed_of I rd2 kq2 t2 nd2
  have len1 : xs1.length = ks.length := by rw [← Paired.length x1, kq1.length]
  have len2 : xs2.length = ls.length := by rw [← Paired.length x2, kq2.length]
  have hits : ∀ {kvs : List (D × D)} {es : List Ent} {xs : List (NestedKey × Addr × Value)} {z : Bool}, KVs X.K X.mg μ H kvs es → XsR es xs → eqHit f ls kvs = some z → PySem.W.HitsH X.prog X.w A.in1 s xs2 xs z := by
    intro kvs
    induction kvs with
    | nil =>
      intro es xs z kq xr ez
      rw [show es = [] from kq] at xr
      cases xr
      cases ez
      exact .nil
    | cons p kr ihk =>
      obtain ⟨k, v⟩ := p
      intro es xs z kq xr ez
      obtain ⟨nk, kv, vv, t', rfl, c1, c2, c3, c4, c5⟩ := kq
      cases xr with
      | cons r rr =>
        obtain ⟨w1, w2, w3⟩ := r
        simp only at w1 w2 w3
        unfold eqHit at ez
        rcases KVs.find c1 kq2 x2 with ⟨g1, g2⟩ | ⟨dv, vv2, bb, uu, g1, g2, g3, g4⟩
        · rw [g1] at ez
          cases ez
          exact .miss (by rw [← w1]; exact g2)
        · rw [g1] at ez
          simp only at ez
          split at ez
          · rename_i x0 z0 ex0 ez0
            cases ez
            exact .hit (by rw [← w1]; exact g2) (hf v dv vv vv2 _ uu x0 ex0 c4 g4 w3 g3) (ihk c5 rr ez0)
          · cases ez
  split at e0
  · rename_i hlen
    have hlen := Nat.eq_of_beq_eq_true hlen
    refine PySem.W.rc_dictsH (knd := nestedKind X.prog X.w) (by show A.units + 1 + 8 < cLine; omega) sm1 sm2 dd1 dd2 (by omega) (fun _ => hits kq1 x1 e0) ?_
    have : (xs1.length == xs2.length) = true := by rw [len1, len2, hlen]; simp
    rw [this, Bool.true_and]
    exact hq
  · rename_i hlen
    cases e0
    have hne : (xs1.length == xs2.length) = false := by
      rw [len1, len2]
      exact beq_eq_false_iff_ne.mpr fun z => hlen (by rw [z]; exact Nat.beq_refl _)
    refine PySem.W.rc_dictsH (r := false) (knd := nestedKind X.prog X.w) (by show A.units + 1 + 8 < cLine; omega) sm1 sm2 dd1 dd2 (by omega) (fun z => ?_) (by rw [hne]; exact hq)
    rw [z] at hne
    simp at hne
def eqXD (h : AH) (d e : D) : Option (D × AH) := (eqX h d e).map fun r => (.bl r, h)
theorem os_eqX (hu : X.A.units + 30 < cLine) : OpS X (compareOp .Eq) eqXD := by
  intro pins σ H μ h s x y u v dx dy d h' I L rx ry qx qy e
  unfold eqXD at e
  cases er : eqX h dx dy with
  | none => rw [er] at e; cases e
  | some r =>
    rw [er] at e
    cases e
    have post : PostE X pins σ μ H (.ok (.bl r) h) (.bool r) s := ⟨.bl r, h, .bl r, H, μ, rfl, I, rfl, List.prefix_refl _, Keeps.refl _, L, rfl⟩
    show wpAny (model X.prog X.w) X.A (richCompare .Eq u v) _ _ _
    unfold eqX at er
    split at er
    · rename_i as bs
      obtain ⟨p, vs, rfl, t1, s1⟩ := qx
      obtain ⟨p', ws, rfl, t2, s2⟩ := qy
      obtain rfl : u = .ref p := rx
      obtain rfl : v = .ref p' := ry
      obtain ⟨its, rv, ht, _⟩ := I.tuple t1.sq
      obtain ⟨its', rv', ht', _⟩ := I.tuple t2.sq
      have l1 : its.length = as.length := by rw [← rv.length, s1.length]
      have l2 : its'.length = bs.length := by rw [← rv'.length, s2.length]
      refine SeqAt.rcIn_tuples (e := eAt (eqN h 6) as bs) ht ht' (by omega) (fun j h1 h2 => ?_) ?_
      · simp only [List.size_toArray] at h1 h2
        have ha : as[j]? = some as[j] := List.getElem?_eq_getElem (by omega)
        have hb : bs[j]? = some bs[j] := List.getElem?_eq_getElem (by omega)
        obtain ⟨v1, ev1, qv1⟩ := s1.get ha
        obtain ⟨v2, ev2, qv2⟩ := s2.get hb
        obtain ⟨u1, eu1, ru1⟩ := rv.get ev1
        obtain ⟨u2, eu2, ru2⟩ := rv'.get ev2
        have z1 : its.toArray[j] = u1 := by
          have : its[j]? = some its[j] := List.getElem?_eq_getElem h1
          rw [eu1] at this
          simpa using (Option.some.inj this).symm
        have z2 : its'.toArray[j] = u2 := by
          have : its'[j]? = some its'[j] := List.getElem?_eq_getElem h2
          rw [eu2] at this
          simpa using (Option.some.inj this).symm
        rw [z1, z2]
        exact eqN_ok I L 6 as[j] bs[j] v1 v2 u1 u2 _ X.A.in1 (eqTup_at er ha hb) qv1 qv2 ru1 ru2 (by show X.A.units + 1 + 6 + 14 < cLine; omega)
      · have := eqTup_all er
        rw [← this] at post ⊢
        simpa [l1, l2] using post
    · rename_i l m
      split at er
      · rename_i ka ks kb ls el em
        split at er
        · rename_i hk
          simp only [Bool.and_eq_true, Bool.not_eq_true'] at hk
          obtain ⟨⟨hk1, hk2⟩, hlm⟩ := hk
          obtain ⟨a, o1, rfl, f1, rd1, _, dl1, nd1⟩ := dct_rd L el qx
          obtain ⟨b, o2, rfl, f2, rd2, _, dl2, nd2⟩ := dct_rd L em qy
          obtain rfl : u = .ref a := rx
          obtain rfl : v = .ref b := ry
          exact rc_dct (h := h) (l := l) (m := m) (ka := ka) (kb := kb) I (by omega) rd1 dl1 nd1 rd2 dl2 nd2 hk1 hk2 (fun d e v w u u' r e0 q1 q2 r1 r2 => eqN_ok I L 6 d e v w u u' r X.A.in1 e0 q1 q2 r1 r2 (by show X.A.units + 1 + 6 + 14 < cLine; omega)) er post
        · cases er
      · cases er
    · cases er
/-- compare: data, what holds dicts, instances -/
def copX (op : CmpOp) (h : AH) (x y : D) : Option (D × AH) := match copD op h x y with
  | some z => some z
  | none => match op with
    | .Eq => eqXD h x y
    | _ => none
theorem os_copX (hu : X.A.units + 30 < cLine) (op : CmpOp) : OpS X (compareOp op) (copX op) := by
  intro pins σ H μ h s x y u v dx dy d h' I L rx ry qx qy e
  unfold copX at e
  split at e
  · rename_i z ez
    cases e
    exact os_cop (by omega) op pins σ H μ h s x y u v dx dy d h' I L rx ry qx qy ez
  · split at e
    · exact os_eqX hu pins σ H μ h s x y u v dx dy d h' I L rx ry qx qy e
    · cases e
theorem ru30 {k : Nat} {A : Around} (r : Room k A) : A.units + 30 < cLine := by have := r.un; omega
end
end G47
namespace G47
open PySem L2 PyProof.Rows
/-! ### a dict is locked while it is walked -/
abbrev Pick := Sl0 → AH → Option Nat
def pickE (m : ME) : Pick := fun σ h => match m σ h with
  | some (.ok (.ref l) _) => some l
  | _ => none
def unlk (l : Nat) (h : AH) : Option AH := match h[l]? with
  | some (.dct true kvs) => some (h.set l (.dct false kvs))
  | _ => none
def mLockE (pk : Pick) (m : ME) : ME := fun σ h => match pk σ h with
  | some l => match h[l]? with
    | some (.dct false kvs) => match m σ (h.set l (.dct true kvs)) with
      | some (.ok d h1) => (unlk l h1).map fun h2 => .ok d h2
      | _ => none
    | _ => none
  | none => none
def unlS (l : Nat) : OS → Option OS
  | .nx σ h => (unlk l h).map fun h2 => .nx σ h2
  | .rt d h => (unlk l h).map fun h2 => .rt d h2
  | .er _ _ _ => none
def mLockS (pk : Pick) (m : MS) : MS := fun σ h => match pk σ h with
  | some l => match h[l]? with
    | some (.dct false kvs) => (m σ (h.set l (.dct true kvs))).bind (unlS l)
    | _ => none
  | none => none
section
variable {X : Cx} {pins : List (Addr × Obj)} {σ : L2.St} {μ : List Addr} {H : Hp} {h : AH} {s : Shared}
theorem DL.mut {a : Addr} {kvs : List (D × D)} {u : HO} (d : DL X.K X.mg μ H X.w a kvs u) : Mut (some u) := by
  rcases d with ⟨_, _, rfl, _⟩ | ⟨_, _, rfl, _⟩ <;> exact True.intro
theorem lock_at {l : Nat} {kvs : List (D × D)} (I : Inv X pins σ H s) (L : Lk X μ H h) (e : h[l]? = some (.dct false kvs)) :
    ∃ a u od, μ[l]? = some a ∧ H a = some u ∧ (∀ z v, u ≠ .frz z v) ∧ (∀ o' u', X.H_0 a ≠ some (.frz o' u')) ∧ Inv X pins σ (upd H a (.frz od u)) s ∧ Keeps H (upd H a (.frz od u)) ∧ Lk X μ (upd H a (.frz od u)) (h.set l (.dct true kvs)) := by
  obtain ⟨a, ea, x⟩ := L.obj l _ e
  obtain ⟨u, hu, dl, nd⟩ := x
  rw [if_neg (by decide)] at hu
  obtain ⟨od, I1⟩ := I.lock hu dl.mut
  have kp : Keeps H (upd H a (.frz od u)) := Keeps.put hu dl.notTup dl.notFrz
  exact ⟨a, u, od, ea, hu, dl.notFrz, I.nofrz hu dl.mut, I1, kp, L.put ea ⟨u, by rw [if_pos rfl]; exact ⟨od, upd_same⟩, dl.keep (List.prefix_refl _) kp, nd⟩⟩
theorem unlock_at {l : Nat} {a : Addr} {h2 : AH} (I : Inv X pins σ H s) (L : Lk X μ H h) (ea : μ[l]? = some a) (hn : ∀ o' u', X.H_0 a ≠ some (.frz o' u')) (e : unlk l h = some h2) :
    ∃ u, Inv X pins σ (upd H a u) s ∧ Kt H (upd H a u) ∧ Lk X μ (upd H a u) h2 := by
  unfold unlk at e
  split at e
  · rename_i kvs el
    cases e
    obtain ⟨u, hu, dl, nd⟩ := L.at el ea
    rw [if_pos rfl] at hu
    obtain ⟨od, hu⟩ := hu
    have kp : Kt H (upd H a u) := Kt.put hu fun _ z => nomatch z
    exact ⟨u, I.unlock hu hn, kp, L.put ea ⟨u, by rw [if_neg (by decide)]; exact upd_same, dl.keep (List.prefix_refl _) kp, nd⟩⟩
  · cases e
/-- locked, walked, unlocked: for the rest of the heap all stays -/
theorem keeps_lk {a : Addr} {u u3 : HO} {ho : HO} {H' : Hp} (hu : H a = some u) (k1 : Keeps H (upd H a ho)) (kk : Keeps (upd H a ho) H') (k3 : Kt H' (upd H' a u3)) (nf : ∀ z v, u ≠ .frz z v) : Keeps H (upd H' a u3) :=
  ⟨fun x vs e => k3 x vs (kk.t x vs (k1.t x vs e)), fun x z v e => by
    by_cases h : x = a
    · subst h; rw [hu] at e; exact absurd (Option.some.inj e) (nf z v)
    · rw [upd_ne h]; exact kk.z x z v (k1.z x z v e)⟩
theorem se_lock {e : Expr} {m : ME} (pk : Pick) (he : SE X e m) : SE X e (mLockE pk m) := by
  intro W pins σA h σ H μ s r A e0
  unfold mLockE at e0
  split at e0
  · rename_i l _
    split at e0
    · rename_i kvs el
      split at e0
      · rename_i d h1 em
        cases eu : unlk l h1 with
        | none => rw [eu] at e0; cases e0
        | some h2 =>
          rw [eu] at e0
          cases e0
          obtain ⟨a, u, od, ea, hu, nf, hn, I1, k1, L1⟩ := lock_at A.inv A.lk el
          refine thn (he W pins σA _ σ _ μ s (.ok d h1) ⟨A.tk, I1, L1, A.sl.keep (List.prefix_refl _) k1, fun _ _ z => nomatch z⟩ em) fun w s1 P => ?_
          obtain ⟨d', h', v, H', μ', z, I', rv, p, kk, L', q⟩ := P
          cases z
          obtain ⟨u3, I3, k3, L3⟩ := unlock_at I' L' (p.get ea) hn eu
          have kz := keeps_lk hu k1 kk k3 nf
          exact ⟨d, h2, v, _, μ', rfl, I3, rv, p, kz, L3, q.keep (List.prefix_refl _) k3⟩
      · cases e0
    · cases e0
  · cases e0
theorem ss_lock {st : Stmt} {m : MS} (pk : Pick) (hs : SS X st m) : SS X st (mLockS pk m) := by
  intro W pins σA h σ H μ s r A e0
  unfold mLockS at e0
  split at e0
  · rename_i l _
    split at e0
    · rename_i kvs el
      cases em : m σA (h.set l (.dct true kvs)) with
      | none => rw [em] at e0; cases e0
      | some o =>
        rw [em] at e0
        have e0 : unlS l o = some r := e0
        obtain ⟨a, u, od, ea, hu, nf, hn, I1, k1, L1⟩ := lock_at A.inv A.lk el
        have S1 := A.sl.keep (List.prefix_refl _) k1.t
        cases o with
        | nx σ1 h1 =>
          simp only [unlS] at e0
          cases eu : unlk l h1 with
          | none => rw [eu] at e0; cases e0
          | some h2 =>
            rw [eu] at e0
            cases e0
            refine thn (hs W pins σA _ σ _ μ s (.nx σ1 h1) ⟨A.tk, I1, L1, S1, fun _ _ _ z => nomatch z⟩ em) fun f s1 P => ?_
            obtain ⟨rfl, σ', H', μ', I', p, kk, L', S'⟩ := P
            obtain ⟨u3, I3, k3, L3⟩ := unlock_at I' L' (p.get ea) hn eu
            have kz := keeps_lk hu k1 kk k3 nf
            exact ⟨rfl, σ', _, μ', I3, p, kz, L3, S'.keep (List.prefix_refl _) k3⟩
        | rt d h1 =>
          simp only [unlS] at e0
          cases eu : unlk l h1 with
          | none => rw [eu] at e0; cases e0
          | some h2 =>
            rw [eu] at e0
            cases e0
            refine thn (hs W pins σA _ σ _ μ s (.rt d h1) ⟨A.tk, I1, L1, S1, fun _ _ _ z => nomatch z⟩ em) fun f s1 P => ?_
            obtain ⟨u', v, σ', H', μ', rfl, I', rv, p, kk, L', q⟩ := P
            obtain ⟨u3, I3, k3, L3⟩ := unlock_at I' L' (p.get ea) hn eu
            have kz := keeps_lk hu k1 kk k3 nf
            exact ⟨u', v, σ', _, μ', rfl, I3, rv, p, kz, L3, q.keep (List.prefix_refl _) k3⟩
        | er _ _ _ => cases e0
    · cases e0
  · cases e0
end
end G47
namespace G47
open PySem L2 PyProof.Rows
/-! ### the items of a locked dict -/
/-- the pairs of the entries es of the locked object o at d -/
def Itx (d : Addr) (o : Obj) (es : Array DictEntry) : It :=
  ⟨fun i H => (∃ u, H d = some (.frz o u)) ∧ i < es.size, fun i H x H' => ∃ T kx vx en, es[i]? = some en ∧ RelV kx en.key ∧ RelV vx en.val ∧ x = .ref T ∧ H T = none ∧ H' = upd H T (.tup [kx, vx]), fun i H => (∃ u, H d = some (.frz o u)) ∧ es.size ≤ i⟩
theorem turn_itx {P : Program} {w : World} {K : PySem.W.Frag} {elts : List Expr} {kk : Nat} {tpos : Pos} {d : Addr} {o : Obj} {es : Array DictEntry} {ep : Nat} (it : Addr) (hod : o.data = .dict es ep) (hex : o.ExactDict)
    (rep : ∀ i (hi : i < es.size), ∃ kx vx, RelV kx es[i].key ∧ RelV vx es[i].val) : Turn P w K (.Tuple elts kk tpos) (Itx d o es) [it] it (fun i h => ∃ ok ov, IsItemIter h it d i es.size ep ok ov) where
  mem := by simp
  obj := fun i h st b hb => by
    obtain rfl : b = it := by simpa using hb
    obtain ⟨_, _, e⟩ := st
    exact ⟨_, e, fun _ z => nomatch z⟩
  keep := fun i h h' st k => by
    obtain ⟨x, y, e⟩ := st
    exact ⟨x, y, k it (by simp) _ e⟩
  item := by
    intro X e1 e2 e3 hc i pins s σ H E I hf st hg
    subst e1; subst e2; subst e3
    obtain ⟨⟨u, hd⟩, hi⟩ := hg
    obtain ⟨kx, vx, rk, rv⟩ := rep i hi
    obtain ⟨x, y, he⟩ := st
    have raw : s.heap.DictRaw d es ep := ⟨o, (I.hok d _ hd).1, hex, hod⟩
    have lt : it < s.heap.objs.size := Heap.lt_size he
    refine wpAny_pyNext_items_item_raw he raw hi fun h1 out hT hz hk => ?_
    refine ⟨_, rfl, wpAny_letOwnedTupleGo_items (s := { s with heap := h1 }) out fun h2 it2 sb => ?_⟩
    have hT2 : h2.get? s.heap.objs.size = some { cls := .type "tuple", data := .seq #[es[i].key, es[i].val] } := (sb.2 _ (Nat.ne_of_gt lt)).trans hT
    have I1 : Inv X pins σ (upd H s.heap.objs.size (.tup [kx, vx])) { s with heap := h2 } :=
      I.turnedNew (t' := s.toks) (ch := [it]) (fun b ob hb e => (sb.2 b (by simpa using hb)).trans (hk b ob (by simpa using hb) e)) hf (Nat.le_refl _) ⟨by show 2 ≤ sizeLine; decide, [es[i].key, es[i].val], .cons rk (.cons rv .nil), _, hT2, rfl, _, rfl⟩
    refine ⟨.ref s.heap.objs.size, _, I1, rfl, ⟨_, kx, vx, es[i], Array.getElem?_eq_getElem hi, rk, rv, rfl, I.hok.fresh (Nat.le_refl _), rfl⟩, ⟨_, _, it2⟩, fun b hb => ?_⟩
    obtain rfl : b = it := by simpa using hb
    rw [upd_ne (Nat.ne_of_lt lt)]
    exact (hf b (by simp)).1
  done := by
    intro X e1 e2 e3 hc i pins s σ H E I hf st hg
    subst e1; subst e2; subst e3
    obtain ⟨⟨u, hd⟩, hi⟩ := hg
    obtain ⟨z0, z1, _, z3, z4, z5⟩ := hf it (by simp)
    obtain ⟨x, y, he⟩ := st
    exact wpAny_pyNext_items_end_raw (I.ok.hd hc) he ⟨o, (I.hok d _ hd).1, hex, hod⟩ hi fun h' eb => ⟨rfl, I.turned (t' := s.toks) (fun b ob hb e => eb b ob hb e) z0 z1 z3 z4 z5⟩
  self := fun _ _ _ _ _ st h => by
    obtain ⟨x, y, e⟩ := st
    exact wpAny_pyIter_itemiter e h
end G47
namespace G47
open PySem L2 PyProof.Rows
/-! ### what stands raw in a locked dict, and a walk over its items -/
section
variable {X : Cx} {pins : List (Addr × Obj)} {σ : L2.St} {μ : List Addr} {H : Hp} {h : AH} {s : Shared}
/-- an entry tells a pair -/
def EnR (X : Cx) (μ : List Addr) (H : Hp) (p : D × D) (en : DictEntry) : Prop := ∃ kx vx, RelV kx en.key ∧ RelV vx en.val ∧ DV X.K X.mg μ H p.1 kx ∧ DV X.K X.mg μ H p.2 vx
theorem EnR.ofS : ∀ {kvs : List (D × D)} {ks : List (Key × V)} {vs : List (Key × Value)} {es : List DictEntry}, KSs X.K X.mg μ H kvs ks → KV ks vs → Pairs (mixKind X.prog X.w) es vs → Paired (EnR X μ H) kvs es
  | [], _, _, _, q, k, p => by
    rw [show _ = [] from q] at k
    cases k
    cases p
    exact .nil
  | (a, b) :: r, _, _, _, q, k, p => by
    obtain ⟨nk, vv, t, rfl, g1, g2, g3⟩ := q
    cases k with
    | cons k1 k2 =>
      cases p with
      | cons p1 p1b p2 =>
        refine .cons ?_ (EnR.ofS g3 k2 p2)
        obtain ⟨k1a, k1b⟩ := k1
        refine ⟨kV nk, vv, ?_, ?_, ?_, g2⟩
        · have k1a : nk = _ := k1a
          rw [k1a]
          exact relV_key p1
        · rw [p1b]; exact k1b
        · show DV X.K X.mg μ H a (kV nk)
          cases a with
          | int i => rw [show nk = _ from g1]; rfl
          | str n => obtain ⟨x, tx, rfl⟩ := g1; exact ⟨x, rfl, tx⟩
          | _ => exact g1.elim
theorem EnR.ofT {w : World} : ∀ {kvs : List (D × D)} {ks : List Ent} {es : List DictEntry}, KVs X.K X.mg μ H kvs ks → Paired (EntR w) ks es → Paired (EnR X μ H) kvs es
  | [], _, _, q, k => by
    rw [show _ = [] from q] at k
    cases k
    exact .nil
  | (a, b) :: r, _, _, q, k => by
    obtain ⟨nk, kv, vv, t, rfl, g1, g2, g3, g4, g5⟩ := q
    cases k with
    | cons k1 k2 => exact .cons ⟨kv, vv, k1.2.1, k1.2.2, g3, g4⟩ (EnR.ofT g5 k2)
theorem pr_get {α β : Type} {F : α → β → Prop} : ∀ {as : List α} {bs : List β} {i : Nat} {b : β}, Paired F as bs → bs[i]? = some b → ∃ a, as[i]? = some a ∧ F a b
  | _, _, _, _, .nil, e => by simp at e
  | _, _, 0, _, .cons r _, e => by simp at e; subst e; exact ⟨_, rfl, r⟩
  | _, _, i + 1, _, .cons _ t, e => by
    obtain ⟨a, e1, r⟩ := pr_get (i := i) t (by simpa using e)
    exact ⟨a, by simpa using e1, r⟩
/-- the locked dict at l, raw -/
theorem raw_of {l : Nat} {x : V} {kvs : List (D × D)} (I : Inv X pins σ H s) (L : Lk X μ H h) (e : h[l]? = some (.dct true kvs)) (q : DV X.K X.mg μ H (.ref l) x) :
    ∃ a o u es ep, x = .ref a ∧ H a = some (.frz o u) ∧ s.heap.get? a = some o ∧ o.ExactDict ∧ o.data = .dict es ep ∧ (a == sysModules) = false ∧ Paired (EnR X μ H) kvs es.toList := by
  obtain ⟨a, e1, rfl⟩ := q
  obtain ⟨u, hu, dl, nd⟩ := L.at e e1
  rw [if_pos rfl] at hu
  obtain ⟨o, hu⟩ := hu
  rcases dl with ⟨sk, ks, rfl, kss⟩ | ⟨tk, es, rfl, kvs'⟩
  · obtain ⟨z1, z2, z3, es, ep, vs, z4, z5, z6, z7⟩ := I.frzK hu
    obtain ⟨o', es', y1, y2, y3, y4, y5, _⟩ := z7
    rw [z2] at y1
    cases y1
    rw [z4] at y3
    cases y3
    exact ⟨a, o, _, es, ep, rfl, hu, z2, z3, z4, z1, EnR.ofS kss z6 y5⟩
  · obtain ⟨z1, ⟨ob, xs, ep, z2, z3, z4, z5, z6, z7⟩, _⟩ := I.hok a _ hu
    rw [z1] at z2
    cases z2
    exact ⟨a, o, _, xs, ep, rfl, hu, z1, z3, z4, z7, EnR.ofT kvs' z5⟩
end
/-- what d.items() gives of a locked dict -/
def itemsOf (kvs : List (D × D)) : AI := fun i _ => some (kvs[i]?.map fun p => .tup [p.1, p.2])
def mItems (m : ME) : MI := fun σ h => bnd (m σ h) fun d h1 => match d with
  | .ref l => match h1[l]? with
    | some (.dct true kvs) => some (.ok (itemsOf kvs) h1)
    | _ => none
  | _ => none
section
variable {X : Cx}
theorem itr_items {μ : List Addr} {H : Hp} {a : Addr} {o : Obj} {u : HO} {es : Array DictEntry} {kvs : List (D × D)} (hu : H a = some (.frz o u)) (pr : Paired (EnR X μ H) kvs es.toList) : ItR X μ H (Itx a o es) (itemsOf kvs) := by
  intro i μ1 H1 h1 p k L
  have hu1 := k.z a o u hu
  have hlen : kvs.length = es.size := by rw [Paired.length pr, Array.length_toList]
  refine ⟨fun e => ?_, fun d e => ?_⟩
  · have e : (kvs[i]?.map fun p => D.tup [p.1, p.2]) = none := Option.some.inj e
    have e : kvs[i]? = none := Option.map_eq_none_iff.mp e
    exact ⟨⟨u, hu1⟩, by rw [← hlen]; exact List.getElem?_eq_none_iff.mp e⟩
  · have e : (kvs[i]?.map fun p => D.tup [p.1, p.2]) = some d := Option.some.inj e
    obtain ⟨⟨k0, v0⟩, e1, rfl⟩ := Option.map_eq_some_iff.mp e
    have hi : i < kvs.length := (List.getElem?_eq_some_iff.mp e1).1
    refine ⟨⟨⟨u, hu1⟩, by rw [← hlen]; exact hi⟩, fun x H' ⟨T, kx, vx, en, y1, y2, y3, y4, y5, y6⟩ => ?_⟩
    obtain ⟨⟨k2, v2⟩, e3, kx', vx', r1, r2, q1, q2⟩ := pr_get (i := i) (b := en) pr (by rw [Array.getElem?_toList]; exact y1)
    rw [e1] at e3
    cases e3
    obtain rfl := r1.inj y2
    obtain rfl := r2.inj y3
    subst y4 y6
    have kn : Keeps H1 (upd H1 T (.tup [kx', vx'])) := Keeps.new y5
    refine ⟨kn, L.side y5, T, [kx', vx'], rfl, .inl upd_same, kx', [vx'], rfl, (q1.keep p k.t).keep (List.prefix_refl _) kn.t, vx', [], rfl, (q2.keep p k.t).keep (List.prefix_refl _) kn.t, rfl⟩
theorem si_items {e : Expr} {elts : List Expr} {kk : Nat} {tpos apos cpos : Pos} {m : ME} (he : SE X e m) (hbase : attributeBase e "items" X.env (eval e X.env) = eval e X.env) (hline : (apos.endLine == cpos.line) = true) :
    SI X (.Tuple elts kk tpos) (.Call (.Attribute e "items" apos) [] [] cpos) (mItems m) := by
  intro W pins σA h σ H μ s r A e0
  refine wpAny_Call_method (T := "dict") (id := "dict.items") hbase rfl hline F.plainAttrs_dict F.slot_dict_items F.type_dict_items (he.seq A e0 fun d h1 v u H1 μ1 s1 A1 p k rv q e2 => ?_)
  split at e2
  · rename_i l
    split at e2
    · rename_i kvs el
      cases e2
      obtain ⟨a, o, ho, es, ep, rfl, hH, hg, hx, hd, hs, pr⟩ := raw_of A1.inv A1.lk el q
      obtain rfl : u = .ref a := rv
      have raw : s1.heap.DictRaw a es ep := ⟨o, hg, hx, hd⟩
      refine ⟨raw.typeIs, fun b eb => by cases eb; exact ⟨o, hg, hx.2.1⟩, ?_⟩
      have I2 : Inv X pins σ H1 { s1 with heap := s1.heap.push { cls := .type "dict_items", data := .fields #[.ref a] } } := A1.inv.kept (t' := s1.toks) fun b ob q => Heap.get?_push_of_some _ q
      have fin : wpAny (model X.prog X.w) X.A (pyIter (.ref s1.heap.objs.size)) (PostI X pins σ (.Tuple elts kk tpos) μ H (.ok (itemsOf kvs) h1)) X.xe { s1 with heap := s1.heap.push { cls := .type "dict_items", data := .fields #[.ref a] } } := by
        refine wpAny_pyIter_items_raw (d := a) (es := es) (ep := ep) ⟨_, Heap.get?_push_size _ rfl, rfl, rfl⟩ ⟨o, Heap.get?_push_of_some _ hg, hx, hd⟩ ?_
        refine pi_one (tk := s1.toks) I2 _ (turn_itx _ hd hx fun i hi => ?_) ⟨.none, .none, ?_⟩ ⟨_, h1, μ1, rfl, p, k, A1.lk, itr_items hH pr⟩
        · obtain ⟨_, _, kx, vx, r1, r2, _⟩ := pr_get (i := i) (b := es[i]) pr (by rw [Array.getElem?_toList]; exact Array.getElem?_eq_getElem hi)
          exact ⟨kx, vx, r1, r2⟩
        · exact Heap.get?_push_size _ rfl
      show wpAny _ _ (callWith cpos (.builtin "dict.items") [.ref a] [] []) _ X.xe s1
      exact method_meetsIn F.slot_dict_items F.entry_dict_items rfl (PySem.evalArgs_none ⟨rfl, raw.typeIs, F.args_dict_items_1 _, _, meets_dict_items_raw a hs, ⟨es, ep, raw⟩, fin⟩)
    · cases e2
  · cases e2
end
end G47
namespace G47
open PySem PySem.Spec L2 PyProof.Rows
section
variable {X : Cx} {pins : List (Addr × Obj)} {σ : L2.St} {μ : List Addr} {H : Hp} {h : AH} {s : Shared} {E : Value → Shared → Prop}
/-- a comprehension's own store -/
theorem dsetC_ok {l : Nat} {a : Addr} {y z : V} {k d : D} {u w : Value} {kvs : List (D × D)} {Q : Unit → Shared → Prop} (hu : X.A.units + 12 < cLine) (I : Inv X pins σ H s) (L : Lk X μ H h) (e : h[l]? = some (.dct false kvs)) (q : μ[l]? = some a) (qk : DV X.K X.mg μ H k y)
    (qd : DV X.K X.mg μ H d z) (ry : RelV y u) (rz : RelV z w) (ok : okKey kvs k = true) (hl : Nat.ble kvs.length big = true)
    (hQ : ∀ s' H', Inv X pins σ H' s' → Keeps H H' → Lk X μ H' (h.set l (.dct false (dput kvs k d))) → Q () s') : wpAny (model X.prog X.w) X.A (dictSet a u w) Q E s := by
  obtain ⟨a', ho, e0, e1, rd, hh, dl, hn⟩ := dct_rd L e (⟨a, q, rfl⟩ : DV X.K X.mg μ H (.ref l) (.ref a))
  cases e0
  have hH := hh rfl
  have hb : kvs.length < sizeLine := Nat.lt_of_le_of_lt (Nat.le_of_ble_eq_true hl) (by rw [sizeLine_eq]; decide)
  have kp : ∀ o, Keeps H (upd H a o) := fun o => Keeps.put hH dl.notTup dl.notFrz
  have putL : ∀ o, DL X.K X.mg μ (upd H a o) X.w a (dput kvs k d) o → nodupK (dput kvs k d) = true → Lk X μ (upd H a o) (h.set l (.dct false (dput kvs k d))) := fun o dl' nd' =>
    L.put e1 ⟨o, by rw [if_neg (by decide)]; exact upd_same, dl', nd'⟩
  unfold okKey at ok
  rcases Bool.or_eq_true_iff.mp ok with ok | ok
  · simp only [Bool.and_eq_true] at ok
    obtain ⟨nk, hk, rfl⟩ := KeyS.ex ok.1 qk
    rcases dl with ⟨sk, ks, rfl, kss⟩ | ⟨tk, es, rfl, kvs'⟩
    · obtain ⟨kd, hkd⟩ := KeyD.of_scal hk
      refine d_dictSet (k := nk) I hH (by rw [kss.length]; exact hb) ry rz fun s' I' => hQ s' _ I' (kp _) (putL _ (.inl ⟨dput_scal ok.1 sk, _, rfl, ?_⟩) (nodup_dput hkd kss.keyD hn))
      exact (kss.put hk qd hn).keep (List.prefix_refl _) (kp _).t
    · exfalso
      cases kvs with
      | nil => simp [tupK] at tk
      | cons p r =>
        have a1 := ok.2
        simp only [scalK, List.all_cons, Bool.and_eq_true] at a1
        simp only [tupK, List.all_cons, Bool.and_eq_true] at tk
        have b1 := a1.1
        have b2 := tk.2.1
        cases hp : p.1 <;> rw [hp] at b1 b2 <;> simp [scal1, tup1] at b1 b2
  · simp only [Bool.and_eq_true] at ok
    obtain ⟨⟨o1, o2⟩, o3⟩ := ok
    obtain ⟨b, hb'⟩ : ∃ b, y = .ref b := by
      cases k with
      | tup ds => obtain ⟨a, vs, e, _⟩ := qk; exact ⟨a, e⟩
      | _ => simp [tup1] at o1
    subst hb'
    obtain rfl : u = .ref b := ry
    obtain ⟨m, k1, k2, k3⟩ := nested_of I o2 qk rfl
    obtain ⟨es, xs, q1, q2, q3, q4, q5⟩ : ∃ es xs, KVs X.K X.mg μ H kvs es ∧ XsR es xs ∧ s.heap.DictOfH (nestedKind X.prog X.w) a xs ∧ (a == sysModules) = false ∧ (kvs.all fun p => tup1 p.1) = true := by
      rcases dl with ⟨sk, ks, rfl, kss⟩ | ⟨tk, es, rfl, kvs'⟩
      · have hnil : kvs = [] := by
          cases kvs with
          | nil => rfl
          | cons p r =>
            exfalso
            rcases Bool.or_eq_true_iff.mp o3 with z | z
            · simp at z
            · simp only [scalK, List.all_cons, Bool.and_eq_true] at sk
              simp only [tupK, List.all_cons, Bool.and_eq_true] at z
              have b1 := sk.1
              have b2 := z.2.1
              cases hp : p.1 <;> rw [hp] at b1 b2 <;> simp [scal1, tup1] at b1 b2
        subst hnil
        obtain ⟨d1, d2⟩ := keyed_nil I rd kss
        exact ⟨[], [], rfl, .nil, d1, d2, rfl⟩
      · simp only [tupK, Bool.and_eq_true] at tk
        obtain ⟨xs, x1, x2, _, x3⟩ := keyed_of I rd kvs' tk.2 hn
        exact ⟨es, xs, kvs', x1, x2, x3, tk.2⟩
    have hxl : xs.length ≤ sizeLine := by
      have := Paired.length q2
      rw [← this, q1.length]; exact Nat.le_of_lt hb
    refine wpAny_dictSet_heap (knd := nestedKind X.prog X.w) (hsz := hxl) (by show X.A.units + 8 < cLine; omega) ⟨k2, k3⟩ q3 fun h' dd' hs => ?_
    obtain ⟨ob, arr, ep, b1, b2, b3, b4, _, b5⟩ := dd'
    have kq := q1.put k1 o2 qk qd
    have xq : XsR (putE es m (.ref b) z) (storedH xs m b w) := q2.put rz (by rw [q2.keys]; exact q1.nodup hn)
    have hzl : (putE es m (.ref b) z).length ≤ sizeLine := by
      have := putE_length m (.ref b) z es
      have := q1.length
      omega
    refine hQ _ (upd H a (dHO X.w a (putE es m (.ref b) z))) ?_ (kp _) (putL _ (.inr ⟨dput_tup o1 q5, _, rfl, kq.keep (List.prefix_refl _) (kp _).t⟩) (nodup_dput k1 q1.keyD hn))
    have mu : Mut (H a) := by
      rw [hH]
      rcases dl with ⟨_, _, rfl, _⟩ | ⟨_, _, rfl, _⟩ <;> exact True.intro
    refine d_write I mu hs ⟨ob, b1⟩ ⟨⟨ob, arr, ep, b1, b2, b3, by rw [b4]; exact xq.back, hzl, q4⟩, ⟨ob, b1⟩, fun h1 h2 hφ hk => ?_⟩
    obtain ⟨ob', arr', ep', c1, c2⟩ := hφ
    exact ⟨ob', arr', ep', hk ob' c1, c2⟩
end
/-- what a store by a comprehension asks and leaves -/
abbrev TSt := Addr → V → V → Hp → (Hp → Prop) → Prop
structure PSt (Y : Cx) (st : TSt) : Prop where
  run : ∀ (pins : List (Addr × Obj)) (s : Shared) (σ : L2.St) (H : Hp) (D : Addr) (y z : V) (u r : Value) (N : Hp → Prop) (E : Value → Shared → Prop), Inv Y pins σ H s → RelV y u → RelV z r → st D y z H N →
    wpAny (model Y.prog Y.w) Y.A (dictSet D u r) (fun _ s' => ∃ H', Inv Y pins σ H' s' ∧ N H') E s
def stOf (X : Cx) : TSt := fun D y z H N => ∃ μ h l kvs k d, Lk X μ H h ∧ μ[l]? = some D ∧ h[l]? = some (.dct false kvs) ∧ DV X.K X.mg μ H k y ∧ DV X.K X.mg μ H d z ∧ okKey kvs k = true ∧ Nat.ble kvs.length big = true ∧ ∀ H', Keeps H H' → Lk X μ H' (h.set l (.dct false (dput kvs k d))) → N H'
theorem pst_of {X Y : Cx} (a : Alk X Y) (hu : Y.A.units + 12 < cLine) : PSt Y (stOf X) := by
  refine ⟨fun pins s σ H D y z u r N E I ry rz ⟨μ, h, l, kvs, k, d, L, el, eh, qk, qd, ok, hb, kN⟩ => ?_⟩
  exact dsetC_ok hu I (L.to a) eh el (by rw [a.k, a.m]; exact qk) (by rw [a.k, a.m]; exact qd) ry rz ok hb fun s' H' I' kk L' => ⟨H', I', kN H' kk (L'.back a)⟩
section
variable {X : Cx}
/-- {k: v for target in iter if ..}: N the new dict -/
def tDx (wi : TI) (g : TG) (tt : TT) (tk tv : TE) (st : TSt) (vs : List Nat) : TE := fun σ H Q => wi σ H fun J H1 => ∀ N, H1 N = none → ∃ W : Nat → Nat → Hp → Prop, (∃ m, W 0 m (upd H1 N (.dK []))) ∧ ∀ i m H, W i m H →
  (J.stop i H ∧ Q (.ref N) H) ∨ (J.go i H ∧ ∃ Nx : Hp → Prop, (∀ H', Nx H' → ∃ m', m' < m ∧ W (i + 1) m' H') ∧ ∀ x H', J.yld i H x H' → g x (wipe σ vs) H' fun σ2 H2 => wipe σ2 vs = wipe σ vs ∧ tt σ2 H2 fun b H3 =>
    if b = true then tk σ2 H3 fun y H4 => tv σ2 H4 fun z H5 => st N y z H5 Nx else Nx H3)
theorem dx_core {pins : List (Addr × Obj)} {s : Shared} {σ : L2.St} {H : Hp} {Q : VK} {kx vx tg iter : Expr} {ifs : List Expr} {scope : Scope} {own : List (Str × Nat)} {pos pos' : Pos} {wi : TI} {g : TG} {tt : TT} {tk tv : TE} {st : TSt} {use : Option (Value → Sem Unit)} {Qf : Value → Shared → Prop}
    (hc : X.calm = true) (hN : X.N.Nodup) (I : Inv X pins σ H s) (hi : PI X tg iter wi) (ok : BlkOk X.N X.env.scope scope own)
    (hg : Blk X scope fun Y => PG Y tg g) (ht : Blk X scope fun Y => PTs Y ifs tt) (hk : Blk X scope fun Y => PE Y kx tk) (he : Blk X scope fun Y => PE Y vx tv) (hst : Blk X scope fun Y => PSt Y st) (hs : ∀ x, foldedSetIterable iter X.env x = pure x)
    (h : tDx wi g tt tk tv st (own.map (·.2)) σ H Q)
    (hRR : ∀ N C s' m H', Inv X pins σ H' s' → Q (.ref N) H' → s'.heap.Ns C m → FpOk X pins H' C → compPost (model X.prog X.w) X.A X.xe use Qf (.ref N) C (.ok .next) s') :
    wpAny (model X.prog X.w) X.A (comprehension (.DictComp kx vx [⟨tg, iter, ifs, 0⟩] scope pos) scope X.env pos' newDict false (eval iter X.env) use) Qf X.xe s := by
  have outer : ∀ y ∈ scope.names, y.2 = .free → ∃ c, X.env.cells.lookup y.1 = some c := fun y my ey => I.ok.has _ (ok.free y my ey)
  refine wpAny_comprehension_free (use := use) rfl hs (closure_ok outer) ok.kind (fun y my ey => by rw [ok.uniq y my, ey]) (thn (hi.run pins s σ H _ I h) fun xv sA hx => thn hx fun itv sB hB => ?_)
  obtain ⟨it, fp, tn, J, HB, eit, IB, T, tB, fB, q⟩ := hB
  subst eit
  refine wpAny_newObj_type (newEnv_comp ?_)
  generalize eN : sB.heap.objs.size = N
  have freshN : HB N = none := IB.hok.fresh (Nat.le_of_eq eN)
  obtain ⟨W, ⟨m0, w0⟩, turn⟩ := q N freshN
  generalize eC : ({ sB with heap := sB.heap.push { cls := .type "dict", data := .dict #[] } } : Shared) = sC
  have IC : Inv X pins σ (upd HB N (.dK [])) sC := by
    subst eC
    refine IB.laid (t' := sB.toks) (fun b o e => Heap.get?_push_of_some _ e) (Nat.le_of_eq eN) ?_
    subst eN
    exact dk_empty sB.heap IB.big
  have hC : sC.heap = sB.heap.push { cls := .type "dict", data := .dict #[] } := by subst eC; rfl
  have below : ∀ b ∈ fp, b < sB.heap.objs.size := fun b mb => let ⟨o, e, _⟩ := T.obj _ _ tB b mb; Heap.lt_size e
  have fC : ∀ b ∈ fp, FpOk X pins (upd HB N (.dK [])) b ∧ b < sC.heap.objs.size := fun b mb => by
    have lt := below b mb
    refine ⟨⟨?_, (fB b mb).2⟩, by rw [hC, Heap.size_push]; exact Nat.lt_succ_of_lt lt⟩
    rw [upd_ne (eN ▸ Nat.ne_of_lt lt)]
    exact (fB b mb).1
  have tC : tn 0 sC.heap := T.keep _ _ _ tB fun b _ o e => hC ▸ Heap.get?_push_of_some _ e
  have I4 := block_start IC ok hN fC
  have pg := hg sC (upd HB N (.dK [])) sC.heap.objs.size (cellsFrom (sC.heap.objs.size + 1) scope.names (cloFrom X.env.cells scope.names [])) fp
  have pt := ht sC (upd HB N (.dK [])) sC.heap.objs.size (cellsFrom (sC.heap.objs.size + 1) scope.names (cloFrom X.env.cells scope.names [])) fp
  have pk := hk sC (upd HB N (.dK [])) sC.heap.objs.size (cellsFrom (sC.heap.objs.size + 1) scope.names (cloFrom X.env.cells scope.names [])) fp
  have pe := he sC (upd HB N (.dK [])) sC.heap.objs.size (cellsFrom (sC.heap.objs.size + 1) scope.names (cloFrom X.env.cells scope.names [])) fp
  have ps := hst sC (upd HB N (.dK [])) sC.heap.objs.size (cellsFrom (sC.heap.objs.size + 1) scope.names (cloFrom X.env.cells scope.names [])) fp
  show codeAny _ _ (.compStart (.DictComp kx vx [⟨tg, iter, ifs, 0⟩] scope pos) 0 (.ref it) (.ref N) (compEnvC scope (cellsFrom (sC.heap.objs.size + 1) scope.names (cloFrom X.env.cells scope.names [])) sC.heap.objs.size X.env)) (compPost (model X.prog X.w) X.A X.xe use Qf (.ref N) sC.heap.objs.size) { sC with heap := pushCells (sC.heap.push { cls := .type "dict", data := .dict #[] }) scope.names }
  have away : ∀ b ∈ fp, (upd HB N (.dK [])) b = none := fun b mb => (fC b mb).1.1
  generalize ece : compEnvC scope (cellsFrom (sC.heap.objs.size + 1) scope.names (cloFrom X.env.cells scope.names [])) sC.heap.objs.size X.env = ce at I4 pg pt pk pe ps ⊢
  have cL : ce.locals = sC.heap.objs.size := by subst ece; rfl
  generalize eHC : upd HB N (.dK []) = HC at IC I4 pg pt pk pe ps w0 away fC
  generalize es4 : ({ sC with heap := pushCells (sC.heap.push { cls := .type "dict", data := .dict #[] }) scope.names } : Shared) = s4 at I4 ⊢
  have t4 : tn 0 s4.heap := T.keep _ _ _ tC fun b _ o e => es4 ▸ pushCells_keeps _ _ _ _ (Heap.get?_push_of_some _ e)
  have stat : ∀ {σ' : L2.St} {H' : Hp} {s' : Shared}, Inv (X.blk sC HC scope ce fp) [] σ' H' s' → (∀ b ∈ fp, H' b = none) → ∀ b ∈ fp, FpOk (X.blk sC HC scope ce fp) [] H' b := fun {σ' H' s'} I' hn b mb =>
    ⟨hn b mb, (I'.ok.exf b mb).1, I'.ok.exfs b mb, .inl mb, fun x c e => (I'.ok.exf b mb).2 x c e, fun p hp => absurd (show p ∈ ([] : List (Addr × Obj)) ++ [] from hp) (by simp)⟩
  have loop : codeAny (model X.prog X.w) X.A (.compLoop (.DictComp kx vx [⟨tg, iter, ifs, 0⟩] scope pos) 0 (.ref it) (.ref N) ce) (compPost (model X.prog X.w) X.A X.xe use Qf (.ref N) sC.heap.objs.size) s4 := by
    refine compLoop_anyD (fun n s' => ∃ i H', Inv (X.blk sC HC scope ce fp) [] (wipe σ (own.map (·.2))) H' s' ∧ tn i s'.heap ∧ (∀ b ∈ fp, H' b = none) ∧ W i n H') ?_ m0 ⟨0, HC, I4, t4, away, w0⟩
    rintro n s5 ⟨i, H5, I5, st5, n5, w5⟩
    rcases turn i n H5 w5 with ⟨stop, qq⟩ | ⟨go, Nx, hNx, step⟩
    · refine thnF (T.done (X.blk sC HC scope ce fp) rfl rfl rfl hc i [] s5 _ H5 (fun _ _ => False) I5 (stat I5 n5) st5 stop) fun r s6 ⟨er, I6⟩ => ?_
      subst er
      have I7 : Inv X pins σ H5 s6 := IC.call' (ch := fp) I6.os I6.base I6.hok I6.bare fun b mb => ⟨(fC b mb).1.2.2.2.1, (fC b mb).1.2.1, (fC b mb).1.2.2.2.2.1, (fC b mb).1.2.2.2.2.2⟩
      have free0 : H5 ce.locals = none := I6.free
      obtain ⟨m, ns, _⟩ := I6.loc
      have ns : s6.heap.Ns ce.locals m := ns
      rw [cL] at ns free0
      exact hRR N sC.heap.objs.size s6 m H5 I7 qq ns (IC.fpOk (Nat.le_refl _) free0)
    · refine thnF (T.item (X.blk sC HC scope ce fp) rfl rfl rfl hc i [] s5 _ H5 (fun _ _ => False) I5 (stat I5 n5) st5 go) fun r s6 ⟨u, er, h6⟩ => ?_
      subst er
      refine thnF h6 fun _ s7 ⟨x, H7, I7, r7, y7, st7, n7⟩ => ?_
      have I7' := I7.pinned (stat I7 n7) (T.obj _ _ st7)
      refine thnF (pg.run _ s7 _ H7 x u _ I7' r7 (step x H7 y7)) fun _ s8 ⟨σ8, H8, I8, hw8, q8⟩ => ?_
      refine thnF (pt.run _ s8 σ8 H8 _ I8 q8) fun b s9 ⟨H9, I9, q9⟩ => ?_
      have fin : ∀ {s' : Shared} {H' : Hp}, Inv (X.blk sC HC scope ce fp) ([] ++ pinsAt fp s7.heap) σ8 H' s' → Nx H' → ∃ m, m < n ∧ ∃ i H', Inv (X.blk sC HC scope ce fp) [] (wipe σ (own.map (·.2))) H' s' ∧ tn i s'.heap ∧ (∀ b ∈ fp, H' b = none) ∧ W i m H' := fun {s' H'} I' nx => by
        obtain ⟨m', lm, w'⟩ := hNx H' nx
        have held : ∀ b ∈ fp, ∀ o, s7.heap.get? b = some o → s'.heap.get? b = some o ∧ H' b = none := fun b mb o e =>
          let z := I'.pin (b, o) (List.mem_append_right _ (List.mem_append_right _ (mem_pinsAt mb e))); ⟨z.1, z.2.1⟩
        refine ⟨m', lm, i + 1, H', (I'.unpinned (pins := [])).weak (by rw [← hw8, wipe_length]) (fun j v e => (wipe_some (hw8 ▸ e)).1), T.keep _ _ _ st7 fun b mb o e => (held b mb o e).1, fun b mb => ?_, w'⟩
        obtain ⟨o, e, _⟩ := T.obj _ _ st7 b mb
        exact (held b mb o e).2
      cases b with
      | false =>
        simp only [Bool.false_eq_true, if_false] at q9 ⊢
        exact fin I9 q9
      | true =>
        simp only [if_true] at q9 ⊢
        refine thnF (pk.run _ s9 σ8 H9 _ I9 q9) fun z s10 ⟨yk, H10, I10, r10, q10⟩ => ?_
        refine thnF (pe.run _ s10 σ8 H10 _ I10 q10) fun z2 s11 ⟨yv, H11, I11, r11, q11⟩ => ?_
        exact thn (ps.run _ s11 σ8 H11 N yk yv z z2 Nx _ I11 r10 r11 q11) fun _ s12 ⟨H12, I12, nx⟩ => fin I12 nx
  exact codeAny_compStart_dict loop (T.self X.A 0 _ _ _ t4 loop)
theorem pe_dx {kx vx tg iter : Expr} {ifs : List Expr} {scope : Scope} {own : List (Str × Nat)} {pos : Pos} {wi : TI} {g : TG} {tt : TT} {tk tv : TE} {st : TSt} (hc : X.calm = true) (hN : X.N.Nodup) (hi : PI X tg iter wi) (ok : BlkOk X.N X.env.scope scope own)
    (hg : Blk X scope fun Y => PG Y tg g) (ht : Blk X scope fun Y => PTs Y ifs tt) (hk : Blk X scope fun Y => PE Y kx tk) (he : Blk X scope fun Y => PE Y vx tv) (hst : Blk X scope fun Y => PSt Y st) (hs : ∀ x, foldedSetIterable iter X.env x = pure x) :
    PE X (.DictComp kx vx [⟨tg, iter, ifs, 0⟩] scope pos) (tDx wi g tt tk tv st (own.map (·.2))) := by
  refine ⟨fun pins s σ H Q I h => ?_⟩
  rw [arm_eval_DictComp]
  refine dx_core hc hN I hi ok hg ht hk he hst hs h fun N C s' m H' I' q hn ⟨f0, f1, f2, f3, f4, f5⟩ => ⟨m, hn, fun h'' sb => ?_⟩
  exact ⟨.ref N, H', I'.turned (t' := s'.toks) (fun b o hb e => (sb.2 b hb).trans e) f0 f1 f3 f4 f5, rfl, q⟩
end
/-! ### the machine's dict comprehension -/
def dcGo (ai : AI) (g : MG) (mt : MT) (mk mv : ME) (σ : Sl0) (l : Nat) : Nat → Nat → AH → Option AH
  | 0, _, _ => none
  | n + 1, i, h => match ai i h with
    | none => none
    | some none => some h
    | some (some d) => match g d σ h with
      | none => none
      | some σ2 => match mt σ2 h with
        | some (.ok true h2) => match mk σ2 h2 with
          | some (.ok x h3) => match mv σ2 h3 with
            | some (.ok y h4) => match h4[l]? with
              | some (.dct false kvs) => if okKey kvs x && Nat.ble kvs.length big then dcGo ai g mt mk mv σ l n (i + 1) (h4.set l (.dct false (dput kvs x y))) else none
              | _ => none
            | _ => none
          | _ => none
        | some (.ok false h2) => dcGo ai g mt mk mv σ l n (i + 1) h2
        | _ => none
def mDc (n : Nat) (vs : List Nat) (mi : MI) (g : MG) (mt : MT) (mk mv : ME) : ME := fun σ h => match mi σ h with
  | some (.ok ai h1) => (dcGo ai g mt mk mv (wipeA σ vs) h1.length n 0 (h1 ++ [.dct false []])).map fun h2 => .ok (.ref h1.length) h2
  | _ => none
theorem dc_run {X : Cx} {n : Nat} {vs ts : List Nat} {mi : MI} {g : MG} {mt : MT} {mk mv : ME} {σA : Sl0} {h : AH} {σ : L2.St} {H : Hp} {μ : List Addr} {d : D} {hF : AH} {Q : VK} (hts : ∀ i ∈ ts, i ∈ vs) (L : Lk X μ H h) (S : Sl X μ H σA σ) (e : mDc n vs mi g mt mk mv σA h = some (.ok d hF))
    (k : ∀ v H' μ', Pre μ μ' → Keeps H H' → Lk X μ' H' hF → DV X.K X.mg μ' H' d v → Q v H') : tDx (tiOf X mi) (tgOf X ts g) (ttOf X mt) (teOf X mk) (teOf X mv) (stOf X) vs σ H Q := by
  unfold mDc at e
  split at e
  · rename_i ai h1 emi
    cases ego : dcGo ai g mt mk mv (wipeA σA vs) h1.length n 0 (h1 ++ [.dct false []]) with
    | none => rw [ego] at e; cases e
    | some h2 =>
      rw [ego] at e
      cases e
      refine ⟨μ, σA, h, ai, h1, L, S, emi, fun J H1 μ1 p1 k1 L1 R1 N hN => ?_⟩
      have LN : Lk X (μ1 ++ [N]) (upd H1 N (.dK [])) (h1 ++ [.dct false []]) := L1.new hN ⟨.dK [], by rw [if_neg (by decide)]; exact upd_same, .inl ⟨rfl, [], rfl, rfl⟩, rfl⟩
      have lN : (μ1 ++ [N])[h1.length]? = some N := L1.newRef
      have pN : Pre μ1 (μ1 ++ [N]) := List.prefix_append _ _
      refine ⟨fun i m H2 => ∃ μ2 h3, Pre (μ1 ++ [N]) μ2 ∧ Keeps H1 H2 ∧ Lk X μ2 H2 h3 ∧ dcGo ai g mt mk mv (wipeA σA vs) h1.length m i h3 = some hF, ⟨n, μ1 ++ [N], _, List.prefix_refl _, Keeps.new hN, LN, ego⟩, ?_⟩
      rintro i m H2 ⟨μ2, h3, p2, k2, L2', e2⟩
      cases m with
      | zero => cases e2
      | succ m =>
        obtain ⟨Rs, Rg⟩ := R1 i μ2 H2 h3 (pN.trans p2) k2 L2'
        unfold dcGo at e2
        split at e2
        · cases e2
        · rename_i eai
          cases e2
          exact .inl ⟨Rs eai, k (.ref N) H2 μ2 (p1.trans (pN.trans p2)) (k1.trans k2) L2' ⟨N, p2.get lN, rfl⟩⟩
        · rename_i dd eai
          split at e2
          · cases e2
          · rename_i σ4 eg
            obtain ⟨go, yl⟩ := Rg dd eai
            refine .inr ⟨go, fun H' => ∃ μ' h', Pre (μ1 ++ [N]) μ' ∧ Keeps H1 H' ∧ Lk X μ' H' h' ∧ dcGo ai g mt mk mv (wipeA σA vs) h1.length m (i + 1) h' = some hF, fun H' ⟨μ', h', z1, z2, z3, z4⟩ => ⟨m, Nat.lt_succ_self m, μ', h', z1, z2, z3, z4⟩, fun x H5 y5 => ?_⟩
            obtain ⟨k5, L5, q5⟩ := yl x H5 y5
            have S5 : Sl X μ2 H5 (wipeA σA vs) (L2.wipe σ vs) := (S.wipe vs).keep (p1.trans (pN.trans p2)) ((k1.trans k2).trans k5).t
            refine ⟨μ2, wipeA σA vs, h3, dd, σ4, L5, S5, q5, eg, fun σ' S' T' => ⟨?_, ?_⟩⟩
            · rw [T'.wipe hts]
              refine List.ext_getElem? fun i => ?_
              rw [wipe_ix, wipe_ix]
              by_cases mi : i ∈ vs
              · rw [if_pos mi, if_pos mi]; cases σ[i]? <;> rfl
              · rw [if_neg mi, if_neg mi]
            · split at e2
              · rename_i h6 emt
                refine ⟨μ2, σ4, h3, true, h6, L5, S', emt, fun H6 μ6 p6 k6 L6 => ?_⟩
                simp only [if_true]
                split at e2
                · rename_i yk h7 emk
                  refine ⟨μ6, σ4, h6, yk, h7, L6, S'.keep p6 k6.t, emk, fun vk H7 μ7 p7 k7 L7 q7 => ?_⟩
                  split at e2
                  · rename_i yv h8 emv
                    refine ⟨μ7, σ4, h7, yv, h8, L7, (S'.keep p6 k6.t).keep p7 k7.t, emv, fun vv H8 μ8 p8 k8 L8 q8 => ?_⟩
                    split at e2
                    · rename_i kvs eacc
                      split at e2
                      · rename_i hb
                        simp only [Bool.and_eq_true] at hb
                        have lN8 : μ8[h1.length]? = some N := p8.get (p7.get (p6.get (p2.get lN)))
                        exact ⟨μ8, h8, h1.length, kvs, yk, yv, L8, lN8, eacc, q7.keep p8 k8.t, q8, hb.1, hb.2, fun H9 k9 L9 => ⟨μ8, _, p2.trans (p6.trans (p7.trans p8)), k2.trans (k5.trans (k6.trans (k7.trans (k8.trans k9)))), L9, e2⟩⟩
                      · cases e2
                    · cases e2
                  · cases e2
                · cases e2
              · rename_i h6 emt
                refine ⟨μ2, σ4, h3, false, h6, L5, S', emt, fun H6 μ6 p6 k6 L6 => ?_⟩
                simp only [Bool.false_eq_true, if_false]
                exact ⟨μ6, h6, p2.trans p6, k2.trans (k5.trans k6), L6, e2⟩
              · cases e2
  · cases e
section
variable {X : Cx}
theorem se_dc {kx vx tg iter : Expr} {ifs : List Expr} {scope : Scope} {own : List (Str × Nat)} {ts : List Nat} {pos : Pos} {mi : MI} {g : MG} {mt : MT} {mk mv : ME} (n : Nat) (hu : X.A.units + 12 < cLine) (hc : X.calm = true) (hN : X.N.Nodup) (hi : SI X tg iter mi) (ok : BlkOk X.N X.env.scope scope own) (hts : ∀ i ∈ ts, i ∈ own.map (·.2))
    (hg : Blk X scope fun Y => SG Y tg ts g) (ht : Blk X scope fun Y => PTs Y ifs (ttOf X mt)) (hk : Blk X scope fun Y => SE Y kx mk) (he : Blk X scope fun Y => SE Y vx mv) (hs : ∀ x, foldedSetIterable iter X.env x = pure x) :
    SE X (.DictComp kx vx [⟨tg, iter, ifs, 0⟩] scope pos) (mDc n (own.map (·.2)) mi g mt mk mv) := by
  intro W pins σA h σ H μ s r A e
  have hr : ∃ d h', r = .ok d h' := by
    unfold mDc at e
    split at e
    · rename_i ai h1 _
      cases ego : dcGo ai g mt mk mv (wipeA σA (own.map (·.2))) h1.length n 0 (h1 ++ [.dct false []]) with
      | none => rw [ego] at e; cases e
      | some h2 => rw [ego] at e; exact ⟨_, _, (Option.some.inj e).symm⟩
    · cases e
  obtain ⟨d, h', rfl⟩ := hr
  refine thn ((pe_dx (pos := pos) hc hN (pi_of hi) ok (fun s H C cl fp => pg_of ⟨rfl, rfl, rfl⟩ (hg s H C cl fp)) (fun s H C cl fp => ht s H C cl fp) (fun s H C cl fp => pe_of ⟨rfl, rfl, rfl⟩ (hk s H C cl fp)) (fun s H C cl fp => pe_of ⟨rfl, rfl, rfl⟩ (he s H C cl fp)) (fun s H C cl fp => pst_of ⟨rfl, rfl, rfl⟩ hu) hs).run pins s σ H (QE X μ H d h') A.inv
    (dc_run hts A.lk A.sl e fun v H' μ' p k L q => ⟨μ', p, k, L, q⟩)) fun u s' P => QE.post P
end
end G47
namespace G47
open PySem L2 PyProof.Rows
/-! ### what is no longer reached is forgotten -/
def rkB (n : Nat) : List (D × D) → Bool
  | [] => true
  | (k, v) :: r => rfB n k && (rfB n v && rkB n r)
def rnB (n : Nat) : List (Nat × D) → Bool
  | [] => true
  | (_, v) :: r => rfB n v && rnB n r
def roB (n : Nat) : AO → Bool
  | .lst lk ds => bif lk then true else rfsB n ds
  | .dct _ kvs => rkB n kvs
  | .ins _ fs => rnB n fs
def rhB (n : Nat) : AH → Bool
  | [] => true
  | o :: r => roB n o && rhB n r
section
variable {K : PySem.W.Frag} {mg : Str → Option Value} {μ μ1 : List Addr} {H : Hp}
theorem Pre.back (p : Pre μ μ1) {l : Nat} {a : Addr} (hl : l < μ.length) (e : μ1[l]? = some a) : μ[l]? = some a := by
  obtain ⟨r, rfl⟩ := p
  rwa [List.getElem?_append_left hl] at e
mutual
theorem DV.down (p : Pre μ μ1) : ∀ {d : D} {v : V}, rfB μ.length d = true → DV K mg μ1 H d v → DV K mg μ H d v
  | .non, _, _, h => h
  | .bl _, _, _, h => h
  | .int _, _, _, h => h
  | .str _, _, _, h => h
  | .tup ds, _, b, h => by
    obtain ⟨a, vs, e, t, q⟩ := h
    exact ⟨a, vs, e, t, DVs.down p (by simpa [rfB] using b) q⟩
  | .ref l, _, b, h => by
    obtain ⟨a, e, q⟩ := h
    exact ⟨a, p.back (Nat.blt_eq.mp (by simpa [rfB] using b)) e, q⟩
  | .gl _, _, _, h => h
theorem DVs.down (p : Pre μ μ1) : ∀ {ds : List D} {vs : List V}, rfsB μ.length ds = true → DVs K mg μ1 H ds vs → DVs K mg μ H ds vs
  | [], _, _, h => h
  | d :: ds, _, b, h => by
    obtain ⟨v, r, e, q, t⟩ := h
    simp only [rfsB, Bool.and_eq_true] at b
    exact ⟨v, r, e, DV.down p b.1 q, DVs.down p b.2 t⟩
end
theorem KVs.down (p : Pre μ μ1) : ∀ {kvs : List (D × D)} {es : List Ent}, rkB μ.length kvs = true → KVs K mg μ1 H kvs es → KVs K mg μ H kvs es
  | [], _, _, h => h
  | (_, _) :: _, _, b, h => by
    obtain ⟨nk, kv, vv, t, e, h1, h2, h3, h4, h5⟩ := h
    simp only [rkB, Bool.and_eq_true] at b
    exact ⟨nk, kv, vv, t, e, h1, h2, h3.down p b.1, h4.down p b.2.1, KVs.down p b.2.2 h5⟩
theorem KSs.down (p : Pre μ μ1) : ∀ {kvs : List (D × D)} {es : List (Key × V)}, rkB μ.length kvs = true → KSs K mg μ1 H kvs es → KSs K mg μ H kvs es
  | [], _, _, h => h
  | (_, _) :: _, _, b, h => by
    obtain ⟨nk, vv, t, e, h1, h2, h3⟩ := h
    simp only [rkB, Bool.and_eq_true] at b
    exact ⟨nk, vv, t, e, h1, h2.down p b.2.1, KSs.down p b.2.2 h3⟩
theorem FsV.down (p : Pre μ μ1) : ∀ {fs : List (Nat × D)} {gs : List (Str × V)}, rnB μ.length fs = true → FsV K mg μ1 H fs gs → FsV K mg μ H fs gs
  | [], _, _, h => h
  | (_, _) :: _, _, b, h => by
    obtain ⟨x, v, t, e, h1, h2, h3⟩ := h
    simp only [rnB, Bool.and_eq_true] at b
    exact ⟨x, v, t, e, h1, h2.down p b.1, FsV.down p b.2 h3⟩
end
section
variable {X : Cx} {μ μ1 : List Addr} {H : Hp} {h h1 : AH}
mutual
theorem rfB_up {n m : Nat} (h : n ≤ m) : ∀ {d : D}, rfB n d = true → rfB m d = true
  | .non, _ => rfl
  | .bl _, _ => rfl
  | .int _, _ => rfl
  | .str _, _ => rfl
  | .gl _, _ => rfl
  | .tup _, b => by simp only [rfB] at b ⊢; exact rfsB_up h b
  | .ref _, b => by simp only [rfB, Nat.blt_eq] at b ⊢; omega
theorem rfsB_up {n m : Nat} (h : n ≤ m) : ∀ {ds : List D}, rfsB n ds = true → rfsB m ds = true
  | [], _ => rfl
  | _ :: _, b => by
    simp only [rfsB, Bool.and_eq_true] at b ⊢
    exact ⟨rfB_up h b.1, rfsB_up h b.2⟩
end
theorem OL.down (p : Pre μ μ1) {a : Addr} : ∀ {o : AO}, roB μ.length o = true → OL X μ1 H a o → OL X μ H a o
  | .lst true _, _, ⟨vs, e, q⟩ => ⟨vs, e, q.down p (rfsB_up (Nat.zero_le _) (by rw [if_pos rfl] at e; exact e.2))⟩
  | .lst false _, b, ⟨vs, e, q⟩ => ⟨vs, e, q.down p b⟩
  | .dct _ _, b, ⟨u, e, dl, nd⟩ => by
    refine ⟨u, e, ?_, nd⟩
    rcases dl with ⟨h1, ks, e, r⟩ | ⟨h1, es, e, r⟩
    · exact .inl ⟨h1, ks, e, r.down p b⟩
    · exact .inr ⟨h1, es, e, r.down p b⟩
  | .ins _ _, b, ⟨x, C, dx, gs, e1, e2, e3, r⟩ => ⟨x, C, dx, gs, e1, e2, e3, r.down p b⟩
theorem rhB_get {n : Nat} : ∀ {h : AH} {l : Nat} {o : AO}, rhB n h = true → h[l]? = some o → roB n o = true
  | [], _, _, _, e => by simp at e
  | u :: r, 0, o, b, e => by
    simp only [rhB, Bool.and_eq_true] at b
    simp at e; subst e; exact b.1
  | u :: r, l + 1, o, b, e => by
    simp only [rhB, Bool.and_eq_true] at b
    exact rhB_get (l := l) b.2 (by simpa using e)
/-- the later part of the heap is forgotten -/
theorem Lk.cut (L : Lk X μ1 H h1) (p : Pre μ μ1) (b : rhB μ.length (h1.take μ.length) = true) : Lk X μ H (h1.take μ.length) := by
  obtain ⟨r, rfl⟩ := id p
  have hlen : μ.length ≤ h1.length := by rw [← L.len]; simp
  refine ⟨by rw [List.length_take, Nat.min_eq_left hlen], (List.nodup_append.mp L.nd).1, fun l o e => ?_⟩
  have hl : l < μ.length := by
    have := (List.getElem?_eq_some_iff.mp e).1
    rw [List.length_take] at this
    omega
  have e1 : h1[l]? = some o := by rw [List.getElem?_take_of_lt hl] at e; exact e
  obtain ⟨a, ea, x⟩ := L.obj l o e1
  exact ⟨a, p.back hl ea, x.down p (rhB_get b e)⟩
/-- the heap cut to n, if nothing below names what is above -/
def cutH (n : Nat) (h : AH) : Option AH := bif rhB n (h.take n) then some (h.take n) else none
theorem cutH_some {n : Nat} {h h2 : AH} (e : cutH n h = some h2) : rhB n (h.take n) = true ∧ h2 = h.take n := by
  unfold cutH at e
  cases q : rhB n (h.take n) with
  | true => rw [q] at e; exact ⟨rfl, (Option.some.inj e).symm⟩
  | false => rw [q] at e; cases e
def mGcE (m : ME) : ME := fun σ h => match m σ h with
  | some (.ok d h1) => bif rfB h.length d then (match cutH h.length h1 with | some h2 => some (.ok d h2) | none => some (.ok d h1)) else some (.ok d h1)
  | r => r
theorem se_gc {e : Expr} {m : ME} (he : SE X e m) : SE X e (mGcE m) := by
  intro W pins σA h σ H μ s r A e0
  unfold mGcE at e0
  split at e0
  · rename_i d h1 em
    have base : r = .ok d h1 → wpAny (model X.prog X.w) X.A (eval e X.env) (PostE X pins σ μ H r) X.xe s := fun z => by
      subst z
      exact he W pins σA h σ H μ s _ A em
    cases q : rfB h.length d with
    | false => rw [q] at e0; cases e0; exact base rfl
    | true =>
      rw [q] at e0
      simp only [cond_true] at e0
      split at e0
      · rename_i h2 ec
        cases e0
        obtain ⟨b, rfl⟩ := cutH_some ec
        refine thn (he W pins σA h σ H μ s (.ok d h1) A.noerr em) fun u s1 ⟨d', h', v, H', μ', z, I', rv, p, kk, L', qv⟩ => ?_
        cases z
        rw [← A.lk.len] at b q
        exact ⟨d, _, v, H', μ, by rw [← A.lk.len], I', rv, List.prefix_refl _, kk, L'.cut p b, qv.down p q⟩
      · cases e0; exact base rfl
  · rename_i em
    exact he W pins σA h σ H μ s r A e0
def mGcT (m : MT) : MT := fun σ h => match m σ h with
  | some (.ok d h1) => (match cutH h.length h1 with | some h2 => some (.ok d h2) | none => some (.ok d h1))
  | r => r
theorem st_gc {e : Expr} {m : MT} (he : ST X e m) : ST X e (mGcT m) := by
  intro W pins σA h σ H μ s r A e0
  unfold mGcT at e0
  split at e0
  · rename_i d h1 em
    split at e0
    · rename_i h2 ec
      cases e0
      obtain ⟨b, rfl⟩ := cutH_some ec
      refine thn (he W pins σA h σ H μ s (.ok d h1) A.noerr em) fun u s1 ⟨h', H', μ', z, I', p, kk, L'⟩ => ?_
      cases z
      rw [← A.lk.len] at b
      exact ⟨_, H', μ, by rw [← A.lk.len], I', List.prefix_refl _, kk, L'.cut p b⟩
    · cases e0
      exact he W pins σA h σ H μ s _ A em
  · exact he W pins σA h σ H μ s r A e0
def rsB (n : Nat) : Sl0 → Bool
  | [] => true
  | none :: r => rsB n r
  | some d :: r => rfB n d && rsB n r
theorem rsB_get {n : Nat} : ∀ {σ : Sl0} {i : Nat} {d : D}, rsB n σ = true → σ[i]? = some (some d) → rfB n d = true
  | [], _, _, _, e => by simp at e
  | none :: r, 0, d, b, e => by simp at e
  | some u :: r, 0, d, b, e => by
    simp only [rsB, Bool.and_eq_true] at b
    simp at e; subst e; exact b.1
  | none :: r, i + 1, d, b, e => rsB_get (i := i) (by simpa [rsB] using b) (by simpa using e)
  | some u :: r, i + 1, d, b, e => by
    simp only [rsB, Bool.and_eq_true] at b
    exact rsB_get (i := i) b.2 (by simpa using e)
/-- behind a part of a body: the slots ws are forgotten, and the heap is cut to what it was ahead -/
def cutS (ws : List Nat) (n : Nat) (σ : Sl0) (h : AH) : OS :=
  bif rsB n (wipeA σ ws) then (match cutH n h with | some h2 => .nx (wipeA σ ws) h2 | none => .nx σ h) else .nx σ h
def mGcS (ws : List Nat) (m : MS) : MS := fun σ h => match m σ h with
  | some (.nx σ1 h1) => some (cutS ws h.length σ1 h1)
  | r => r
theorem cutS_ok {ws : List Nat} {pins : List (Addr × Obj)} {σA : Sl0} {f : Flow} {s1 : Shared} (L : Lk X μ H h) (P : PostS X pins μ H (.nx σA h1) f s1) : PostS X pins μ H (cutS ws h.length σA h1) f s1 := by
  obtain ⟨rfl, σ', H', μ', I', p, kk, L', S'⟩ := id P
  unfold cutS
  cases q : rsB h.length (wipeA σA ws) with
  | false => exact P
  | true =>
    simp only [cond_true]
    split
    · rename_i h2 ec
      obtain ⟨b, rfl⟩ := cutH_some ec
      rw [← L.len] at b q ⊢
      refine ⟨rfl, σ', H', μ, I', List.prefix_refl _, kk, L'.cut p b, by rw [wipeA_length]; exact S'.len, fun i d e => ?_⟩
      obtain ⟨e1, _⟩ := wipeA_some e
      obtain ⟨v, e2, qv⟩ := S'.get i d e1
      exact ⟨v, e2, qv.down p (rsB_get q e)⟩
    · exact P
theorem sss_gc {sts : List Stmt} {m : MS} (ws : List Nat) (hs : SSs X sts m) : SSs X sts (mGcS ws m) := by
  intro W pins σA h σ H μ s r A e0
  unfold mGcS at e0
  split at e0
  · rename_i σ1 h1 em
    cases e0
    exact thn (hs W pins σA h σ H μ s (.nx σ1 h1) A.noerr em) fun f s1 P => cutS_ok A.lk P
  · exact hs W pins σA h σ H μ s r A e0
theorem ss_gc {st : Stmt} {m : MS} (ws : List Nat) (hs : SS X st m) : SS X st (mGcS ws m) := by
  intro W pins σA h σ H μ s r A e0
  unfold mGcS at e0
  split at e0
  · rename_i σ1 h1 em
    cases e0
    exact thn (hs W pins σA h σ H μ s (.nx σ1 h1) A.noerr em) fun f s1 P => cutS_ok A.lk P
  · exact hs W pins σA h σ H μ s r A e0
end
end G47
namespace G47
open PySem PySem.Spec PyProof.Rows L2
/-! ### a law's entry -/
def noL (K : PySem.W.Frag) : Bool := K.all fun p => match p.2.cls with | .type n => !(n == "list") | _ => true
theorem noL_of {K : PySem.W.Frag} {a : Addr} {o : Obj} (h : noL K = true) (e : K.lookup a = some o) : o.cls ≠ .type "list" := fun z => by
  have := List.all_eq_true.mp h (a, o) (He.lookup_mem e)
  simp only [z] at this
  simp at this
theorem rfsB_ints : ∀ ns : List Int, rfsB 0 (ns.map D.int) = true
  | [] => rfl
  | _ :: r => rfsB_ints r
def cx0 (P : Program) (w : World) (K : PySem.W.Frag) (mg : Str → Option Value) : Cx := cxOf (CX P w) P w K mg (PySem.start P).1.heap [] "" ⟨.function, [], false, false, []⟩ 0 .none callerA [] (PySem.start P).1 (fun _ => none) (fun _ _ _ => False)
theorem law_entry {P : Program} {w : World} {K : PySem.W.Frag} {mg : Str → Option Value} {n : Nat} {φ : MF} (hK : noL K = true) (hφ : ∀ ns : List Int, ns.length ≤ n → ∃ h', φ [.ref 0] [.lst true (ns.map D.int)] = some (.ok (.bl true) h')) :
    ∀ (H : Hp) (a : Addr) (ns : List Int), ns.length ≤ n → Only H → SqL K H a (ns.map V.int) → spOf K mg w 1 φ [.ref a] H (fun v _ => v = .bl true) fun _ _ _ => False := by
  intro H a ns hl hO hS
  have hf : ∃ o, H a = some (.frz o (.lst (ns.map V.int))) := by
    rcases hS with (h | h) | ⟨o, its, m, e, c, _⟩
    · rcases hO a with z | ⟨o, xs, z⟩
      · rw [h] at z; cases z
      · rw [h] at z; cases z
    · exact h
    · exact absurd c (noL_of hK e)
  obtain ⟨o, ho⟩ := hf
  obtain ⟨h', e⟩ := hφ ns hl
  refine ⟨cx0 P w K mg, [a], [.lst true (ns.map D.int)], [.ref 0], .ok (.bl true) h', rfl, rfl, rfl, rfl, ⟨rfl, by simp, fun l u hu => ?_⟩, ⟨_, _, rfl, ⟨a, rfl, rfl⟩, rfl⟩, e, fun d h2 z v H' μ' _ _ _ q => ?_, fun x h2 z => nomatch z⟩
  · cases l with
    | zero =>
      cases hu
      exact ⟨a, rfl, _, by rw [if_pos rfl]; exact ⟨⟨o, ho⟩, rfsB_ints ns⟩, DVs.of_ints (X := cx0 P w K mg) ns⟩
    | succ l => simp at hu
  · cases z
    exact q
/-- the library's walk of a law, what may be let out told by the world -/
theorem walk_W {l : PySem.W.OpenLaw} {n k : Nat} {q : Program} {loose : List Str} {XP : (Str → Option Value) → Heap → Prop} {YP : World → Heap → Prop} {d : DefRec} {x : Str} {φ : MF}
    (hn : l.most = some n) (hn2 : n ≤ sizeLine) (hdf : d.params.defaults = []) (hr : Room k callerA) (hφ : ∀ ns : List Int, ns.length ≤ n → ∃ h', φ [.ref 0] [.lst true (ns.map D.int)] = some (.ok (.bl true) h'))
    (F : ∀ (w : World) (mg : Str → Option Value) (fa : Addr) (h : Heap), YP w h → h.Ns mainGlobals mg → mg d.name = some (.ref fa) →
      ∃ (K : PySem.W.Frag) (fd : FuncData), K.In h ∧ noL K = true ∧ (∀ (s : Shared) (u : Value), BindsTo s fd ⟨[u], []⟩ [(x, u)]) ∧
        ∀ base : Heap, K.In base → base.Ns mainGlobals mg → FnOk l.prog w K mg base (L2.CX l.prog w) k fa fd [x] (spOf K mg w 1 φ)) :
    PySem.W.WalkO q loose XP YP l.row.toRowW d [] (fun f vs => PySem.call f vs) := by
  refine Att.attach_call hn hdf fun w s₀ s₁ mg mb fa o pm cd doc a vs ns G Y ho hd hcd hmg hobj hints hlen hg => ?_
  obtain ⟨K, fd, KX, hK, hb, hF⟩ := F w mg fa _ Y G.T.g hmg
  refine law_call KX G.T.g G.T.b G.T.builtins G.T.nolimit hg hobj hints (Nat.le_trans hlen hn2) hr hF hb (fun H hO hS => law_entry (P := l.prog) hK hφ H a ns hlen hO hS) fun H e s' c => ?_
  obtain ⟨_, _, _, _, _, _, _, _, _, _, _, _, z⟩ := c
  exact z
end G47
namespace G47
/-- it ends with True -/
def outT : R D → Bool
  | some (.ok (.bl true) _) => true
  | _ => false
theorem outT_ok {r : R D} (e : outT r = true) : ∃ h, r = some (.ok (.bl true) h) := by
  unfold outT at e
  split at e
  · exact ⟨_, rfl⟩
  · cases e
end G47
namespace K41
open PySem PySem.Spec PyProof.Rows L2 G47
abbrev prog0 : Program := PySem.Challenge.pw_cellswaps_k41_known_equal
def top (i : Nat) : Stmt := prog0.main.body.getD i (.Pass ⟨0, 0, 0, 0⟩)
def clsB (s : Stmt) : List Stmt := match s with | .ClassDef (body := b) .. => b | _ => []
def inCls (i j : Nat) : Stmt := (clsB (top i)).getD j (.Pass ⟨0, 0, 0, 0⟩)
abbrev fu : Nat := 100000
abbrev x_number : Nat := 4664956181807734922898114902753391
abbrev x_course : Nat := 4137613802912322659540195539419236
abbrev x_heights : Nat := 9868193386793093691264926554217626206313
abbrev x_Oldest : Nat := 4746086091021752868347367168933968
abbrev x_Aging : Nat := 2011653587633505230739472450
abbrev x_Widest : Nat := 4746086091021752868347367162642520
abbrev x_three : Nat := 1972967878395528347876589685
abbrev x_ahead : Nat := 1953625028388148959057543266
abbrev x_ring : Nat := 959231180016281714803
abbrev x_rest : Nat := 1079135038485617967219
abbrev x_states : Nat := 4705521001015204284389896231059572
abbrev x_Safe : Nat := 940784400758183297108
abbrev x_Broken : Nat := 4502696904978604569863664672178243
abbrev x_pairs : Nat := 2243767381893002179689578609
abbrev x_Alike : Nat := 1972967933735720986595033154
abbrev x_Parted : Nat := 4097048712905654171746245443321937
abbrev x_Linked : Nat := 4097048712905571161380321581072461
abbrev x_Unlinked : Nat := 18019010797617480984913120674477434921386246230
abbrev x_choice : Nat := 4137613493427229827820406827909220
abbrev x_against : Nat := 9953263937958625156724559071471179137122
abbrev x_Cheapest : Nat := 20873507374017441581437756467583124890739277892
abbrev x_four : Nat := 1060688303208022409319
abbrev x_NoScheme : Nat := 18197417439770216422891032593339402736893952079
abbrev x_Fit : Nat := 514571664097351
abbrev x_layers : Nat := 4705521252471636413757764824727661
abbrev x_NoFit : Nat := 2263110111996333983193366607
abbrev x_places : Nat := 4705521001015047487065269683093617
abbrev x_move : Nat := 940784471126956834926
abbrev x_swap : Nat := 1042241471173399412852
abbrev x_hold : Nat := 931561055109636948073
abbrev x_old : Nat := 444202926211184
abbrev x_d : Nat := 101
abbrev x_c : Nat := 100
abbrev x_b : Nat := 99
abbrev x_a : Nat := 98
abbrev x_list : Nat := 1079135038485626355821
abbrev x_dict : Nat := 1079134968116882178149
theorem k_number : TxtN x_number "number" := txtB_ok (by decide +kernel)
theorem k_course : TxtN x_course "course" := txtB_ok (by decide +kernel)
theorem k_heights : TxtN x_heights "heights" := txtB_ok (by decide +kernel)
theorem k_Oldest : TxtN x_Oldest "Oldest" := txtB_ok (by decide +kernel)
theorem k_Aging : TxtN x_Aging "Aging" := txtB_ok (by decide +kernel)
theorem k_Widest : TxtN x_Widest "Widest" := txtB_ok (by decide +kernel)
theorem k_three : TxtN x_three "three" := txtB_ok (by decide +kernel)
theorem k_ahead : TxtN x_ahead "ahead" := txtB_ok (by decide +kernel)
theorem k_ring : TxtN x_ring "ring" := txtB_ok (by decide +kernel)
theorem k_rest : TxtN x_rest "rest" := txtB_ok (by decide +kernel)
theorem k_states : TxtN x_states "states" := txtB_ok (by decide +kernel)
theorem k_Safe : TxtN x_Safe "Safe" := txtB_ok (by decide +kernel)
theorem k_Broken : TxtN x_Broken "Broken" := txtB_ok (by decide +kernel)
theorem k_pairs : TxtN x_pairs "pairs" := txtB_ok (by decide +kernel)
theorem k_Alike : TxtN x_Alike "Alike" := txtB_ok (by decide +kernel)
theorem k_Parted : TxtN x_Parted "Parted" := txtB_ok (by decide +kernel)
theorem k_Linked : TxtN x_Linked "Linked" := txtB_ok (by decide +kernel)
theorem k_Unlinked : TxtN x_Unlinked "Unlinked" := txtB_ok (by decide +kernel)
theorem k_choice : TxtN x_choice "choice" := txtB_ok (by decide +kernel)
theorem k_against : TxtN x_against "against" := txtB_ok (by decide +kernel)
theorem k_Cheapest : TxtN x_Cheapest "Cheapest" := txtB_ok (by decide +kernel)
theorem k_four : TxtN x_four "four" := txtB_ok (by decide +kernel)
theorem k_NoScheme : TxtN x_NoScheme "NoScheme" := txtB_ok (by decide +kernel)
theorem k_Fit : TxtN x_Fit "Fit" := txtB_ok (by decide +kernel)
theorem k_layers : TxtN x_layers "layers" := txtB_ok (by decide +kernel)
theorem k_NoFit : TxtN x_NoFit "NoFit" := txtB_ok (by decide +kernel)
theorem k_places : TxtN x_places "places" := txtB_ok (by decide +kernel)
theorem k_move : TxtN x_move "move" := txtB_ok (by decide +kernel)
theorem k_swap : TxtN x_swap "swap" := txtB_ok (by decide +kernel)
theorem k_hold : TxtN x_hold "hold" := txtB_ok (by decide +kernel)
theorem k_old : TxtN x_old "old" := txtB_ok (by decide +kernel)
theorem k_d : TxtN x_d "d" := txtB_ok (by decide +kernel)
theorem k_c : TxtN x_c "c" := txtB_ok (by decide +kernel)
theorem k_b : TxtN x_b "b" := txtB_ok (by decide +kernel)
theorem k_a : TxtN x_a "a" := txtB_ok (by decide +kernel)
theorem k_list : TxtN x_list "list" := txtB_ok (by decide +kernel)
theorem k_dict : TxtN x_dict "dict" := txtB_ok (by decide +kernel)
def cs : List CI := [⟨"Oldest", x_Oldest, [("number", x_number), ("course", x_course), ("heights", x_heights)]⟩, ⟨"Aging", x_Aging, [("ahead", x_ahead), ("ring", x_ring), ("rest", x_rest)]⟩, ⟨"Safe", x_Safe, [("states", x_states)]⟩, ⟨"Broken", x_Broken, [("course", x_course)]⟩, ⟨"Alike", x_Alike, [("pairs", x_pairs)]⟩, ⟨"Parted", x_Parted, [("course", x_course)]⟩, ⟨"Linked", x_Linked, [("states", x_states)]⟩, ⟨"Unlinked", x_Unlinked, [("course", x_course)]⟩, ⟨"Cheapest", x_Cheapest, [("choice", x_choice), ("states", x_states), ("heights", x_heights), ("against", x_against)]⟩, ⟨"NoScheme", x_NoScheme, [("against", x_against)]⟩, ⟨"Fit", x_Fit, [("course", x_course)]⟩, ⟨"NoFit", x_NoFit, [("layers", x_layers)]⟩, ⟨"Widest", x_Widest, [("number", x_number), ("places", x_places), ("course", x_course)]⟩]
def bs : BI := [("list", x_list, .list), ("dict", x_dict, .dict)]
abbrev t_law_parts_three : Stmt := (top 28)
def d_law_parts_three : He.DefD := ⟨("_law_parts_three", none), "_law_parts_three", "_law_parts_three", defArgs t_law_parts_three, defBody t_law_parts_three, defScope t_law_parts_three, [], []⟩
abbrev t_law_parts_two : Stmt := (top 27)
def d_law_parts_two : He.DefD := ⟨("_law_parts_two", none), "_law_parts_two", "_law_parts_two", defArgs t_law_parts_two, defBody t_law_parts_two, defScope t_law_parts_two, [], []⟩
abbrev t_law_parts : Stmt := (top 26)
def d_law_parts : He.DefD := ⟨("_law_parts", none), "_law_parts", "_law_parts", defArgs t_law_parts, defBody t_law_parts, defScope t_law_parts, [], []⟩
abbrev t_law_fresh : Stmt := (top 29)
def d_law_fresh : He.DefD := ⟨("_law_fresh", none), "_law_fresh", "_law_fresh", defArgs t_law_fresh, defBody t_law_fresh, defScope t_law_fresh, [], []⟩
abbrev t_Oldest_init : Stmt := (inCls 2 0)
def d_Oldest_init : He.DefD := ⟨("Oldest", some "__init__"), "__init__", "Oldest.__init__", defArgs t_Oldest_init, defBody t_Oldest_init, defScope t_Oldest_init, [], []⟩
abbrev t_Aging_init : Stmt := (inCls 3 0)
def d_Aging_init : He.DefD := ⟨("Aging", some "__init__"), "__init__", "Aging.__init__", defArgs t_Aging_init, defBody t_Aging_init, defScope t_Aging_init, [], []⟩
abbrev t_Alike_init : Stmt := (inCls 8 0)
def d_Alike_init : He.DefD := ⟨("Alike", some "__init__"), "__init__", "Alike.__init__", defArgs t_Alike_init, defBody t_Alike_init, defScope t_Alike_init, [], []⟩
abbrev t_Parted_init : Stmt := (inCls 9 0)
def d_Parted_init : He.DefD := ⟨("Parted", some "__init__"), "__init__", "Parted.__init__", defArgs t_Parted_init, defBody t_Parted_init, defScope t_Parted_init, [], []⟩
abbrev t_Linked_init : Stmt := (inCls 11 0)
def d_Linked_init : He.DefD := ⟨("Linked", some "__init__"), "__init__", "Linked.__init__", defArgs t_Linked_init, defBody t_Linked_init, defScope t_Linked_init, [], []⟩
abbrev t_Unlinked_init : Stmt := (inCls 12 0)
def d_Unlinked_init : He.DefD := ⟨("Unlinked", some "__init__"), "__init__", "Unlinked.__init__", defArgs t_Unlinked_init, defBody t_Unlinked_init, defScope t_Unlinked_init, [], []⟩
abbrev t_copied : Stmt := (top 14)
def d_copied : He.DefD := ⟨("copied", none), "copied", "copied", defArgs t_copied, defBody t_copied, defScope t_copied, [], []⟩
abbrev t_Cheapest_init : Stmt := (inCls 15 0)
def d_Cheapest_init : He.DefD := ⟨("Cheapest", some "__init__"), "__init__", "Cheapest.__init__", defArgs t_Cheapest_init, defBody t_Cheapest_init, defScope t_Cheapest_init, [], []⟩
abbrev t_NoScheme_init : Stmt := (inCls 16 0)
def d_NoScheme_init : He.DefD := ⟨("NoScheme", some "__init__"), "__init__", "NoScheme.__init__", defArgs t_NoScheme_init, defBody t_NoScheme_init, defScope t_NoScheme_init, [], []⟩
abbrev t_Safe_init : Stmt := (inCls 5 0)
def d_Safe_init : He.DefD := ⟨("Safe", some "__init__"), "__init__", "Safe.__init__", defArgs t_Safe_init, defBody t_Safe_init, defScope t_Safe_init, [], []⟩
abbrev t_Broken_init : Stmt := (inCls 6 0)
def d_Broken_init : He.DefD := ⟨("Broken", some "__init__"), "__init__", "Broken.__init__", defArgs t_Broken_init, defBody t_Broken_init, defScope t_Broken_init, [], []⟩
abbrev t_Fit_init : Stmt := (inCls 18 0)
def d_Fit_init : He.DefD := ⟨("Fit", some "__init__"), "__init__", "Fit.__init__", defArgs t_Fit_init, defBody t_Fit_init, defScope t_Fit_init, [], []⟩
abbrev t_NoFit_init : Stmt := (inCls 19 0)
def d_NoFit_init : He.DefD := ⟨("NoFit", some "__init__"), "__init__", "NoFit.__init__", defArgs t_NoFit_init, defBody t_NoFit_init, defScope t_NoFit_init, [], []⟩
abbrev t_Widest_init : Stmt := (inCls 21 0)
def d_Widest_init : He.DefD := ⟨("Widest", some "__init__"), "__init__", "Widest.__init__", defArgs t_Widest_init, defBody t_Widest_init, defScope t_Widest_init, [], []⟩
abbrev t_law_make_three : Stmt := (top 25)
def d_law_make_three : He.DefD := ⟨("_law_make_three", none), "_law_make_three", "_law_make_three", defArgs t_law_make_three, defBody t_law_make_three, defScope t_law_make_three, [], []⟩
abbrev t_law_make_two : Stmt := (top 24)
def d_law_make_two : He.DefD := ⟨("_law_make_two", none), "_law_make_two", "_law_make_two", defArgs t_law_make_two, defBody t_law_make_two, defScope t_law_make_two, [], []⟩
abbrev t_law_make : Stmt := (top 23)
def d_law_make : He.DefD := ⟨("_law_make", none), "_law_make", "_law_make", defArgs t_law_make, defBody t_law_make, defScope t_law_make, [], []⟩
abbrev t_Oldest_three : Stmt := (inCls 2 1)
def d_Oldest_three : He.DefD := ⟨("Oldest", some "three"), "three", "Oldest.three", defArgs t_Oldest_three, defBody t_Oldest_three, defScope t_Oldest_three, [], []⟩
abbrev t_Aging_three : Stmt := (inCls 3 1)
def d_Aging_three : He.DefD := ⟨("Aging", some "three"), "three", "Aging.three", defArgs t_Aging_three, defBody t_Aging_three, defScope t_Aging_three, [], []⟩
abbrev t_Widest_three : Stmt := (inCls 21 1)
def d_Widest_three : He.DefD := ⟨("Widest", some "three"), "three", "Widest.three", defArgs t_Widest_three, defBody t_Widest_three, defScope t_Widest_three, [], []⟩
abbrev t_Oldest_eq : Stmt := (inCls 2 2)
def d_Oldest_eq : He.DefD := ⟨("Oldest", some "__eq__"), "__eq__", "Oldest.__eq__", defArgs t_Oldest_eq, defBody t_Oldest_eq, defScope t_Oldest_eq, [], []⟩
abbrev t_Aging_eq : Stmt := (inCls 3 2)
def d_Aging_eq : He.DefD := ⟨("Aging", some "__eq__"), "__eq__", "Aging.__eq__", defArgs t_Aging_eq, defBody t_Aging_eq, defScope t_Aging_eq, [], []⟩
abbrev t_Safe_eq : Stmt := (inCls 5 1)
def d_Safe_eq : He.DefD := ⟨("Safe", some "__eq__"), "__eq__", "Safe.__eq__", defArgs t_Safe_eq, defBody t_Safe_eq, defScope t_Safe_eq, [], []⟩
abbrev t_Broken_eq : Stmt := (inCls 6 1)
def d_Broken_eq : He.DefD := ⟨("Broken", some "__eq__"), "__eq__", "Broken.__eq__", defArgs t_Broken_eq, defBody t_Broken_eq, defScope t_Broken_eq, [], []⟩
abbrev t_Alike_eq : Stmt := (inCls 8 1)
def d_Alike_eq : He.DefD := ⟨("Alike", some "__eq__"), "__eq__", "Alike.__eq__", defArgs t_Alike_eq, defBody t_Alike_eq, defScope t_Alike_eq, [], []⟩
abbrev t_Parted_eq : Stmt := (inCls 9 1)
def d_Parted_eq : He.DefD := ⟨("Parted", some "__eq__"), "__eq__", "Parted.__eq__", defArgs t_Parted_eq, defBody t_Parted_eq, defScope t_Parted_eq, [], []⟩
abbrev t_Linked_eq : Stmt := (inCls 11 1)
def d_Linked_eq : He.DefD := ⟨("Linked", some "__eq__"), "__eq__", "Linked.__eq__", defArgs t_Linked_eq, defBody t_Linked_eq, defScope t_Linked_eq, [], []⟩
abbrev t_Unlinked_eq : Stmt := (inCls 12 1)
def d_Unlinked_eq : He.DefD := ⟨("Unlinked", some "__eq__"), "__eq__", "Unlinked.__eq__", defArgs t_Unlinked_eq, defBody t_Unlinked_eq, defScope t_Unlinked_eq, [], []⟩
abbrev t_Cheapest_four : Stmt := (inCls 15 1)
def d_Cheapest_four : He.DefD := ⟨("Cheapest", some "four"), "four", "Cheapest.four", defArgs t_Cheapest_four, defBody t_Cheapest_four, defScope t_Cheapest_four, [], []⟩
abbrev t_Cheapest_eq : Stmt := (inCls 15 2)
def d_Cheapest_eq : He.DefD := ⟨("Cheapest", some "__eq__"), "__eq__", "Cheapest.__eq__", defArgs t_Cheapest_eq, defBody t_Cheapest_eq, defScope t_Cheapest_eq, [], []⟩
abbrev t_NoScheme_eq : Stmt := (inCls 16 1)
def d_NoScheme_eq : He.DefD := ⟨("NoScheme", some "__eq__"), "__eq__", "NoScheme.__eq__", defArgs t_NoScheme_eq, defBody t_NoScheme_eq, defScope t_NoScheme_eq, [], []⟩
abbrev t_Fit_eq : Stmt := (inCls 18 1)
def d_Fit_eq : He.DefD := ⟨("Fit", some "__eq__"), "__eq__", "Fit.__eq__", defArgs t_Fit_eq, defBody t_Fit_eq, defScope t_Fit_eq, [], []⟩
abbrev t_NoFit_eq : Stmt := (inCls 19 1)
def d_NoFit_eq : He.DefD := ⟨("NoFit", some "__eq__"), "__eq__", "NoFit.__eq__", defArgs t_NoFit_eq, defBody t_NoFit_eq, defScope t_NoFit_eq, [], []⟩
abbrev t_Widest_eq : Stmt := (inCls 21 2)
def d_Widest_eq : He.DefD := ⟨("Widest", some "__eq__"), "__eq__", "Widest.__eq__", defArgs t_Widest_eq, defBody t_Widest_eq, defScope t_Widest_eq, [], []⟩
abbrev t_law : Stmt := (top 30)
def d_law : He.DefD := ⟨("law", none), "law", "law", defArgs t_law, defBody t_law, defScope t_law, [], []⟩
def fa : List He.Fa := [.free "tuple", .free "dict", .glo "Oldest", .free "isinstance", .cls "Oldest", .meth "Oldest" "three", .glo "Aging", .cls "Aging", .meth "Aging" "three", .glo "Widest", .cls "Widest", .meth "Widest" "three", .free "list", .glo "Safe", .glo "Broken", .glo "Alike", .glo "Parted", .glo "Linked", .glo "Unlinked", .glo "copied", .glo "Cheapest", .cls "Cheapest", .meth "Cheapest" "four", .glo "NoScheme", .glo "Fit", .glo "NoFit", .mkr "Oldest", .mkr "Aging", .mkr "Alike", .mkr "Parted", .mkr "Linked", .mkr "Unlinked", .glo "_law_make_two", .mkr "Cheapest", .mkr "NoScheme", .mkr "Safe", .mkr "Broken", .mkr "Fit", .mkr "NoFit", .glo "_law_make_three", .mkr "Widest", .glo "_law_parts_two", .glo "_law_parts_three", .glo "_law_parts", .free "range", .glo "_law_fresh", .glo "_law_make", .free "len", .meth "Oldest" "__eq__", .meth "Aging" "__eq__", .meth "Safe" "__eq__", .meth "Broken" "__eq__", .meth "Alike" "__eq__", .meth "Parted" "__eq__", .meth "Linked" "__eq__", .meth "Unlinked" "__eq__", .meth "Cheapest" "__eq__", .meth "NoScheme" "__eq__", .meth "Fit" "__eq__", .meth "NoFit" "__eq__", .meth "Widest" "__eq__", .glo "law"]
def fn : List He.DefD := [d_law_parts_three, d_law_parts_two, d_law_parts, d_law_fresh, d_Oldest_init, d_Aging_init, d_Alike_init, d_Parted_init, d_Linked_init, d_Unlinked_init, d_copied, d_Cheapest_init, d_NoScheme_init, d_Safe_init, d_Broken_init, d_Fit_init, d_NoFit_init, d_Widest_init, d_law_make_three, d_law_make_two, d_law_make, d_Oldest_three, d_Aging_three, d_Widest_three, d_Oldest_eq, d_Aging_eq, d_Safe_eq, d_Broken_eq, d_Alike_eq, d_Parted_eq, d_Linked_eq, d_Unlinked_eq, d_Cheapest_four, d_Cheapest_eq, d_NoScheme_eq, d_Fit_eq, d_NoFit_eq, d_Widest_eq, d_law]
structure Ct (K : PySem.W.Frag) (mg : Str → Option Value) : Prop extends Fx fa fn cs bs K mg where
  q : eqB1 cs K = true
def m_law_parts_three : MS := (mRet (mLst (mCons (mTup (mCons (mC (.int 1)) (mCons (mC (.int 2)) mNil))) (mCons (mTup (mCons (mLst (mCons (mTup (mCons (mTup (mCons (mC (.int 0)) (mCons (mC (.int 0)) mNil))) (mCons (mC (.int 1)) mNil))) mNil)) (mCons (mLst (mCons (mTup (mCons (mTup (mCons (mC (.int 0)) (mCons (mC (.int 0)) mNil))) (mCons (mC (.int 2)) mNil))) mNil)) mNil))) (mCons (mTup (mCons (mTup (mCons (mTup (mCons (mC (.str x_swap)) mNil)) mNil)) (mCons (mTup (mCons (mTup (mCons (mC (.str x_move)) mNil)) mNil)) mNil))) mNil)))))
def f_law_parts_three : MF := mFun 1 m_law_parts_three
theorem S_law_parts_three : FnScope ["_law_at"] ["_law_at"] (defScope t_law_parts_three) := ⟨rfl, rfl, rfl, by decide +kernel, rfl, by decide +kernel, by decide +kernel⟩
def m_law_parts_two : MS := (mSeq (mIfS (mB (mBin (copD .Eq) (mVar 0) (mC (.int 6))))
   (mRet (mLst (mCons (mTup (mCons (mTup (mCons (mC (.int 1)) (mCons (mC (.str x_a)) (mCons (mC (.str x_b)) (mCons (mC (.str x_c)) (mCons (mC (.str x_d)) mNil)))))) (mCons (mTup (mCons (mC (.int 2)) (mCons (mC (.str x_a)) (mCons (mC (.str x_b)) (mCons (mC (.str x_c)) (mCons (mC (.str x_d)) mNil)))))) mNil))) (mCons (mTup (mCons (mLst (mCons (mTup (mCons (mC (.int 0)) (mCons (mC (.int 0)) mNil))) mNil)) (mCons (mLst (mCons (mTup (mCons (mC (.int 0)) (mCons (mC (.int 1)) mNil))) mNil)) mNil))) (mCons (mTup (mCons (mCall dictD (mCons (mLst (mCons (mTup (mCons (mTup (mCons (mC (.int 0)) (mCons (mC (.int 0)) mNil))) (mCons (mC (.int 1)) mNil))) mNil)) mNil)) (mCons (mCall dictD (mCons (mLst (mCons (mTup (mCons (mTup (mCons (mC (.int 0)) (mCons (mC (.int 1)) mNil))) (mCons (mC (.int 1)) mNil))) mNil)) mNil)) mNil))) (mCons (mTup (mCons (mCall dictD (mCons (mLst (mCons (mTup (mCons (mTup (mCons (mC (.int 2)) (mCons (mC (.str x_a)) (mCons (mC (.str x_b)) (mCons (mC (.str x_c)) (mCons (mC (.str x_d)) mNil)))))) (mCons (mTup (mCons (mC (.str x_old)) (mCons (mTup (mCons (mTup (mCons (mC (.str x_swap)) mNil)) mNil)) mNil))) mNil))) mNil)) mNil)) (mCons (mCall dictD (mCons (mLst (mCons (mTup (mCons (mTup (mCons (mC (.int 2)) (mCons (mC (.str x_a)) (mCons (mC (.str x_b)) (mCons (mC (.str x_c)) (mCons (mC (.str x_d)) mNil)))))) (mCons (mTup (mCons (mC (.str x_old)) (mCons (mTup (mCons (mTup (mCons (mC (.str x_move)) mNil)) mNil)) mNil))) mNil))) mNil)) mNil)) mNil))) mNil))))))
   mNx)
  (mSeq (mIfS (mB (mBin (copD .Eq) (mVar 0) (mC (.int 7))))
   (mRet (mLst (mCons (mTup (mCons (mCall dictD (mCons (mLst (mCons (mTup (mCons (mTup (mCons (mC (.int 2)) (mCons (mC (.str x_a)) (mCons (mC (.str x_b)) (mCons (mC (.str x_c)) (mCons (mC (.str x_d)) mNil)))))) (mCons (mTup (mCons (mC (.str x_old)) (mCons (mTup (mCons (mTup (mCons (mC (.str x_swap)) mNil)) mNil)) mNil))) mNil))) mNil)) mNil)) (mCons (mCall dictD (mCons (mLst (mCons (mTup (mCons (mTup (mCons (mC (.int 2)) (mCons (mC (.str x_a)) (mCons (mC (.str x_b)) (mCons (mC (.str x_c)) (mCons (mC (.str x_d)) mNil)))))) (mCons (mTup (mCons (mC (.str x_old)) (mCons (mTup (mCons (mTup (mCons (mC (.str x_move)) mNil)) mNil)) mNil))) mNil))) mNil)) mNil)) mNil))) mNil)))
   mNx)
  (mSeq (mIfS (mB (mBin (copD .Eq) (mVar 0) (mC (.int 8))))
   (mRet (mLst (mCons (mTup (mCons (mLst (mCons (mTup (mCons (mC (.int 0)) (mCons (mC (.int 0)) mNil))) mNil)) (mCons (mLst (mCons (mTup (mCons (mC (.int 0)) (mCons (mC (.int 1)) mNil))) mNil)) mNil))) mNil)))
   mNx)
  (mSeq (mIfS (mB (mBin (copD .Eq) (mVar 0) (mC (.int 9))))
   (mRet (mLst (mCons (mTup (mCons (mTup (mCons (mTup (mCons (mC (.str x_swap)) mNil)) mNil)) (mCons (mTup (mCons (mTup (mCons (mC (.str x_move)) mNil)) mNil)) mNil))) mNil)))
   mNx)
  (mSeq (mIfS (mB (mBin (copD .Eq) (mVar 0) (mC (.int 10))))
   (mRet (mLst (mCons (mTup (mCons (mTup (mCons (mTup (mCons (mC (.str x_swap)) mNil)) mNil)) (mCons (mTup (mCons (mTup (mCons (mC (.str x_move)) mNil)) mNil)) mNil))) mNil)))
   mNx)
  (mSeq (mIfS (mB (mBin (copD .Eq) (mVar 0) (mC (.int 11))))
   (mRet (mLst (mCons (mTup (mCons (mLst (mCons (mLst (mCons (mTup (mCons (mC (.int 0)) (mCons (mC (.int 0)) mNil))) mNil)) mNil)) (mCons (mLst (mCons (mLst (mCons (mTup (mCons (mC (.int 0)) (mCons (mC (.int 1)) mNil))) mNil)) mNil)) mNil))) mNil)))
   mNx)
  (mRet (mCallF 1 f_law_parts_three (mCons (mVar 0) mNil)))))))))
def f_law_parts_two : MF := mFun 1 m_law_parts_two
theorem S_law_parts_two : FnScope ["_law_at"] ["_law_at"] (defScope t_law_parts_two) := ⟨rfl, rfl, rfl, by decide +kernel, rfl, by decide +kernel, by decide +kernel⟩
def m_law_parts : MS := (mSeq (mIfS (mB (mBin (copD .Eq) (mVar 0) (mC (.int 0))))
   (mRet (mLst (mCons (mTup (mCons (mC (.int 1)) (mCons (mC (.int 2)) mNil))) (mCons (mTup (mCons (mTup (mCons (mTup (mCons (mC (.str x_swap)) mNil)) mNil)) (mCons (mTup (mCons (mTup (mCons (mC (.str x_move)) mNil)) mNil)) mNil))) (mCons (mTup (mCons (mCall dictD (mCons (mLst (mCons (mTup (mCons (mTup (mCons (mC (.int 0)) (mCons (mC (.int 0)) mNil))) (mCons (mC (.int 1)) mNil))) mNil)) mNil)) (mCons (mCall dictD (mCons (mLst (mCons (mTup (mCons (mTup (mCons (mC (.int 0)) (mCons (mC (.int 1)) mNil))) (mCons (mC (.int 1)) mNil))) mNil)) mNil)) mNil))) mNil)))))
   mNx)
  (mSeq (mIfS (mB (mBin (copD .Eq) (mVar 0) (mC (.int 1))))
   (mRet (mLst (mCons (mTup (mCons (mTup (mCons (mTup (mCons (mC (.str x_swap)) mNil)) mNil)) (mCons (mTup (mCons (mTup (mCons (mC (.str x_move)) mNil)) mNil)) mNil))) (mCons (mTup (mCons (mTup (mCons (mTup (mCons (mC (.str x_move)) mNil)) mNil)) (mCons (mTup (mCons (mTup (mCons (mC (.str x_swap)) mNil)) mNil)) mNil))) (mCons (mTup (mCons (mTup (mCons (mTup (mCons (mC (.str x_hold)) mNil)) mNil)) (mCons (mTup (mCons (mTup (mCons (mC (.str x_swap)) mNil)) mNil)) mNil))) mNil)))))
   mNx)
  (mSeq (mIfS (mB (mBin (copD .Eq) (mVar 0) (mC (.int 2))))
   (mRet (mLst (mCons (mTup (mCons (mLst (mCons (mTup (mCons (mC (.int 0)) (mCons (mC (.int 0)) mNil))) mNil)) (mCons (mLst (mCons (mTup (mCons (mC (.int 0)) (mCons (mC (.int 1)) mNil))) mNil)) mNil))) mNil)))
   mNx)
  (mSeq (mIfS (mB (mBin (copD .Eq) (mVar 0) (mC (.int 3))))
   (mRet (mLst (mCons (mTup (mCons (mTup (mCons (mTup (mCons (mC (.str x_swap)) mNil)) mNil)) (mCons (mTup (mCons (mTup (mCons (mC (.str x_move)) mNil)) mNil)) mNil))) mNil)))
   mNx)
  (mSeq (mIfS (mB (mBin (copD .Eq) (mVar 0) (mC (.int 4))))
   (mRet (mLst (mCons (mTup (mCons (mLst (mCons (mTup (mCons (mC (.int 0)) (mCons (mC (.int 0)) mNil))) mNil)) (mCons (mLst (mCons (mTup (mCons (mC (.int 0)) (mCons (mC (.int 1)) mNil))) mNil)) mNil))) mNil)))
   mNx)
  (mSeq (mIfS (mB (mBin (copD .Eq) (mVar 0) (mC (.int 5))))
   (mRet (mLst (mCons (mTup (mCons (mTup (mCons (mTup (mCons (mC (.str x_swap)) mNil)) mNil)) (mCons (mTup (mCons (mTup (mCons (mC (.str x_move)) mNil)) mNil)) mNil))) mNil)))
   mNx)
  (mRet (mCallF 1 f_law_parts_two (mCons (mVar 0) mNil)))))))))
def f_law_parts : MF := mFun 1 m_law_parts
theorem S_law_parts : FnScope ["_law_at"] ["_law_at"] (defScope t_law_parts) := ⟨rfl, rfl, rfl, by decide +kernel, rfl, by decide +kernel, by decide +kernel⟩
def m_law_fresh : MS := (mRet (mLc fu [1] (mWalk (mCallF 1 f_law_parts (mCons (mVar 0) mNil))) (mgName 1) mYes (mIx (mVar 1) (mC (.int 0)))))
def f_law_fresh : MF := mFun 2 m_law_fresh
theorem S_law_fresh : FnScope ["_law_at", "_law_pair"] ["_law_at"] (defScope t_law_fresh) := ⟨rfl, rfl, rfl, by decide +kernel, rfl, by decide +kernel, by decide +kernel⟩
def m_Oldest_init : MS := (mSeq (mFld (okA cs) x_number (mVar 0) (mVar 1))
  (mSeq (mFld (okA cs) x_course (mVar 0) (mCall tupleD (mCons (mVar 2) mNil)))
  (mFld (okA cs) x_heights (mVar 0) (mCall dictD (mCons (mVar 3) mNil)))))
def f_Oldest_init : MF := mFun 4 m_Oldest_init
theorem S_Oldest_init : FnScope ["self", "number", "course", "heights"] ["self", "number", "course", "heights"] (defScope t_Oldest_init) := ⟨rfl, rfl, rfl, by decide +kernel, rfl, by decide +kernel, by decide +kernel⟩
def m_Aging_init : MS := (mSeq (mFld (okA cs) x_ahead (mVar 0) (mCall tupleD (mCons (mVar 1) mNil)))
  (mSeq (mFld (okA cs) x_ring (mVar 0) (mCall tupleD (mCons (mVar 2) mNil)))
  (mFld (okA cs) x_rest (mVar 0) (mCall tupleD (mCons (mVar 3) mNil)))))
def f_Aging_init : MF := mFun 4 m_Aging_init
theorem S_Aging_init : FnScope ["self", "ahead", "ring", "rest"] ["self", "ahead", "ring", "rest"] (defScope t_Aging_init) := ⟨rfl, rfl, rfl, by decide +kernel, rfl, by decide +kernel, by decide +kernel⟩
def m_Alike_init : MS := (mFld (okA cs) x_pairs (mVar 0) (mCall listD (mCons (mVar 1) mNil)))
def f_Alike_init : MF := mFun 2 m_Alike_init
theorem S_Alike_init : FnScope ["self", "pairs"] ["self", "pairs"] (defScope t_Alike_init) := ⟨rfl, rfl, rfl, by decide +kernel, rfl, by decide +kernel, by decide +kernel⟩
def m_Parted_init : MS := (mFld (okA cs) x_course (mVar 0) (mCall tupleD (mCons (mVar 1) mNil)))
def f_Parted_init : MF := mFun 2 m_Parted_init
theorem S_Parted_init : FnScope ["self", "course"] ["self", "course"] (defScope t_Parted_init) := ⟨rfl, rfl, rfl, by decide +kernel, rfl, by decide +kernel, by decide +kernel⟩
def m_Linked_init : MS := (mFld (okA cs) x_states (mVar 0) (mCall listD (mCons (mVar 1) mNil)))
def f_Linked_init : MF := mFun 2 m_Linked_init
theorem S_Linked_init : FnScope ["self", "states"] ["self", "states"] (defScope t_Linked_init) := ⟨rfl, rfl, rfl, by decide +kernel, rfl, by decide +kernel, by decide +kernel⟩
def m_Unlinked_init : MS := (mFld (okA cs) x_course (mVar 0) (mCall tupleD (mCons (mVar 1) mNil)))
def f_Unlinked_init : MF := mFun 2 m_Unlinked_init
theorem S_Unlinked_init : FnScope ["self", "course"] ["self", "course"] (defScope t_Unlinked_init) := ⟨rfl, rfl, rfl, by decide +kernel, rfl, by decide +kernel, by decide +kernel⟩
def m_copied : MS := (mRet (mLockE (pickE (mVar 0)) (mDc fu [1, 2] (mItems (mVar 0)) (mgTup 2 (mgCons (mgName 1) (mgCons (mgName 2) mgNil))) mYes (mVar 1) (mTup (mCons (mIx (mVar 2) (mC (.int 0))) (mCons (mCall tupleD (mCons (mIx (mVar 2) (mC (.int 1))) mNil)) mNil))))))
def f_copied : MF := mFun 3 m_copied
theorem S_copied : FnScope ["against", "choice", "pair"] ["against"] (defScope t_copied) := ⟨rfl, rfl, rfl, by decide +kernel, rfl, by decide +kernel, by decide +kernel⟩
def m_Cheapest_init : MS := (mSeq (mFld (okA cs) x_choice (mVar 0) (mVar 1))
  (mSeq (mFld (okA cs) x_states (mVar 0) (mCall listD (mCons (mVar 2) mNil)))
  (mSeq (mFld (okA cs) x_heights (mVar 0) (mCall dictD (mCons (mVar 3) mNil)))
  (mFld (okA cs) x_against (mVar 0) (mCallF 1 f_copied (mCons (mVar 4) mNil))))))
def f_Cheapest_init : MF := mFun 5 m_Cheapest_init
theorem S_Cheapest_init : FnScope ["self", "choice", "states", "heights", "against"] ["self", "choice", "states", "heights", "against"] (defScope t_Cheapest_init) := ⟨rfl, rfl, rfl, by decide +kernel, rfl, by decide +kernel, by decide +kernel⟩
def m_NoScheme_init : MS := (mFld (okA cs) x_against (mVar 0) (mCallF 1 f_copied (mCons (mVar 1) mNil)))
def f_NoScheme_init : MF := mFun 2 m_NoScheme_init
theorem S_NoScheme_init : FnScope ["self", "against"] ["self", "against"] (defScope t_NoScheme_init) := ⟨rfl, rfl, rfl, by decide +kernel, rfl, by decide +kernel, by decide +kernel⟩
def m_Safe_init : MS := (mFld (okA cs) x_states (mVar 0) (mCall listD (mCons (mVar 1) mNil)))
def f_Safe_init : MF := mFun 2 m_Safe_init
theorem S_Safe_init : FnScope ["self", "states"] ["self", "states"] (defScope t_Safe_init) := ⟨rfl, rfl, rfl, by decide +kernel, rfl, by decide +kernel, by decide +kernel⟩
def m_Broken_init : MS := (mFld (okA cs) x_course (mVar 0) (mCall tupleD (mCons (mVar 1) mNil)))
def f_Broken_init : MF := mFun 2 m_Broken_init
theorem S_Broken_init : FnScope ["self", "course"] ["self", "course"] (defScope t_Broken_init) := ⟨rfl, rfl, rfl, by decide +kernel, rfl, by decide +kernel, by decide +kernel⟩
def m_Fit_init : MS := (mFld (okA cs) x_course (mVar 0) (mCall tupleD (mCons (mVar 1) mNil)))
def f_Fit_init : MF := mFun 2 m_Fit_init
theorem S_Fit_init : FnScope ["self", "course"] ["self", "course"] (defScope t_Fit_init) := ⟨rfl, rfl, rfl, by decide +kernel, rfl, by decide +kernel, by decide +kernel⟩
def m_NoFit_init : MS := (mFld (okA cs) x_layers (mVar 0) (mLc fu [2] (mWalk (mVar 1)) (mgName 2) mYes (mCall listD (mCons (mVar 2) mNil))))
def f_NoFit_init : MF := mFun 3 m_NoFit_init
theorem S_NoFit_init : FnScope ["self", "layers", "layer"] ["self", "layers"] (defScope t_NoFit_init) := ⟨rfl, rfl, rfl, by decide +kernel, rfl, by decide +kernel, by decide +kernel⟩
def m_Widest_init : MS := (mSeq (mFld (okA cs) x_number (mVar 0) (mVar 1))
  (mSeq (mFld (okA cs) x_places (mVar 0) (mCall listD (mCons (mVar 2) mNil)))
  (mFld (okA cs) x_course (mVar 0) (mCall tupleD (mCons (mVar 3) mNil)))))
def f_Widest_init : MF := mFun 4 m_Widest_init
theorem S_Widest_init : FnScope ["self", "number", "places", "course"] ["self", "number", "places", "course"] (defScope t_Widest_init) := ⟨rfl, rfl, rfl, by decide +kernel, rfl, by decide +kernel, by decide +kernel⟩
def m_law_make_three : MS := (mRet (mMake x_Widest 4 f_Widest_init (mCons (mIx (mVar 1) (mC (.int 0))) (mCons (mIx (mVar 1) (mC (.int 1))) (mCons (mIx (mVar 1) (mC (.int 2))) mNil)))))
def f_law_make_three : MF := mFun 2 m_law_make_three
theorem S_law_make_three : FnScope ["_law_at", "_law_parts_here"] ["_law_at", "_law_parts_here"] (defScope t_law_make_three) := ⟨rfl, rfl, rfl, by decide +kernel, rfl, by decide +kernel, by decide +kernel⟩
def m_law_make_two : MS := (mSeq (mIfS (mB (mBin (copD .Eq) (mVar 0) (mC (.int 6))))
   (mRet (mMake x_Cheapest 5 f_Cheapest_init (mCons (mIx (mVar 1) (mC (.int 0))) (mCons (mIx (mVar 1) (mC (.int 1))) (mCons (mIx (mVar 1) (mC (.int 2))) (mCons (mIx (mVar 1) (mC (.int 3))) mNil))))))
   mNx)
  (mSeq (mIfS (mB (mBin (copD .Eq) (mVar 0) (mC (.int 7))))
   (mRet (mMake x_NoScheme 2 f_NoScheme_init (mCons (mIx (mVar 1) (mC (.int 0))) mNil)))
   mNx)
  (mSeq (mIfS (mB (mBin (copD .Eq) (mVar 0) (mC (.int 8))))
   (mRet (mMake x_Safe 2 f_Safe_init (mCons (mIx (mVar 1) (mC (.int 0))) mNil)))
   mNx)
  (mSeq (mIfS (mB (mBin (copD .Eq) (mVar 0) (mC (.int 9))))
   (mRet (mMake x_Broken 2 f_Broken_init (mCons (mIx (mVar 1) (mC (.int 0))) mNil)))
   mNx)
  (mSeq (mIfS (mB (mBin (copD .Eq) (mVar 0) (mC (.int 10))))
   (mRet (mMake x_Fit 2 f_Fit_init (mCons (mIx (mVar 1) (mC (.int 0))) mNil)))
   mNx)
  (mSeq (mIfS (mB (mBin (copD .Eq) (mVar 0) (mC (.int 11))))
   (mRet (mMake x_NoFit 2 f_NoFit_init (mCons (mIx (mVar 1) (mC (.int 0))) mNil)))
   mNx)
  (mRet (mCallF 2 f_law_make_three (mCons (mVar 0) (mCons (mVar 1) mNil))))))))))
def f_law_make_two : MF := mFun 2 m_law_make_two
theorem S_law_make_two : FnScope ["_law_at", "_law_parts_here"] ["_law_at", "_law_parts_here"] (defScope t_law_make_two) := ⟨rfl, rfl, rfl, by decide +kernel, rfl, by decide +kernel, by decide +kernel⟩
def m_law_make : MS := (mSeq (mIfS (mB (mBin (copD .Eq) (mVar 0) (mC (.int 0))))
   (mRet (mMake x_Oldest 4 f_Oldest_init (mCons (mIx (mVar 1) (mC (.int 0))) (mCons (mIx (mVar 1) (mC (.int 1))) (mCons (mIx (mVar 1) (mC (.int 2))) mNil)))))
   mNx)
  (mSeq (mIfS (mB (mBin (copD .Eq) (mVar 0) (mC (.int 1))))
   (mRet (mMake x_Aging 4 f_Aging_init (mCons (mIx (mVar 1) (mC (.int 0))) (mCons (mIx (mVar 1) (mC (.int 1))) (mCons (mIx (mVar 1) (mC (.int 2))) mNil)))))
   mNx)
  (mSeq (mIfS (mB (mBin (copD .Eq) (mVar 0) (mC (.int 2))))
   (mRet (mMake x_Alike 2 f_Alike_init (mCons (mIx (mVar 1) (mC (.int 0))) mNil)))
   mNx)
  (mSeq (mIfS (mB (mBin (copD .Eq) (mVar 0) (mC (.int 3))))
   (mRet (mMake x_Parted 2 f_Parted_init (mCons (mIx (mVar 1) (mC (.int 0))) mNil)))
   mNx)
  (mSeq (mIfS (mB (mBin (copD .Eq) (mVar 0) (mC (.int 4))))
   (mRet (mMake x_Linked 2 f_Linked_init (mCons (mIx (mVar 1) (mC (.int 0))) mNil)))
   mNx)
  (mSeq (mIfS (mB (mBin (copD .Eq) (mVar 0) (mC (.int 5))))
   (mRet (mMake x_Unlinked 2 f_Unlinked_init (mCons (mIx (mVar 1) (mC (.int 0))) mNil)))
   mNx)
  (mRet (mCallF 2 f_law_make_two (mCons (mVar 0) (mCons (mVar 1) mNil))))))))))
def f_law_make : MF := mFun 2 m_law_make
theorem S_law_make : FnScope ["_law_at", "_law_parts_here"] ["_law_at", "_law_parts_here"] (defScope t_law_make) := ⟨rfl, rfl, rfl, by decide +kernel, rfl, by decide +kernel, by decide +kernel⟩
def m_Oldest_three : MS := (mRet (mTup (mCons (mAttr (okA cs) x_number (mVar 0)) (mCons (mAttr (okA cs) x_course (mVar 0)) (mCons (mAttr (okA cs) x_heights (mVar 0)) mNil)))))
def f_Oldest_three : MF := mFun 1 m_Oldest_three
theorem S_Oldest_three : FnScope ["self"] ["self"] (defScope t_Oldest_three) := ⟨rfl, rfl, rfl, by decide +kernel, rfl, by decide +kernel, by decide +kernel⟩
def m_Aging_three : MS := (mRet (mTup (mCons (mAttr (okA cs) x_ahead (mVar 0)) (mCons (mAttr (okA cs) x_ring (mVar 0)) (mCons (mAttr (okA cs) x_rest (mVar 0)) mNil)))))
def f_Aging_three : MF := mFun 1 m_Aging_three
theorem S_Aging_three : FnScope ["self"] ["self"] (defScope t_Aging_three) := ⟨rfl, rfl, rfl, by decide +kernel, rfl, by decide +kernel, by decide +kernel⟩
def m_Widest_three : MS := (mRet (mTup (mCons (mAttr (okA cs) x_number (mVar 0)) (mCons (mAttr (okA cs) x_places (mVar 0)) (mCons (mAttr (okA cs) x_course (mVar 0)) mNil)))))
def f_Widest_three : MF := mFun 1 m_Widest_three
theorem S_Widest_three : FnScope ["self"] ["self"] (defScope t_Widest_three) := ⟨rfl, rfl, rfl, by decide +kernel, rfl, by decide +kernel, by decide +kernel⟩
def m_Oldest_eq : MS := (mRet (mAndV (mCall (isiD (kitL cs bs)) (mCons (mVar 1) (mCons (mC (.gl x_Oldest)) mNil))) (mGcE (mBin (copX .Eq) (mMethF0 (tblL [(x_Oldest, 1, f_Oldest_three), (x_Aging, 1, f_Aging_three), (x_Widest, 1, f_Widest_three)]) x_three (mVar 0)) (mMethF0 (tblL [(x_Oldest, 1, f_Oldest_three), (x_Aging, 1, f_Aging_three), (x_Widest, 1, f_Widest_three)]) x_three (mVar 1))))))
def f_Oldest_eq : MF := mFun 2 m_Oldest_eq
theorem S_Oldest_eq : FnScope ["self", "other"] ["self", "other"] (defScope t_Oldest_eq) := ⟨rfl, rfl, rfl, by decide +kernel, rfl, by decide +kernel, by decide +kernel⟩
def m_Aging_eq : MS := (mRet (mAndV (mCall (isiD (kitL cs bs)) (mCons (mVar 1) (mCons (mC (.gl x_Aging)) mNil))) (mGcE (mBin (copX .Eq) (mMethF0 (tblL [(x_Oldest, 1, f_Oldest_three), (x_Aging, 1, f_Aging_three), (x_Widest, 1, f_Widest_three)]) x_three (mVar 0)) (mMethF0 (tblL [(x_Oldest, 1, f_Oldest_three), (x_Aging, 1, f_Aging_three), (x_Widest, 1, f_Widest_three)]) x_three (mVar 1))))))
def f_Aging_eq : MF := mFun 2 m_Aging_eq
theorem S_Aging_eq : FnScope ["self", "other"] ["self", "other"] (defScope t_Aging_eq) := ⟨rfl, rfl, rfl, by decide +kernel, rfl, by decide +kernel, by decide +kernel⟩
def m_Safe_eq : MS := (mRet (mAndV (mCall (isiD (kitL cs bs)) (mCons (mVar 1) (mCons (mC (.gl x_Safe)) mNil))) (mBin (copX .Eq) (mAttr (okA cs) x_states (mVar 0)) (mAttr (okA cs) x_states (mVar 1)))))
def f_Safe_eq : MF := mFun 2 m_Safe_eq
theorem S_Safe_eq : FnScope ["self", "other"] ["self", "other"] (defScope t_Safe_eq) := ⟨rfl, rfl, rfl, by decide +kernel, rfl, by decide +kernel, by decide +kernel⟩
def m_Broken_eq : MS := (mRet (mAndV (mCall (isiD (kitL cs bs)) (mCons (mVar 1) (mCons (mC (.gl x_Broken)) mNil))) (mBin (copX .Eq) (mAttr (okA cs) x_course (mVar 0)) (mAttr (okA cs) x_course (mVar 1)))))
def f_Broken_eq : MF := mFun 2 m_Broken_eq
theorem S_Broken_eq : FnScope ["self", "other"] ["self", "other"] (defScope t_Broken_eq) := ⟨rfl, rfl, rfl, by decide +kernel, rfl, by decide +kernel, by decide +kernel⟩
def m_Alike_eq : MS := (mRet (mAndV (mCall (isiD (kitL cs bs)) (mCons (mVar 1) (mCons (mC (.gl x_Alike)) mNil))) (mBin (copX .Eq) (mAttr (okA cs) x_pairs (mVar 0)) (mAttr (okA cs) x_pairs (mVar 1)))))
def f_Alike_eq : MF := mFun 2 m_Alike_eq
theorem S_Alike_eq : FnScope ["self", "other"] ["self", "other"] (defScope t_Alike_eq) := ⟨rfl, rfl, rfl, by decide +kernel, rfl, by decide +kernel, by decide +kernel⟩
def m_Parted_eq : MS := (mRet (mAndV (mCall (isiD (kitL cs bs)) (mCons (mVar 1) (mCons (mC (.gl x_Parted)) mNil))) (mBin (copX .Eq) (mAttr (okA cs) x_course (mVar 0)) (mAttr (okA cs) x_course (mVar 1)))))
def f_Parted_eq : MF := mFun 2 m_Parted_eq
theorem S_Parted_eq : FnScope ["self", "other"] ["self", "other"] (defScope t_Parted_eq) := ⟨rfl, rfl, rfl, by decide +kernel, rfl, by decide +kernel, by decide +kernel⟩
def m_Linked_eq : MS := (mRet (mAndV (mCall (isiD (kitL cs bs)) (mCons (mVar 1) (mCons (mC (.gl x_Linked)) mNil))) (mBin (copX .Eq) (mAttr (okA cs) x_states (mVar 0)) (mAttr (okA cs) x_states (mVar 1)))))
def f_Linked_eq : MF := mFun 2 m_Linked_eq
theorem S_Linked_eq : FnScope ["self", "other"] ["self", "other"] (defScope t_Linked_eq) := ⟨rfl, rfl, rfl, by decide +kernel, rfl, by decide +kernel, by decide +kernel⟩
def m_Unlinked_eq : MS := (mRet (mAndV (mCall (isiD (kitL cs bs)) (mCons (mVar 1) (mCons (mC (.gl x_Unlinked)) mNil))) (mBin (copX .Eq) (mAttr (okA cs) x_course (mVar 0)) (mAttr (okA cs) x_course (mVar 1)))))
def f_Unlinked_eq : MF := mFun 2 m_Unlinked_eq
theorem S_Unlinked_eq : FnScope ["self", "other"] ["self", "other"] (defScope t_Unlinked_eq) := ⟨rfl, rfl, rfl, by decide +kernel, rfl, by decide +kernel, by decide +kernel⟩
def m_Cheapest_four : MS := (mRet (mTup (mCons (mAttr (okA cs) x_choice (mVar 0)) (mCons (mAttr (okA cs) x_states (mVar 0)) (mCons (mAttr (okA cs) x_heights (mVar 0)) (mCons (mAttr (okA cs) x_against (mVar 0)) mNil))))))
def f_Cheapest_four : MF := mFun 1 m_Cheapest_four
theorem S_Cheapest_four : FnScope ["self"] ["self"] (defScope t_Cheapest_four) := ⟨rfl, rfl, rfl, by decide +kernel, rfl, by decide +kernel, by decide +kernel⟩
def m_Cheapest_eq : MS := (mRet (mAndV (mCall (isiD (kitL cs bs)) (mCons (mVar 1) (mCons (mC (.gl x_Cheapest)) mNil))) (mGcE (mBin (copX .Eq) (mMethF0 (tblL [(x_Cheapest, 1, f_Cheapest_four)]) x_four (mVar 0)) (mMethF0 (tblL [(x_Cheapest, 1, f_Cheapest_four)]) x_four (mVar 1))))))
def f_Cheapest_eq : MF := mFun 2 m_Cheapest_eq
theorem S_Cheapest_eq : FnScope ["self", "other"] ["self", "other"] (defScope t_Cheapest_eq) := ⟨rfl, rfl, rfl, by decide +kernel, rfl, by decide +kernel, by decide +kernel⟩
def m_NoScheme_eq : MS := (mRet (mAndV (mCall (isiD (kitL cs bs)) (mCons (mVar 1) (mCons (mC (.gl x_NoScheme)) mNil))) (mBin (copX .Eq) (mAttr (okA cs) x_against (mVar 0)) (mAttr (okA cs) x_against (mVar 1)))))
def f_NoScheme_eq : MF := mFun 2 m_NoScheme_eq
theorem S_NoScheme_eq : FnScope ["self", "other"] ["self", "other"] (defScope t_NoScheme_eq) := ⟨rfl, rfl, rfl, by decide +kernel, rfl, by decide +kernel, by decide +kernel⟩
def m_Fit_eq : MS := (mRet (mAndV (mCall (isiD (kitL cs bs)) (mCons (mVar 1) (mCons (mC (.gl x_Fit)) mNil))) (mBin (copX .Eq) (mAttr (okA cs) x_course (mVar 0)) (mAttr (okA cs) x_course (mVar 1)))))
def f_Fit_eq : MF := mFun 2 m_Fit_eq
theorem S_Fit_eq : FnScope ["self", "other"] ["self", "other"] (defScope t_Fit_eq) := ⟨rfl, rfl, rfl, by decide +kernel, rfl, by decide +kernel, by decide +kernel⟩
def m_NoFit_eq : MS := (mRet (mAndV (mCall (isiD (kitL cs bs)) (mCons (mVar 1) (mCons (mC (.gl x_NoFit)) mNil))) (mBin (copX .Eq) (mAttr (okA cs) x_layers (mVar 0)) (mAttr (okA cs) x_layers (mVar 1)))))
def f_NoFit_eq : MF := mFun 2 m_NoFit_eq
theorem S_NoFit_eq : FnScope ["self", "other"] ["self", "other"] (defScope t_NoFit_eq) := ⟨rfl, rfl, rfl, by decide +kernel, rfl, by decide +kernel, by decide +kernel⟩
def m_Widest_eq : MS := (mRet (mAndV (mCall (isiD (kitL cs bs)) (mCons (mVar 1) (mCons (mC (.gl x_Widest)) mNil))) (mGcE (mBin (copX .Eq) (mMethF0 (tblL [(x_Oldest, 1, f_Oldest_three), (x_Aging, 1, f_Aging_three), (x_Widest, 1, f_Widest_three)]) x_three (mVar 0)) (mMethF0 (tblL [(x_Oldest, 1, f_Oldest_three), (x_Aging, 1, f_Aging_three), (x_Widest, 1, f_Widest_three)]) x_three (mVar 1))))))
def f_Widest_eq : MF := mFun 2 m_Widest_eq
theorem S_Widest_eq : FnScope ["self", "other"] ["self", "other"] (defScope t_Widest_eq) := ⟨rfl, rfl, rfl, by decide +kernel, rfl, by decide +kernel, by decide +kernel⟩
def eqs : List (Nat × MF) := [(x_Oldest, f_Oldest_eq), (x_Aging, f_Aging_eq), (x_Safe, f_Safe_eq), (x_Broken, f_Broken_eq), (x_Alike, f_Alike_eq), (x_Parted, f_Parted_eq), (x_Linked, f_Linked_eq), (x_Unlinked, f_Unlinked_eq), (x_Cheapest, f_Cheapest_eq), (x_NoScheme, f_NoScheme_eq), (x_Fit, f_Fit_eq), (x_NoFit, f_NoFit_eq), (x_Widest, f_Widest_eq)]
def m_law : MS := (mSeq (mFor fu (mRng (mCons (mC (.int 13)) mNil)) (mgName 1)
   (mGcS [1, 2, 3, 4, 5, 6] (mSeq (mAsg (mCallF 1 f_law_fresh (mCons (mVar 1) mNil)) (mgName 2))
  (mSeq (mAsg (mCallF 2 f_law_make (mCons (mVar 1) (mCons (mVar 2) mNil))) (mgName 3))
  (mSeq (mFor fu (mWalk (mVar 2)) (mgName 4)
   (mIfS (mB (mCall (isiD (kitL cs bs)) (mCons (mVar 4) (mCons (mTup (mCons (mC (.gl x_dict)) (mCons (mC (.gl x_list)) mNil))) mNil))))
   (mDrop (mMeth Mt.clear.has Mt.clear.run (mVar 4) mNil))
   mNx))
  (mSeq (mIfS (mGcT (mB (mBin (copE (eqT eqs) cs .NotEq) (mVar 3) (mCallF 2 f_law_make (mCons (mVar 1) (mCons (mCallF 1 f_law_fresh (mCons (mVar 1) mNil)) mNil))))))
   (mRet (mC (.bl false)))
   mNx)
  (mSeq (mFor fu (mRng (mCons (mCall lenD (mCons (mVar 2) mNil)) mNil)) (mgName 5)
   (mGcS [5, 6] (mSeq (mAsg (mCallF 1 f_law_fresh (mCons (mVar 1) mNil)) (mgName 6))
  (mSeq (mSub (mVar 6) (mVar 5) (mIx (mIx (mCallF 1 f_law_parts (mCons (mVar 1) mNil)) (mVar 5)) (mC (.int 1))))
  (mIfS (mGcT (mB (mBin (copE (eqT eqs) cs .Eq) (mVar 3) (mCallF 2 f_law_make (mCons (mVar 1) (mCons (mVar 6) mNil))))))
   (mRet (mC (.bl false)))
   mNx)))))
  (mIfS (mGcT (mB (mBin (copD .NotEq) (mMeth Mt.count.has Mt.count.run (mLc fu [7] (mRng (mCons (mC (.int 13)) mNil)) (mgName 7) mYes (mGcE (mBin (copE (eqT eqs) cs .Eq) (mVar 3) (mCallF 2 f_law_make (mCons (mVar 7) (mCons (mCallF 1 f_law_fresh (mCons (mVar 7) mNil)) mNil)))))) (mCons (mC (.bl true)) mNil)) (mC (.int 1)))))
   (mRet (mC (.bl false)))
   mNx))))))))
  (mRet (mCall (isiD (kitL cs bs)) (mCons (mVar 0) (mCons (mC (.gl x_list)) mNil)))))
def f_law : MF := mFun 8 m_law
theorem S_law : FnScope ["_law_script", "_law_at", "_law_parts_here", "_law_mine", "_law_part", "_law_spot", "_law_late", "_law_by"] ["_law_script"] (defScope t_law) := ⟨rfl, rfl, rfl, by decide +kernel, rfl, by decide +kernel, by decide +kernel⟩
section
variable {P : Program} {w : World} {K : PySem.W.Frag} {mg : Str → Option Value} {base : Heap}
theorem ok_law_parts_three (C : Ct K mg) : FnG P w K mg base 1 (He.ga K "_law_parts_three") 1 f_law_parts_three := by
  obtain ⟨fd, F⟩ := C.defs 0 d_law_parts_three rfl
  refine fn_D (k := 0) F S_law_parts_three (fun _ _ _ _ _ _ us hl => match us, hl with | [_], _ => rfl) fun cdv A outer s H E hr => ?_
  refine sss_one ?_
  refine ss_ret ?_
  refine se_lst ?_
  refine sa_cons ?_ ?_ ?_
  · refine se_tup ?_
    refine sa_cons ?_ ?_ ?_
    · exact se_int
    · refine sa_cons ?_ ?_ ?_
      · exact se_int
      · exact sa_nil
      · rfl
    · rfl
  · refine sa_cons ?_ ?_ ?_
    · refine se_tup ?_
      refine sa_cons ?_ ?_ ?_
      · refine se_lst ?_
        refine sa_cons ?_ ?_ ?_
        · refine se_tup ?_
          refine sa_cons ?_ ?_ ?_
          · refine se_tup ?_
            refine sa_cons ?_ ?_ ?_
            · exact se_int
            · refine sa_cons ?_ ?_ ?_
              · exact se_int
              · exact sa_nil
              · rfl
            · rfl
          · refine sa_cons ?_ ?_ ?_
            · exact se_int
            · exact sa_nil
            · rfl
          · rfl
        · exact sa_nil
        · rfl
      · refine sa_cons ?_ ?_ ?_
        · refine se_lst ?_
          refine sa_cons ?_ ?_ ?_
          · refine se_tup ?_
            refine sa_cons ?_ ?_ ?_
            · refine se_tup ?_
              refine sa_cons ?_ ?_ ?_
              · exact se_int
              · refine sa_cons ?_ ?_ ?_
                · exact se_int
                · exact sa_nil
                · rfl
              · rfl
            · refine sa_cons ?_ ?_ ?_
              · exact se_int
              · exact sa_nil
              · rfl
            · rfl
          · exact sa_nil
          · rfl
        · exact sa_nil
        · rfl
      · rfl
    · refine sa_cons ?_ ?_ ?_
      · refine se_tup ?_
        refine sa_cons ?_ ?_ ?_
        · refine se_tup ?_
          refine sa_cons ?_ ?_ ?_
          · refine se_tup ?_
            refine sa_cons ?_ ?_ ?_
            · exact se_str k_swap
            · exact sa_nil
            · rfl
          · exact sa_nil
          · rfl
        · refine sa_cons ?_ ?_ ?_
          · refine se_tup ?_
            refine sa_cons ?_ ?_ ?_
            · refine se_tup ?_
              refine sa_cons ?_ ?_ ?_
              · exact se_str k_move
              · exact sa_nil
              · rfl
            · exact sa_nil
            · rfl
          · exact sa_nil
          · rfl
        · rfl
      · exact sa_nil
      · rfl
    · rfl
  · rfl
theorem ok_law_parts_two (C : Ct K mg) : FnG P w K mg base 2 (He.ga K "_law_parts_two") 1 f_law_parts_two := by
  obtain ⟨fd, F⟩ := C.defs 1 d_law_parts_two rfl
  refine fn_D (k := 1) F S_law_parts_two (fun _ _ _ _ _ _ us hl => match us, hl with | [_], _ => rfl) fun cdv A outer s H E hr => ?_
  refine sss_cons ?_ ?_
  · refine ss_if ?_ ?_ ?_
    · refine st_cmp (os_cop (ru14 hr) .Eq) ?_ ?_ ?_
      · refine se_var (i := 0) ?_ ?_ ?_ ?_
        · rfl
        · exact Or.inl rfl
        · rfl
        · rfl
      · exact se_int
      · rfl
    · refine sss_one ?_
      refine ss_ret ?_
      refine se_lst ?_
      refine sa_cons ?_ ?_ ?_
      · refine se_tup ?_
        refine sa_cons ?_ ?_ ?_
        · refine se_tup ?_
          refine sa_cons ?_ ?_ ?_
          · exact se_int
          · refine sa_cons ?_ ?_ ?_
            · exact se_str k_a
            · refine sa_cons ?_ ?_ ?_
              · exact se_str k_b
              · refine sa_cons ?_ ?_ ?_
                · exact se_str k_c
                · refine sa_cons ?_ ?_ ?_
                  · exact se_str k_d
                  · exact sa_nil
                  · rfl
                · rfl
              · rfl
            · rfl
          · rfl
        · refine sa_cons ?_ ?_ ?_
          · refine se_tup ?_
            refine sa_cons ?_ ?_ ?_
            · exact se_int
            · refine sa_cons ?_ ?_ ?_
              · exact se_str k_a
              · refine sa_cons ?_ ?_ ?_
                · exact se_str k_b
                · refine sa_cons ?_ ?_ ?_
                  · exact se_str k_c
                  · refine sa_cons ?_ ?_ ?_
                    · exact se_str k_d
                    · exact sa_nil
                    · rfl
                  · rfl
                · rfl
              · rfl
            · rfl
          · exact sa_nil
          · rfl
        · rfl
      · refine sa_cons ?_ ?_ ?_
        · refine se_tup ?_
          refine sa_cons ?_ ?_ ?_
          · refine se_lst ?_
            refine sa_cons ?_ ?_ ?_
            · refine se_tup ?_
              refine sa_cons ?_ ?_ ?_
              · exact se_int
              · refine sa_cons ?_ ?_ ?_
                · exact se_int
                · exact sa_nil
                · rfl
              · rfl
            · exact sa_nil
            · rfl
          · refine sa_cons ?_ ?_ ?_
            · refine se_lst ?_
              refine sa_cons ?_ ?_ ?_
              · refine se_tup ?_
                refine sa_cons ?_ ?_ ?_
                · exact se_int
                · refine sa_cons ?_ ?_ ?_
                  · exact se_int
                  · exact sa_nil
                  · rfl
                · rfl
              · exact sa_nil
              · rfl
            · exact sa_nil
            · rfl
          · rfl
        · refine sa_cons ?_ ?_ ?_
          · refine se_tup ?_
            refine sa_cons ?_ ?_ ?_
            · refine se_callTy (cs_dict rfl (ru14 hr)) ?_ (C.free 1 _ rfl) boot_dict ?_ ?_ ?_ ?_ ?_
              · rfl
              · refine sa_cons ?_ ?_ ?_
                · refine se_lst ?_
                  refine sa_cons ?_ ?_ ?_
                  · refine se_tup ?_
                    refine sa_cons ?_ ?_ ?_
                    · refine se_tup ?_
                      refine sa_cons ?_ ?_ ?_
                      · exact se_int
                      · refine sa_cons ?_ ?_ ?_
                        · exact se_int
                        · exact sa_nil
                        · rfl
                      · rfl
                    · refine sa_cons ?_ ?_ ?_
                      · exact se_int
                      · exact sa_nil
                      · rfl
                    · rfl
                  · exact sa_nil
                  · rfl
                · exact sa_nil
                · rfl
              · decide
              · rfl
              · rfl
              · rfl
            · refine sa_cons ?_ ?_ ?_
              · refine se_callTy (cs_dict rfl (ru14 hr)) ?_ (C.free 1 _ rfl) boot_dict ?_ ?_ ?_ ?_ ?_
                · rfl
                · refine sa_cons ?_ ?_ ?_
                  · refine se_lst ?_
                    refine sa_cons ?_ ?_ ?_
                    · refine se_tup ?_
                      refine sa_cons ?_ ?_ ?_
                      · refine se_tup ?_
                        refine sa_cons ?_ ?_ ?_
                        · exact se_int
                        · refine sa_cons ?_ ?_ ?_
                          · exact se_int
                          · exact sa_nil
                          · rfl
                        · rfl
                      · refine sa_cons ?_ ?_ ?_
                        · exact se_int
                        · exact sa_nil
                        · rfl
                      · rfl
                    · exact sa_nil
                    · rfl
                  · exact sa_nil
                  · rfl
                · decide
                · rfl
                · rfl
                · rfl
              · exact sa_nil
              · rfl
            · rfl
          · refine sa_cons ?_ ?_ ?_
            · refine se_tup ?_
              refine sa_cons ?_ ?_ ?_
              · refine se_callTy (cs_dict rfl (ru14 hr)) ?_ (C.free 1 _ rfl) boot_dict ?_ ?_ ?_ ?_ ?_
                · rfl
                · refine sa_cons ?_ ?_ ?_
                  · refine se_lst ?_
                    refine sa_cons ?_ ?_ ?_
                    · refine se_tup ?_
                      refine sa_cons ?_ ?_ ?_
                      · refine se_tup ?_
                        refine sa_cons ?_ ?_ ?_
                        · exact se_int
                        · refine sa_cons ?_ ?_ ?_
                          · exact se_str k_a
                          · refine sa_cons ?_ ?_ ?_
                            · exact se_str k_b
                            · refine sa_cons ?_ ?_ ?_
                              · exact se_str k_c
                              · refine sa_cons ?_ ?_ ?_
                                · exact se_str k_d
                                · exact sa_nil
                                · rfl
                              · rfl
                            · rfl
                          · rfl
                        · rfl
                      · refine sa_cons ?_ ?_ ?_
                        · refine se_tup ?_
                          refine sa_cons ?_ ?_ ?_
                          · exact se_str k_old
                          · refine sa_cons ?_ ?_ ?_
                            · refine se_tup ?_
                              refine sa_cons ?_ ?_ ?_
                              · refine se_tup ?_
                                refine sa_cons ?_ ?_ ?_
                                · exact se_str k_swap
                                · exact sa_nil
                                · rfl
                              · exact sa_nil
                              · rfl
                            · exact sa_nil
                            · rfl
                          · rfl
                        · exact sa_nil
                        · rfl
                      · rfl
                    · exact sa_nil
                    · rfl
                  · exact sa_nil
                  · rfl
                · decide
                · rfl
                · rfl
                · rfl
              · refine sa_cons ?_ ?_ ?_
                · refine se_callTy (cs_dict rfl (ru14 hr)) ?_ (C.free 1 _ rfl) boot_dict ?_ ?_ ?_ ?_ ?_
                  · rfl
                  · refine sa_cons ?_ ?_ ?_
                    · refine se_lst ?_
                      refine sa_cons ?_ ?_ ?_
                      · refine se_tup ?_
                        refine sa_cons ?_ ?_ ?_
                        · refine se_tup ?_
                          refine sa_cons ?_ ?_ ?_
                          · exact se_int
                          · refine sa_cons ?_ ?_ ?_
                            · exact se_str k_a
                            · refine sa_cons ?_ ?_ ?_
                              · exact se_str k_b
                              · refine sa_cons ?_ ?_ ?_
                                · exact se_str k_c
                                · refine sa_cons ?_ ?_ ?_
                                  · exact se_str k_d
                                  · exact sa_nil
                                  · rfl
                                · rfl
                              · rfl
                            · rfl
                          · rfl
                        · refine sa_cons ?_ ?_ ?_
                          · refine se_tup ?_
                            refine sa_cons ?_ ?_ ?_
                            · exact se_str k_old
                            · refine sa_cons ?_ ?_ ?_
                              · refine se_tup ?_
                                refine sa_cons ?_ ?_ ?_
                                · refine se_tup ?_
                                  refine sa_cons ?_ ?_ ?_
                                  · exact se_str k_move
                                  · exact sa_nil
                                  · rfl
                                · exact sa_nil
                                · rfl
                              · exact sa_nil
                              · rfl
                            · rfl
                          · exact sa_nil
                          · rfl
                        · rfl
                      · exact sa_nil
                      · rfl
                    · exact sa_nil
                    · rfl
                  · decide
                  · rfl
                  · rfl
                  · rfl
                · exact sa_nil
                · rfl
              · rfl
            · exact sa_nil
            · rfl
          · rfl
        · rfl
      · rfl
    · exact sss_nil
  · refine sss_cons ?_ ?_
    · refine ss_if ?_ ?_ ?_
      · refine st_cmp (os_cop (ru14 hr) .Eq) ?_ ?_ ?_
        · refine se_var (i := 0) ?_ ?_ ?_ ?_
          · rfl
          · exact Or.inl rfl
          · rfl
          · rfl
        · exact se_int
        · rfl
      · refine sss_one ?_
        refine ss_ret ?_
        refine se_lst ?_
        refine sa_cons ?_ ?_ ?_
        · refine se_tup ?_
          refine sa_cons ?_ ?_ ?_
          · refine se_callTy (cs_dict rfl (ru14 hr)) ?_ (C.free 1 _ rfl) boot_dict ?_ ?_ ?_ ?_ ?_
            · rfl
            · refine sa_cons ?_ ?_ ?_
              · refine se_lst ?_
                refine sa_cons ?_ ?_ ?_
                · refine se_tup ?_
                  refine sa_cons ?_ ?_ ?_
                  · refine se_tup ?_
                    refine sa_cons ?_ ?_ ?_
                    · exact se_int
                    · refine sa_cons ?_ ?_ ?_
                      · exact se_str k_a
                      · refine sa_cons ?_ ?_ ?_
                        · exact se_str k_b
                        · refine sa_cons ?_ ?_ ?_
                          · exact se_str k_c
                          · refine sa_cons ?_ ?_ ?_
                            · exact se_str k_d
                            · exact sa_nil
                            · rfl
                          · rfl
                        · rfl
                      · rfl
                    · rfl
                  · refine sa_cons ?_ ?_ ?_
                    · refine se_tup ?_
                      refine sa_cons ?_ ?_ ?_
                      · exact se_str k_old
                      · refine sa_cons ?_ ?_ ?_
                        · refine se_tup ?_
                          refine sa_cons ?_ ?_ ?_
                          · refine se_tup ?_
                            refine sa_cons ?_ ?_ ?_
                            · exact se_str k_swap
                            · exact sa_nil
                            · rfl
                          · exact sa_nil
                          · rfl
                        · exact sa_nil
                        · rfl
                      · rfl
                    · exact sa_nil
                    · rfl
                  · rfl
                · exact sa_nil
                · rfl
              · exact sa_nil
              · rfl
            · decide
            · rfl
            · rfl
            · rfl
          · refine sa_cons ?_ ?_ ?_
            · refine se_callTy (cs_dict rfl (ru14 hr)) ?_ (C.free 1 _ rfl) boot_dict ?_ ?_ ?_ ?_ ?_
              · rfl
              · refine sa_cons ?_ ?_ ?_
                · refine se_lst ?_
                  refine sa_cons ?_ ?_ ?_
                  · refine se_tup ?_
                    refine sa_cons ?_ ?_ ?_
                    · refine se_tup ?_
                      refine sa_cons ?_ ?_ ?_
                      · exact se_int
                      · refine sa_cons ?_ ?_ ?_
                        · exact se_str k_a
                        · refine sa_cons ?_ ?_ ?_
                          · exact se_str k_b
                          · refine sa_cons ?_ ?_ ?_
                            · exact se_str k_c
                            · refine sa_cons ?_ ?_ ?_
                              · exact se_str k_d
                              · exact sa_nil
                              · rfl
                            · rfl
                          · rfl
                        · rfl
                      · rfl
                    · refine sa_cons ?_ ?_ ?_
                      · refine se_tup ?_
                        refine sa_cons ?_ ?_ ?_
                        · exact se_str k_old
                        · refine sa_cons ?_ ?_ ?_
                          · refine se_tup ?_
                            refine sa_cons ?_ ?_ ?_
                            · refine se_tup ?_
                              refine sa_cons ?_ ?_ ?_
                              · exact se_str k_move
                              · exact sa_nil
                              · rfl
                            · exact sa_nil
                            · rfl
                          · exact sa_nil
                          · rfl
                        · rfl
                      · exact sa_nil
                      · rfl
                    · rfl
                  · exact sa_nil
                  · rfl
                · exact sa_nil
                · rfl
              · decide
              · rfl
              · rfl
              · rfl
            · exact sa_nil
            · rfl
          · rfl
        · exact sa_nil
        · rfl
      · exact sss_nil
    · refine sss_cons ?_ ?_
      · refine ss_if ?_ ?_ ?_
        · refine st_cmp (os_cop (ru14 hr) .Eq) ?_ ?_ ?_
          · refine se_var (i := 0) ?_ ?_ ?_ ?_
            · rfl
            · exact Or.inl rfl
            · rfl
            · rfl
          · exact se_int
          · rfl
        · refine sss_one ?_
          refine ss_ret ?_
          refine se_lst ?_
          refine sa_cons ?_ ?_ ?_
          · refine se_tup ?_
            refine sa_cons ?_ ?_ ?_
            · refine se_lst ?_
              refine sa_cons ?_ ?_ ?_
              · refine se_tup ?_
                refine sa_cons ?_ ?_ ?_
                · exact se_int
                · refine sa_cons ?_ ?_ ?_
                  · exact se_int
                  · exact sa_nil
                  · rfl
                · rfl
              · exact sa_nil
              · rfl
            · refine sa_cons ?_ ?_ ?_
              · refine se_lst ?_
                refine sa_cons ?_ ?_ ?_
                · refine se_tup ?_
                  refine sa_cons ?_ ?_ ?_
                  · exact se_int
                  · refine sa_cons ?_ ?_ ?_
                    · exact se_int
                    · exact sa_nil
                    · rfl
                  · rfl
                · exact sa_nil
                · rfl
              · exact sa_nil
              · rfl
            · rfl
          · exact sa_nil
          · rfl
        · exact sss_nil
      · refine sss_cons ?_ ?_
        · refine ss_if ?_ ?_ ?_
          · refine st_cmp (os_cop (ru14 hr) .Eq) ?_ ?_ ?_
            · refine se_var (i := 0) ?_ ?_ ?_ ?_
              · rfl
              · exact Or.inl rfl
              · rfl
              · rfl
            · exact se_int
            · rfl
          · refine sss_one ?_
            refine ss_ret ?_
            refine se_lst ?_
            refine sa_cons ?_ ?_ ?_
            · refine se_tup ?_
              refine sa_cons ?_ ?_ ?_
              · refine se_tup ?_
                refine sa_cons ?_ ?_ ?_
                · refine se_tup ?_
                  refine sa_cons ?_ ?_ ?_
                  · exact se_str k_swap
                  · exact sa_nil
                  · rfl
                · exact sa_nil
                · rfl
              · refine sa_cons ?_ ?_ ?_
                · refine se_tup ?_
                  refine sa_cons ?_ ?_ ?_
                  · refine se_tup ?_
                    refine sa_cons ?_ ?_ ?_
                    · exact se_str k_move
                    · exact sa_nil
                    · rfl
                  · exact sa_nil
                  · rfl
                · exact sa_nil
                · rfl
              · rfl
            · exact sa_nil
            · rfl
          · exact sss_nil
        · refine sss_cons ?_ ?_
          · refine ss_if ?_ ?_ ?_
            · refine st_cmp (os_cop (ru14 hr) .Eq) ?_ ?_ ?_
              · refine se_var (i := 0) ?_ ?_ ?_ ?_
                · rfl
                · exact Or.inl rfl
                · rfl
                · rfl
              · exact se_int
              · rfl
            · refine sss_one ?_
              refine ss_ret ?_
              refine se_lst ?_
              refine sa_cons ?_ ?_ ?_
              · refine se_tup ?_
                refine sa_cons ?_ ?_ ?_
                · refine se_tup ?_
                  refine sa_cons ?_ ?_ ?_
                  · refine se_tup ?_
                    refine sa_cons ?_ ?_ ?_
                    · exact se_str k_swap
                    · exact sa_nil
                    · rfl
                  · exact sa_nil
                  · rfl
                · refine sa_cons ?_ ?_ ?_
                  · refine se_tup ?_
                    refine sa_cons ?_ ?_ ?_
                    · refine se_tup ?_
                      refine sa_cons ?_ ?_ ?_
                      · exact se_str k_move
                      · exact sa_nil
                      · rfl
                    · exact sa_nil
                    · rfl
                  · exact sa_nil
                  · rfl
                · rfl
              · exact sa_nil
              · rfl
            · exact sss_nil
          · refine sss_cons ?_ ?_
            · refine ss_if ?_ ?_ ?_
              · refine st_cmp (os_cop (ru14 hr) .Eq) ?_ ?_ ?_
                · refine se_var (i := 0) ?_ ?_ ?_ ?_
                  · rfl
                  · exact Or.inl rfl
                  · rfl
                  · rfl
                · exact se_int
                · rfl
              · refine sss_one ?_
                refine ss_ret ?_
                refine se_lst ?_
                refine sa_cons ?_ ?_ ?_
                · refine se_tup ?_
                  refine sa_cons ?_ ?_ ?_
                  · refine se_lst ?_
                    refine sa_cons ?_ ?_ ?_
                    · refine se_lst ?_
                      refine sa_cons ?_ ?_ ?_
                      · refine se_tup ?_
                        refine sa_cons ?_ ?_ ?_
                        · exact se_int
                        · refine sa_cons ?_ ?_ ?_
                          · exact se_int
                          · exact sa_nil
                          · rfl
                        · rfl
                      · exact sa_nil
                      · rfl
                    · exact sa_nil
                    · rfl
                  · refine sa_cons ?_ ?_ ?_
                    · refine se_lst ?_
                      refine sa_cons ?_ ?_ ?_
                      · refine se_lst ?_
                        refine sa_cons ?_ ?_ ?_
                        · refine se_tup ?_
                          refine sa_cons ?_ ?_ ?_
                          · exact se_int
                          · refine sa_cons ?_ ?_ ?_
                            · exact se_int
                            · exact sa_nil
                            · rfl
                          · rfl
                        · exact sa_nil
                        · rfl
                      · exact sa_nil
                      · rfl
                    · exact sa_nil
                    · rfl
                  · rfl
                · exact sa_nil
                · rfl
              · exact sss_nil
            · refine sss_one ?_
              refine ss_ret ?_
              refine se_call ((ok_law_parts_three C).s hr (by decide)) ?_ (C.glo 42 _ rfl) (ok_law_parts_three (P := P) (w := w) (base := base) C).kp ?_ ?_ ?_ ?_
              · rfl
              · refine sa_cons ?_ ?_ ?_
                · refine se_var (i := 0) ?_ ?_ ?_ ?_
                  · rfl
                  · exact Or.inl rfl
                  · rfl
                  · rfl
                · exact sa_nil
                · rfl
              · rfl
              · rfl
              · rfl
theorem ok_law_parts (C : Ct K mg) : FnG P w K mg base 3 (He.ga K "_law_parts") 1 f_law_parts := by
  obtain ⟨fd, F⟩ := C.defs 2 d_law_parts rfl
  refine fn_D (k := 2) F S_law_parts (fun _ _ _ _ _ _ us hl => match us, hl with | [_], _ => rfl) fun cdv A outer s H E hr => ?_
  refine sss_cons ?_ ?_
  · refine ss_if ?_ ?_ ?_
    · refine st_cmp (os_cop (ru14 hr) .Eq) ?_ ?_ ?_
      · refine se_var (i := 0) ?_ ?_ ?_ ?_
        · rfl
        · exact Or.inl rfl
        · rfl
        · rfl
      · exact se_int
      · rfl
    · refine sss_one ?_
      refine ss_ret ?_
      refine se_lst ?_
      refine sa_cons ?_ ?_ ?_
      · refine se_tup ?_
        refine sa_cons ?_ ?_ ?_
        · exact se_int
        · refine sa_cons ?_ ?_ ?_
          · exact se_int
          · exact sa_nil
          · rfl
        · rfl
      · refine sa_cons ?_ ?_ ?_
        · refine se_tup ?_
          refine sa_cons ?_ ?_ ?_
          · refine se_tup ?_
            refine sa_cons ?_ ?_ ?_
            · refine se_tup ?_
              refine sa_cons ?_ ?_ ?_
              · exact se_str k_swap
              · exact sa_nil
              · rfl
            · exact sa_nil
            · rfl
          · refine sa_cons ?_ ?_ ?_
            · refine se_tup ?_
              refine sa_cons ?_ ?_ ?_
              · refine se_tup ?_
                refine sa_cons ?_ ?_ ?_
                · exact se_str k_move
                · exact sa_nil
                · rfl
              · exact sa_nil
              · rfl
            · exact sa_nil
            · rfl
          · rfl
        · refine sa_cons ?_ ?_ ?_
          · refine se_tup ?_
            refine sa_cons ?_ ?_ ?_
            · refine se_callTy (cs_dict rfl (ru14 hr)) ?_ (C.free 1 _ rfl) boot_dict ?_ ?_ ?_ ?_ ?_
              · rfl
              · refine sa_cons ?_ ?_ ?_
                · refine se_lst ?_
                  refine sa_cons ?_ ?_ ?_
                  · refine se_tup ?_
                    refine sa_cons ?_ ?_ ?_
                    · refine se_tup ?_
                      refine sa_cons ?_ ?_ ?_
                      · exact se_int
                      · refine sa_cons ?_ ?_ ?_
                        · exact se_int
                        · exact sa_nil
                        · rfl
                      · rfl
                    · refine sa_cons ?_ ?_ ?_
                      · exact se_int
                      · exact sa_nil
                      · rfl
                    · rfl
                  · exact sa_nil
                  · rfl
                · exact sa_nil
                · rfl
              · decide
              · rfl
              · rfl
              · rfl
            · refine sa_cons ?_ ?_ ?_
              · refine se_callTy (cs_dict rfl (ru14 hr)) ?_ (C.free 1 _ rfl) boot_dict ?_ ?_ ?_ ?_ ?_
                · rfl
                · refine sa_cons ?_ ?_ ?_
                  · refine se_lst ?_
                    refine sa_cons ?_ ?_ ?_
                    · refine se_tup ?_
                      refine sa_cons ?_ ?_ ?_
                      · refine se_tup ?_
                        refine sa_cons ?_ ?_ ?_
                        · exact se_int
                        · refine sa_cons ?_ ?_ ?_
                          · exact se_int
                          · exact sa_nil
                          · rfl
                        · rfl
                      · refine sa_cons ?_ ?_ ?_
                        · exact se_int
                        · exact sa_nil
                        · rfl
                      · rfl
                    · exact sa_nil
                    · rfl
                  · exact sa_nil
                  · rfl
                · decide
                · rfl
                · rfl
                · rfl
              · exact sa_nil
              · rfl
            · rfl
          · exact sa_nil
          · rfl
        · rfl
      · rfl
    · exact sss_nil
  · refine sss_cons ?_ ?_
    · refine ss_if ?_ ?_ ?_
      · refine st_cmp (os_cop (ru14 hr) .Eq) ?_ ?_ ?_
        · refine se_var (i := 0) ?_ ?_ ?_ ?_
          · rfl
          · exact Or.inl rfl
          · rfl
          · rfl
        · exact se_int
        · rfl
      · refine sss_one ?_
        refine ss_ret ?_
        refine se_lst ?_
        refine sa_cons ?_ ?_ ?_
        · refine se_tup ?_
          refine sa_cons ?_ ?_ ?_
          · refine se_tup ?_
            refine sa_cons ?_ ?_ ?_
            · refine se_tup ?_
              refine sa_cons ?_ ?_ ?_
              · exact se_str k_swap
              · exact sa_nil
              · rfl
            · exact sa_nil
            · rfl
          · refine sa_cons ?_ ?_ ?_
            · refine se_tup ?_
              refine sa_cons ?_ ?_ ?_
              · refine se_tup ?_
                refine sa_cons ?_ ?_ ?_
                · exact se_str k_move
                · exact sa_nil
                · rfl
              · exact sa_nil
              · rfl
            · exact sa_nil
            · rfl
          · rfl
        · refine sa_cons ?_ ?_ ?_
          · refine se_tup ?_
            refine sa_cons ?_ ?_ ?_
            · refine se_tup ?_
              refine sa_cons ?_ ?_ ?_
              · refine se_tup ?_
                refine sa_cons ?_ ?_ ?_
                · exact se_str k_move
                · exact sa_nil
                · rfl
              · exact sa_nil
              · rfl
            · refine sa_cons ?_ ?_ ?_
              · refine se_tup ?_
                refine sa_cons ?_ ?_ ?_
                · refine se_tup ?_
                  refine sa_cons ?_ ?_ ?_
                  · exact se_str k_swap
                  · exact sa_nil
                  · rfl
                · exact sa_nil
                · rfl
              · exact sa_nil
              · rfl
            · rfl
          · refine sa_cons ?_ ?_ ?_
            · refine se_tup ?_
              refine sa_cons ?_ ?_ ?_
              · refine se_tup ?_
                refine sa_cons ?_ ?_ ?_
                · refine se_tup ?_
                  refine sa_cons ?_ ?_ ?_
                  · exact se_str k_hold
                  · exact sa_nil
                  · rfl
                · exact sa_nil
                · rfl
              · refine sa_cons ?_ ?_ ?_
                · refine se_tup ?_
                  refine sa_cons ?_ ?_ ?_
                  · refine se_tup ?_
                    refine sa_cons ?_ ?_ ?_
                    · exact se_str k_swap
                    · exact sa_nil
                    · rfl
                  · exact sa_nil
                  · rfl
                · exact sa_nil
                · rfl
              · rfl
            · exact sa_nil
            · rfl
          · rfl
        · rfl
      · exact sss_nil
    · refine sss_cons ?_ ?_
      · refine ss_if ?_ ?_ ?_
        · refine st_cmp (os_cop (ru14 hr) .Eq) ?_ ?_ ?_
          · refine se_var (i := 0) ?_ ?_ ?_ ?_
            · rfl
            · exact Or.inl rfl
            · rfl
            · rfl
          · exact se_int
          · rfl
        · refine sss_one ?_
          refine ss_ret ?_
          refine se_lst ?_
          refine sa_cons ?_ ?_ ?_
          · refine se_tup ?_
            refine sa_cons ?_ ?_ ?_
            · refine se_lst ?_
              refine sa_cons ?_ ?_ ?_
              · refine se_tup ?_
                refine sa_cons ?_ ?_ ?_
                · exact se_int
                · refine sa_cons ?_ ?_ ?_
                  · exact se_int
                  · exact sa_nil
                  · rfl
                · rfl
              · exact sa_nil
              · rfl
            · refine sa_cons ?_ ?_ ?_
              · refine se_lst ?_
                refine sa_cons ?_ ?_ ?_
                · refine se_tup ?_
                  refine sa_cons ?_ ?_ ?_
                  · exact se_int
                  · refine sa_cons ?_ ?_ ?_
                    · exact se_int
                    · exact sa_nil
                    · rfl
                  · rfl
                · exact sa_nil
                · rfl
              · exact sa_nil
              · rfl
            · rfl
          · exact sa_nil
          · rfl
        · exact sss_nil
      · refine sss_cons ?_ ?_
        · refine ss_if ?_ ?_ ?_
          · refine st_cmp (os_cop (ru14 hr) .Eq) ?_ ?_ ?_
            · refine se_var (i := 0) ?_ ?_ ?_ ?_
              · rfl
              · exact Or.inl rfl
              · rfl
              · rfl
            · exact se_int
            · rfl
          · refine sss_one ?_
            refine ss_ret ?_
            refine se_lst ?_
            refine sa_cons ?_ ?_ ?_
            · refine se_tup ?_
              refine sa_cons ?_ ?_ ?_
              · refine se_tup ?_
                refine sa_cons ?_ ?_ ?_
                · refine se_tup ?_
                  refine sa_cons ?_ ?_ ?_
                  · exact se_str k_swap
                  · exact sa_nil
                  · rfl
                · exact sa_nil
                · rfl
              · refine sa_cons ?_ ?_ ?_
                · refine se_tup ?_
                  refine sa_cons ?_ ?_ ?_
                  · refine se_tup ?_
                    refine sa_cons ?_ ?_ ?_
                    · exact se_str k_move
                    · exact sa_nil
                    · rfl
                  · exact sa_nil
                  · rfl
                · exact sa_nil
                · rfl
              · rfl
            · exact sa_nil
            · rfl
          · exact sss_nil
        · refine sss_cons ?_ ?_
          · refine ss_if ?_ ?_ ?_
            · refine st_cmp (os_cop (ru14 hr) .Eq) ?_ ?_ ?_
              · refine se_var (i := 0) ?_ ?_ ?_ ?_
                · rfl
                · exact Or.inl rfl
                · rfl
                · rfl
              · exact se_int
              · rfl
            · refine sss_one ?_
              refine ss_ret ?_
              refine se_lst ?_
              refine sa_cons ?_ ?_ ?_
              · refine se_tup ?_
                refine sa_cons ?_ ?_ ?_
                · refine se_lst ?_
                  refine sa_cons ?_ ?_ ?_
                  · refine se_tup ?_
                    refine sa_cons ?_ ?_ ?_
                    · exact se_int
                    · refine sa_cons ?_ ?_ ?_
                      · exact se_int
                      · exact sa_nil
                      · rfl
                    · rfl
                  · exact sa_nil
                  · rfl
                · refine sa_cons ?_ ?_ ?_
                  · refine se_lst ?_
                    refine sa_cons ?_ ?_ ?_
                    · refine se_tup ?_
                      refine sa_cons ?_ ?_ ?_
                      · exact se_int
                      · refine sa_cons ?_ ?_ ?_
                        · exact se_int
                        · exact sa_nil
                        · rfl
                      · rfl
                    · exact sa_nil
                    · rfl
                  · exact sa_nil
                  · rfl
                · rfl
              · exact sa_nil
              · rfl
            · exact sss_nil
          · refine sss_cons ?_ ?_
            · refine ss_if ?_ ?_ ?_
              · refine st_cmp (os_cop (ru14 hr) .Eq) ?_ ?_ ?_
                · refine se_var (i := 0) ?_ ?_ ?_ ?_
                  · rfl
                  · exact Or.inl rfl
                  · rfl
                  · rfl
                · exact se_int
                · rfl
              · refine sss_one ?_
                refine ss_ret ?_
                refine se_lst ?_
                refine sa_cons ?_ ?_ ?_
                · refine se_tup ?_
                  refine sa_cons ?_ ?_ ?_
                  · refine se_tup ?_
                    refine sa_cons ?_ ?_ ?_
                    · refine se_tup ?_
                      refine sa_cons ?_ ?_ ?_
                      · exact se_str k_swap
                      · exact sa_nil
                      · rfl
                    · exact sa_nil
                    · rfl
                  · refine sa_cons ?_ ?_ ?_
                    · refine se_tup ?_
                      refine sa_cons ?_ ?_ ?_
                      · refine se_tup ?_
                        refine sa_cons ?_ ?_ ?_
                        · exact se_str k_move
                        · exact sa_nil
                        · rfl
                      · exact sa_nil
                      · rfl
                    · exact sa_nil
                    · rfl
                  · rfl
                · exact sa_nil
                · rfl
              · exact sss_nil
            · refine sss_one ?_
              refine ss_ret ?_
              refine se_call ((ok_law_parts_two C).s hr (by decide)) ?_ (C.glo 41 _ rfl) (ok_law_parts_two (P := P) (w := w) (base := base) C).kp ?_ ?_ ?_ ?_
              · rfl
              · refine sa_cons ?_ ?_ ?_
                · refine se_var (i := 0) ?_ ?_ ?_ ?_
                  · rfl
                  · exact Or.inl rfl
                  · rfl
                  · rfl
                · exact sa_nil
                · rfl
              · rfl
              · rfl
              · rfl
theorem ok_law_fresh (C : Ct K mg) : FnG P w K mg base 4 (He.ga K "_law_fresh") 1 f_law_fresh := by
  obtain ⟨fd, F⟩ := C.defs 3 d_law_fresh rfl
  refine fn_D (k := 3) F S_law_fresh (fun _ _ _ _ _ _ us hl => match us, hl with | [_], _ => rfl) fun cdv A outer s H E hr => ?_
  refine sss_one ?_
  refine ss_ret ?_
  refine se_lc (ts := [1]) fu ?_ S_law_fresh.nd ?_ (blkOk_by (own := [("_law_pair", 1)]) (by first | rfl | decide +kernel)) ?_ ?_ ?_ ?_ ?_
  · rfl
  · refine si_val ?_
    refine se_call ((ok_law_parts C).s hr (by decide)) ?_ (C.glo 43 _ rfl) (ok_law_parts (P := P) (w := w) (base := base) C).kp ?_ ?_ ?_ ?_
    · rfl
    · refine sa_cons ?_ ?_ ?_
      · refine se_var (i := 0) ?_ ?_ ?_ ?_
        · rfl
        · exact Or.inl rfl
        · rfl
        · rfl
      · exact sa_nil
      · rfl
    · rfl
    · rfl
    · rfl
  · decide
  · intro s H Ca cl fp
    refine sg_name ?_
    exact ⟨S_law_fresh.nd, rfl, Or.inl rfl, Or.inr rfl⟩
  · intro s H Ca cl fp
    refine pts_yes ?_
    exact ⟨rfl, rfl, rfl⟩
  · intro s H Ca cl fp
    refine se_ix (ru12 hr) ?_ ?_ ?_
    · refine se_var (i := 1) ?_ ?_ ?_ ?_
      · rfl
      · exact Or.inl rfl
      · rfl
      · rfl
    · exact se_int
    · intro _ _; rfl
  · intro _; rfl
theorem ok_Oldest_init (C : Ct K mg) : FnG P w K mg base 1 (He.ma K (He.ga K "Oldest") "__init__") 4 f_Oldest_init := by
  obtain ⟨fd, F⟩ := C.defs 4 d_Oldest_init rfl
  refine fn_D (k := 0) F S_Oldest_init (fun _ _ _ _ _ _ us hl => match us, hl with | [_, _, _, _], _ => rfl) fun cdv A outer s H E hr => ?_
  refine sss_cons ?_ ?_
  · refine ss_fld k_number (okA_ok C.fac) ?_ ?_ ?_
    · refine se_var (i := 0) ?_ ?_ ?_ ?_
      · rfl
      · exact Or.inl rfl
      · rfl
      · rfl
    · refine se_var (i := 1) ?_ ?_ ?_ ?_
      · rfl
      · exact Or.inl rfl
      · rfl
      · rfl
    · rfl
  · refine sss_cons ?_ ?_
    · refine ss_fld k_course (okA_ok C.fac) ?_ ?_ ?_
      · refine se_var (i := 0) ?_ ?_ ?_ ?_
        · rfl
        · exact Or.inl rfl
        · rfl
        · rfl
      · refine se_callTy cs_tuple ?_ (C.free 0 _ rfl) boot_tuple ?_ ?_ ?_ ?_ ?_
        · rfl
        · refine sa_cons ?_ ?_ ?_
          · refine se_var (i := 2) ?_ ?_ ?_ ?_
            · rfl
            · exact Or.inl rfl
            · rfl
            · rfl
          · exact sa_nil
          · rfl
        · decide
        · rfl
        · rfl
        · rfl
      · rfl
    · refine sss_one ?_
      refine ss_fld k_heights (okA_ok C.fac) ?_ ?_ ?_
      · refine se_var (i := 0) ?_ ?_ ?_ ?_
        · rfl
        · exact Or.inl rfl
        · rfl
        · rfl
      · refine se_callTy (cs_dict rfl (ru14 hr)) ?_ (C.free 1 _ rfl) boot_dict ?_ ?_ ?_ ?_ ?_
        · rfl
        · refine sa_cons ?_ ?_ ?_
          · refine se_var (i := 3) ?_ ?_ ?_ ?_
            · rfl
            · exact Or.inl rfl
            · rfl
            · rfl
          · exact sa_nil
          · rfl
        · decide
        · rfl
        · rfl
        · rfl
      · rfl
theorem ok_Aging_init (C : Ct K mg) : FnG P w K mg base 1 (He.ma K (He.ga K "Aging") "__init__") 4 f_Aging_init := by
  obtain ⟨fd, F⟩ := C.defs 5 d_Aging_init rfl
  refine fn_D (k := 0) F S_Aging_init (fun _ _ _ _ _ _ us hl => match us, hl with | [_, _, _, _], _ => rfl) fun cdv A outer s H E hr => ?_
  refine sss_cons ?_ ?_
  · refine ss_fld k_ahead (okA_ok C.fac) ?_ ?_ ?_
    · refine se_var (i := 0) ?_ ?_ ?_ ?_
      · rfl
      · exact Or.inl rfl
      · rfl
      · rfl
    · refine se_callTy cs_tuple ?_ (C.free 0 _ rfl) boot_tuple ?_ ?_ ?_ ?_ ?_
      · rfl
      · refine sa_cons ?_ ?_ ?_
        · refine se_var (i := 1) ?_ ?_ ?_ ?_
          · rfl
          · exact Or.inl rfl
          · rfl
          · rfl
        · exact sa_nil
        · rfl
      · decide
      · rfl
      · rfl
      · rfl
    · rfl
  · refine sss_cons ?_ ?_
    · refine ss_fld k_ring (okA_ok C.fac) ?_ ?_ ?_
      · refine se_var (i := 0) ?_ ?_ ?_ ?_
        · rfl
        · exact Or.inl rfl
        · rfl
        · rfl
      · refine se_callTy cs_tuple ?_ (C.free 0 _ rfl) boot_tuple ?_ ?_ ?_ ?_ ?_
        · rfl
        · refine sa_cons ?_ ?_ ?_
          · refine se_var (i := 2) ?_ ?_ ?_ ?_
            · rfl
            · exact Or.inl rfl
            · rfl
            · rfl
          · exact sa_nil
          · rfl
        · decide
        · rfl
        · rfl
        · rfl
      · rfl
    · refine sss_one ?_
      refine ss_fld k_rest (okA_ok C.fac) ?_ ?_ ?_
      · refine se_var (i := 0) ?_ ?_ ?_ ?_
        · rfl
        · exact Or.inl rfl
        · rfl
        · rfl
      · refine se_callTy cs_tuple ?_ (C.free 0 _ rfl) boot_tuple ?_ ?_ ?_ ?_ ?_
        · rfl
        · refine sa_cons ?_ ?_ ?_
          · refine se_var (i := 3) ?_ ?_ ?_ ?_
            · rfl
            · exact Or.inl rfl
            · rfl
            · rfl
          · exact sa_nil
          · rfl
        · decide
        · rfl
        · rfl
        · rfl
      · rfl
theorem ok_Alike_init (C : Ct K mg) : FnG P w K mg base 1 (He.ma K (He.ga K "Alike") "__init__") 2 f_Alike_init := by
  obtain ⟨fd, F⟩ := C.defs 6 d_Alike_init rfl
  refine fn_D (k := 0) F S_Alike_init (fun _ _ _ _ _ _ us hl => match us, hl with | [_, _], _ => rfl) fun cdv A outer s H E hr => ?_
  refine sss_one ?_
  refine ss_fld k_pairs (okA_ok C.fac) ?_ ?_ ?_
  · refine se_var (i := 0) ?_ ?_ ?_ ?_
    · rfl
    · exact Or.inl rfl
    · rfl
    · rfl
  · refine se_callTy cs_list ?_ (C.free 12 _ rfl) boot_list ?_ ?_ ?_ ?_ ?_
    · rfl
    · refine sa_cons ?_ ?_ ?_
      · refine se_var (i := 1) ?_ ?_ ?_ ?_
        · rfl
        · exact Or.inl rfl
        · rfl
        · rfl
      · exact sa_nil
      · rfl
    · decide
    · rfl
    · rfl
    · rfl
  · rfl
theorem ok_Parted_init (C : Ct K mg) : FnG P w K mg base 1 (He.ma K (He.ga K "Parted") "__init__") 2 f_Parted_init := by
  obtain ⟨fd, F⟩ := C.defs 7 d_Parted_init rfl
  refine fn_D (k := 0) F S_Parted_init (fun _ _ _ _ _ _ us hl => match us, hl with | [_, _], _ => rfl) fun cdv A outer s H E hr => ?_
  refine sss_one ?_
  refine ss_fld k_course (okA_ok C.fac) ?_ ?_ ?_
  · refine se_var (i := 0) ?_ ?_ ?_ ?_
    · rfl
    · exact Or.inl rfl
    · rfl
    · rfl
  · refine se_callTy cs_tuple ?_ (C.free 0 _ rfl) boot_tuple ?_ ?_ ?_ ?_ ?_
    · rfl
    · refine sa_cons ?_ ?_ ?_
      · refine se_var (i := 1) ?_ ?_ ?_ ?_
        · rfl
        · exact Or.inl rfl
        · rfl
        · rfl
      · exact sa_nil
      · rfl
    · decide
    · rfl
    · rfl
    · rfl
  · rfl
theorem ok_Linked_init (C : Ct K mg) : FnG P w K mg base 1 (He.ma K (He.ga K "Linked") "__init__") 2 f_Linked_init := by
  obtain ⟨fd, F⟩ := C.defs 8 d_Linked_init rfl
  refine fn_D (k := 0) F S_Linked_init (fun _ _ _ _ _ _ us hl => match us, hl with | [_, _], _ => rfl) fun cdv A outer s H E hr => ?_
  refine sss_one ?_
  refine ss_fld k_states (okA_ok C.fac) ?_ ?_ ?_
  · refine se_var (i := 0) ?_ ?_ ?_ ?_
    · rfl
    · exact Or.inl rfl
    · rfl
    · rfl
  · refine se_callTy cs_list ?_ (C.free 12 _ rfl) boot_list ?_ ?_ ?_ ?_ ?_
    · rfl
    · refine sa_cons ?_ ?_ ?_
      · refine se_var (i := 1) ?_ ?_ ?_ ?_
        · rfl
        · exact Or.inl rfl
        · rfl
        · rfl
      · exact sa_nil
      · rfl
    · decide
    · rfl
    · rfl
    · rfl
  · rfl
theorem ok_Unlinked_init (C : Ct K mg) : FnG P w K mg base 1 (He.ma K (He.ga K "Unlinked") "__init__") 2 f_Unlinked_init := by
  obtain ⟨fd, F⟩ := C.defs 9 d_Unlinked_init rfl
  refine fn_D (k := 0) F S_Unlinked_init (fun _ _ _ _ _ _ us hl => match us, hl with | [_, _], _ => rfl) fun cdv A outer s H E hr => ?_
  refine sss_one ?_
  refine ss_fld k_course (okA_ok C.fac) ?_ ?_ ?_
  · refine se_var (i := 0) ?_ ?_ ?_ ?_
    · rfl
    · exact Or.inl rfl
    · rfl
    · rfl
  · refine se_callTy cs_tuple ?_ (C.free 0 _ rfl) boot_tuple ?_ ?_ ?_ ?_ ?_
    · rfl
    · refine sa_cons ?_ ?_ ?_
      · refine se_var (i := 1) ?_ ?_ ?_ ?_
        · rfl
        · exact Or.inl rfl
        · rfl
        · rfl
      · exact sa_nil
      · rfl
    · decide
    · rfl
    · rfl
    · rfl
  · rfl
theorem ok_copied (C : Ct K mg) : FnG P w K mg base 1 (He.ga K "copied") 1 f_copied := by
  obtain ⟨fd, F⟩ := C.defs 10 d_copied rfl
  refine fn_D (k := 0) F S_copied (fun _ _ _ _ _ _ us hl => match us, hl with | [_], _ => rfl) fun cdv A outer s H E hr => ?_
  refine sss_one ?_
  refine ss_ret ?_
  refine se_lock (pickE (mVar 0)) ?_
  refine se_dc (ts := ([1] ++ ([2] ++ []))) fu (ru12 hr) ?_ S_copied.nd ?_ (blkOk_by (own := [("choice", 1), ("pair", 2)]) (by first | rfl | decide +kernel)) ?_ ?_ ?_ ?_ ?_ ?_
  · rfl
  · refine si_items ?_ ?_ ?_
    · refine se_var (i := 0) ?_ ?_ ?_ ?_
      · rfl
      · exact Or.inl rfl
      · rfl
      · rfl
    · rfl
    · rfl
  · decide
  · intro s H Ca cl fp
    refine sg_tup ?_ ?_ ?_ ?_
    · rfl
    · refine sgs_cons ?_ ?_ ?_
      · refine sg_name ?_
        exact ⟨S_copied.nd, rfl, Or.inl rfl, Or.inr rfl⟩
      · refine sgs_cons ?_ ?_ ?_
        · refine sg_name ?_
          exact ⟨S_copied.nd, rfl, Or.inl rfl, Or.inr rfl⟩
        · exact sgs_nil
        · rfl
      · rfl
    · rfl
    · rfl
  · intro s H Ca cl fp
    refine pts_yes ?_
    exact ⟨rfl, rfl, rfl⟩
  · intro s H Ca cl fp
    refine se_var (i := 1) ?_ ?_ ?_ ?_
    · rfl
    · exact Or.inl rfl
    · rfl
    · rfl
  · intro s H Ca cl fp
    refine se_tup ?_
    refine sa_cons ?_ ?_ ?_
    · refine se_ix (ru12 hr) ?_ ?_ ?_
      · refine se_var (i := 2) ?_ ?_ ?_ ?_
        · rfl
        · exact Or.inl rfl
        · rfl
        · rfl
      · exact se_int
      · intro _ _; rfl
    · refine sa_cons ?_ ?_ ?_
      · refine se_callTy cs_tuple ?_ (C.free 0 _ rfl) boot_tuple ?_ ?_ ?_ ?_ ?_
        · rfl
        · refine sa_cons ?_ ?_ ?_
          · refine se_ix (ru12 hr) ?_ ?_ ?_
            · refine se_var (i := 2) ?_ ?_ ?_ ?_
              · rfl
              · exact Or.inl rfl
              · rfl
              · rfl
            · exact se_int
            · intro _ _; rfl
          · exact sa_nil
          · rfl
        · decide
        · rfl
        · rfl
        · rfl
      · exact sa_nil
      · rfl
    · rfl
  · intro _; rfl
theorem ok_Cheapest_init (C : Ct K mg) : FnG P w K mg base 2 (He.ma K (He.ga K "Cheapest") "__init__") 5 f_Cheapest_init := by
  obtain ⟨fd, F⟩ := C.defs 11 d_Cheapest_init rfl
  refine fn_D (k := 1) F S_Cheapest_init (fun _ _ _ _ _ _ us hl => match us, hl with | [_, _, _, _, _], _ => rfl) fun cdv A outer s H E hr => ?_
  refine sss_cons ?_ ?_
  · refine ss_fld k_choice (okA_ok C.fac) ?_ ?_ ?_
    · refine se_var (i := 0) ?_ ?_ ?_ ?_
      · rfl
      · exact Or.inl rfl
      · rfl
      · rfl
    · refine se_var (i := 1) ?_ ?_ ?_ ?_
      · rfl
      · exact Or.inl rfl
      · rfl
      · rfl
    · rfl
  · refine sss_cons ?_ ?_
    · refine ss_fld k_states (okA_ok C.fac) ?_ ?_ ?_
      · refine se_var (i := 0) ?_ ?_ ?_ ?_
        · rfl
        · exact Or.inl rfl
        · rfl
        · rfl
      · refine se_callTy cs_list ?_ (C.free 12 _ rfl) boot_list ?_ ?_ ?_ ?_ ?_
        · rfl
        · refine sa_cons ?_ ?_ ?_
          · refine se_var (i := 2) ?_ ?_ ?_ ?_
            · rfl
            · exact Or.inl rfl
            · rfl
            · rfl
          · exact sa_nil
          · rfl
        · decide
        · rfl
        · rfl
        · rfl
      · rfl
    · refine sss_cons ?_ ?_
      · refine ss_fld k_heights (okA_ok C.fac) ?_ ?_ ?_
        · refine se_var (i := 0) ?_ ?_ ?_ ?_
          · rfl
          · exact Or.inl rfl
          · rfl
          · rfl
        · refine se_callTy (cs_dict rfl (ru14 hr)) ?_ (C.free 1 _ rfl) boot_dict ?_ ?_ ?_ ?_ ?_
          · rfl
          · refine sa_cons ?_ ?_ ?_
            · refine se_var (i := 3) ?_ ?_ ?_ ?_
              · rfl
              · exact Or.inl rfl
              · rfl
              · rfl
            · exact sa_nil
            · rfl
          · decide
          · rfl
          · rfl
          · rfl
        · rfl
      · refine sss_one ?_
        refine ss_fld k_against (okA_ok C.fac) ?_ ?_ ?_
        · refine se_var (i := 0) ?_ ?_ ?_ ?_
          · rfl
          · exact Or.inl rfl
          · rfl
          · rfl
        · refine se_call ((ok_copied C).s hr (by decide)) ?_ (C.glo 19 _ rfl) (ok_copied (P := P) (w := w) (base := base) C).kp ?_ ?_ ?_ ?_
          · rfl
          · refine sa_cons ?_ ?_ ?_
            · refine se_var (i := 4) ?_ ?_ ?_ ?_
              · rfl
              · exact Or.inl rfl
              · rfl
              · rfl
            · exact sa_nil
            · rfl
          · rfl
          · rfl
          · rfl
        · rfl
theorem ok_NoScheme_init (C : Ct K mg) : FnG P w K mg base 2 (He.ma K (He.ga K "NoScheme") "__init__") 2 f_NoScheme_init := by
  obtain ⟨fd, F⟩ := C.defs 12 d_NoScheme_init rfl
  refine fn_D (k := 1) F S_NoScheme_init (fun _ _ _ _ _ _ us hl => match us, hl with | [_, _], _ => rfl) fun cdv A outer s H E hr => ?_
  refine sss_one ?_
  refine ss_fld k_against (okA_ok C.fac) ?_ ?_ ?_
  · refine se_var (i := 0) ?_ ?_ ?_ ?_
    · rfl
    · exact Or.inl rfl
    · rfl
    · rfl
  · refine se_call ((ok_copied C).s hr (by decide)) ?_ (C.glo 19 _ rfl) (ok_copied (P := P) (w := w) (base := base) C).kp ?_ ?_ ?_ ?_
    · rfl
    · refine sa_cons ?_ ?_ ?_
      · refine se_var (i := 1) ?_ ?_ ?_ ?_
        · rfl
        · exact Or.inl rfl
        · rfl
        · rfl
      · exact sa_nil
      · rfl
    · rfl
    · rfl
    · rfl
  · rfl
theorem ok_Safe_init (C : Ct K mg) : FnG P w K mg base 1 (He.ma K (He.ga K "Safe") "__init__") 2 f_Safe_init := by
  obtain ⟨fd, F⟩ := C.defs 13 d_Safe_init rfl
  refine fn_D (k := 0) F S_Safe_init (fun _ _ _ _ _ _ us hl => match us, hl with | [_, _], _ => rfl) fun cdv A outer s H E hr => ?_
  refine sss_one ?_
  refine ss_fld k_states (okA_ok C.fac) ?_ ?_ ?_
  · refine se_var (i := 0) ?_ ?_ ?_ ?_
    · rfl
    · exact Or.inl rfl
    · rfl
    · rfl
  · refine se_callTy cs_list ?_ (C.free 12 _ rfl) boot_list ?_ ?_ ?_ ?_ ?_
    · rfl
    · refine sa_cons ?_ ?_ ?_
      · refine se_var (i := 1) ?_ ?_ ?_ ?_
        · rfl
        · exact Or.inl rfl
        · rfl
        · rfl
      · exact sa_nil
      · rfl
    · decide
    · rfl
    · rfl
    · rfl
  · rfl
theorem ok_Broken_init (C : Ct K mg) : FnG P w K mg base 1 (He.ma K (He.ga K "Broken") "__init__") 2 f_Broken_init := by
  obtain ⟨fd, F⟩ := C.defs 14 d_Broken_init rfl
  refine fn_D (k := 0) F S_Broken_init (fun _ _ _ _ _ _ us hl => match us, hl with | [_, _], _ => rfl) fun cdv A outer s H E hr => ?_
  refine sss_one ?_
  refine ss_fld k_course (okA_ok C.fac) ?_ ?_ ?_
  · refine se_var (i := 0) ?_ ?_ ?_ ?_
    · rfl
    · exact Or.inl rfl
    · rfl
    · rfl
  · refine se_callTy cs_tuple ?_ (C.free 0 _ rfl) boot_tuple ?_ ?_ ?_ ?_ ?_
    · rfl
    · refine sa_cons ?_ ?_ ?_
      · refine se_var (i := 1) ?_ ?_ ?_ ?_
        · rfl
        · exact Or.inl rfl
        · rfl
        · rfl
      · exact sa_nil
      · rfl
    · decide
    · rfl
    · rfl
    · rfl
  · rfl
theorem ok_Fit_init (C : Ct K mg) : FnG P w K mg base 1 (He.ma K (He.ga K "Fit") "__init__") 2 f_Fit_init := by
  obtain ⟨fd, F⟩ := C.defs 15 d_Fit_init rfl
  refine fn_D (k := 0) F S_Fit_init (fun _ _ _ _ _ _ us hl => match us, hl with | [_, _], _ => rfl) fun cdv A outer s H E hr => ?_
  refine sss_one ?_
  refine ss_fld k_course (okA_ok C.fac) ?_ ?_ ?_
  · refine se_var (i := 0) ?_ ?_ ?_ ?_
    · rfl
    · exact Or.inl rfl
    · rfl
    · rfl
  · refine se_callTy cs_tuple ?_ (C.free 0 _ rfl) boot_tuple ?_ ?_ ?_ ?_ ?_
    · rfl
    · refine sa_cons ?_ ?_ ?_
      · refine se_var (i := 1) ?_ ?_ ?_ ?_
        · rfl
        · exact Or.inl rfl
        · rfl
        · rfl
      · exact sa_nil
      · rfl
    · decide
    · rfl
    · rfl
    · rfl
  · rfl
theorem ok_NoFit_init (C : Ct K mg) : FnG P w K mg base 1 (He.ma K (He.ga K "NoFit") "__init__") 2 f_NoFit_init := by
  obtain ⟨fd, F⟩ := C.defs 16 d_NoFit_init rfl
  refine fn_D (k := 0) F S_NoFit_init (fun _ _ _ _ _ _ us hl => match us, hl with | [_, _], _ => rfl) fun cdv A outer s H E hr => ?_
  refine sss_one ?_
  refine ss_fld k_layers (okA_ok C.fac) ?_ ?_ ?_
  · refine se_var (i := 0) ?_ ?_ ?_ ?_
    · rfl
    · exact Or.inl rfl
    · rfl
    · rfl
  · refine se_lc (ts := [2]) fu ?_ S_NoFit_init.nd ?_ (blkOk_by (own := [("layer", 2)]) (by first | rfl | decide +kernel)) ?_ ?_ ?_ ?_ ?_
    · rfl
    · refine si_val ?_
      refine se_var (i := 1) ?_ ?_ ?_ ?_
      · rfl
      · exact Or.inl rfl
      · rfl
      · rfl
    · decide
    · intro s H Ca cl fp
      refine sg_name ?_
      exact ⟨S_NoFit_init.nd, rfl, Or.inl rfl, Or.inr rfl⟩
    · intro s H Ca cl fp
      refine pts_yes ?_
      exact ⟨rfl, rfl, rfl⟩
    · intro s H Ca cl fp
      refine se_callTy cs_list ?_ (C.free 12 _ rfl) boot_list ?_ ?_ ?_ ?_ ?_
      · rfl
      · refine sa_cons ?_ ?_ ?_
        · refine se_var (i := 2) ?_ ?_ ?_ ?_
          · rfl
          · exact Or.inl rfl
          · rfl
          · rfl
        · exact sa_nil
        · rfl
      · decide
      · rfl
      · rfl
      · rfl
    · intro _; rfl
  · rfl
theorem ok_Widest_init (C : Ct K mg) : FnG P w K mg base 1 (He.ma K (He.ga K "Widest") "__init__") 4 f_Widest_init := by
  obtain ⟨fd, F⟩ := C.defs 17 d_Widest_init rfl
  refine fn_D (k := 0) F S_Widest_init (fun _ _ _ _ _ _ us hl => match us, hl with | [_, _, _, _], _ => rfl) fun cdv A outer s H E hr => ?_
  refine sss_cons ?_ ?_
  · refine ss_fld k_number (okA_ok C.fac) ?_ ?_ ?_
    · refine se_var (i := 0) ?_ ?_ ?_ ?_
      · rfl
      · exact Or.inl rfl
      · rfl
      · rfl
    · refine se_var (i := 1) ?_ ?_ ?_ ?_
      · rfl
      · exact Or.inl rfl
      · rfl
      · rfl
    · rfl
  · refine sss_cons ?_ ?_
    · refine ss_fld k_places (okA_ok C.fac) ?_ ?_ ?_
      · refine se_var (i := 0) ?_ ?_ ?_ ?_
        · rfl
        · exact Or.inl rfl
        · rfl
        · rfl
      · refine se_callTy cs_list ?_ (C.free 12 _ rfl) boot_list ?_ ?_ ?_ ?_ ?_
        · rfl
        · refine sa_cons ?_ ?_ ?_
          · refine se_var (i := 2) ?_ ?_ ?_ ?_
            · rfl
            · exact Or.inl rfl
            · rfl
            · rfl
          · exact sa_nil
          · rfl
        · decide
        · rfl
        · rfl
        · rfl
      · rfl
    · refine sss_one ?_
      refine ss_fld k_course (okA_ok C.fac) ?_ ?_ ?_
      · refine se_var (i := 0) ?_ ?_ ?_ ?_
        · rfl
        · exact Or.inl rfl
        · rfl
        · rfl
      · refine se_callTy cs_tuple ?_ (C.free 0 _ rfl) boot_tuple ?_ ?_ ?_ ?_ ?_
        · rfl
        · refine sa_cons ?_ ?_ ?_
          · refine se_var (i := 3) ?_ ?_ ?_ ?_
            · rfl
            · exact Or.inl rfl
            · rfl
            · rfl
          · exact sa_nil
          · rfl
        · decide
        · rfl
        · rfl
        · rfl
      · rfl
theorem ok_law_make_three (C : Ct K mg) : FnG P w K mg base 3 (He.ga K "_law_make_three") 2 f_law_make_three := by
  obtain ⟨fd, F⟩ := C.defs 18 d_law_make_three rfl
  refine fn_D (k := 2) F S_law_make_three (fun _ _ _ _ _ _ us hl => match us, hl with | [_, _], _ => rfl) fun cdv A outer s H E hr => ?_
  refine sss_one ?_
  refine ss_ret ?_
  refine se_make ((ok_Widest_init C).make (He.mkr_ok (C.fact 40 _ rfl)) hr (by decide)) k_Widest ?_ (C.glo 9 _ rfl) ?_ ?_ ?_ ?_
  · rfl
  · refine sa_cons ?_ ?_ ?_
    · refine se_ix (ru12 hr) ?_ ?_ ?_
      · refine se_var (i := 1) ?_ ?_ ?_ ?_
        · rfl
        · exact Or.inl rfl
        · rfl
        · rfl
      · exact se_int
      · intro _ _; rfl
    · refine sa_cons ?_ ?_ ?_
      · refine se_ix (ru12 hr) ?_ ?_ ?_
        · refine se_var (i := 1) ?_ ?_ ?_ ?_
          · rfl
          · exact Or.inl rfl
          · rfl
          · rfl
        · exact se_int
        · intro _ _; rfl
      · refine sa_cons ?_ ?_ ?_
        · refine se_ix (ru12 hr) ?_ ?_ ?_
          · refine se_var (i := 1) ?_ ?_ ?_ ?_
            · rfl
            · exact Or.inl rfl
            · rfl
            · rfl
          · exact se_int
          · intro _ _; rfl
        · exact sa_nil
        · rfl
      · rfl
    · rfl
  · rfl
  · rfl
  · rfl
theorem ok_law_make_two (C : Ct K mg) : FnG P w K mg base 4 (He.ga K "_law_make_two") 2 f_law_make_two := by
  obtain ⟨fd, F⟩ := C.defs 19 d_law_make_two rfl
  refine fn_D (k := 3) F S_law_make_two (fun _ _ _ _ _ _ us hl => match us, hl with | [_, _], _ => rfl) fun cdv A outer s H E hr => ?_
  refine sss_cons ?_ ?_
  · refine ss_if ?_ ?_ ?_
    · refine st_cmp (os_cop (ru14 hr) .Eq) ?_ ?_ ?_
      · refine se_var (i := 0) ?_ ?_ ?_ ?_
        · rfl
        · exact Or.inl rfl
        · rfl
        · rfl
      · exact se_int
      · rfl
    · refine sss_one ?_
      refine ss_ret ?_
      refine se_make ((ok_Cheapest_init C).make (He.mkr_ok (C.fact 33 _ rfl)) hr (by decide)) k_Cheapest ?_ (C.glo 20 _ rfl) ?_ ?_ ?_ ?_
      · rfl
      · refine sa_cons ?_ ?_ ?_
        · refine se_ix (ru12 hr) ?_ ?_ ?_
          · refine se_var (i := 1) ?_ ?_ ?_ ?_
            · rfl
            · exact Or.inl rfl
            · rfl
            · rfl
          · exact se_int
          · intro _ _; rfl
        · refine sa_cons ?_ ?_ ?_
          · refine se_ix (ru12 hr) ?_ ?_ ?_
            · refine se_var (i := 1) ?_ ?_ ?_ ?_
              · rfl
              · exact Or.inl rfl
              · rfl
              · rfl
            · exact se_int
            · intro _ _; rfl
          · refine sa_cons ?_ ?_ ?_
            · refine se_ix (ru12 hr) ?_ ?_ ?_
              · refine se_var (i := 1) ?_ ?_ ?_ ?_
                · rfl
                · exact Or.inl rfl
                · rfl
                · rfl
              · exact se_int
              · intro _ _; rfl
            · refine sa_cons ?_ ?_ ?_
              · refine se_ix (ru12 hr) ?_ ?_ ?_
                · refine se_var (i := 1) ?_ ?_ ?_ ?_
                  · rfl
                  · exact Or.inl rfl
                  · rfl
                  · rfl
                · exact se_int
                · intro _ _; rfl
              · exact sa_nil
              · rfl
            · rfl
          · rfl
        · rfl
      · rfl
      · rfl
      · rfl
    · exact sss_nil
  · refine sss_cons ?_ ?_
    · refine ss_if ?_ ?_ ?_
      · refine st_cmp (os_cop (ru14 hr) .Eq) ?_ ?_ ?_
        · refine se_var (i := 0) ?_ ?_ ?_ ?_
          · rfl
          · exact Or.inl rfl
          · rfl
          · rfl
        · exact se_int
        · rfl
      · refine sss_one ?_
        refine ss_ret ?_
        refine se_make ((ok_NoScheme_init C).make (He.mkr_ok (C.fact 34 _ rfl)) hr (by decide)) k_NoScheme ?_ (C.glo 23 _ rfl) ?_ ?_ ?_ ?_
        · rfl
        · refine sa_cons ?_ ?_ ?_
          · refine se_ix (ru12 hr) ?_ ?_ ?_
            · refine se_var (i := 1) ?_ ?_ ?_ ?_
              · rfl
              · exact Or.inl rfl
              · rfl
              · rfl
            · exact se_int
            · intro _ _; rfl
          · exact sa_nil
          · rfl
        · rfl
        · rfl
        · rfl
      · exact sss_nil
    · refine sss_cons ?_ ?_
      · refine ss_if ?_ ?_ ?_
        · refine st_cmp (os_cop (ru14 hr) .Eq) ?_ ?_ ?_
          · refine se_var (i := 0) ?_ ?_ ?_ ?_
            · rfl
            · exact Or.inl rfl
            · rfl
            · rfl
          · exact se_int
          · rfl
        · refine sss_one ?_
          refine ss_ret ?_
          refine se_make ((ok_Safe_init C).make (He.mkr_ok (C.fact 35 _ rfl)) hr (by decide)) k_Safe ?_ (C.glo 13 _ rfl) ?_ ?_ ?_ ?_
          · rfl
          · refine sa_cons ?_ ?_ ?_
            · refine se_ix (ru12 hr) ?_ ?_ ?_
              · refine se_var (i := 1) ?_ ?_ ?_ ?_
                · rfl
                · exact Or.inl rfl
                · rfl
                · rfl
              · exact se_int
              · intro _ _; rfl
            · exact sa_nil
            · rfl
          · rfl
          · rfl
          · rfl
        · exact sss_nil
      · refine sss_cons ?_ ?_
        · refine ss_if ?_ ?_ ?_
          · refine st_cmp (os_cop (ru14 hr) .Eq) ?_ ?_ ?_
            · refine se_var (i := 0) ?_ ?_ ?_ ?_
              · rfl
              · exact Or.inl rfl
              · rfl
              · rfl
            · exact se_int
            · rfl
          · refine sss_one ?_
            refine ss_ret ?_
            refine se_make ((ok_Broken_init C).make (He.mkr_ok (C.fact 36 _ rfl)) hr (by decide)) k_Broken ?_ (C.glo 14 _ rfl) ?_ ?_ ?_ ?_
            · rfl
            · refine sa_cons ?_ ?_ ?_
              · refine se_ix (ru12 hr) ?_ ?_ ?_
                · refine se_var (i := 1) ?_ ?_ ?_ ?_
                  · rfl
                  · exact Or.inl rfl
                  · rfl
                  · rfl
                · exact se_int
                · intro _ _; rfl
              · exact sa_nil
              · rfl
            · rfl
            · rfl
            · rfl
          · exact sss_nil
        · refine sss_cons ?_ ?_
          · refine ss_if ?_ ?_ ?_
            · refine st_cmp (os_cop (ru14 hr) .Eq) ?_ ?_ ?_
              · refine se_var (i := 0) ?_ ?_ ?_ ?_
                · rfl
                · exact Or.inl rfl
                · rfl
                · rfl
              · exact se_int
              · rfl
            · refine sss_one ?_
              refine ss_ret ?_
              refine se_make ((ok_Fit_init C).make (He.mkr_ok (C.fact 37 _ rfl)) hr (by decide)) k_Fit ?_ (C.glo 24 _ rfl) ?_ ?_ ?_ ?_
              · rfl
              · refine sa_cons ?_ ?_ ?_
                · refine se_ix (ru12 hr) ?_ ?_ ?_
                  · refine se_var (i := 1) ?_ ?_ ?_ ?_
                    · rfl
                    · exact Or.inl rfl
                    · rfl
                    · rfl
                  · exact se_int
                  · intro _ _; rfl
                · exact sa_nil
                · rfl
              · rfl
              · rfl
              · rfl
            · exact sss_nil
          · refine sss_cons ?_ ?_
            · refine ss_if ?_ ?_ ?_
              · refine st_cmp (os_cop (ru14 hr) .Eq) ?_ ?_ ?_
                · refine se_var (i := 0) ?_ ?_ ?_ ?_
                  · rfl
                  · exact Or.inl rfl
                  · rfl
                  · rfl
                · exact se_int
                · rfl
              · refine sss_one ?_
                refine ss_ret ?_
                refine se_make ((ok_NoFit_init C).make (He.mkr_ok (C.fact 38 _ rfl)) hr (by decide)) k_NoFit ?_ (C.glo 25 _ rfl) ?_ ?_ ?_ ?_
                · rfl
                · refine sa_cons ?_ ?_ ?_
                  · refine se_ix (ru12 hr) ?_ ?_ ?_
                    · refine se_var (i := 1) ?_ ?_ ?_ ?_
                      · rfl
                      · exact Or.inl rfl
                      · rfl
                      · rfl
                    · exact se_int
                    · intro _ _; rfl
                  · exact sa_nil
                  · rfl
                · rfl
                · rfl
                · rfl
              · exact sss_nil
            · refine sss_one ?_
              refine ss_ret ?_
              refine se_call ((ok_law_make_three C).s hr (by decide)) ?_ (C.glo 39 _ rfl) (ok_law_make_three (P := P) (w := w) (base := base) C).kp ?_ ?_ ?_ ?_
              · rfl
              · refine sa_cons ?_ ?_ ?_
                · refine se_var (i := 0) ?_ ?_ ?_ ?_
                  · rfl
                  · exact Or.inl rfl
                  · rfl
                  · rfl
                · refine sa_cons ?_ ?_ ?_
                  · refine se_var (i := 1) ?_ ?_ ?_ ?_
                    · rfl
                    · exact Or.inl rfl
                    · rfl
                    · rfl
                  · exact sa_nil
                  · rfl
                · rfl
              · rfl
              · rfl
              · rfl
theorem ok_law_make (C : Ct K mg) : FnG P w K mg base 5 (He.ga K "_law_make") 2 f_law_make := by
  obtain ⟨fd, F⟩ := C.defs 20 d_law_make rfl
  refine fn_D (k := 4) F S_law_make (fun _ _ _ _ _ _ us hl => match us, hl with | [_, _], _ => rfl) fun cdv A outer s H E hr => ?_
  refine sss_cons ?_ ?_
  · refine ss_if ?_ ?_ ?_
    · refine st_cmp (os_cop (ru14 hr) .Eq) ?_ ?_ ?_
      · refine se_var (i := 0) ?_ ?_ ?_ ?_
        · rfl
        · exact Or.inl rfl
        · rfl
        · rfl
      · exact se_int
      · rfl
    · refine sss_one ?_
      refine ss_ret ?_
      refine se_make ((ok_Oldest_init C).make (He.mkr_ok (C.fact 26 _ rfl)) hr (by decide)) k_Oldest ?_ (C.glo 2 _ rfl) ?_ ?_ ?_ ?_
      · rfl
      · refine sa_cons ?_ ?_ ?_
        · refine se_ix (ru12 hr) ?_ ?_ ?_
          · refine se_var (i := 1) ?_ ?_ ?_ ?_
            · rfl
            · exact Or.inl rfl
            · rfl
            · rfl
          · exact se_int
          · intro _ _; rfl
        · refine sa_cons ?_ ?_ ?_
          · refine se_ix (ru12 hr) ?_ ?_ ?_
            · refine se_var (i := 1) ?_ ?_ ?_ ?_
              · rfl
              · exact Or.inl rfl
              · rfl
              · rfl
            · exact se_int
            · intro _ _; rfl
          · refine sa_cons ?_ ?_ ?_
            · refine se_ix (ru12 hr) ?_ ?_ ?_
              · refine se_var (i := 1) ?_ ?_ ?_ ?_
                · rfl
                · exact Or.inl rfl
                · rfl
                · rfl
              · exact se_int
              · intro _ _; rfl
            · exact sa_nil
            · rfl
          · rfl
        · rfl
      · rfl
      · rfl
      · rfl
    · exact sss_nil
  · refine sss_cons ?_ ?_
    · refine ss_if ?_ ?_ ?_
      · refine st_cmp (os_cop (ru14 hr) .Eq) ?_ ?_ ?_
        · refine se_var (i := 0) ?_ ?_ ?_ ?_
          · rfl
          · exact Or.inl rfl
          · rfl
          · rfl
        · exact se_int
        · rfl
      · refine sss_one ?_
        refine ss_ret ?_
        refine se_make ((ok_Aging_init C).make (He.mkr_ok (C.fact 27 _ rfl)) hr (by decide)) k_Aging ?_ (C.glo 6 _ rfl) ?_ ?_ ?_ ?_
        · rfl
        · refine sa_cons ?_ ?_ ?_
          · refine se_ix (ru12 hr) ?_ ?_ ?_
            · refine se_var (i := 1) ?_ ?_ ?_ ?_
              · rfl
              · exact Or.inl rfl
              · rfl
              · rfl
            · exact se_int
            · intro _ _; rfl
          · refine sa_cons ?_ ?_ ?_
            · refine se_ix (ru12 hr) ?_ ?_ ?_
              · refine se_var (i := 1) ?_ ?_ ?_ ?_
                · rfl
                · exact Or.inl rfl
                · rfl
                · rfl
              · exact se_int
              · intro _ _; rfl
            · refine sa_cons ?_ ?_ ?_
              · refine se_ix (ru12 hr) ?_ ?_ ?_
                · refine se_var (i := 1) ?_ ?_ ?_ ?_
                  · rfl
                  · exact Or.inl rfl
                  · rfl
                  · rfl
                · exact se_int
                · intro _ _; rfl
              · exact sa_nil
              · rfl
            · rfl
          · rfl
        · rfl
        · rfl
        · rfl
      · exact sss_nil
    · refine sss_cons ?_ ?_
      · refine ss_if ?_ ?_ ?_
        · refine st_cmp (os_cop (ru14 hr) .Eq) ?_ ?_ ?_
          · refine se_var (i := 0) ?_ ?_ ?_ ?_
            · rfl
            · exact Or.inl rfl
            · rfl
            · rfl
          · exact se_int
          · rfl
        · refine sss_one ?_
          refine ss_ret ?_
          refine se_make ((ok_Alike_init C).make (He.mkr_ok (C.fact 28 _ rfl)) hr (by decide)) k_Alike ?_ (C.glo 15 _ rfl) ?_ ?_ ?_ ?_
          · rfl
          · refine sa_cons ?_ ?_ ?_
            · refine se_ix (ru12 hr) ?_ ?_ ?_
              · refine se_var (i := 1) ?_ ?_ ?_ ?_
                · rfl
                · exact Or.inl rfl
                · rfl
                · rfl
              · exact se_int
              · intro _ _; rfl
            · exact sa_nil
            · rfl
          · rfl
          · rfl
          · rfl
        · exact sss_nil
      · refine sss_cons ?_ ?_
        · refine ss_if ?_ ?_ ?_
          · refine st_cmp (os_cop (ru14 hr) .Eq) ?_ ?_ ?_
            · refine se_var (i := 0) ?_ ?_ ?_ ?_
              · rfl
              · exact Or.inl rfl
              · rfl
              · rfl
            · exact se_int
            · rfl
          · refine sss_one ?_
            refine ss_ret ?_
            refine se_make ((ok_Parted_init C).make (He.mkr_ok (C.fact 29 _ rfl)) hr (by decide)) k_Parted ?_ (C.glo 16 _ rfl) ?_ ?_ ?_ ?_
            · rfl
            · refine sa_cons ?_ ?_ ?_
              · refine se_ix (ru12 hr) ?_ ?_ ?_
                · refine se_var (i := 1) ?_ ?_ ?_ ?_
                  · rfl
                  · exact Or.inl rfl
                  · rfl
                  · rfl
                · exact se_int
                · intro _ _; rfl
              · exact sa_nil
              · rfl
            · rfl
            · rfl
            · rfl
          · exact sss_nil
        · refine sss_cons ?_ ?_
          · refine ss_if ?_ ?_ ?_
            · refine st_cmp (os_cop (ru14 hr) .Eq) ?_ ?_ ?_
              · refine se_var (i := 0) ?_ ?_ ?_ ?_
                · rfl
                · exact Or.inl rfl
                · rfl
                · rfl
              · exact se_int
              · rfl
            · refine sss_one ?_
              refine ss_ret ?_
              refine se_make ((ok_Linked_init C).make (He.mkr_ok (C.fact 30 _ rfl)) hr (by decide)) k_Linked ?_ (C.glo 17 _ rfl) ?_ ?_ ?_ ?_
              · rfl
              · refine sa_cons ?_ ?_ ?_
                · refine se_ix (ru12 hr) ?_ ?_ ?_
                  · refine se_var (i := 1) ?_ ?_ ?_ ?_
                    · rfl
                    · exact Or.inl rfl
                    · rfl
                    · rfl
                  · exact se_int
                  · intro _ _; rfl
                · exact sa_nil
                · rfl
              · rfl
              · rfl
              · rfl
            · exact sss_nil
          · refine sss_cons ?_ ?_
            · refine ss_if ?_ ?_ ?_
              · refine st_cmp (os_cop (ru14 hr) .Eq) ?_ ?_ ?_
                · refine se_var (i := 0) ?_ ?_ ?_ ?_
                  · rfl
                  · exact Or.inl rfl
                  · rfl
                  · rfl
                · exact se_int
                · rfl
              · refine sss_one ?_
                refine ss_ret ?_
                refine se_make ((ok_Unlinked_init C).make (He.mkr_ok (C.fact 31 _ rfl)) hr (by decide)) k_Unlinked ?_ (C.glo 18 _ rfl) ?_ ?_ ?_ ?_
                · rfl
                · refine sa_cons ?_ ?_ ?_
                  · refine se_ix (ru12 hr) ?_ ?_ ?_
                    · refine se_var (i := 1) ?_ ?_ ?_ ?_
                      · rfl
                      · exact Or.inl rfl
                      · rfl
                      · rfl
                    · exact se_int
                    · intro _ _; rfl
                  · exact sa_nil
                  · rfl
                · rfl
                · rfl
                · rfl
              · exact sss_nil
            · refine sss_one ?_
              refine ss_ret ?_
              refine se_call ((ok_law_make_two C).s hr (by decide)) ?_ (C.glo 32 _ rfl) (ok_law_make_two (P := P) (w := w) (base := base) C).kp ?_ ?_ ?_ ?_
              · rfl
              · refine sa_cons ?_ ?_ ?_
                · refine se_var (i := 0) ?_ ?_ ?_ ?_
                  · rfl
                  · exact Or.inl rfl
                  · rfl
                  · rfl
                · refine sa_cons ?_ ?_ ?_
                  · refine se_var (i := 1) ?_ ?_ ?_ ?_
                    · rfl
                    · exact Or.inl rfl
                    · rfl
                    · rfl
                  · exact sa_nil
                  · rfl
                · rfl
              · rfl
              · rfl
              · rfl
theorem ok_Oldest_three (C : Ct K mg) : FnG P w K mg base 1 (He.ma K (He.ga K "Oldest") "three") 1 f_Oldest_three := by
  obtain ⟨fd, F⟩ := C.defs 21 d_Oldest_three rfl
  refine fn_D (k := 0) F S_Oldest_three (fun _ _ _ _ _ _ us hl => match us, hl with | [_], _ => rfl) fun cdv A outer s H E hr => ?_
  refine sss_one ?_
  refine ss_ret ?_
  refine se_tup ?_
  refine sa_cons ?_ ?_ ?_
  · refine se_attr k_number (okA_ok C.fac) ?_ ?_
    · refine se_var (i := 0) ?_ ?_ ?_ ?_
      · rfl
      · exact Or.inl rfl
      · rfl
      · rfl
    · rfl
  · refine sa_cons ?_ ?_ ?_
    · refine se_attr k_course (okA_ok C.fac) ?_ ?_
      · refine se_var (i := 0) ?_ ?_ ?_ ?_
        · rfl
        · exact Or.inl rfl
        · rfl
        · rfl
      · rfl
    · refine sa_cons ?_ ?_ ?_
      · refine se_attr k_heights (okA_ok C.fac) ?_ ?_
        · refine se_var (i := 0) ?_ ?_ ?_ ?_
          · rfl
          · exact Or.inl rfl
          · rfl
          · rfl
        · rfl
      · exact sa_nil
      · rfl
    · rfl
  · rfl
theorem ok_Aging_three (C : Ct K mg) : FnG P w K mg base 1 (He.ma K (He.ga K "Aging") "three") 1 f_Aging_three := by
  obtain ⟨fd, F⟩ := C.defs 22 d_Aging_three rfl
  refine fn_D (k := 0) F S_Aging_three (fun _ _ _ _ _ _ us hl => match us, hl with | [_], _ => rfl) fun cdv A outer s H E hr => ?_
  refine sss_one ?_
  refine ss_ret ?_
  refine se_tup ?_
  refine sa_cons ?_ ?_ ?_
  · refine se_attr k_ahead (okA_ok C.fac) ?_ ?_
    · refine se_var (i := 0) ?_ ?_ ?_ ?_
      · rfl
      · exact Or.inl rfl
      · rfl
      · rfl
    · rfl
  · refine sa_cons ?_ ?_ ?_
    · refine se_attr k_ring (okA_ok C.fac) ?_ ?_
      · refine se_var (i := 0) ?_ ?_ ?_ ?_
        · rfl
        · exact Or.inl rfl
        · rfl
        · rfl
      · rfl
    · refine sa_cons ?_ ?_ ?_
      · refine se_attr k_rest (okA_ok C.fac) ?_ ?_
        · refine se_var (i := 0) ?_ ?_ ?_ ?_
          · rfl
          · exact Or.inl rfl
          · rfl
          · rfl
        · rfl
      · exact sa_nil
      · rfl
    · rfl
  · rfl
theorem ok_Widest_three (C : Ct K mg) : FnG P w K mg base 1 (He.ma K (He.ga K "Widest") "three") 1 f_Widest_three := by
  obtain ⟨fd, F⟩ := C.defs 23 d_Widest_three rfl
  refine fn_D (k := 0) F S_Widest_three (fun _ _ _ _ _ _ us hl => match us, hl with | [_], _ => rfl) fun cdv A outer s H E hr => ?_
  refine sss_one ?_
  refine ss_ret ?_
  refine se_tup ?_
  refine sa_cons ?_ ?_ ?_
  · refine se_attr k_number (okA_ok C.fac) ?_ ?_
    · refine se_var (i := 0) ?_ ?_ ?_ ?_
      · rfl
      · exact Or.inl rfl
      · rfl
      · rfl
    · rfl
  · refine sa_cons ?_ ?_ ?_
    · refine se_attr k_places (okA_ok C.fac) ?_ ?_
      · refine se_var (i := 0) ?_ ?_ ?_ ?_
        · rfl
        · exact Or.inl rfl
        · rfl
        · rfl
      · rfl
    · refine sa_cons ?_ ?_ ?_
      · refine se_attr k_course (okA_ok C.fac) ?_ ?_
        · refine se_var (i := 0) ?_ ?_ ?_ ?_
          · rfl
          · exact Or.inl rfl
          · rfl
          · rfl
        · rfl
      · exact sa_nil
      · rfl
    · rfl
  · rfl
theorem ok_Oldest_eq (C : Ct K mg) : FnG P w K mg base 2 (He.ma K (He.ga K "Oldest") "__eq__") 2 f_Oldest_eq := by
  obtain ⟨fd, F⟩ := C.defs 24 d_Oldest_eq rfl
  refine fn_D (k := 1) F S_Oldest_eq (fun _ _ _ _ _ _ us hl => match us, hl with | [_, _], _ => rfl) fun cdv A outer s H E hr => ?_
  refine sss_one ?_
  refine ss_ret ?_
  refine se_and ?_ ?_
  · refine se_callB (cs_isi (kit_of C.fac)) ?_ (C.free 3 _ rfl) boot_isinstance ?_ ?_ ?_ ?_ ?_
    · rfl
    · refine sa_cons ?_ ?_ ?_
      · refine se_var (i := 1) ?_ ?_ ?_ ?_
        · rfl
        · exact Or.inl rfl
        · rfl
        · rfl
      · refine sa_cons ?_ ?_ ?_
        · refine se_own k_Oldest ?_ (C.glo 2 _ rfl) ?_
          · rfl
          · rfl
        · exact sa_nil
        · rfl
      · rfl
    · decide
    · rfl
    · rfl
    · rfl
  · refine se_one ?_
    refine se_gc ?_
    refine se_cmp (os_copX (ru30 hr) .Eq) ?_ ?_ ?_
    · refine se_methF0 k_three (tbl_ok ⟨⟨⟨_, _, _, k_Oldest, (C.glo 2 _ rfl), He.cls_ok (C.fact 4 _ rfl), He.meth_ok (C.fact 5 _ rfl), (ok_Oldest_three C).s hr (by decide)⟩⟩, ⟨⟨_, _, _, k_Aging, (C.glo 6 _ rfl), He.cls_ok (C.fact 7 _ rfl), He.meth_ok (C.fact 8 _ rfl), (ok_Aging_three C).s hr (by decide)⟩⟩, ⟨⟨_, _, _, k_Widest, (C.glo 9 _ rfl), He.cls_ok (C.fact 10 _ rfl), He.meth_ok (C.fact 11 _ rfl), (ok_Widest_three C).s hr (by decide)⟩⟩, trivial⟩) ?_ rfl
      refine se_var (i := 0) ?_ ?_ ?_ ?_
      · rfl
      · exact Or.inl rfl
      · rfl
      · rfl
    · refine se_methF0 k_three (tbl_ok ⟨⟨⟨_, _, _, k_Oldest, (C.glo 2 _ rfl), He.cls_ok (C.fact 4 _ rfl), He.meth_ok (C.fact 5 _ rfl), (ok_Oldest_three C).s hr (by decide)⟩⟩, ⟨⟨_, _, _, k_Aging, (C.glo 6 _ rfl), He.cls_ok (C.fact 7 _ rfl), He.meth_ok (C.fact 8 _ rfl), (ok_Aging_three C).s hr (by decide)⟩⟩, ⟨⟨_, _, _, k_Widest, (C.glo 9 _ rfl), He.cls_ok (C.fact 10 _ rfl), He.meth_ok (C.fact 11 _ rfl), (ok_Widest_three C).s hr (by decide)⟩⟩, trivial⟩) ?_ rfl
      refine se_var (i := 1) ?_ ?_ ?_ ?_
      · rfl
      · exact Or.inl rfl
      · rfl
      · rfl
    · rfl
theorem ok_Aging_eq (C : Ct K mg) : FnG P w K mg base 2 (He.ma K (He.ga K "Aging") "__eq__") 2 f_Aging_eq := by
  obtain ⟨fd, F⟩ := C.defs 25 d_Aging_eq rfl
  refine fn_D (k := 1) F S_Aging_eq (fun _ _ _ _ _ _ us hl => match us, hl with | [_, _], _ => rfl) fun cdv A outer s H E hr => ?_
  refine sss_one ?_
  refine ss_ret ?_
  refine se_and ?_ ?_
  · refine se_callB (cs_isi (kit_of C.fac)) ?_ (C.free 3 _ rfl) boot_isinstance ?_ ?_ ?_ ?_ ?_
    · rfl
    · refine sa_cons ?_ ?_ ?_
      · refine se_var (i := 1) ?_ ?_ ?_ ?_
        · rfl
        · exact Or.inl rfl
        · rfl
        · rfl
      · refine sa_cons ?_ ?_ ?_
        · refine se_own k_Aging ?_ (C.glo 6 _ rfl) ?_
          · rfl
          · rfl
        · exact sa_nil
        · rfl
      · rfl
    · decide
    · rfl
    · rfl
    · rfl
  · refine se_one ?_
    refine se_gc ?_
    refine se_cmp (os_copX (ru30 hr) .Eq) ?_ ?_ ?_
    · refine se_methF0 k_three (tbl_ok ⟨⟨⟨_, _, _, k_Oldest, (C.glo 2 _ rfl), He.cls_ok (C.fact 4 _ rfl), He.meth_ok (C.fact 5 _ rfl), (ok_Oldest_three C).s hr (by decide)⟩⟩, ⟨⟨_, _, _, k_Aging, (C.glo 6 _ rfl), He.cls_ok (C.fact 7 _ rfl), He.meth_ok (C.fact 8 _ rfl), (ok_Aging_three C).s hr (by decide)⟩⟩, ⟨⟨_, _, _, k_Widest, (C.glo 9 _ rfl), He.cls_ok (C.fact 10 _ rfl), He.meth_ok (C.fact 11 _ rfl), (ok_Widest_three C).s hr (by decide)⟩⟩, trivial⟩) ?_ rfl
      refine se_var (i := 0) ?_ ?_ ?_ ?_
      · rfl
      · exact Or.inl rfl
      · rfl
      · rfl
    · refine se_methF0 k_three (tbl_ok ⟨⟨⟨_, _, _, k_Oldest, (C.glo 2 _ rfl), He.cls_ok (C.fact 4 _ rfl), He.meth_ok (C.fact 5 _ rfl), (ok_Oldest_three C).s hr (by decide)⟩⟩, ⟨⟨_, _, _, k_Aging, (C.glo 6 _ rfl), He.cls_ok (C.fact 7 _ rfl), He.meth_ok (C.fact 8 _ rfl), (ok_Aging_three C).s hr (by decide)⟩⟩, ⟨⟨_, _, _, k_Widest, (C.glo 9 _ rfl), He.cls_ok (C.fact 10 _ rfl), He.meth_ok (C.fact 11 _ rfl), (ok_Widest_three C).s hr (by decide)⟩⟩, trivial⟩) ?_ rfl
      refine se_var (i := 1) ?_ ?_ ?_ ?_
      · rfl
      · exact Or.inl rfl
      · rfl
      · rfl
    · rfl
theorem ok_Safe_eq (C : Ct K mg) : FnG P w K mg base 1 (He.ma K (He.ga K "Safe") "__eq__") 2 f_Safe_eq := by
  obtain ⟨fd, F⟩ := C.defs 26 d_Safe_eq rfl
  refine fn_D (k := 0) F S_Safe_eq (fun _ _ _ _ _ _ us hl => match us, hl with | [_, _], _ => rfl) fun cdv A outer s H E hr => ?_
  refine sss_one ?_
  refine ss_ret ?_
  refine se_and ?_ ?_
  · refine se_callB (cs_isi (kit_of C.fac)) ?_ (C.free 3 _ rfl) boot_isinstance ?_ ?_ ?_ ?_ ?_
    · rfl
    · refine sa_cons ?_ ?_ ?_
      · refine se_var (i := 1) ?_ ?_ ?_ ?_
        · rfl
        · exact Or.inl rfl
        · rfl
        · rfl
      · refine sa_cons ?_ ?_ ?_
        · refine se_own k_Safe ?_ (C.glo 13 _ rfl) ?_
          · rfl
          · rfl
        · exact sa_nil
        · rfl
      · rfl
    · decide
    · rfl
    · rfl
    · rfl
  · refine se_one ?_
    refine se_cmp (os_copX (ru30 hr) .Eq) ?_ ?_ ?_
    · refine se_attr k_states (okA_ok C.fac) ?_ ?_
      · refine se_var (i := 0) ?_ ?_ ?_ ?_
        · rfl
        · exact Or.inl rfl
        · rfl
        · rfl
      · rfl
    · refine se_attr k_states (okA_ok C.fac) ?_ ?_
      · refine se_var (i := 1) ?_ ?_ ?_ ?_
        · rfl
        · exact Or.inl rfl
        · rfl
        · rfl
      · rfl
    · rfl
theorem ok_Broken_eq (C : Ct K mg) : FnG P w K mg base 1 (He.ma K (He.ga K "Broken") "__eq__") 2 f_Broken_eq := by
  obtain ⟨fd, F⟩ := C.defs 27 d_Broken_eq rfl
  refine fn_D (k := 0) F S_Broken_eq (fun _ _ _ _ _ _ us hl => match us, hl with | [_, _], _ => rfl) fun cdv A outer s H E hr => ?_
  refine sss_one ?_
  refine ss_ret ?_
  refine se_and ?_ ?_
  · refine se_callB (cs_isi (kit_of C.fac)) ?_ (C.free 3 _ rfl) boot_isinstance ?_ ?_ ?_ ?_ ?_
    · rfl
    · refine sa_cons ?_ ?_ ?_
      · refine se_var (i := 1) ?_ ?_ ?_ ?_
        · rfl
        · exact Or.inl rfl
        · rfl
        · rfl
      · refine sa_cons ?_ ?_ ?_
        · refine se_own k_Broken ?_ (C.glo 14 _ rfl) ?_
          · rfl
          · rfl
        · exact sa_nil
        · rfl
      · rfl
    · decide
    · rfl
    · rfl
    · rfl
  · refine se_one ?_
    refine se_cmp (os_copX (ru30 hr) .Eq) ?_ ?_ ?_
    · refine se_attr k_course (okA_ok C.fac) ?_ ?_
      · refine se_var (i := 0) ?_ ?_ ?_ ?_
        · rfl
        · exact Or.inl rfl
        · rfl
        · rfl
      · rfl
    · refine se_attr k_course (okA_ok C.fac) ?_ ?_
      · refine se_var (i := 1) ?_ ?_ ?_ ?_
        · rfl
        · exact Or.inl rfl
        · rfl
        · rfl
      · rfl
    · rfl
theorem ok_Alike_eq (C : Ct K mg) : FnG P w K mg base 1 (He.ma K (He.ga K "Alike") "__eq__") 2 f_Alike_eq := by
  obtain ⟨fd, F⟩ := C.defs 28 d_Alike_eq rfl
  refine fn_D (k := 0) F S_Alike_eq (fun _ _ _ _ _ _ us hl => match us, hl with | [_, _], _ => rfl) fun cdv A outer s H E hr => ?_
  refine sss_one ?_
  refine ss_ret ?_
  refine se_and ?_ ?_
  · refine se_callB (cs_isi (kit_of C.fac)) ?_ (C.free 3 _ rfl) boot_isinstance ?_ ?_ ?_ ?_ ?_
    · rfl
    · refine sa_cons ?_ ?_ ?_
      · refine se_var (i := 1) ?_ ?_ ?_ ?_
        · rfl
        · exact Or.inl rfl
        · rfl
        · rfl
      · refine sa_cons ?_ ?_ ?_
        · refine se_own k_Alike ?_ (C.glo 15 _ rfl) ?_
          · rfl
          · rfl
        · exact sa_nil
        · rfl
      · rfl
    · decide
    · rfl
    · rfl
    · rfl
  · refine se_one ?_
    refine se_cmp (os_copX (ru30 hr) .Eq) ?_ ?_ ?_
    · refine se_attr k_pairs (okA_ok C.fac) ?_ ?_
      · refine se_var (i := 0) ?_ ?_ ?_ ?_
        · rfl
        · exact Or.inl rfl
        · rfl
        · rfl
      · rfl
    · refine se_attr k_pairs (okA_ok C.fac) ?_ ?_
      · refine se_var (i := 1) ?_ ?_ ?_ ?_
        · rfl
        · exact Or.inl rfl
        · rfl
        · rfl
      · rfl
    · rfl
theorem ok_Parted_eq (C : Ct K mg) : FnG P w K mg base 1 (He.ma K (He.ga K "Parted") "__eq__") 2 f_Parted_eq := by
  obtain ⟨fd, F⟩ := C.defs 29 d_Parted_eq rfl
  refine fn_D (k := 0) F S_Parted_eq (fun _ _ _ _ _ _ us hl => match us, hl with | [_, _], _ => rfl) fun cdv A outer s H E hr => ?_
  refine sss_one ?_
  refine ss_ret ?_
  refine se_and ?_ ?_
  · refine se_callB (cs_isi (kit_of C.fac)) ?_ (C.free 3 _ rfl) boot_isinstance ?_ ?_ ?_ ?_ ?_
    · rfl
    · refine sa_cons ?_ ?_ ?_
      · refine se_var (i := 1) ?_ ?_ ?_ ?_
        · rfl
        · exact Or.inl rfl
        · rfl
        · rfl
      · refine sa_cons ?_ ?_ ?_
        · refine se_own k_Parted ?_ (C.glo 16 _ rfl) ?_
          · rfl
          · rfl
        · exact sa_nil
        · rfl
      · rfl
    · decide
    · rfl
    · rfl
    · rfl
  · refine se_one ?_
    refine se_cmp (os_copX (ru30 hr) .Eq) ?_ ?_ ?_
    · refine se_attr k_course (okA_ok C.fac) ?_ ?_
      · refine se_var (i := 0) ?_ ?_ ?_ ?_
        · rfl
        · exact Or.inl rfl
        · rfl
        · rfl
      · rfl
    · refine se_attr k_course (okA_ok C.fac) ?_ ?_
      · refine se_var (i := 1) ?_ ?_ ?_ ?_
        · rfl
        · exact Or.inl rfl
        · rfl
        · rfl
      · rfl
    · rfl
theorem ok_Linked_eq (C : Ct K mg) : FnG P w K mg base 1 (He.ma K (He.ga K "Linked") "__eq__") 2 f_Linked_eq := by
  obtain ⟨fd, F⟩ := C.defs 30 d_Linked_eq rfl
  refine fn_D (k := 0) F S_Linked_eq (fun _ _ _ _ _ _ us hl => match us, hl with | [_, _], _ => rfl) fun cdv A outer s H E hr => ?_
  refine sss_one ?_
  refine ss_ret ?_
  refine se_and ?_ ?_
  · refine se_callB (cs_isi (kit_of C.fac)) ?_ (C.free 3 _ rfl) boot_isinstance ?_ ?_ ?_ ?_ ?_
    · rfl
    · refine sa_cons ?_ ?_ ?_
      · refine se_var (i := 1) ?_ ?_ ?_ ?_
        · rfl
        · exact Or.inl rfl
        · rfl
        · rfl
      · refine sa_cons ?_ ?_ ?_
        · refine se_own k_Linked ?_ (C.glo 17 _ rfl) ?_
          · rfl
          · rfl
        · exact sa_nil
        · rfl
      · rfl
    · decide
    · rfl
    · rfl
    · rfl
  · refine se_one ?_
    refine se_cmp (os_copX (ru30 hr) .Eq) ?_ ?_ ?_
    · refine se_attr k_states (okA_ok C.fac) ?_ ?_
      · refine se_var (i := 0) ?_ ?_ ?_ ?_
        · rfl
        · exact Or.inl rfl
        · rfl
        · rfl
      · rfl
    · refine se_attr k_states (okA_ok C.fac) ?_ ?_
      · refine se_var (i := 1) ?_ ?_ ?_ ?_
        · rfl
        · exact Or.inl rfl
        · rfl
        · rfl
      · rfl
    · rfl
theorem ok_Unlinked_eq (C : Ct K mg) : FnG P w K mg base 1 (He.ma K (He.ga K "Unlinked") "__eq__") 2 f_Unlinked_eq := by
  obtain ⟨fd, F⟩ := C.defs 31 d_Unlinked_eq rfl
  refine fn_D (k := 0) F S_Unlinked_eq (fun _ _ _ _ _ _ us hl => match us, hl with | [_, _], _ => rfl) fun cdv A outer s H E hr => ?_
  refine sss_one ?_
  refine ss_ret ?_
  refine se_and ?_ ?_
  · refine se_callB (cs_isi (kit_of C.fac)) ?_ (C.free 3 _ rfl) boot_isinstance ?_ ?_ ?_ ?_ ?_
    · rfl
    · refine sa_cons ?_ ?_ ?_
      · refine se_var (i := 1) ?_ ?_ ?_ ?_
        · rfl
        · exact Or.inl rfl
        · rfl
        · rfl
      · refine sa_cons ?_ ?_ ?_
        · refine se_own k_Unlinked ?_ (C.glo 18 _ rfl) ?_
          · rfl
          · rfl
        · exact sa_nil
        · rfl
      · rfl
    · decide
    · rfl
    · rfl
    · rfl
  · refine se_one ?_
    refine se_cmp (os_copX (ru30 hr) .Eq) ?_ ?_ ?_
    · refine se_attr k_course (okA_ok C.fac) ?_ ?_
      · refine se_var (i := 0) ?_ ?_ ?_ ?_
        · rfl
        · exact Or.inl rfl
        · rfl
        · rfl
      · rfl
    · refine se_attr k_course (okA_ok C.fac) ?_ ?_
      · refine se_var (i := 1) ?_ ?_ ?_ ?_
        · rfl
        · exact Or.inl rfl
        · rfl
        · rfl
      · rfl
    · rfl
theorem ok_Cheapest_four (C : Ct K mg) : FnG P w K mg base 1 (He.ma K (He.ga K "Cheapest") "four") 1 f_Cheapest_four := by
  obtain ⟨fd, F⟩ := C.defs 32 d_Cheapest_four rfl
  refine fn_D (k := 0) F S_Cheapest_four (fun _ _ _ _ _ _ us hl => match us, hl with | [_], _ => rfl) fun cdv A outer s H E hr => ?_
  refine sss_one ?_
  refine ss_ret ?_
  refine se_tup ?_
  refine sa_cons ?_ ?_ ?_
  · refine se_attr k_choice (okA_ok C.fac) ?_ ?_
    · refine se_var (i := 0) ?_ ?_ ?_ ?_
      · rfl
      · exact Or.inl rfl
      · rfl
      · rfl
    · rfl
  · refine sa_cons ?_ ?_ ?_
    · refine se_attr k_states (okA_ok C.fac) ?_ ?_
      · refine se_var (i := 0) ?_ ?_ ?_ ?_
        · rfl
        · exact Or.inl rfl
        · rfl
        · rfl
      · rfl
    · refine sa_cons ?_ ?_ ?_
      · refine se_attr k_heights (okA_ok C.fac) ?_ ?_
        · refine se_var (i := 0) ?_ ?_ ?_ ?_
          · rfl
          · exact Or.inl rfl
          · rfl
          · rfl
        · rfl
      · refine sa_cons ?_ ?_ ?_
        · refine se_attr k_against (okA_ok C.fac) ?_ ?_
          · refine se_var (i := 0) ?_ ?_ ?_ ?_
            · rfl
            · exact Or.inl rfl
            · rfl
            · rfl
          · rfl
        · exact sa_nil
        · rfl
      · rfl
    · rfl
  · rfl
theorem ok_Cheapest_eq (C : Ct K mg) : FnG P w K mg base 2 (He.ma K (He.ga K "Cheapest") "__eq__") 2 f_Cheapest_eq := by
  obtain ⟨fd, F⟩ := C.defs 33 d_Cheapest_eq rfl
  refine fn_D (k := 1) F S_Cheapest_eq (fun _ _ _ _ _ _ us hl => match us, hl with | [_, _], _ => rfl) fun cdv A outer s H E hr => ?_
  refine sss_one ?_
  refine ss_ret ?_
  refine se_and ?_ ?_
  · refine se_callB (cs_isi (kit_of C.fac)) ?_ (C.free 3 _ rfl) boot_isinstance ?_ ?_ ?_ ?_ ?_
    · rfl
    · refine sa_cons ?_ ?_ ?_
      · refine se_var (i := 1) ?_ ?_ ?_ ?_
        · rfl
        · exact Or.inl rfl
        · rfl
        · rfl
      · refine sa_cons ?_ ?_ ?_
        · refine se_own k_Cheapest ?_ (C.glo 20 _ rfl) ?_
          · rfl
          · rfl
        · exact sa_nil
        · rfl
      · rfl
    · decide
    · rfl
    · rfl
    · rfl
  · refine se_one ?_
    refine se_gc ?_
    refine se_cmp (os_copX (ru30 hr) .Eq) ?_ ?_ ?_
    · refine se_methF0 k_four (tbl_ok ⟨⟨⟨_, _, _, k_Cheapest, (C.glo 20 _ rfl), He.cls_ok (C.fact 21 _ rfl), He.meth_ok (C.fact 22 _ rfl), (ok_Cheapest_four C).s hr (by decide)⟩⟩, trivial⟩) ?_ rfl
      refine se_var (i := 0) ?_ ?_ ?_ ?_
      · rfl
      · exact Or.inl rfl
      · rfl
      · rfl
    · refine se_methF0 k_four (tbl_ok ⟨⟨⟨_, _, _, k_Cheapest, (C.glo 20 _ rfl), He.cls_ok (C.fact 21 _ rfl), He.meth_ok (C.fact 22 _ rfl), (ok_Cheapest_four C).s hr (by decide)⟩⟩, trivial⟩) ?_ rfl
      refine se_var (i := 1) ?_ ?_ ?_ ?_
      · rfl
      · exact Or.inl rfl
      · rfl
      · rfl
    · rfl
theorem ok_NoScheme_eq (C : Ct K mg) : FnG P w K mg base 1 (He.ma K (He.ga K "NoScheme") "__eq__") 2 f_NoScheme_eq := by
  obtain ⟨fd, F⟩ := C.defs 34 d_NoScheme_eq rfl
  refine fn_D (k := 0) F S_NoScheme_eq (fun _ _ _ _ _ _ us hl => match us, hl with | [_, _], _ => rfl) fun cdv A outer s H E hr => ?_
  refine sss_one ?_
  refine ss_ret ?_
  refine se_and ?_ ?_
  · refine se_callB (cs_isi (kit_of C.fac)) ?_ (C.free 3 _ rfl) boot_isinstance ?_ ?_ ?_ ?_ ?_
    · rfl
    · refine sa_cons ?_ ?_ ?_
      · refine se_var (i := 1) ?_ ?_ ?_ ?_
        · rfl
        · exact Or.inl rfl
        · rfl
        · rfl
      · refine sa_cons ?_ ?_ ?_
        · refine se_own k_NoScheme ?_ (C.glo 23 _ rfl) ?_
          · rfl
          · rfl
        · exact sa_nil
        · rfl
      · rfl
    · decide
    · rfl
    · rfl
    · rfl
  · refine se_one ?_
    refine se_cmp (os_copX (ru30 hr) .Eq) ?_ ?_ ?_
    · refine se_attr k_against (okA_ok C.fac) ?_ ?_
      · refine se_var (i := 0) ?_ ?_ ?_ ?_
        · rfl
        · exact Or.inl rfl
        · rfl
        · rfl
      · rfl
    · refine se_attr k_against (okA_ok C.fac) ?_ ?_
      · refine se_var (i := 1) ?_ ?_ ?_ ?_
        · rfl
        · exact Or.inl rfl
        · rfl
        · rfl
      · rfl
    · rfl
theorem ok_Fit_eq (C : Ct K mg) : FnG P w K mg base 1 (He.ma K (He.ga K "Fit") "__eq__") 2 f_Fit_eq := by
  obtain ⟨fd, F⟩ := C.defs 35 d_Fit_eq rfl
  refine fn_D (k := 0) F S_Fit_eq (fun _ _ _ _ _ _ us hl => match us, hl with | [_, _], _ => rfl) fun cdv A outer s H E hr => ?_
  refine sss_one ?_
  refine ss_ret ?_
  refine se_and ?_ ?_
  · refine se_callB (cs_isi (kit_of C.fac)) ?_ (C.free 3 _ rfl) boot_isinstance ?_ ?_ ?_ ?_ ?_
    · rfl
    · refine sa_cons ?_ ?_ ?_
      · refine se_var (i := 1) ?_ ?_ ?_ ?_
        · rfl
        · exact Or.inl rfl
        · rfl
        · rfl
      · refine sa_cons ?_ ?_ ?_
        · refine se_own k_Fit ?_ (C.glo 24 _ rfl) ?_
          · rfl
          · rfl
        · exact sa_nil
        · rfl
      · rfl
    · decide
    · rfl
    · rfl
    · rfl
  · refine se_one ?_
    refine se_cmp (os_copX (ru30 hr) .Eq) ?_ ?_ ?_
    · refine se_attr k_course (okA_ok C.fac) ?_ ?_
      · refine se_var (i := 0) ?_ ?_ ?_ ?_
        · rfl
        · exact Or.inl rfl
        · rfl
        · rfl
      · rfl
    · refine se_attr k_course (okA_ok C.fac) ?_ ?_
      · refine se_var (i := 1) ?_ ?_ ?_ ?_
        · rfl
        · exact Or.inl rfl
        · rfl
        · rfl
      · rfl
    · rfl
theorem ok_NoFit_eq (C : Ct K mg) : FnG P w K mg base 1 (He.ma K (He.ga K "NoFit") "__eq__") 2 f_NoFit_eq := by
  obtain ⟨fd, F⟩ := C.defs 36 d_NoFit_eq rfl
  refine fn_D (k := 0) F S_NoFit_eq (fun _ _ _ _ _ _ us hl => match us, hl with | [_, _], _ => rfl) fun cdv A outer s H E hr => ?_
  refine sss_one ?_
  refine ss_ret ?_
  refine se_and ?_ ?_
  · refine se_callB (cs_isi (kit_of C.fac)) ?_ (C.free 3 _ rfl) boot_isinstance ?_ ?_ ?_ ?_ ?_
    · rfl
    · refine sa_cons ?_ ?_ ?_
      · refine se_var (i := 1) ?_ ?_ ?_ ?_
        · rfl
        · exact Or.inl rfl
        · rfl
        · rfl
      · refine sa_cons ?_ ?_ ?_
        · refine se_own k_NoFit ?_ (C.glo 25 _ rfl) ?_
          · rfl
          · rfl
        · exact sa_nil
        · rfl
      · rfl
    · decide
    · rfl
    · rfl
    · rfl
  · refine se_one ?_
    refine se_cmp (os_copX (ru30 hr) .Eq) ?_ ?_ ?_
    · refine se_attr k_layers (okA_ok C.fac) ?_ ?_
      · refine se_var (i := 0) ?_ ?_ ?_ ?_
        · rfl
        · exact Or.inl rfl
        · rfl
        · rfl
      · rfl
    · refine se_attr k_layers (okA_ok C.fac) ?_ ?_
      · refine se_var (i := 1) ?_ ?_ ?_ ?_
        · rfl
        · exact Or.inl rfl
        · rfl
        · rfl
      · rfl
    · rfl
theorem ok_Widest_eq (C : Ct K mg) : FnG P w K mg base 2 (He.ma K (He.ga K "Widest") "__eq__") 2 f_Widest_eq := by
  obtain ⟨fd, F⟩ := C.defs 37 d_Widest_eq rfl
  refine fn_D (k := 1) F S_Widest_eq (fun _ _ _ _ _ _ us hl => match us, hl with | [_, _], _ => rfl) fun cdv A outer s H E hr => ?_
  refine sss_one ?_
  refine ss_ret ?_
  refine se_and ?_ ?_
  · refine se_callB (cs_isi (kit_of C.fac)) ?_ (C.free 3 _ rfl) boot_isinstance ?_ ?_ ?_ ?_ ?_
    · rfl
    · refine sa_cons ?_ ?_ ?_
      · refine se_var (i := 1) ?_ ?_ ?_ ?_
        · rfl
        · exact Or.inl rfl
        · rfl
        · rfl
      · refine sa_cons ?_ ?_ ?_
        · refine se_own k_Widest ?_ (C.glo 9 _ rfl) ?_
          · rfl
          · rfl
        · exact sa_nil
        · rfl
      · rfl
    · decide
    · rfl
    · rfl
    · rfl
  · refine se_one ?_
    refine se_gc ?_
    refine se_cmp (os_copX (ru30 hr) .Eq) ?_ ?_ ?_
    · refine se_methF0 k_three (tbl_ok ⟨⟨⟨_, _, _, k_Oldest, (C.glo 2 _ rfl), He.cls_ok (C.fact 4 _ rfl), He.meth_ok (C.fact 5 _ rfl), (ok_Oldest_three C).s hr (by decide)⟩⟩, ⟨⟨_, _, _, k_Aging, (C.glo 6 _ rfl), He.cls_ok (C.fact 7 _ rfl), He.meth_ok (C.fact 8 _ rfl), (ok_Aging_three C).s hr (by decide)⟩⟩, ⟨⟨_, _, _, k_Widest, (C.glo 9 _ rfl), He.cls_ok (C.fact 10 _ rfl), He.meth_ok (C.fact 11 _ rfl), (ok_Widest_three C).s hr (by decide)⟩⟩, trivial⟩) ?_ rfl
      refine se_var (i := 0) ?_ ?_ ?_ ?_
      · rfl
      · exact Or.inl rfl
      · rfl
      · rfl
    · refine se_methF0 k_three (tbl_ok ⟨⟨⟨_, _, _, k_Oldest, (C.glo 2 _ rfl), He.cls_ok (C.fact 4 _ rfl), He.meth_ok (C.fact 5 _ rfl), (ok_Oldest_three C).s hr (by decide)⟩⟩, ⟨⟨_, _, _, k_Aging, (C.glo 6 _ rfl), He.cls_ok (C.fact 7 _ rfl), He.meth_ok (C.fact 8 _ rfl), (ok_Aging_three C).s hr (by decide)⟩⟩, ⟨⟨_, _, _, k_Widest, (C.glo 9 _ rfl), He.cls_ok (C.fact 10 _ rfl), He.meth_ok (C.fact 11 _ rfl), (ok_Widest_three C).s hr (by decide)⟩⟩, trivial⟩) ?_ rfl
      refine se_var (i := 1) ?_ ?_ ?_ ?_
      · rfl
      · exact Or.inl rfl
      · rfl
      · rfl
    · rfl
theorem allQ {X : Cx} {j : Nat} (C : Ct X.K X.mg) (hr : Room j X.A) (h : 3 ≤ j) : AllQ X eqs := ⟨(ok_Oldest_eq (P := X.prog) (w := X.w) (base := X.base) C).q (He.meth_ok (C.fact 48 _ rfl)) k_Oldest (C.glo 2 _ rfl) hr (Nat.le_trans (by decide) h), (ok_Aging_eq (P := X.prog) (w := X.w) (base := X.base) C).q (He.meth_ok (C.fact 49 _ rfl)) k_Aging (C.glo 6 _ rfl) hr (Nat.le_trans (by decide) h), (ok_Safe_eq (P := X.prog) (w := X.w) (base := X.base) C).q (He.meth_ok (C.fact 50 _ rfl)) k_Safe (C.glo 13 _ rfl) hr (Nat.le_trans (by decide) h), (ok_Broken_eq (P := X.prog) (w := X.w) (base := X.base) C).q (He.meth_ok (C.fact 51 _ rfl)) k_Broken (C.glo 14 _ rfl) hr (Nat.le_trans (by decide) h), (ok_Alike_eq (P := X.prog) (w := X.w) (base := X.base) C).q (He.meth_ok (C.fact 52 _ rfl)) k_Alike (C.glo 15 _ rfl) hr (Nat.le_trans (by decide) h), (ok_Parted_eq (P := X.prog) (w := X.w) (base := X.base) C).q (He.meth_ok (C.fact 53 _ rfl)) k_Parted (C.glo 16 _ rfl) hr (Nat.le_trans (by decide) h), (ok_Linked_eq (P := X.prog) (w := X.w) (base := X.base) C).q (He.meth_ok (C.fact 54 _ rfl)) k_Linked (C.glo 17 _ rfl) hr (Nat.le_trans (by decide) h), (ok_Unlinked_eq (P := X.prog) (w := X.w) (base := X.base) C).q (He.meth_ok (C.fact 55 _ rfl)) k_Unlinked (C.glo 18 _ rfl) hr (Nat.le_trans (by decide) h), (ok_Cheapest_eq (P := X.prog) (w := X.w) (base := X.base) C).q (He.meth_ok (C.fact 56 _ rfl)) k_Cheapest (C.glo 20 _ rfl) hr (Nat.le_trans (by decide) h), (ok_NoScheme_eq (P := X.prog) (w := X.w) (base := X.base) C).q (He.meth_ok (C.fact 57 _ rfl)) k_NoScheme (C.glo 23 _ rfl) hr (Nat.le_trans (by decide) h), (ok_Fit_eq (P := X.prog) (w := X.w) (base := X.base) C).q (He.meth_ok (C.fact 58 _ rfl)) k_Fit (C.glo 24 _ rfl) hr (Nat.le_trans (by decide) h), (ok_NoFit_eq (P := X.prog) (w := X.w) (base := X.base) C).q (He.meth_ok (C.fact 59 _ rfl)) k_NoFit (C.glo 25 _ rfl) hr (Nat.le_trans (by decide) h), (ok_Widest_eq (P := X.prog) (w := X.w) (base := X.base) C).q (He.meth_ok (C.fact 60 _ rfl)) k_Widest (C.glo 9 _ rfl) hr (Nat.le_trans (by decide) h), trivial⟩
theorem okF_law (C : Ct K mg) {fd : FuncData} (F : FunD K d_law.name d_law.qual d_law.params d_law.body d_law.scope (d_law.dvs K) (d_law.kws K) (He.fAd K d_law.at_) fd) : FnOk P w K mg base (L2.CX P w) 6 (He.ga K "law") fd ["_law_script"] (spOf K mg w 1 f_law) := by
  refine fn_F (k := 5) F S_law fun cdv A outer s H E hr => ?_
  refine sss_cons ?_ ?_
  · refine ss_for (is := [1]) fu (passes_of rfl) ?_ ?_ ?_ ?_ ?_
    · rfl
    · refine si_range ?_ (C.free 44 _ rfl) ?_ ?_ ?_
      · rfl
      · refine sa_cons ?_ ?_ ?_
        · exact se_int
        · exact sa_nil
        · rfl
      · rfl
      · rfl
    · refine sg_name ?_
      exact ⟨S_law.nd, rfl, Or.inl rfl, Or.inr rfl⟩
    · refine sss_gc [1, 2, 3, 4, 5, 6] ?_
      refine sss_cons ?_ ?_
      · refine ss_set ?_ ?_ ?_
        · exact ⟨S_law.nd, rfl, Or.inl rfl, Or.inr rfl⟩
        · refine se_call ((ok_law_fresh C).s hr (by decide)) ?_ (C.glo 45 _ rfl) (ok_law_fresh (P := P) (w := w) (base := base) C).kp ?_ ?_ ?_ ?_
          · rfl
          · refine sa_cons ?_ ?_ ?_
            · refine se_var (i := 1) ?_ ?_ ?_ ?_
              · rfl
              · exact Or.inl rfl
              · rfl
              · rfl
            · exact sa_nil
            · rfl
          · rfl
          · rfl
          · rfl
        · rfl
      · refine sss_cons ?_ ?_
        · refine ss_set ?_ ?_ ?_
          · exact ⟨S_law.nd, rfl, Or.inr rfl, Or.inl rfl⟩
          · refine se_call ((ok_law_make C).s hr (by decide)) ?_ (C.glo 46 _ rfl) (ok_law_make (P := P) (w := w) (base := base) C).kp ?_ ?_ ?_ ?_
            · rfl
            · refine sa_cons ?_ ?_ ?_
              · refine se_var (i := 1) ?_ ?_ ?_ ?_
                · rfl
                · exact Or.inl rfl
                · rfl
                · rfl
              · refine sa_cons ?_ ?_ ?_
                · refine se_var (i := 2) ?_ ?_ ?_ ?_
                  · rfl
                  · exact Or.inl rfl
                  · rfl
                  · rfl
                · exact sa_nil
                · rfl
              · rfl
            · rfl
            · rfl
            · rfl
          · rfl
        · refine sss_cons ?_ ?_
          · refine ss_for (is := [4]) fu (passes_of rfl) ?_ ?_ ?_ ?_ ?_
            · rfl
            · refine si_val ?_
              refine se_var (i := 2) ?_ ?_ ?_ ?_
              · rfl
              · exact Or.inl rfl
              · rfl
              · rfl
            · refine sg_name ?_
              exact ⟨S_law.nd, rfl, Or.inl rfl, Or.inr rfl⟩
            · refine sss_one ?_
              refine ss_if ?_ ?_ ?_
              · refine st_val ?_ ?_
                · refine se_callB (cs_isi (kit_of C.fac)) ?_ (C.free 3 _ rfl) boot_isinstance ?_ ?_ ?_ ?_ ?_
                  · rfl
                  · refine sa_cons ?_ ?_ ?_
                    · refine se_var (i := 4) ?_ ?_ ?_ ?_
                      · rfl
                      · exact Or.inl rfl
                      · rfl
                      · rfl
                    · refine sa_cons ?_ ?_ ?_
                      · refine se_tup ?_
                        refine sa_cons ?_ ?_ ?_
                        · refine se_tyB (b := ("dict", x_dict, .dict)) C.fac 1 ?_ ?_ ?_ ?_
                          · rfl
                          · rfl
                          · decide
                          · rfl
                        · refine sa_cons ?_ ?_ ?_
                          · refine se_tyB (b := ("list", x_list, .list)) C.fac 0 ?_ ?_ ?_ ?_
                            · rfl
                            · rfl
                            · decide
                            · rfl
                          · exact sa_nil
                          · rfl
                        · rfl
                      · exact sa_nil
                      · rfl
                    · rfl
                  · decide
                  · rfl
                  · rfl
                  · rfl
                · intro _; rfl
              · refine sss_one ?_
                refine ss_expr ?_ ?_
                · refine se_meth0 (mt_ok (ru80 hr) .clear) ?_ ?_ ?_
                  · refine se_var (i := 4) ?_ ?_ ?_ ?_
                    · rfl
                    · exact Or.inl rfl
                    · rfl
                    · rfl
                  · rfl
                  · rfl
                · rfl
              · exact sss_nil
            · intro _; rfl
          · refine sss_cons ?_ ?_
            · refine ss_if ?_ ?_ ?_
              · refine st_gc ?_
                refine st_cmp (os_copE (ru14 hr) C.fac C.q (eqT_ok (allQ C hr (by decide))) .NotEq) ?_ ?_ ?_
                · refine se_var (i := 3) ?_ ?_ ?_ ?_
                  · rfl
                  · exact Or.inr (Or.inl rfl)
                  · rfl
                  · rfl
                · refine se_call ((ok_law_make C).s hr (by decide)) ?_ (C.glo 46 _ rfl) (ok_law_make (P := P) (w := w) (base := base) C).kp ?_ ?_ ?_ ?_
                  · rfl
                  · refine sa_cons ?_ ?_ ?_
                    · refine se_var (i := 1) ?_ ?_ ?_ ?_
                      · rfl
                      · exact Or.inl rfl
                      · rfl
                      · rfl
                    · refine sa_cons ?_ ?_ ?_
                      · refine se_call ((ok_law_fresh C).s hr (by decide)) ?_ (C.glo 45 _ rfl) (ok_law_fresh (P := P) (w := w) (base := base) C).kp ?_ ?_ ?_ ?_
                        · rfl
                        · refine sa_cons ?_ ?_ ?_
                          · refine se_var (i := 1) ?_ ?_ ?_ ?_
                            · rfl
                            · exact Or.inl rfl
                            · rfl
                            · rfl
                          · exact sa_nil
                          · rfl
                        · rfl
                        · rfl
                        · rfl
                      · exact sa_nil
                      · rfl
                    · rfl
                  · rfl
                  · rfl
                  · rfl
                · rfl
              · refine sss_one ?_
                refine ss_ret ?_
                exact se_bl
              · exact sss_nil
            · refine sss_cons ?_ ?_
              · refine ss_for (is := [5]) fu (passes_of rfl) ?_ ?_ ?_ ?_ ?_
                · rfl
                · refine si_range ?_ (C.free 44 _ rfl) ?_ ?_ ?_
                  · rfl
                  · refine sa_cons ?_ ?_ ?_
                    · refine se_callB (cs_len) ?_ (C.free 47 _ rfl) boot_len ?_ ?_ ?_ ?_ ?_
                      · rfl
                      · refine sa_cons ?_ ?_ ?_
                        · refine se_var (i := 2) ?_ ?_ ?_ ?_
                          · rfl
                          · exact Or.inl rfl
                          · rfl
                          · rfl
                        · exact sa_nil
                        · rfl
                      · decide
                      · rfl
                      · rfl
                      · rfl
                    · exact sa_nil
                    · rfl
                  · rfl
                  · rfl
                · refine sg_name ?_
                  exact ⟨S_law.nd, rfl, Or.inl rfl, Or.inr rfl⟩
                · refine sss_gc [5, 6] ?_
                  refine sss_cons ?_ ?_
                  · refine ss_set ?_ ?_ ?_
                    · exact ⟨S_law.nd, rfl, Or.inl rfl, Or.inr rfl⟩
                    · refine se_call ((ok_law_fresh C).s hr (by decide)) ?_ (C.glo 45 _ rfl) (ok_law_fresh (P := P) (w := w) (base := base) C).kp ?_ ?_ ?_ ?_
                      · rfl
                      · refine sa_cons ?_ ?_ ?_
                        · refine se_var (i := 1) ?_ ?_ ?_ ?_
                          · rfl
                          · exact Or.inl rfl
                          · rfl
                          · rfl
                        · exact sa_nil
                        · rfl
                      · rfl
                      · rfl
                      · rfl
                    · rfl
                  · refine sss_cons ?_ ?_
                    · refine ss_sub (ru12 hr) ?_ ?_ ?_ ?_
                      · refine se_var (i := 6) ?_ ?_ ?_ ?_
                        · rfl
                        · exact Or.inl rfl
                        · rfl
                        · rfl
                      · refine se_var (i := 5) ?_ ?_ ?_ ?_
                        · rfl
                        · exact Or.inl rfl
                        · rfl
                        · rfl
                      · refine se_ix (ru12 hr) ?_ ?_ ?_
                        · refine se_ix (ru12 hr) ?_ ?_ ?_
                          · refine se_call ((ok_law_parts C).s hr (by decide)) ?_ (C.glo 43 _ rfl) (ok_law_parts (P := P) (w := w) (base := base) C).kp ?_ ?_ ?_ ?_
                            · rfl
                            · refine sa_cons ?_ ?_ ?_
                              · refine se_var (i := 1) ?_ ?_ ?_ ?_
                                · rfl
                                · exact Or.inl rfl
                                · rfl
                                · rfl
                              · exact sa_nil
                              · rfl
                            · rfl
                            · rfl
                            · rfl
                          · refine se_var (i := 5) ?_ ?_ ?_ ?_
                            · rfl
                            · exact Or.inl rfl
                            · rfl
                            · rfl
                          · intro _ _; rfl
                        · exact se_int
                        · intro _ _; rfl
                      · rfl
                    · refine sss_one ?_
                      refine ss_if ?_ ?_ ?_
                      · refine st_gc ?_
                        refine st_cmp (os_copE (ru14 hr) C.fac C.q (eqT_ok (allQ C hr (by decide))) .Eq) ?_ ?_ ?_
                        · refine se_var (i := 3) ?_ ?_ ?_ ?_
                          · rfl
                          · exact Or.inr (Or.inl rfl)
                          · rfl
                          · rfl
                        · refine se_call ((ok_law_make C).s hr (by decide)) ?_ (C.glo 46 _ rfl) (ok_law_make (P := P) (w := w) (base := base) C).kp ?_ ?_ ?_ ?_
                          · rfl
                          · refine sa_cons ?_ ?_ ?_
                            · refine se_var (i := 1) ?_ ?_ ?_ ?_
                              · rfl
                              · exact Or.inl rfl
                              · rfl
                              · rfl
                            · refine sa_cons ?_ ?_ ?_
                              · refine se_var (i := 6) ?_ ?_ ?_ ?_
                                · rfl
                                · exact Or.inl rfl
                                · rfl
                                · rfl
                              · exact sa_nil
                              · rfl
                            · rfl
                          · rfl
                          · rfl
                          · rfl
                        · rfl
                      · refine sss_one ?_
                        refine ss_ret ?_
                        exact se_bl
                      · exact sss_nil
                · intro _; rfl
              · refine sss_one ?_
                refine ss_if ?_ ?_ ?_
                · refine st_gc ?_
                  refine st_cmp (os_cop (ru14 hr) .NotEq) ?_ ?_ ?_
                  · refine se_meth (mt_ok (ru80 hr) .count) ?_ ?_ ?_ ?_ ?_ ?_ ?_
                    · refine se_lc (ts := [7]) fu ?_ S_law.nd ?_ (blkOk_by (own := [("_law_by", 7)]) (by first | rfl | decide +kernel)) ?_ ?_ ?_ ?_ ?_
                      · rfl
                      · refine si_range ?_ (C.free 44 _ rfl) ?_ ?_ ?_
                        · rfl
                        · refine sa_cons ?_ ?_ ?_
                          · exact se_int
                          · exact sa_nil
                          · rfl
                        · rfl
                        · rfl
                      · decide
                      · intro s H Ca cl fp
                        refine sg_name ?_
                        exact ⟨S_law.nd, rfl, Or.inl rfl, Or.inr rfl⟩
                      · intro s H Ca cl fp
                        refine pts_yes ?_
                        exact ⟨rfl, rfl, rfl⟩
                      · intro s H Ca cl fp
                        refine se_gc ?_
                        refine se_cmp (os_copE (ru14 hr) C.fac C.q (eqT_ok (allQ C hr (by decide))) .Eq) ?_ ?_ ?_
                        · refine se_var (i := 3) ?_ ?_ ?_ ?_
                          · rfl
                          · exact Or.inr (Or.inl rfl)
                          · rfl
                          · rfl
                        · refine se_call ((ok_law_make C).s hr (by decide)) ?_ (C.glo 46 _ rfl) (ok_law_make (P := P) (w := w) (base := base) C).kp ?_ ?_ ?_ ?_
                          · rfl
                          · refine sa_cons ?_ ?_ ?_
                            · refine se_var (i := 7) ?_ ?_ ?_ ?_
                              · rfl
                              · exact Or.inl rfl
                              · rfl
                              · rfl
                            · refine sa_cons ?_ ?_ ?_
                              · refine se_call ((ok_law_fresh C).s hr (by decide)) ?_ (C.glo 45 _ rfl) (ok_law_fresh (P := P) (w := w) (base := base) C).kp ?_ ?_ ?_ ?_
                                · rfl
                                · refine sa_cons ?_ ?_ ?_
                                  · refine se_var (i := 7) ?_ ?_ ?_ ?_
                                    · rfl
                                    · exact Or.inl rfl
                                    · rfl
                                    · rfl
                                  · exact sa_nil
                                  · rfl
                                · rfl
                                · rfl
                                · rfl
                              · exact sa_nil
                              · rfl
                            · rfl
                          · rfl
                          · rfl
                          · rfl
                        · rfl
                      · intro _; rfl
                    · refine sa_cons ?_ ?_ ?_
                      · exact se_bl
                      · exact sa_nil
                      · rfl
                    · rfl
                    · rfl
                    · rfl
                    · rfl
                    · rfl
                  · exact se_int
                  · rfl
                · refine sss_one ?_
                  refine ss_ret ?_
                  exact se_bl
                · exact sss_nil
    · intro _; rfl
  · refine sss_one ?_
    refine ss_ret ?_
    refine se_callB (cs_isi (kit_of C.fac)) ?_ (C.free 3 _ rfl) boot_isinstance ?_ ?_ ?_ ?_ ?_
    · rfl
    · refine sa_cons ?_ ?_ ?_
      · refine se_var (i := 0) ?_ ?_ ?_ ?_
        · rfl
        · exact Or.inl rfl
        · rfl
        · rfl
      · refine sa_cons ?_ ?_ ?_
        · refine se_tyB (b := ("list", x_list, .list)) C.fac 0 ?_ ?_ ?_ ?_
          · rfl
          · rfl
          · decide
          · rfl
        · exact sa_nil
        · rfl
      · rfl
    · decide
    · rfl
    · rfl
    · rfl
end
end K41
namespace K41
open PySem PySem.Spec PyProof.Rows L2 G47
def ex0 (K : PySem.W.Frag) : Bool := exC cs K && (eqB1 cs K && noL K)
abbrev R0 : PySem.W.OpenRow := PySem.W.OpenLaw.row PySem.Challenge.rw_cellswaps_k41_known_equal
abbrev hk : PySem.W.Hook := He.hookX 4 fa fn [] [] ex0
def ob (s : PySem.W.SharedT) : He.AlX := He.obsX 4 fa fn [] [] ex0 (HandSHeadRun.getT s)
theorem ob_eq (s : PySem.W.SharedT) : ob s = hk.obs s.abs := He.obsX_eq (HandSHeadRun.getT_eq s)
def loose0 : List Str := (["_wall", "Oldest", "Aging", "Safe", "Broken", "Alike", "Parted", "Linked", "Unlinked", "copied", "Cheapest", "NoScheme", "Fit", "NoFit", "Widest", "_law_make", "_law_make_two", "_law_make_three", "_law_parts", "_law_parts_two", "_law_parts_three", "_law_fresh"] : List Str)
theorem run0 (w : World) : HandSHeadRun.RunEq R0 (PySem.W.view R0.prog [30]) hk ob 60000 loose0 w := by
  intro os
  kernel_rfl
theorem law0 : ∀ ns : List Int, ns.length ≤ 63 → ∃ h', f_law [.ref 0] [.lst true (ns.map D.int)] = some (.ok (.bl true) h') := by
  intro ns _
  have e : outT (f_law [.ref 0] [.lst true (ns.map D.int)]) = true := by kernel_rfl
  exact outT_ok e
theorem tx0 : txC cs = true := by decide +kernel
theorem bs0 : bsB bs = true := by decide +kernel
theorem facts0 {K : PySem.W.Frag} {h : Heap} {mg : Str → Option Value} {w : World} (X : K.In h) (G : h.Ns mainGlobals mg) (c : He.SaysX fa fn [] [] ex0 w h K) : Ct K mg ∧ noL K = true := by
  have hm := c.more
  unfold ex0 at hm
  obtain ⟨h1, h2⟩ := He.ba hm
  obtain ⟨hq, h2⟩ := He.ba h2
  refine ⟨⟨⟨fun i f e => c.t.d.fact i e, fun i x e => He.glo_ok X G (c.t.d.fact i e), fun i x e => He.free_ok X G (c.t.d.fact i e), fun i d e => c.t.d.def_ i e, ⟨h1, tx0, bs0, fun ci hc => ?_, fun b hb => ?_⟩⟩, hq⟩, h2⟩
  · have e := List.all_eq_true.mp h1 ci hc
    unfold ciB at e
    obtain ⟨_, e⟩ := He.ba e
    obtain ⟨e, _⟩ := He.ba e
    exact He.glo_ok X G e
  · have hb2 : (He.Fa.free b.1) ∈ fa := by
      have hall : bs.all (fun b => fa.any fun f => match f with | .free x => decide (x = b.1) | _ => false) = true := by decide +kernel
      obtain ⟨f, hf, e⟩ := List.any_eq_true.mp (List.all_eq_true.mp hall b hb)
      cases f with
      | free x => have e : x = b.1 := of_decide_eq_true e; rw [← e]; exact hf
      | _ => cases e
    obtain ⟨i, hi⟩ := List.getElem?_of_mem hb2
    exact He.free_ok X G (c.t.d.fact i hi)
end K41
open PySem PySem.W PySem.Calls PyProof.Rows in
theorem PySem.Challenge.cw_cellswaps_k41_known_equal_holds : PySem.Challenge.rw_cellswaps_k41_known_equal.Holds := by
  w_on; o_law
  refine HandSHeadRun.head_any (r := OpenLaw.row PySem.Challenge.rw_cellswaps_k41_known_equal) (q := view (OpenLaw.row PySem.Challenge.rw_cellswaps_k41_known_equal).prog [30]) (H := K41.hk) (ob := K41.ob) (M := 60000) (loose := K41.loose0) (d := HandSHeadRun.topDef (OpenLaw.row PySem.Challenge.rw_cellswaps_k41_known_equal).prog 30) (kwd := []) K41.ob_eq
    (by kernel_rfl) (fun s => by kernel_rfl) K41.run0 (by kernel_rfl) (by kernel_rfl) (by kernel_rfl) (by rfl) (by first | assumption | decide +kernel) (by decide +kernel) ⟨rfl, rfl, rfl, rfl, rfl, by decide +kernel⟩ ?hw ?hc
  case hw => w_witness2
  case hc =>
    refine G47.walk_W (l := PySem.Challenge.rw_cellswaps_k41_known_equal) (n := 63) (k := 6) (x := "_law_script") (φ := K41.f_law) rfl (by decide) (by kernel_rfl) ⟨rfl, by decide, by decide⟩ K41.law0 ?F
    intro w mg fa h Y G hmg0
    obtain ⟨K, KX, c⟩ := Y
    have hmg : mg ("law" : PySem.Str) = some (.ref fa) := by
      have e : (HandSHeadRun.topDef (OpenLaw.row PySem.Challenge.rw_cellswaps_k41_known_equal).prog 30).name = ("law" : PySem.Str) := by kernel_rfl
      rw [← e]
      exact hmg0
    obtain ⟨C, hK⟩ := K41.facts0 KX G c
    have e := hmg.symm.trans (C.glo 61 _ rfl)
    cases e
    obtain ⟨fd, F⟩ := C.defs 38 K41.d_law rfl
    refine ⟨K, fd, KX, hK, fun s u => ?_, fun base _ _ => ?_⟩
    · exact L2.FunD.bindsA (ps := ["_law_script"]) F (fun _ _ _ _ _ _ us hl => match us, hl with | [_], _ => rfl) s [u] rfl
    · exact K41.okF_law C F
