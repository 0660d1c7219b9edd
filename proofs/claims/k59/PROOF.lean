import PyProof.Rows.All
import Wide.All
import OpenK.AllK
import Wide.FinOn
import HandS.ForMost
import HandS.DictComp
import HandS.DictTup
import HandS.IsInst
import HandS.TupAny
import HandS.Walk
import HandS.Style
import HandS.SetKeys
import KE.SortData
import KE.KDictKeyed
import HandS.Conv
import PyProof.SumAny
import KE.KDictCopyH
import KE.KDictPairs
import KE.KDictItemsList
import HandS.Codes
import HandS.Defaults
import HandS.HeadEnd
import HandS.Base
import HandS.Call
import HandS.Ends
import HandS.More
import HandS.Words
import HandS.WordsExc
import HandS.Head0
import HandS.Head1
import HandS.Head2
import HandS.HeadHook1
import HandS.HeadHook2
import PySem.Challenge.RW_columnlaws_k59_ways_and_exchanges
set_option Elab.async false
set_option linter.all false
section
set_option maxRecDepth 100000
/-! PL, part A: plain data, and how they lie in the heap. -/
namespace L2.PL
open PySem
/-- plain data; dic's flag: the keys are tuples -/
inductive D where
  | non | bl (b : Bool) | int (i : Int) | str (x : Str)
  | tup (xs : List D) | lst (xs : List D) | dic (t : Bool) (kvs : List (NestedKey × D))
instance : Inhabited D := ⟨.non⟩
/-- what is fixed for a whole law -/
structure Cn where
  P : Program
  w : World
  K : PySem.W.Frag
mutual
def toD : NestedKey → D
  | .none => .non
  | .num i => .int i
  | .text x => .str x
  | .tup ks => .tup (toDs ks)
def toDs : List NestedKey → List D
  | [] => []
  | k :: ks => toD k :: toDs ks
end
mutual
def keyOf : D → Option NestedKey
  | .non => some .none
  | .int i => some (.num i)
  | .str x => some (.text x)
  | .tup xs => (keysOf xs).map NestedKey.tup
  | _ => none
def keysOf : List D → Option (List NestedKey)
  | [] => some []
  | d :: ds => match keyOf d, keysOf ds with
    | some k, some ks => some (k :: ks)
    | _, _ => none
end
mutual
theorem toD_keyOf : ∀ (d : D) (k : NestedKey), keyOf d = some k → toD k = d
  | .non, k, h => by simp [keyOf] at h; subst h; rfl
  | .bl _, _, h => by simp [keyOf] at h
  | .int _, k, h => by simp [keyOf] at h; subst h; rfl
  | .str _, k, h => by simp [keyOf] at h; subst h; rfl
  | .tup xs, k, h => by
    simp [keyOf] at h
    obtain ⟨ks, h1, rfl⟩ := h
    simp [toD, toDs_keysOf xs ks h1]
  | .lst _, _, h => by simp [keyOf] at h
  | .dic _ _, _, h => by simp [keyOf] at h
theorem toDs_keysOf : ∀ (ds : List D) (ks : List NestedKey), keysOf ds = some ks → toDs ks = ds
  | [], ks, h => by simp [keysOf] at h; subst h; rfl
  | d :: ds, ks, h => by
    simp only [keysOf] at h
    split at h
    · rename_i k ks' h1 h2
      simp at h; subst h
      simp [toDs, toD_keyOf d k h1, toDs_keysOf ds ks' h2]
    · cases h
end
/-- the key as one of a dict of whole numbers and texts -/
def leafK : NestedKey → Key
  | .num i => .inl i
  | .text x => .inr x
  | _ => .inl 0
/-- the keys that a dict of one kind may have -/
def KeyOk (t : Bool) (k : NestedKey) : Prop := match t, k with
  | false, .num _ => True
  | false, .text _ => True
  | true, .tup ks => (NestedKey.tup ks).depth ≤ 8
  | _, _ => False
def keyOkB (t : Bool) (k : NestedKey) : Bool := match t, k with
  | false, .num _ => true
  | false, .text _ => true
  | true, .tup ks => decide ((NestedKey.tup ks).depth ≤ 8)
  | _, _ => false
theorem keyOk_of {t : Bool} {k : NestedKey} (h : keyOkB t k = true) : KeyOk t k := by
  unfold keyOkB at h; unfold KeyOk; cases t <;> cases k <;> simp_all
theorem kV_leaf {k : NestedKey} (h : KeyOk false k) : (∃ i, k = .num i ∧ leafK k = .inl i) ∨ (∃ x, k = .text x ∧ leafK k = .inr x) := by
  cases k with
  | num i => exact .inl ⟨i, rfl, rfl⟩
  | text x => exact .inr ⟨x, rfl, rfl⟩
  | none => cases h
  | tup _ => cases h
theorem leafK_inj {k j : NestedKey} (h : KeyOk false k) (h' : KeyOk false j) : leafK k = leafK j ↔ k = j := by
  rcases kV_leaf h with ⟨i, rfl, e⟩ | ⟨i, rfl, e⟩ <;> rcases kV_leaf h' with ⟨i', rfl, e'⟩ | ⟨i', rfl, e'⟩ <;> simp [leafK]
def adr : V → Addr
  | .ref a => a
  | _ => 0
/-- an entry: its key, the key's own value, the value -/
abbrev Ent := NestedKey × V × V
/-- at a: a dict with tuple keys; told of its own object alone -/
def DN (c : Cn) (a : Addr) (ns : List Ent) (h : Heap) : Prop :=
  ns.length ≤ sizeLine ∧ (a == sysModules) = false ∧ ∃ (o : Obj) (es : Array DictEntry) (ep : Nat) (xs : List (NestedKey × Addr × Value)),
    h.get? a = some o ∧ o.ExactDict ∧ o.data = .dict es ep ∧ Paired (fun (n : Ent) (x : NestedKey × Addr × Value) => n.1 = x.1 ∧ n.2.1 = .ref x.2.1 ∧ RelV n.2.2 x.2.2) ns xs ∧
    es.toList = xs.map (entryOfKey (nestedKind c.P c.w)) ∧ (xs.map (·.1)).Nodup
/-- what stands at a dict's address -/
def dHO (c : Cn) (a : Addr) (t : Bool) (ns : List Ent) : HO := match t with
  | true => .ext (DN c a ns)
  | false => .dK (ns.map fun n => (leafK n.1, n.2.2))
theorem dHO_mut (c : Cn) (a : Addr) (t : Bool) (ns : List Ent) : Mut (some (dHO c a t ns)) := by cases t <;> exact True.intro
/-! ### data in the frozen part F of the heap -/
mutual
def RpKey (c : Cn) (F : Hp) : NestedKey → V → Prop
  | .none, v => v = .non
  | .num i, v => v = .int i
  | .text x, v => v = .str x
  | .tup ks, v => ∃ a vs, v = .ref a ∧ SqT c.K F a vs ∧ RpKeys c F ks vs
def RpKeys (c : Cn) (F : Hp) : List NestedKey → List V → Prop
  | [], vs => vs = []
  | k :: ks, vs => ∃ v vs', vs = v :: vs' ∧ RpKey c F k v ∧ RpKeys c F ks vs'
end
mutual
def Rp (c : Cn) (F : Hp) : D → V → Prop
  | .non, v => v = .non
  | .bl b, v => v = .bl b
  | .int i, v => v = .int i
  | .str x, v => v = .str x
  | .tup xs, v => ∃ a vs, v = .ref a ∧ SqT c.K F a vs ∧ Rps c F xs vs
  | .lst xs, v => ∃ a vs, v = .ref a ∧ SqL c.K F a vs ∧ Rps c F xs vs
  | .dic t kvs, v => ∃ a ob ns, v = .ref a ∧ F a = some (.frz ob (dHO c a t ns)) ∧ Rpk c F t kvs ns
def Rps (c : Cn) (F : Hp) : List D → List V → Prop
  | [], vs => vs = []
  | d :: ds, vs => ∃ v vs', vs = v :: vs' ∧ Rp c F d v ∧ Rps c F ds vs'
def Rpk (c : Cn) (F : Hp) (t : Bool) : List (NestedKey × D) → List Ent → Prop
  | [], ns => ns = []
  | (k, d) :: r, ns => ∃ kv v ns', ns = (k, kv, v) :: ns' ∧ KeyOk t k ∧ RpKey c F k kv ∧ Rp c F d v ∧ Rpk c F t r ns'
end
def Le (F F' : Hp) : Prop := ∀ a o, F a = some o → F' a = some o
theorem Le.refl (F : Hp) : Le F F := fun _ _ h => h
theorem Le.trans {F G H : Hp} (h : Le F G) (h' : Le G H) : Le F H := fun a o e => h' a o (h a o e)
theorem Le.upd {F : Hp} {a : Addr} {o : HO} (h : F a = none) : Le F (upd F a o) := fun b u e => by rw [upd_ne (ne_of_none e h)]; exact e
theorem Rd.le {F F' : Hp} {a : Addr} {u : HO} (l : Le F F') (h : Rd F a u) : Rd F' a u := by
  rcases h with h | ⟨o, h⟩
  · exact .inl (l _ _ h)
  · exact .inr ⟨o, l _ _ h⟩
theorem sqT_le {K : PySem.W.Frag} {F F' : Hp} {a : Addr} {vs : List V} (l : Le F F') (h : SqT K F a vs) : SqT K F' a vs := h.imp (Rd.le l) id
theorem sqL_le {K : PySem.W.Frag} {F F' : Hp} {a : Addr} {vs : List V} (l : Le F F') (h : SqL K F a vs) : SqL K F' a vs := h.imp (Rd.le l) id
section
variable {c : Cn} {F F' : Hp}
mutual
theorem RpKey.le (l : Le F F') : ∀ (k : NestedKey) (v : V), RpKey c F k v → RpKey c F' k v
  | .none, _, h => by simpa [RpKey] using h
  | .num _, _, h => by simpa [RpKey] using h
  | .text _, _, h => by simpa [RpKey] using h
  | .tup ks, v, h => by
    rw [RpKey] at h ⊢
    obtain ⟨a, vs, e, s, r⟩ := h
    exact ⟨a, vs, e, sqT_le l s, RpKeys.le l ks vs r⟩
theorem RpKeys.le (l : Le F F') : ∀ (ks : List NestedKey) (vs : List V), RpKeys c F ks vs → RpKeys c F' ks vs
  | [], _, h => by simpa [RpKeys] using h
  | k :: ks, vs, h => by
    rw [RpKeys] at h ⊢
    obtain ⟨v, vs', e, r, rr⟩ := h
    exact ⟨v, vs', e, RpKey.le l k v r, RpKeys.le l ks vs' rr⟩
end
mutual
theorem Rp.le (l : Le F F') : ∀ (d : D) (v : V), Rp c F d v → Rp c F' d v
  | .non, _, h => by simpa [Rp] using h
  | .bl _, _, h => by simpa [Rp] using h
  | .int _, _, h => by simpa [Rp] using h
  | .str _, _, h => by simpa [Rp] using h
  | .tup xs, v, h => by
    rw [Rp] at h ⊢
    obtain ⟨a, vs, e, s, r⟩ := h
    exact ⟨a, vs, e, sqT_le l s, Rps.le l xs vs r⟩
  | .lst xs, v, h => by
    rw [Rp] at h ⊢
    obtain ⟨a, vs, e, s, r⟩ := h
    exact ⟨a, vs, e, sqL_le l s, Rps.le l xs vs r⟩
  | .dic t kvs, v, h => by
    rw [Rp] at h ⊢
    obtain ⟨a, ob, ns, e, s, r⟩ := h
    exact ⟨a, ob, ns, e, l _ _ s, Rpk.le l t kvs ns r⟩
theorem Rps.le (l : Le F F') : ∀ (ds : List D) (vs : List V), Rps c F ds vs → Rps c F' ds vs
  | [], _, h => by simpa [Rps] using h
  | d :: ds, vs, h => by
    rw [Rps] at h ⊢
    obtain ⟨v, vs', e, r, rr⟩ := h
    exact ⟨v, vs', e, Rp.le l d v r, Rps.le l ds vs' rr⟩
theorem Rpk.le (l : Le F F') (t : Bool) : ∀ (kvs : List (NestedKey × D)) (ns : List Ent), Rpk c F t kvs ns → Rpk c F' t kvs ns
  | [], _, h => by simpa [Rpk] using h
  | (k, d) :: r, ns, h => by
    rw [Rpk] at h ⊢
    obtain ⟨kv, v, ns', e, ok, rk, rd, rr⟩ := h
    exact ⟨kv, v, ns', e, ok, RpKey.le l k kv rk, Rp.le l d v rd, Rpk.le l t r ns' rr⟩
end
mutual
theorem rp_toD : ∀ (k : NestedKey) (v : V), RpKey c F k v ↔ Rp c F (toD k) v
  | .none, v => by simp [RpKey, Rp, toD]
  | .num _, v => by simp [RpKey, Rp, toD]
  | .text _, v => by simp [RpKey, Rp, toD]
  | .tup ks, v => by
    simp only [RpKey, Rp, toD]
    constructor
    · rintro ⟨a, vs, e, s, r⟩
      exact ⟨a, vs, e, s, (rps_toD ks vs).mp r⟩
    · rintro ⟨a, vs, e, s, r⟩
      exact ⟨a, vs, e, s, (rps_toD ks vs).mpr r⟩
theorem rps_toD : ∀ (ks : List NestedKey) (vs : List V), RpKeys c F ks vs ↔ Rps c F (toDs ks) vs
  | [], v => by simp [RpKeys, Rps, toDs]
  | k :: ks, vs => by
    simp only [RpKeys, Rps, toDs]
    constructor
    · rintro ⟨v, vs', e, r, rr⟩
      exact ⟨v, vs', e, (rp_toD k v).mp r, (rps_toD ks vs').mp rr⟩
    · rintro ⟨v, vs', e, r, rr⟩
      exact ⟨v, vs', e, (rp_toD k v).mpr r, (rps_toD ks vs').mpr rr⟩
end
theorem rpKey_of {d : D} {k : NestedKey} {v : V} (h : Rp c F d v) (e : keyOf d = some k) : RpKey c F k v := by
  rw [rp_toD, toD_keyOf d k e]; exact h
theorem Rps.length : ∀ {ds : List D} {vs : List V}, Rps c F ds vs → ds.length = vs.length
  | [], _, h => by rw [Rps] at h; subst h; rfl
  | d :: ds, vs, h => by
    rw [Rps] at h
    obtain ⟨v, vs', rfl, _, rr⟩ := h
    simp [Rps.length rr]
theorem Rps.get : ∀ {ds : List D} {vs : List V} {i : Nat} {d : D}, Rps c F ds vs → ds[i]? = some d → ∃ v, vs[i]? = some v ∧ Rp c F d v
  | [], _, _, _, _, h => by simp at h
  | d :: ds, vs, i, x, h, e => by
    rw [Rps] at h
    obtain ⟨v, vs', rfl, r, rr⟩ := h
    cases i with
    | zero => simp at e; subst e; exact ⟨v, rfl, r⟩
    | succ i => simp at e; obtain ⟨y, q1, q2⟩ := Rps.get rr e; exact ⟨y, by simpa using q1, q2⟩
theorem Rps.get' : ∀ {ds : List D} {vs : List V} {i : Nat} {v : V}, Rps c F ds vs → vs[i]? = some v → ∃ d, ds[i]? = some d ∧ Rp c F d v
  | [], vs, _, _, h, e => by rw [Rps] at h; subst h; simp at e
  | d :: ds, vs, i, x, h, e => by
    rw [Rps] at h
    obtain ⟨v, vs', rfl, r, rr⟩ := h
    cases i with
    | zero => simp at e; subst e; exact ⟨d, rfl, r⟩
    | succ i => simp at e; obtain ⟨y, q1, q2⟩ := Rps.get' rr e; exact ⟨y, by simpa using q1, q2⟩
theorem Rps.nil : Rps c F [] [] := by rw [Rps]
theorem Rps.cons {d : D} {ds : List D} {v : V} {vs : List V} (h : Rp c F d v) (h' : Rps c F ds vs) : Rps c F (d :: ds) (v :: vs) := by rw [Rps]; exact ⟨v, vs, rfl, h, h'⟩
theorem Rps.append : ∀ {ds es : List D} {vs us : List V}, Rps c F ds vs → Rps c F es us → Rps c F (ds ++ es) (vs ++ us)
  | [], _, _, _, h, h' => by rw [Rps] at h; subst h; exact h'
  | d :: ds, es, vs, us, h, h' => by
    rw [Rps] at h
    obtain ⟨v, vs', rfl, r, rr⟩ := h
    exact Rps.cons r (Rps.append rr h')
theorem Rps.take : ∀ (n : Nat) {ds : List D} {vs : List V}, Rps c F ds vs → Rps c F (ds.take n) (vs.take n)
  | 0, _, _, _ => by simp [Rps.nil]
  | n + 1, [], vs, h => by rw [Rps] at h; subst h; exact Rps.nil
  | n + 1, d :: ds, vs, h => by
    rw [Rps] at h
    obtain ⟨v, vs', rfl, r, rr⟩ := h
    exact Rps.cons r (Rps.take n rr)
theorem Rps.drop : ∀ (n : Nat) {ds : List D} {vs : List V}, Rps c F ds vs → Rps c F (ds.drop n) (vs.drop n)
  | 0, _, _, h => by simpa using h
  | n + 1, [], vs, h => by rw [Rps] at h; subst h; exact Rps.nil
  | n + 1, d :: ds, vs, h => by
    rw [Rps] at h
    obtain ⟨v, vs', rfl, r, rr⟩ := h
    simpa using Rps.drop n rr
theorem Rps.rev : ∀ {ds : List D} {vs : List V}, Rps c F ds vs → Rps c F ds.reverse vs.reverse
  | [], _, h => by rw [Rps] at h; subst h; exact Rps.nil
  | d :: ds, vs, h => by
    rw [Rps] at h
    obtain ⟨v, vs', rfl, r, rr⟩ := h
    rw [List.reverse_cons, List.reverse_cons]
    exact Rps.append (Rps.rev rr) (Rps.cons r Rps.nil)
theorem Rps.nil_iff {ds : List D} {vs : List V} (h : Rps c F ds vs) : vs = [] ↔ ds = [] := by
  have := h.length
  constructor
  · rintro rfl; simpa using this
  · rintro rfl; simpa using this.symm
theorem Rpk.length {t : Bool} : ∀ {kvs : List (NestedKey × D)} {ns : List Ent}, Rpk c F t kvs ns → kvs.length = ns.length
  | [], _, h => by rw [Rpk] at h; subst h; rfl
  | (k, d) :: r, ns, h => by
    rw [Rpk] at h
    obtain ⟨kv, v, ns', rfl, _, _, _, rr⟩ := h
    simp [Rpk.length rr]
end
/-! ### look-up and store on the data -/
def look (kvs : List (NestedKey × D)) (k : NestedKey) : Option D := (kvs.find? fun p => decide (p.1 = k)).map (·.2)
def put (kvs : List (NestedKey × D)) (k : NestedKey) (d : D) : List (NestedKey × D) :=
  if (look kvs k).isSome then kvs.map fun p => if p.1 = k then (p.1, d) else p else kvs ++ [(k, d)]
def drp (kvs : List (NestedKey × D)) (k : NestedKey) : List (NestedKey × D) := kvs.filter fun p => decide (p.1 ≠ k)
def nlook (ns : List Ent) (k : NestedKey) : Option V := (ns.find? fun p => decide (p.1 = k)).map (·.2.2)
def nput (ns : List Ent) (k : NestedKey) (kv v : V) : List Ent :=
  if (nlook ns k).isSome then ns.map fun p => if p.1 = k then (p.1, p.2.1, v) else p else ns ++ [(k, kv, v)]
def ndrp (ns : List Ent) (k : NestedKey) : List Ent := ns.filter fun p => decide (p.1 ≠ k)
def mrg (kvs more : List (NestedKey × D)) : List (NestedKey × D) := more.foldl (fun acc p => put acc p.1 p.2) kvs
section
variable {c : Cn} {F : Hp} {t : Bool}
theorem Rpk.cons {k : NestedKey} {d : D} {r : List (NestedKey × D)} {kv v : V} {ns : List Ent} (ok : KeyOk t k) (rk : RpKey c F k kv) (rd : Rp c F d v) (h : Rpk c F t r ns) : Rpk c F t ((k, d) :: r) ((k, kv, v) :: ns) := by
  rw [Rpk]; exact ⟨kv, v, ns, rfl, ok, rk, rd, h⟩
theorem Rpk.nil : Rpk c F t [] [] := by rw [Rpk]
theorem Rpk.append : ∀ {xs ys : List (NestedKey × D)} {ns ms : List Ent}, Rpk c F t xs ns → Rpk c F t ys ms → Rpk c F t (xs ++ ys) (ns ++ ms)
  | [], _, _, _, h, h' => by rw [Rpk] at h; subst h; exact h'
  | (k, d) :: r, _, ns, _, h, h' => by
    rw [Rpk] at h
    obtain ⟨kv, v, ns', rfl, ok, rk, rd, rr⟩ := h
    exact Rpk.cons ok rk rd (Rpk.append rr h')
theorem Rpk.look : ∀ {kvs : List (NestedKey × D)} {ns : List Ent} {k : NestedKey}, Rpk c F t kvs ns →
    (∀ d, L2.PL.look kvs k = some d → ∃ v, nlook ns k = some v ∧ Rp c F d v) ∧ (L2.PL.look kvs k = none → nlook ns k = none)
  | [], ns, k, h => by rw [Rpk] at h; subst h; exact ⟨fun d e => by simp [L2.PL.look] at e, fun _ => rfl⟩
  | (j, d) :: r, ns, k, h => by
    rw [Rpk] at h
    obtain ⟨kv, v, ns', rfl, ok, rk, rd, rr⟩ := h
    have ih := Rpk.look (k := k) rr
    by_cases e : j = k
    · subst e
      refine ⟨fun d' e => ?_, fun e => ?_⟩
      · simp [L2.PL.look] at e; subst e; exact ⟨v, by simp [nlook], rd⟩
      · simp [L2.PL.look] at e
    · refine ⟨fun d' e' => ?_, fun e' => ?_⟩
      · have q : L2.PL.look r k = some d' := by simpa [L2.PL.look, List.find?_cons, e] using e'
        obtain ⟨v', h1, h2⟩ := ih.1 d' q
        exact ⟨v', by simpa [nlook, List.find?_cons, e] using h1, h2⟩
      · have q : L2.PL.look r k = none := by simpa [L2.PL.look, List.find?_cons, e] using e'
        simpa [nlook, List.find?_cons, e] using ih.2 q
theorem Rpk.isSome {kvs : List (NestedKey × D)} {ns : List Ent} {k : NestedKey} (h : Rpk c F t kvs ns) : (nlook ns k).isSome = (L2.PL.look kvs k).isSome := by
  cases e : L2.PL.look kvs k with
  | some d => obtain ⟨v, h1, _⟩ := (h.look (k := k)).1 d e; rw [h1]; rfl
  | none => rw [(h.look (k := k)).2 e]; rfl
theorem Rpk.map {k : NestedKey} {d : D} {v : V} (rd : Rp c F d v) : ∀ {kvs : List (NestedKey × D)} {ns : List Ent}, Rpk c F t kvs ns →
    Rpk c F t (kvs.map fun p => if p.1 = k then (p.1, d) else p) (ns.map fun p => if p.1 = k then (p.1, p.2.1, v) else p)
  | [], _, h => by rw [Rpk] at h; subst h; exact Rpk.nil
  | (j, d') :: r, ns, h => by
    rw [Rpk] at h
    obtain ⟨kv, v', ns', rfl, ok, rk, rd', rr⟩ := h
    simp only [List.map_cons]
    by_cases e : j = k
    · rw [if_pos e, if_pos e]; exact Rpk.cons ok rk rd (Rpk.map rd rr)
    · rw [if_neg e, if_neg e]; exact Rpk.cons ok rk rd' (Rpk.map rd rr)
theorem Rpk.put {kvs : List (NestedKey × D)} {ns : List Ent} {k : NestedKey} {d : D} {kv v : V} (h : Rpk c F t kvs ns) (ok : KeyOk t k) (rk : RpKey c F k kv) (rd : Rp c F d v) : Rpk c F t (L2.PL.put kvs k d) (nput ns k kv v) := by
  unfold L2.PL.put nput
  rw [h.isSome]
  split
  · exact Rpk.map rd h
  · exact Rpk.append h (Rpk.cons ok rk rd Rpk.nil)
theorem Rpk.drp {k : NestedKey} : ∀ {kvs : List (NestedKey × D)} {ns : List Ent}, Rpk c F t kvs ns → Rpk c F t (L2.PL.drp kvs k) (ndrp ns k)
  | [], _, h => by rw [Rpk] at h; subst h; exact Rpk.nil
  | (j, d') :: r, ns, h => by
    rw [Rpk] at h
    obtain ⟨kv, v', ns', rfl, ok, rk, rd', rr⟩ := h
    have ih := Rpk.drp (k := k) rr
    unfold L2.PL.drp ndrp at *
    by_cases e : j = k
    · simpa [List.filter_cons, e] using ih
    · simp only [List.filter_cons, decide_eq_true e, ne_eq, if_true, decide_not, Bool.not_eq_true', decide_eq_false e]
      exact Rpk.cons ok rk rd' (by simpa using ih)
theorem Rpk.ok : ∀ {kvs : List (NestedKey × D)} {ns : List Ent}, Rpk c F t kvs ns → ∀ n ∈ ns, KeyOk t n.1 ∧ RpKey c F n.1 n.2.1
  | [], _, h => by rw [Rpk] at h; subst h; intro n hn; cases hn
  | (j, d') :: r, ns, h => by
    rw [Rpk] at h
    obtain ⟨kv, v', ns', rfl, ok, rk, rd', rr⟩ := h
    intro n hn
    rcases List.mem_cons.mp hn with rfl | hn
    · exact ⟨ok, rk⟩
    · exact Rpk.ok rr n hn
theorem Rpk.get : ∀ {kvs : List (NestedKey × D)} {ns : List Ent} {i : Nat} {k : NestedKey} {d : D}, Rpk c F t kvs ns → kvs[i]? = some (k, d) → ∃ kv v, ns[i]? = some (k, kv, v) ∧ RpKey c F k kv ∧ Rp c F d v
  | [], _, _, _, _, _, e => by simp at e
  | (j, d') :: r, ns, i, k, d, h, e => by
    rw [Rpk] at h
    obtain ⟨kv, v', ns', rfl, ok, rk, rd', rr⟩ := h
    cases i with
    | zero => simp at e; obtain ⟨rfl, rfl⟩ := e; exact ⟨kv, v', rfl, rk, rd'⟩
    | succ i => simp at e; obtain ⟨a, b, q1, q2⟩ := Rpk.get rr e; exact ⟨a, b, by simpa using q1, q2⟩
theorem Rpk.get' : ∀ {kvs : List (NestedKey × D)} {ns : List Ent} {i : Nat} {k : NestedKey} {kv v : V}, Rpk c F t kvs ns → ns[i]? = some (k, kv, v) → ∃ d, kvs[i]? = some (k, d) ∧ RpKey c F k kv ∧ Rp c F d v
  | [], _, _, _, _, _, h, e => by rw [Rpk] at h; subst h; simp at e
  | (j, d') :: r, ns, i, k, kv, v, h, e => by
    rw [Rpk] at h
    obtain ⟨kv', v', ns', rfl, ok, rk, rd', rr⟩ := h
    cases i with
    | zero => simp at e; obtain ⟨rfl, rfl, rfl⟩ := e; exact ⟨d', rfl, rk, rd'⟩
    | succ i => simp at e; obtain ⟨a, q1, q2⟩ := Rpk.get' rr e; exact ⟨a, by simpa using q1, q2⟩
theorem length_nput (ns : List Ent) (k : NestedKey) (kv v : V) : (nput ns k kv v).length ≤ ns.length + 1 := by
  unfold nput; split <;> simp
end
end L2.PL
end
section
set_option maxRecDepth 100000
/-! PL, part B: dicts of either kind: one set of rules. -/
namespace L2.PL
open PySem PySem.Spec PyProof.Rows
abbrev cn (X : Cx) : Cn := ⟨X.prog, X.w, X.K⟩
/-- a dict that can be read -/
structure Dic (X : Cx) (H : Hp) (a : Addr) (t : Bool) (ns : List Ent) : Prop where
  rd : Rd H a (dHO (cn X) a t ns)
  ks : ∀ n ∈ ns, KeyOk t n.1 ∧ RpKey (cn X) H n.1 n.2.1
theorem kV_leafK {c : Cn} {H : Hp} {k : NestedKey} {v : V} (ok : KeyOk false k) (r : RpKey c H k v) : v = kV (leafK k) := by
  rcases kV_leaf ok with ⟨i, rfl, e⟩ | ⟨x, rfl, e⟩ <;> (rw [RpKey] at r; rw [e]; exact r)
section leaf
variable {ns : List Ent}
def lf (n : Ent) : Key × V := (leafK n.1, n.2.2)
theorem valV_lf {k : NestedKey} (ok : KeyOk false k) : ∀ {ns : List Ent}, (∀ n ∈ ns, KeyOk false n.1) → valV (ns.map lf) (leafK k) = nlook ns k
  | [], _ => rfl
  | n :: ns, h => by
    have ih := valV_lf ok (ns := ns) fun m hm => h m (List.mem_cons_of_mem _ hm)
    have hn := h n List.mem_cons_self
    rw [List.map_cons]
    by_cases e : n.1 = k
    · rw [valV_pos (show (lf n).1 = leafK k by simp [lf, e])]
      simp [nlook, e, lf]
    · rw [valV_neg (show ¬ (lf n).1 = leafK k from fun q => e ((leafK_inj hn ok).mp q)), ih]
      simp [nlook, List.find?_cons, e]
theorem putK_lf {k : NestedKey} (ok : KeyOk false k) (kv v : V) {ns : List Ent} (h : ∀ n ∈ ns, KeyOk false n.1) : putK (ns.map lf) (leafK k) v = (nput ns k kv v).map lf := by
  unfold putK nput
  rw [valV_any, valV_lf ok h]
  split
  · rw [List.map_map, List.map_map]
    refine List.map_congr_left fun n hn => ?_
    by_cases e : n.1 = k
    · simp [lf, e]
    · have q : ¬ leafK n.1 = leafK k := fun q => e ((leafK_inj (h n hn) ok).mp q)
      simp [lf, e, q]
  · simp [lf]
theorem dropK_lf {k : NestedKey} (ok : KeyOk false k) : ∀ {ns : List Ent}, (∀ n ∈ ns, KeyOk false n.1) → dropK (ns.map lf) (leafK k) = (ndrp ns k).map lf
  | [], _ => rfl
  | n :: ns, h => by
    have ih := dropK_lf ok (ns := ns) fun m hm => h m (List.mem_cons_of_mem _ hm)
    have hn := h n List.mem_cons_self
    unfold dropK ndrp at *
    rw [List.map_cons]
    by_cases e : n.1 = k
    · simpa [List.filter_cons, lf, e] using ih
    · have q : ¬ leafK n.1 = leafK k := fun q => e ((leafK_inj hn ok).mp q)
      simpa [List.filter_cons, lf, e, q] using ih
end leaf
section
variable {X : Cx} {pins : List (Addr × Obj)} {σ : St} {H : Hp} {s : Shared} {a : Addr}
mutual
/-- a key's value is that key in the heap -/
theorem nested_of (I : Inv X pins σ H s) : ∀ (k : NestedKey) (v : V) (u : Value), RpKey (cn X) H k v → RelV v u → NestedIs s.heap k u
  | .none, v, u, h, r => by rw [RpKey] at h; subst h; cases r; exact .none
  | .num i, v, u, h, r => by rw [RpKey] at h; subst h; obtain ⟨t, rfl⟩ := r; exact .int _ _
  | .text x, v, u, h, r => by rw [RpKey] at h; subst h; obtain ⟨t, rfl⟩ := r; exact .text _ _
  | .tup ks, v, u, h, r => by
    rw [RpKey] at h
    obtain ⟨a, vs, rfl, hq, hr⟩ := h
    obtain rfl : u = Value.ref a := r
    obtain ⟨its, rv, ⟨o, ho, hc, n, hd⟩, _⟩ := I.tuple hq
    exact .tup ho hc hd (nesteds_of I ks vs its.toArray.toList hr (by simpa using rv))
theorem nesteds_of (I : Inv X pins σ H s) : ∀ (ks : List NestedKey) (vs : List V) (us : List Value), RpKeys (cn X) H ks vs → Vals vs us → NestedAll s.heap ks us
  | [], vs, us, h, r => by rw [RpKeys] at h; subst h; cases r; exact .nil
  | k :: ks, vs, us, h, r => by
    rw [RpKeys] at h
    obtain ⟨v, vs', rfl, h1, h2⟩ := h
    cases r with
    | cons r1 r2 => exact .cons (nested_of I k v _ h1 r1) (nesteds_of I ks vs' _ h2 r2)
end
/-- a key that is a tuple stands at an address -/
theorem key_ref {k : NestedKey} {v : V} (ok : KeyOk true k) (h : RpKey (cn X) H k v) : ∃ b, v = .ref b := by
  cases k with
  | tup ks => rw [RpKey] at h; obtain ⟨b, _, rfl, _⟩ := h; exact ⟨b, rfl⟩
  | _ => exact ok.elim
theorem key_at (I : Inv X pins σ H s) {k : NestedKey} {b : Addr} (ok : KeyOk true k) (h : RpKey (cn X) H k (.ref b)) : (nestedKind X.prog X.w).is s.heap k b := by
  refine ⟨nested_of I k _ _ h rfl, ?_⟩
  cases k with
  | tup ks => exact ok
  | _ => exact ok.elim
abbrev PE3 (ns : List Ent) (xs : List (NestedKey × Addr × Value)) : Prop := Paired (fun (n : Ent) (x : NestedKey × Addr × Value) => n.1 = x.1 ∧ n.2.1 = .ref x.2.1 ∧ RelV n.2.2 x.2.2) ns xs
theorem pe3_look {k : NestedKey} : ∀ {ns : List Ent} {xs : List (NestedKey × Addr × Value)}, PE3 ns xs → RelO (nlook ns k) ((atKey xs k).map (·.2))
  | _, _, .nil => trivial
  | n :: ns, x :: xs, .cons r t => by
    obtain ⟨e1, e2, e3⟩ := r
    have ih := pe3_look (k := k) t
    by_cases e : n.1 = k
    · have e' : x.1 = k := by rw [← e1]; exact e
      simp only [nlook, atKey, List.find?_cons, decide_eq_true e, decide_eq_true e', Option.map_some]
      exact e3
    · have e' : ¬ x.1 = k := by rw [← e1]; exact e
      have q1 : nlook (n :: ns) k = nlook ns k := by simp [nlook, List.find?_cons, e]
      have q2 : atKey (x :: xs) k = atKey xs k := by simp [atKey, List.find?_cons, e']
      rw [q1, q2]; exact ih
theorem pe3_some {k : NestedKey} {ns : List Ent} {xs : List (NestedKey × Addr × Value)} (p : PE3 ns xs) : (atKey xs k).isSome = (nlook ns k).isSome := by
  have h := pe3_look (k := k) p
  cases e : nlook ns k with
  | none => rw [e] at h; cases e2 : atKey xs k with
    | none => rfl
    | some q => rw [e2] at h; exact h.elim
  | some v => rw [e] at h; cases e2 : atKey xs k with
    | none => rw [e2] at h; exact h.elim
    | some q => rfl
theorem pe3_map {k : NestedKey} {v : V} {u : Value} (r : RelV v u) : ∀ {ns : List Ent} {xs : List (NestedKey × Addr × Value)}, PE3 ns xs → PE3 (ns.map fun p => if p.1 = k then (p.1, p.2.1, v) else p) (xs.map (putAt k u))
  | _, _, .nil => .nil
  | n :: ns, x :: xs, .cons q t => by
    obtain ⟨e1, e2, e3⟩ := q
    refine .cons ?_ (pe3_map r t)
    unfold putAt
    dsimp only
    by_cases e : n.1 = k
    · rw [if_pos e, if_pos (by rw [← e1]; exact e)]; exact ⟨e1, e2, r⟩
    · rw [if_neg e, if_neg (by rw [← e1]; exact e)]; exact ⟨e1, e2, e3⟩
theorem pe3_app : ∀ {ns ms : List Ent} {xs ys : List (NestedKey × Addr × Value)}, PE3 ns xs → PE3 ms ys → PE3 (ns ++ ms) (xs ++ ys)
  | _, _, _, _, .nil, q => q
  | _, _, _, _, .cons r t, q => .cons r (pe3_app t q)
theorem pe3_put {k : NestedKey} {b : Addr} {v : V} {u : Value} {ns : List Ent} {xs : List (NestedKey × Addr × Value)} (r : RelV v u) (p : PE3 ns xs) : PE3 (nput ns k (.ref b) v) (storedH xs k b u) := by
  unfold nput storedH
  rw [pe3_some p]
  split
  · exact pe3_map r p
  · exact pe3_app p (.cons ⟨rfl, rfl, r⟩ .nil)
theorem pe3_drp {k : NestedKey} : ∀ {ns : List Ent} {xs : List (NestedKey × Addr × Value)}, PE3 ns xs → PE3 (ndrp ns k) (withoutH xs k)
  | _, _, .nil => .nil
  | n :: ns, x :: xs, .cons q t => by
    have ih := pe3_drp (k := k) t
    obtain ⟨e1, e2, e3⟩ := id q
    unfold ndrp withoutH at *
    by_cases e : n.1 = k
    · have e' : x.1 = k := by rw [← e1]; exact e
      simpa [List.filter_cons, e, e'] using ih
    · have e' : ¬ x.1 = k := by rw [← e1]; exact e
      simp only [List.filter_cons, ne_eq, e, e', not_false_eq_true, decide_true, if_true]
      exact .cons q ih
/-- the dict's entries in the heap -/
theorem dn_at (I : Inv X pins σ H s) {ns : List Ent} (d : Dic X H a true ns) : ns.length ≤ sizeLine ∧ (a == sysModules) = false ∧ ∃ xs, PE3 ns xs ∧ s.heap.DictOfH (nestedKind X.prog X.w) a xs := by
  have q : ObjOk X.prog X.w H s.heap a (.ext (DN (cn X) a ns)) := d.rd.ok I.hok
  obtain ⟨⟨z, hs, o, es, ep, xs, ho, hx, hd, pr, he, nd⟩, _⟩ := q
  refine ⟨z, hs, xs, pr, o, es, ep, ho, hx, hd, he, fun x hx => ?_, nd⟩
  obtain ⟨i, hi⟩ := List.getElem?_of_mem hx
  have hpr : ∀ {ns : List Ent} {xs : List (NestedKey × Addr × Value)} {i : Nat} {x : NestedKey × Addr × Value}, PE3 ns xs → xs[i]? = some x → ∃ n, ns[i]? = some n ∧ n.1 = x.1 ∧ n.2.1 = .ref x.2.1 ∧ RelV n.2.2 x.2.2 := by
    intro ns xs i x p
    induction p generalizing i with
    | nil => intro e; simp at e
    | cons r t ih =>
      intro e
      cases i with
      | zero => simp at e; subst e; exact ⟨_, rfl, r⟩
      | succ i => simp at e; obtain ⟨n, q1, q2⟩ := ih e; exact ⟨n, by simpa using q1, q2⟩
  obtain ⟨n, hn, e1, e2, _⟩ := hpr pr hi
  obtain ⟨ok, rk⟩ := d.ks n (List.mem_of_getElem? hn)
  rw [e1] at ok rk
  rw [e2] at rk
  exact key_at I ok rk
theorem dk_at (I : Inv X pins σ H s) {ns : List Ent} (d : Dic X H a false ns) : ns.length ≤ sizeLine ∧ (a == sysModules) = false ∧ ∃ vs, KV (ns.map lf) vs ∧ s.heap.DictOf (mixKind X.prog X.w) a vs := by
  have q : ObjOk X.prog X.w H s.heap a (.dK (ns.map lf)) := d.rd.ok I.hok
  obtain ⟨z, hs, vs, r, dd⟩ := q
  exact ⟨by simpa using z, hs, vs, r, dd⟩
theorem Dic.small (I : Inv X pins σ H s) {t : Bool} {ns : List Ent} (d : Dic X H a t ns) : ns.length ≤ sizeLine ∧ (a == sysModules) = false := by
  cases t with
  | true => obtain ⟨z, hs, _⟩ := dn_at I d; exact ⟨z, hs⟩
  | false => obtain ⟨z, hs, _⟩ := dk_at I d; exact ⟨z, hs⟩
theorem Dic.obj (I : Inv X pins σ H s) {t : Bool} {ns : List Ent} (d : Dic X H a t ns) : ∃ o es ep, s.heap.get? a = some o ∧ o.ExactDict ∧ o.data = .dict es ep ∧ es.size = ns.length := by
  cases t with
  | true =>
    obtain ⟨z, hs, xs, pr, o, es, ep, ho, hx, hd, he, _⟩ := dn_at I d
    exact ⟨o, es, ep, ho, hx, hd, by rw [size_of_entries he]; exact (Paired.length pr).symm⟩
  | false =>
    obtain ⟨z, hs, vs, r, o, es, ep, ho, hx, hd, q⟩ := dk_at I d
    refine ⟨o, es, ep, ho, hx, hd, ?_⟩
    have l1 := q.2.1.length
    have l2 := r.length
    rw [Array.length_toList] at l1
    simp only [List.length_map] at l2
    omega
theorem Dic.typeIs (I : Inv X pins σ H s) {t : Bool} {ns : List Ent} (d : Dic X H a t ns) : s.TypeIs (.ref a) "dict" := by
  obtain ⟨o, es, ep, ho, hx, _⟩ := d.obj I
  exact ⟨o, ho, hx.1⟩
theorem Dic.noDict (I : Inv X pins σ H s) {t : Bool} {ns : List Ent} (d : Dic X H a t ns) : ∀ b, Value.ref a = .ref b → ∃ ob, s.heap.get? b = some ob ∧ ob.dict = none := by
  obtain ⟨o, es, ep, ho, hx, _⟩ := d.obj I
  intro b q
  cases q
  exact ⟨o, ho, hx.2.1⟩
variable {A : Around} {E : Value → Shared → Prop} {t : Bool} {ns : List Ent} {k : NestedKey} {kv v : V} {u r : Value}
theorem room_in1 {hu : A.units + 32 < cLine} : (nestedKind X.prog X.w).room A.in1 := by show A.units + 1 + 8 < cLine; omega
theorem g_getItem {Q : Value → Shared → Prop} (hu : A.units + 32 < cLine) (I : Inv X pins σ H s) (d : Dic X H a t ns) (ok : KeyOk t k) (rk : RpKey (cn X) H k kv) (ru : RelV kv u) (l : nlook ns k = some v)
    (h : ∀ w' s', Inv X pins σ H s' → RelV v w' → Q w' s') : wpAny (model X.prog X.w) A (getItem (.ref a) u) Q E s := by
  cases t with
  | false =>
    refine d_getItem (v := v) (y := kv) (by omega) I (.inl ⟨_, leafK k, d.rd, kV_leafK ok rk, ?_⟩) ru h
    rw [← l]; exact (valV_lf ok fun n hn => (d.ks n hn).1).symm
  | true =>
    obtain ⟨b, rfl⟩ := key_ref ok rk
    obtain rfl : u = Value.ref b := ru
    obtain ⟨z, hs, xs, pr, dd⟩ := dn_at I d
    have q := pe3_look (k := k) pr
    rw [l] at q
    cases e : atKey xs k with
    | none => rw [e] at q; exact q.elim
    | some p =>
      rw [e] at q
      exact wpAny_getItem_heap (room_in1 (hu := hu)) (key_at I ok rk) dd e (h _ _ (I.tok _) q)
theorem g_in {Q : Value → Shared → Prop} (hu : A.units + 32 < cLine) (I : Inv X pins σ H s) (d : Dic X H a t ns) (ok : KeyOk t k) (rk : RpKey (cn X) H k kv) (ru : RelV kv u)
    (h : ∀ s', Inv X pins σ H s' → Q (.bool (nlook ns k).isSome) s') : wpAny (model X.prog X.w) A (compareOp .In u (.ref a)) Q E s := by
  cases t with
  | false =>
    have e := valV_lf ok fun n hn => (d.ks n hn).1
    refine d_in (o := nlook ns k) (y := kv) (by omega) I (.inl ⟨_, leafK k, d.rd, kV_leafK ok rk, e.symm⟩) ru h
  | true =>
    obtain ⟨b, rfl⟩ := key_ref ok rk
    obtain rfl : u = Value.ref b := ru
    obtain ⟨z, hs, xs, pr, dd⟩ := dn_at I d
    exact wpAny_in_heap (room_in1 (hu := hu)) (key_at I ok rk) hs dd (by rw [pe3_some pr]; exact h _ (I.tok _))
theorem g_notIn {Q : Value → Shared → Prop} (hu : A.units + 32 < cLine) (I : Inv X pins σ H s) (d : Dic X H a t ns) (ok : KeyOk t k) (rk : RpKey (cn X) H k kv) (ru : RelV kv u)
    (h : ∀ s', Inv X pins σ H s' → Q (.bool (!(nlook ns k).isSome)) s') : wpAny (model X.prog X.w) A (compareOp .NotIn u (.ref a)) Q E s := by
  cases t with
  | false =>
    have e := valV_lf ok fun n hn => (d.ks n hn).1
    refine d_notIn (o := nlook ns k) (y := kv) (by omega) I (.inl ⟨_, leafK k, d.rd, kV_leafK ok rk, e.symm⟩) ru h
  | true =>
    obtain ⟨b, rfl⟩ := key_ref ok rk
    obtain rfl : u = Value.ref b := ru
    obtain ⟨z, hs, xs, pr, dd⟩ := dn_at I d
    exact wpAny_notIn_heap (room_in1 (hu := hu)) (key_at I ok rk) hs dd (by rw [pe3_some pr]; exact h _ (I.tok _))
theorem g_get1 {Q : Value → Shared → Prop} (hu : A.units + 32 < cLine) (I : Inv X pins σ H s) (d : Dic X H a t ns) (ok : KeyOk t k) (rk : RpKey (cn X) H k kv) (ru : RelV kv u)
    (h : ∀ w' s', Inv X pins σ H s' → RelV ((nlook ns k).getD .non) w' → Q w' s') : wpAny (model X.prog X.w) A (call (.builtin "dict.get") [.ref a, u]) Q E s := by
  cases t with
  | false =>
    have e := valV_lf ok fun n hn => (d.ks n hn).1
    exact d_get1 (o := nlook ns k) (y := kv) (by omega) I (.inl ⟨_, leafK k, d.rd, kV_leafK ok rk, e.symm⟩) ru h
  | true =>
    obtain ⟨b, rfl⟩ := key_ref ok rk
    obtain rfl : u = Value.ref b := ru
    obtain ⟨z, hs, xs, pr, dd⟩ := dn_at I d
    refine call_meetsIn PySem.F.slot_dict_get dd.typeIs PySem.F.entry_dict_get (PySem.F.args_dict_get_2 _ _) (meetsH_dict_get (nestedKind X.prog X.w) a b hs) ⟨room_in1 (hu := hu), k, xs, key_at I ok rk, dd, h _ _ (I.tok _) ?_⟩
    exact RelO.getD (pe3_look pr) rfl
theorem g_get2 {x : V} {Q : Value → Shared → Prop} (hu : A.units + 32 < cLine) (I : Inv X pins σ H s) (d : Dic X H a t ns) (ok : KeyOk t k) (rk : RpKey (cn X) H k kv) (ru : RelV kv u) (rr : RelV x r)
    (h : ∀ w' s', Inv X pins σ H s' → RelV ((nlook ns k).getD x) w' → Q w' s') : wpAny (model X.prog X.w) A (call (.builtin "dict.get") [.ref a, u, r]) Q E s := by
  cases t with
  | false =>
    have e := valV_lf ok fun n hn => (d.ks n hn).1
    exact d_get2 (o := nlook ns k) (y := kv) (by omega) I (.inl ⟨_, leafK k, d.rd, kV_leafK ok rk, e.symm⟩) ru rr h
  | true =>
    obtain ⟨b, rfl⟩ := key_ref ok rk
    obtain rfl : u = Value.ref b := ru
    obtain ⟨z, hs, xs, pr, dd⟩ := dn_at I d
    refine call_meetsIn PySem.F.slot_dict_get dd.typeIs PySem.F.entry_dict_get (PySem.F.args_dict_get_3 _ _ _) (meetsH_dict_get_default (nestedKind X.prog X.w) a b hs r) ⟨room_in1 (hu := hu), k, xs, key_at I ok rk, dd, h _ _ (I.tok _) ?_⟩
    exact RelO.getD (pe3_look pr) rr
theorem g_len {Q : Value → Shared → Prop} (hu : A.units + 32 < cLine) (I : Inv X pins σ H s) (d : Dic X H a t ns) (h : ∀ tk s', Inv X pins σ H s' → Q (.int ns.length tk) s') : wpAny (model X.prog X.w) A (call (.builtin "len") [.ref a]) Q E s := by
  cases t with
  | false => exact d_len I (kvs := ns.map lf) d.rd (by simpa using h)
  | true =>
    obtain ⟨z, hs, xs, pr, dd⟩ := dn_at I d
    have hl : (pairsH xs).length = ns.length := by rw [pairsH_length]; exact (Paired.length pr).symm
    have z' : ns.length < 2 ^ 63 := by rw [sizeLine_eq] at z; omega
    refine PyProof.Rows.call_len_slot (n := (pairsH xs).length) dd.typeIs PySem.F.slot_dict_len (fun Q' hq => len_keyed hs ⟨xs, dd, rfl⟩ hq) (by omega) (by omega) ?_
    rw [hl]
    exact h _ _ (I.tok _)
/-! what changes a dict -/
theorem dn_new {H' : Hp} {h' : Heap} {ms : List Ent} {ys : List (NestedKey × Addr × Value)} (z : ms.length ≤ sizeLine) (hs : (a == sysModules) = false) (pr : PE3 ms ys) (dd : h'.DictOfH (nestedKind X.prog X.w) a ys) :
    ObjOk X.prog X.w H' h' a (dHO (cn X) a true ms) := by
  obtain ⟨o, es, ep, ho, hx, hd, he, _, nd⟩ := dd
  exact ⟨⟨z, hs, o, es, ep, ys, ho, hx, hd, pr, he, nd⟩, ⟨o, ho⟩, fun h1 h2 ⟨z, hs, o, es, ep, xs, ho, q⟩ k => ⟨z, hs, o, es, ep, xs, k o ho, q⟩⟩
theorem dn_write {h' : Heap} {tk : Nat} {ms : List Ent} {ys : List (NestedKey × Addr × Value)} (I : Inv X pins σ H s) (e : H a = some (dHO (cn X) a true ns)) (z : ms.length ≤ sizeLine) (hs : (a == sysModules) = false) (pr : PE3 ms ys)
    (dd : h'.DictOfH (nestedKind X.prog X.w) a ys) (sb : Heap.SameBut a s.heap h') : Inv X pins σ (upd H a (dHO (cn X) a true ms)) { s with heap := h', toks := tk } := by
  obtain ⟨o, es, ep, ho, _⟩ := id dd
  exact d_write I (by rw [e]; exact dHO_mut _ _ _ _) sb ⟨o, ho⟩ (dn_new z hs pr dd)
theorem len_put {ns : List Ent} (h : ns.length < sizeLine) (k : NestedKey) (kv v : V) : (nput ns k kv v).length ≤ sizeLine := by have := length_nput ns k kv v; omega
theorem g_setItem {Q : Unit → Shared → Prop} (hu : A.units + 32 < cLine) (I : Inv X pins σ H s) (e : H a = some (dHO (cn X) a t ns)) (ks : ∀ n ∈ ns, KeyOk t n.1 ∧ RpKey (cn X) H n.1 n.2.1) (ok : KeyOk t k) (rk : RpKey (cn X) H k kv) (ru : RelV kv u) (rv : RelV v r)
    (hl : ns.length < sizeLine) (h : ∀ s', Inv X pins σ (upd H a (dHO (cn X) a t (nput ns k kv v))) s' → Q () s') : wpAny (model X.prog X.w) A (setItem (.ref a) u r) Q E s := by
  cases t with
  | false =>
    have ep := putK_lf ok kv v fun n hn => (ks n hn).1
    have e' : H a = some (.dK (ns.map lf)) := e
    refine d_setItem (y := kv) (v := v) (by omega) I (.inl ⟨_, leafK k, e', kV_leafK ok rk, by simpa using hl, rfl⟩) ru rv fun s' I' => h s' ?_
    rw [ep] at I'; exact I'
  | true =>
    obtain ⟨b, rfl⟩ := key_ref ok rk
    obtain rfl : u = Value.ref b := ru
    obtain ⟨z, hs, xs, pr, dd⟩ := dn_at I ⟨.inl e, ks⟩
    exact wpAny_setItem_heap (hsz := by rw [← Paired.length pr]; exact z) (room_in1 (hu := hu)) (key_at I ok rk) dd fun h' dd' sb => h _ (dn_write I e (len_put hl _ _ _) hs (pe3_put rv pr) dd' sb)
theorem g_dictSet {Q : Unit → Shared → Prop} (hu : A.units + 32 < cLine) (I : Inv X pins σ H s) (hA : A = X.A) (e : H a = some (dHO (cn X) a t ns)) (ks : ∀ n ∈ ns, KeyOk t n.1 ∧ RpKey (cn X) H n.1 n.2.1) (ok : KeyOk t k) (rk : RpKey (cn X) H k kv) (ru : RelV kv u) (rv : RelV v r)
    (hl : ns.length < sizeLine) (h : ∀ s', Inv X pins σ (upd H a (dHO (cn X) a t (nput ns k kv v))) s' → Q () s') : wpAny (model X.prog X.w) A (dictSet a u r) Q E s := by
  subst hA
  cases t with
  | false =>
    have ep := putK_lf ok kv v fun n hn => (ks n hn).1
    have e' : H a = some (.dK (ns.map lf)) := e
    have hk := kV_leafK ok rk
    subst hk
    refine d_dictSet (k := leafK k) (v := v) I e' (by simpa using hl) ru rv fun s' I' => h s' ?_
    rw [ep] at I'; exact I'
  | true =>
    obtain ⟨b, rfl⟩ := key_ref ok rk
    obtain rfl : u = Value.ref b := ru
    obtain ⟨z, hs, xs, pr, dd⟩ := dn_at I ⟨.inl e, ks⟩
    exact wpAny_dictSet_heap (hsz := by rw [← Paired.length pr]; exact z) (by show X.A.units + 8 < cLine; omega) (key_at I ok rk) dd fun h' dd' sb => h _ (dn_write I e (len_put hl _ _ _) hs (pe3_put rv pr) dd' sb)
theorem g_setdefault {Q : Value → Shared → Prop} (hu : A.units + 32 < cLine) (I : Inv X pins σ H s) (e : H a = some (dHO (cn X) a t ns)) (ks : ∀ n ∈ ns, KeyOk t n.1 ∧ RpKey (cn X) H n.1 n.2.1) (ok : KeyOk t k) (rk : RpKey (cn X) H k kv) (ru : RelV kv u) (rv : RelV v r)
    (hl : ns.length < sizeLine) (h1 : ∀ y w' s', nlook ns k = some y → Inv X pins σ H s' → RelV y w' → Q w' s') (h2 : ∀ w' s', nlook ns k = none → Inv X pins σ (upd H a (dHO (cn X) a t (nput ns k kv v))) s' → RelV v w' → Q w' s') :
    wpAny (model X.prog X.w) A (call (.builtin "dict.setdefault") [.ref a, u, r]) Q E s := by
  cases t with
  | false =>
    have ev := valV_lf ok fun n hn => (ks n hn).1
    have ep := putK_lf ok kv v fun n hn => (ks n hn).1
    have hk := kV_leafK ok rk
    subst hk
    have e' : H a = some (.dK (ns.map lf)) := e
    refine d_setd (d := v) I e' ru rv (by simpa using hl) (fun y hy w' s' I' r' => h1 y w' s' (by rw [← ev]; exact hy) I' r') fun hn w' s' I' r' => ?_
    rw [ep] at I'
    exact h2 w' s' (by rw [← ev]; exact hn) I' r'
  | true =>
    obtain ⟨b, rfl⟩ := key_ref ok rk
    obtain rfl : u = Value.ref b := ru
    obtain ⟨z, hs, xs, pr, dd⟩ := dn_at I ⟨.inl e, ks⟩
    have q := pe3_look (k := k) pr
    refine call_setdefault_heap (hsz := by rw [← Paired.length pr]; exact z) (room_in1 (hu := hu)) (key_at I ok rk) hs dd (fun p hp => ?_) fun hn h' dd' sb => ?_
    · rw [hp] at q
      cases en : nlook ns k with
      | none => rw [en] at q; exact q.elim
      | some y' => rw [en] at q; exact h1 y' _ _ en (I.tok _) q
    · rw [hn] at q
      cases en : nlook ns k with
      | some y' => rw [en] at q; exact q.elim
      | none => exact h2 _ _ en (dn_write I e (len_put hl _ _ _) hs (pe3_put rv pr) dd' sb) rv
/-- a new empty dict -/
theorem dic_empty (h : Heap) (hb : sysModules < h.objs.size) (t : Bool) {H' : Hp} : ObjOk X.prog X.w H' (h.push { cls := .type "dict", data := .dict #[] }) h.objs.size (dHO (cn X) h.objs.size t []) := by
  have hs : (h.objs.size == sysModules) = false := beq_eq_false_iff_ne.mpr (Ne.symm (Nat.ne_of_lt hb))
  cases t with
  | false => exact dk_empty h hb
  | true => exact dn_new (Nat.zero_le _) hs .nil (Heap.DictOfH.new h)
end
end L2.PL
end
section
set_option maxRecDepth 100000
/-! PL, part C: the small language and what it means on plain data. -/
namespace L2.PL
open PySem PySem.Spec PyProof.Rows
inductive Sl where
  | un | val (d : D) | own (d : D) | lck (d : D)
abbrev EV := List Sl
def Sl.get : Sl → Option D
  | .un => none
  | .val d => some d
  | .own d => some d
  | .lck d => some d
def isCont : D → Bool
  | .lst _ => true
  | .dic _ _ => true
  | _ => false
def mkSl (fr : Bool) (d : D) : Sl := if fr && isCont d then .own d else .val d
/-! ### operations on data -/
mutual
def toPy : D → PyData
  | .non => .none
  | .bl b => .bool b
  | .int i => .int i
  | .str x => .str x
  | .tup xs => .tuple (toPys xs)
  | .lst xs => .list (toPys xs)
  | .dic _ _ => .dict []
def toPys : List D → List PyData
  | [] => []
  | d :: ds => toPy d :: toPys ds
end
theorem toPys_map : ∀ ds : List D, toPys ds = ds.map toPy
  | [] => rfl
  | d :: ds => by simp [toPys, toPys_map ds]
abbrev bigN : Nat := 16777216
inductive BOp where | add | sub | mul | fdiv | mod | pow
inductive COp where | eq | ne | lt | le | gt | ge | isn | notn | isb | inn | notin
def mulOk (i j : Int) : Bool := (decide (-(2 ^ 64) < i) && decide (i < 2 ^ 64)) || (decide (-(2 ^ 64) < j) && decide (j < 2 ^ 64))
def binD : BOp → D → D → Option D
  | .add, .int i, .int j => some (.int (i + j))
  | .add, .str x, .str y => if x.length + y.length ≤ bigN then some (.str (x ++ y)) else none
  | .add, .lst xs, .lst ys => if xs.length + ys.length ≤ bigN then some (.lst (xs ++ ys)) else none
  | .add, .tup xs, .tup ys => if xs.length + ys.length ≤ bigN then some (.tup (xs ++ ys)) else none
  | .sub, .int i, .int j => some (.int (i - j))
  | .mul, .int i, .int j => if mulOk i j then some (.int (i * j)) else none
  | .fdiv, .int i, .int j => if j ≠ 0 ∧ j.natAbs < 1073741824 then some (.int (i.fdiv j)) else none
  | .mod, .int i, .int j => if j ≠ 0 then some (.int (i.fmod j)) else none
  | .pow, .int i, .int j => if 0 ≤ j ∧ j ≤ 1000000 ∧ i.natAbs < 2 ^ 64 then some (.int (i ^ j.toNat)) else none
  | _, _, _ => none
def negD : D → Option D
  | .int i => some (.int (-i))
  | _ => none
def flatD : D → Bool
  | .non => true | .bl _ => true | .int _ => true | .str _ => true | _ => false
def toV : D → V
  | .bl b => .bl b
  | .int i => .int i
  | .str x => .str x
  | _ => .non
/-- every entry of the one stands in the other, with the same flat value -/
def sameDic (ks ls : List (NestedKey × D)) : Bool := ks.length == ls.length && ks.all fun p => match look ls p.1 with
  | some d => flatD d && flatD p.2 && decide (toV d = toV p.2)
  | none => false
def eqD : D → D → Option Bool
  | .int i, .int j => some (i == j)
  | .str x, .str y => some (x == y)
  | .bl a, .bl b => some (a == b)
  | .dic false ks, .dic false ls => if sameDic ks ls then some true else none
  | x, y => if SeqAt.shaped (toPy x) && SeqAt.shaped (toPy y) then some (PyData.eqv (toPy x) (toPy y)) else none
def isNon : D → Bool
  | .non => true
  | _ => false
def inD (x : D) : D → Option Bool
  | .dic t kvs => match keyOf x with
    | some k => if keyOkB t k then some (look kvs k).isSome else none
    | none => none
  | .lst ys => if flatD x && ys.all flatD then some (inV (toV x) (ys.map toV)) else none
  | .tup ys => if flatD x && ys.all flatD then some (inV (toV x) (ys.map toV)) else none
  | _ => none
def cmpD : COp → D → D → Option Bool
  | .eq, x, y => eqD x y
  | .ne, x, y => (eqD x y).map (!·)
  | .lt, .int i, .int j => some (decide (i < j))
  | .le, .int i, .int j => some (decide (i ≤ j))
  | .gt, .int i, .int j => some (decide (j < i))
  | .ge, .int i, .int j => some (decide (j ≤ i))
  | .isn, x, .non => some (isNon x)
  | .notn, x, .non => some (!isNon x)
  | .isb, .bl a, .bl b => some (decide (a = b))
  | .inn, x, y => inD x y
  | .notin, x, y => (inD x y).map (!·)
  | _, _, _ => none
def truD : D → Option Bool
  | .bl b => some b
  | .int i => some (i != 0)
  | .non => some false
  | .lst xs => some (!xs.isEmpty)
  | .tup xs => some (!xs.isEmpty)
  | _ => none
def idxD : D → D → Option D
  | .lst xs, .int i => atI xs i
  | .tup xs, .int i => atI xs i
  | .dic t kvs, k => match keyOf k with
    | some k => if keyOkB t k then look kvs k else none
    | none => none
  | _, _ => none
def cutD (xs : List D) (lo hi : Option Int) : List D := (xs.drop (HT.sIx xs.length 0 lo)).take (HT.sIx xs.length xs.length hi - HT.sIx xs.length 0 lo)
def sliD : D → Option Int → Option Int → Option D
  | .lst xs, lo, hi => some (.lst (cutD xs lo hi))
  | .tup xs, lo, hi => some (.tup (cutD xs lo hi))
  | _, _, _ => none
def revD : D → Option D
  | .lst xs => some (.lst xs.reverse)
  | .tup xs => some (.tup xs.reverse)
  | _ => none
/-- a list of pairs as a dict's entries -/
def pairD (t : Bool) : D → Option (NestedKey × D)
  | .tup [k, v] => match keyOf k with
    | some k => if keyOkB t k then some (k, v) else none
    | none => none
  | _ => none
def pairsD (t : Bool) : List D → Option (List (NestedKey × D))
  | [] => some []
  | d :: ds => match pairD t d, pairsD t ds with
    | some p, some ps => some (p :: ps)
    | _, _ => none
def intsD : List D → Option (List Int)
  | [] => some []
  | .int i :: ds => (intsD ds).map (i :: ·)
  | _ :: _ => none
def allAlikeB (ds : List PyData) : Bool := ds.all fun d => ds.all fun e => PySem.W.alike d e
def sortableB (ds : List PyData) : Bool := (ds.all fun d => match d with | .tuple (_ :: _) => true | _ => false) || ds.all fun d => match d with | .none => false | .tuple _ => false | _ => true
def sortD (xs : List D) : Option (List D) :=
  if allAlikeB (xs.map toPy) && sortableB (xs.map toPy) && xs.all (fun d => decide ((toPy d).depth ≤ 64) && (toPy d).canLay0) && decide (xs.length ≤ bigN) then some (xs.mergeSort (PySem.W.dataLe false toPy)) else none
inductive Ty where | int | bool | str | list | tuple | dict
def isTy : Ty → D → Bool
  | .int, .int _ => true
  | .int, .bl _ => true
  | .bool, .bl _ => true
  | .str, .str _ => true
  | .list, .lst _ => true
  | .tuple, .tup _ => true
  | .dict, .dic _ _ => true
  | _, _ => false
/-- built-in functions of one operand -/
inductive Bi where | len | tuple | list | sorted | dict (t : Bool) | sum | abs | isi (ty : Ty) | litems | lvals | svals
def biD : Bi → D → Option D
  | .len, .lst xs => some (.int xs.length)
  | .len, .tup xs => some (.int xs.length)
  | .len, .dic _ kvs => some (.int kvs.length)
  | .tuple, .lst xs => some (.tup xs)
  | .tuple, .tup xs => some (.tup xs)
  | .list, .lst xs => some (.lst xs)
  | .list, .tup xs => some (.lst xs)
  | .list, .dic _ kvs => some (.lst (kvs.map fun p => toD p.1))
  | .sorted, .lst xs => (sortD xs).map .lst
  | .dict t, .lst xs => (pairsD t xs).map fun ps => .dic t (mrg [] ps)
  | .dict false, .dic false kvs => some (.dic false kvs)
  | .sum, .lst xs => (intsD xs).map fun is => .int is.sum
  | .abs, .int i => some (.int (if i < 0 then -i else i))
  | .isi ty, d => some (.bl (isTy ty d))
  | .litems, .dic _ kvs => some (.lst (kvs.map fun p => .tup [toD p.1, p.2]))
  | .lvals, .dic _ kvs => some (.lst (kvs.map fun p => p.2))
  | .svals, .dic _ kvs => (intsD (kvs.map fun p => p.2)).map fun is => .int is.sum
  | _, _ => none
/-- methods that change nothing -/
inductive Mt where | get
def mtD : Mt → D → List D → Option D
  | .get, .dic t kvs, [k] => match keyOf k with
    | some k => if keyOkB t k then some ((look kvs k).getD .non) else none
    | none => none
  | .get, .dic t kvs, [k, x] => match keyOf k with
    | some k => if keyOkB t k then some ((look kvs k).getD x) else none
    | none => none
  | _, _, _ => none
/-- methods that change the slot's own object -/
inductive Mu where | append | pop | reverse | setdefault
def muTy : Mu → D → Bool
  | .setdefault, .dic _ _ => true
  | .setdefault, _ => false
  | _, .lst _ => true
  | _, _ => false
def muD : Mu → D → List D → Option (D × D)
  | .append, .lst xs, [y] => if xs.length < bigN then some (.non, .lst (xs ++ [y])) else none
  | .pop, .lst xs, [] => match xs[xs.length - 1]? with
    | some y => some (y, .lst xs.dropLast)
    | none => none
  | .reverse, .lst xs, [] => some (.non, .lst xs.reverse)
  | .setdefault, .dic t kvs, [k, x] => match keyOf k with
    | some k => if keyOkB t k && decide (kvs.length < bigN) then (match look kvs k with
        | some d => some (d, .dic t kvs)
        | none => some (x, .dic t (put kvs k x))) else none
    | none => none
  | _, _, _ => none
/-- slot[k] = v -/
def setD : D → D → D → Option D
  | .dic t kvs, k, v => match keyOf k with
    | some k => if keyOkB t k && decide (kvs.length < bigN) then some (.dic t (put kvs k v)) else none
    | none => none
  | .lst xs, .int i, v => match ixN xs.length i with
    | some j => some (.lst (xs.set j v))
    | none => none
  | _, _, _ => none
/-- what a for walks -/
def itemsD : D → Option (List D)
  | .lst xs => some xs
  | .tup xs => some xs
  | .dic _ kvs => some (kvs.map fun p => toD p.1)
  | _ => none
def rangeD (lo : Int) (n : Nat) : List D := (List.range n).map fun (k : Nat) => .int (lo + (k : Int))
def rngOk (i : Int) : Bool := decide (-(2 ^ 62) ≤ i) && decide (i < 2 ^ 62)
def rngD : List D → Option (List D)
  | [.int j] => if rngOk j then some (rangeD 0 j.toNat) else none
  | [.int i, .int j] => if rngOk i && rngOk j then some (rangeD i (j - i).toNat) else none
  | _ => none
/-! ### the language -/
inductive IG where
  | nm (i : Nat) | tp (is : List Nat)
mutual
inductive IE where
  | var (i : Nat) | cst (d : D)
  | bin (o : BOp) (a b : IO) | neg (a : IO) | cmp (o : COp) (a b : IO)
  | andv (a b : IE) | orv (a b : IE) | notv (c : IT)
  | ite (c : IT) (a b : IE)
  | tup (es : IOs) | lst (es : IOs) | dic (t : Bool) (es : IOs)
  | idx (a b : IO) | sli (a : IO) (lo hi : IP) | rev (a : IO)
  | call (f : Nat) (es : IOs) | bi (b : Bi) (a : IO) | mt (m : Mt) (o : IO) (es : IOs) | mu (m : Mu) (i : Nat) (es : IOs)
  | lc (vs : List Nat) (g : IG) (it : II) (c : IC) (x : IE)
  | dc (t : Bool) (vs : List Nat) (g : IG) (it : II) (c : IC) (k v : IE)
/-- operands: a name read where it stands, or any expression -/
inductive IO where
  | pk (i : Nat) | e (x : IE)
inductive IOs where
  | nil | cons (o : IO) (os : IOs)
/-- a slice's part -/
inductive IP where
  | no | yes (o : IO)
/-- tests -/
inductive IT where
  | e (x : IO) | and (a b : IT) | or (a b : IT) | not (a : IT)
inductive IC where
  | no | yes (c : IT)
inductive II where
  | it (x : IE) | rng (os : IOs) | itl (i : Nat)
end
mutual
inductive IS where
  | set (i : Nat) (x : IE) | setl (i j : Nat) (x : IE) | setT (is : List Nat) (x : IE) | par (i j : Nat) (a b : IO)
  | setI (i : Nat) (k : IO) (x : IE)
  | retv (i : Nat) | ret (x : IE) | retN
  | iff (c : IT) (a b : IB) | for (g : IG) (it : II) (b : IB) | ex (x : IE) | pass | brk | cnt
inductive IB where
  | nil | cons (s : IS) (b : IB)
end
def II.isL : II → Bool
  | .itl _ => true
  | _ => false
/-! ### evaluation -/
inductive Tok' where
  | dn (d : D) | pk (i : Nat)
def rsv (ρ : EV) : Tok' → Option D
  | .dn d => some d
  | .pk i => match ρ[i]? with
    | some s => s.get
    | none => none
def rsvs (ρ : EV) : List Tok' → Option (List D)
  | [] => some []
  | t :: ts => match rsv ρ t, rsvs ρ ts with
    | some d, some ds => some (d :: ds)
    | _, _ => none
/-- all are done -/
def dns : List Tok' → Option (List D)
  | [] => some []
  | .dn d :: ts => (dns ts).map (d :: ·)
  | .pk _ :: _ => none
/-- the arguments of a call: what stands owned goes over as it is -/
def argOf (ρ : EV) : Tok' → Option Sl
  | .dn d => some (.val d)
  | .pk i => match ρ[i]? with
    | some .un => none
    | some (.lck _) => none
    | some s => some s
    | none => none
def argsOf (ρ : EV) : List Tok' → Option EV
  | [] => some []
  | t :: ts => match argOf ρ t, argsOf ρ ts with
    | some d, some ds => some (d :: ds)
    | _, _ => none
/-- the slots that are lent -/
def lent (ρ : EV) : List Tok' → List Nat
  | [] => []
  | .dn _ :: ts => lent ρ ts
  | .pk i :: ts => match ρ[i]? with
    | some (.own _) => i :: lent ρ ts
    | _ => lent ρ ts
/-- behind the call they stand as the callee left them -/
def back (ρ0 : EV) : List Tok' → EV → EV → EV
  | [], _, ρ => ρ
  | .dn _ :: ts, _ :: outs, ρ => back ρ0 ts outs ρ
  | .pk i :: ts, s :: outs, ρ => match ρ0[i]? with
    | some (.own _) => back ρ0 ts outs (ρ.set i s)
    | _ => back ρ0 ts outs ρ
  | _ :: _, [], ρ => ρ
/-- what a def hands back: its value, whether that is new, the parameters' slots -/
abbrev Fn := Nat → EV → Option (D × Bool × EV)
abbrev RE := Option (D × Bool × EV)
def frz1 (ρ : EV) (i : Nat) : Option (D × EV) := match ρ[i]? with
  | some (.val d) => some (d, ρ)
  | some (.own d) => some (d, ρ.set i (.val d))
  | _ => none
def wipeE (ρ : EV) : List Nat → EV
  | [] => ρ
  | i :: is => wipeE (ρ.set i .un) is
/-- the comprehension's own slots as they were -/
def unwipe (ρ0 : EV) : List Nat → EV → EV
  | [], ρ => ρ
  | i :: is, ρ => unwipe ρ0 is (match ρ0[i]? with
    | some s => ρ.set i s
    | none => ρ)
def isOwn : Option Sl → Bool
  | some (.own _) => true
  | _ => false
/-- what is handed back of the parameters: the owned ones as they stand -/
def outsOf : EV → EV → EV
  | [], _ => []
  | .own _ :: as, r :: rs => r :: outsOf as rs
  | a :: as, _ :: rs => a :: outsOf as rs
  | _ :: as, [] => .un :: outsOf as []
def okTo (ρ : EV) (io : List Nat) (i : Nat) : Bool := decide (i < ρ.length) && !io.contains i
def asgs (io : List Nat) : List Nat → List D → EV → Option EV
  | [], [], ρ => some ρ
  | i :: is, d :: ds, ρ => if okTo ρ io i then asgs io is ds (ρ.set i (.val d)) else none
  | _, _, _ => none
/-- a target takes a value that is not new -/
def asg (io : List Nat) : IG → D → EV → Option EV
  | .nm i, d, ρ => if okTo ρ io i then some (ρ.set i (.val d)) else none
  | .tp is, .tup ds, ρ => if is.length = ds.length then asgs io is ds ρ else none
  | .tp _, _, _ => none
def tgts : IG → List Nat
  | .nm i => [i]
  | .tp is => is
/-- one turn of a comprehension, the turns -/
def lcGo (turn : D → EV → Option (Option D × EV)) : List D → EV → List D → Option (List D × EV)
  | [], ρ, acc => some (acc, ρ)
  | x :: xs, ρ, acc => match turn x ρ with
    | some (some d, ρ') => if acc.length < bigN then lcGo turn xs ρ' (acc ++ [d]) else none
    | some (none, ρ') => lcGo turn xs ρ' acc
    | none => none
def dcGo (turn : D → EV → Option (Option (NestedKey × D) × EV)) : List D → EV → List (NestedKey × D) → Option (List (NestedKey × D) × EV)
  | [], ρ, acc => some (acc, ρ)
  | x :: xs, ρ, acc => match turn x ρ with
    | some (some (k, d), ρ') => if acc.length < bigN then dcGo turn xs ρ' (put acc k d) else none
    | some (none, ρ') => dcGo turn xs ρ' acc
    | none => none
def partI : Option D → Option (Option Int)
  | none => some none
  | some (.int i) => some (some i)
  | some _ => none
def dicPairs (t : Bool) : List D → Option (List (NestedKey × D))
  | [] => some []
  | k :: v :: r => match keyOf k, dicPairs t r with
    | some k, some ps => if keyOkB t k then some ((k, v) :: ps) else none
    | _, _ => none
  | _ => none
section
variable (Φ : Fn) (io : List Nat)
mutual
def evE : IE → EV → RE
  | .var i, ρ => match frz1 ρ i with
    | some (d, ρ') => some (d, false, ρ')
    | none => none
  | .cst d, ρ => some (d, false, ρ)
  | .bin o a b, ρ => match evO a ρ with
    | some (x, ρ1) => match evO b ρ1 with
      | some (y, ρ2) => match rsv ρ2 x, rsv ρ2 y with
        | some x, some y => (binD o x y).map fun d => (d, true, ρ2)
        | _, _ => none
      | none => none
    | none => none
  | .neg a, ρ => match evO a ρ with
    | some (x, ρ1) => match rsv ρ1 x with
      | some x => (negD x).map fun d => (d, true, ρ1)
      | none => none
    | none => none
  | .cmp o a b, ρ => match evO a ρ with
    | some (x, ρ1) => match evO b ρ1 with
      | some (y, ρ2) => match rsv ρ2 x, rsv ρ2 y with
        | some x, some y => (cmpD o x y).map fun d => (.bl d, true, ρ2)
        | _, _ => none
      | none => none
    | none => none
  | .andv a b, ρ => match evE a ρ with
    | some (.bl k, _, ρ1) => if k then evE b ρ1 else some (.bl false, false, ρ1)
    | _ => none
  | .orv a b, ρ => match evE a ρ with
    | some (.bl k, _, ρ1) => if k then some (.bl true, false, ρ1) else evE b ρ1
    | _ => none
  | .notv c, ρ => (evT c ρ).map fun p => (.bl (!p.1), false, p.2)
  | .ite c a b, ρ => match evT c ρ with
    | some (k, ρ1) => if k then evE a ρ1 else evE b ρ1
    | none => none
  | .tup es, ρ => match evOs es ρ with
    | some (ts, ρ1) => match dns ts with
      | some ds => if ds.length ≤ bigN then some (.tup ds, false, ρ1) else none
      | none => none
    | none => none
  | .lst es, ρ => match evOs es ρ with
    | some (ts, ρ1) => match dns ts with
      | some ds => if ds.length ≤ bigN then some (.lst ds, true, ρ1) else none
      | none => none
    | none => none
  | .dic t es, ρ => match evOs es ρ with
    | some (ts, ρ1) => match dns ts with
      | some ds => match dicPairs t ds with
        | some ps => if ps.length ≤ 15 then some (.dic t (mrg [] ps), true, ρ1) else none
        | none => none
      | none => none
    | none => none
  | .idx a b, ρ => match evO a ρ with
    | some (x, ρ1) => match evO b ρ1 with
      | some (y, ρ2) => match rsv ρ2 x, rsv ρ2 y with
        | some x, some y => (idxD x y).map fun d => (d, false, ρ2)
        | _, _ => none
      | none => none
    | none => none
  | .sli a lo hi, ρ => match evO a ρ with
    | some (x, ρ1) => match evP lo ρ1 with
      | some (l, ρ2) => match evP hi ρ2 with
        | some (h, ρ3) => match rsv ρ3 x with
          | some x => (sliD x l h).map fun d => (d, true, ρ3)
          | none => none
        | none => none
      | none => none
    | none => none
  | .rev a, ρ => match evO a ρ with
    | some (x, ρ1) => match rsv ρ1 x with
      | some x => (revD x).map fun d => (d, true, ρ1)
      | none => none
    | none => none
  | .call f es, ρ => match evOs es ρ with
    | some (ts, ρ1) => if (lent ρ1 ts).Nodup then (match argsOf ρ1 ts with
      | some as => match Φ f as with
        | some (d, fr, outs) => if outs.length = as.length then some (d, fr, back ρ1 ts outs ρ1) else none
        | none => none
      | none => none) else none
    | none => none
  | .bi b a, ρ => match evO a ρ with
    | some (x, ρ1) => match rsv ρ1 x with
      | some x => (biD b x).map fun d => (d, true, ρ1)
      | none => none
    | none => none
  | .mt m o es, ρ => match evO o ρ with
    | some (x, ρ1) => match rsv ρ1 x with
      | some (.dic _ _) => match evOs es ρ1 with
        | some (ts, ρ2) => match rsv ρ2 x, dns ts with
          | some x, some ds => (mtD m x ds).map fun d => (d, false, ρ2)
          | _, _ => none
        | none => none
      | _ => none
    | none => none
  | .mu m i es, ρ => match ρ[i]? with
    | some (.own d0) => if muTy m d0 then (match evOs es ρ with
      | some (ts, ρ1) => match ρ1[i]?, dns ts with
        | some (.own d), some ds => (muD m d ds).map fun p => (p.1, false, ρ1.set i (.own p.2))
        | _, _ => none
      | none => none) else none
    | _ => none
  | .lc vs g it c x, ρ => match evI it ρ with
    | some (items, ρ1) =>
      if (tgts g).all vs.contains && vs.all (fun i => decide (i < ρ1.length) && !io.contains i) then
      (match lcGo (fun y ρ => match asg io g y ρ with
        | some ρ2 => match evC c ρ2 with
          | some (true, ρ3) => match evE x ρ3 with
            | some (d, _, ρ4) => some (some d, wipeE ρ4 vs)
            | none => none
          | some (false, ρ3) => some (none, wipeE ρ3 vs)
          | none => none
        | none => none) items (wipeE ρ1 vs) [] with
      | some (ds, ρ') => some (.lst ds, true, unwipe ρ1 vs ρ')
      | none => none) else none
    | none => none
  | .dc t vs g it c k v, ρ => match evI it ρ with
    | some (items, ρ1) =>
      if (tgts g).all vs.contains && vs.all (fun i => decide (i < ρ1.length) && !io.contains i) then
      (match dcGo (fun y ρ => match asg io g y ρ with
        | some ρ2 => match evC c ρ2 with
          | some (true, ρ3) => match evE k ρ3 with
            | some (kd, _, ρ4) => match evE v ρ4 with
              | some (d, _, ρ5) => match keyOf kd with
                | some kk => if keyOkB t kk then some (some (kk, d), wipeE ρ5 vs) else none
                | none => none
              | none => none
            | none => none
          | some (false, ρ3) => some (none, wipeE ρ3 vs)
          | none => none
        | none => none) items (wipeE ρ1 vs) [] with
      | some (ps, ρ') => some (.dic t ps, true, unwipe ρ1 vs ρ')
      | none => none) else none
    | none => none
def evO : IO → EV → Option (Tok' × EV)
  | .pk i, ρ => match ρ[i]? with
    | some .un => none
    | some _ => some (.pk i, ρ)
    | none => none
  | .e x, ρ => (evE x ρ).map fun p => (.dn p.1, p.2.2)
def evOs : IOs → EV → Option (List Tok' × EV)
  | .nil, ρ => some ([], ρ)
  | .cons o os, ρ => match evO o ρ with
    | some (t, ρ1) => (evOs os ρ1).map fun p => (t :: p.1, p.2)
    | none => none
def evP : IP → EV → Option (Option Int × EV)
  | .no, ρ => some (none, ρ)
  | .yes o, ρ => match evO o ρ with
    | some (t, ρ1) => match rsv ρ1 t with
      | some (.int i) => some (some i, ρ1)
      | _ => none
    | none => none
def evT : IT → EV → Option (Bool × EV)
  | .e o, ρ => match evO o ρ with
    | some (t, ρ1) => match rsv ρ1 t with
      | some d => (truD d).map fun k => (k, ρ1)
      | none => none
    | none => none
  | .and a b, ρ => match evT a ρ with
    | some (k, ρ1) => if k then evT b ρ1 else some (false, ρ1)
    | none => none
  | .or a b, ρ => match evT a ρ with
    | some (k, ρ1) => if k then some (true, ρ1) else evT b ρ1
    | none => none
  | .not a, ρ => (evT a ρ).map fun p => (!p.1, p.2)
def evC : IC → EV → Option (Bool × EV)
  | .no, ρ => some (true, ρ)
  | .yes c, ρ => evT c ρ
def evI : II → EV → Option (List D × EV)
  | .it x, ρ => match evE x ρ with
    | some (d, _, ρ1) => (itemsD d).map fun xs => (xs, ρ1)
    | none => none
  | .rng os, ρ => match evOs os ρ with
    | some (ts, ρ1) => match rsvs ρ1 ts with
      | some ds => (rngD ds).map fun xs => (xs, ρ1)
      | none => none
    | none => none
  | .itl i, ρ => match ρ[i]? with
    | some (.own d) => (itemsD d).map fun xs => (xs, ρ.set i (.lck d))
    | _ => none
end
def noLck : Sl → Bool
  | .lck _ => false
  | _ => true
inductive Out where
  | nxt (ρ : EV) | ret (d : D) (fr : Bool) (ρ : EV) | brk (ρ : EV) | cnt (ρ : EV) | bad
def forGo (body : D → EV → Out) : List D → EV → Out
  | [], ρ => .nxt ρ
  | x :: xs, ρ => match body x ρ with
    | .nxt ρ' => forGo body xs ρ'
    | .cnt ρ' => forGo body xs ρ'
    | .brk ρ' => .nxt ρ'
    | .ret d fr ρ' => .ret d fr ρ'
    | .bad => .bad
mutual
def exS : IS → EV → Out
  | .set i x, ρ => match evE Φ io x ρ with
    | some (d, fr, ρ1) => if okTo ρ1 io i then .nxt (ρ1.set i (mkSl fr d)) else .bad
    | none => .bad
  | .setl i j x, ρ => match ρ[i]? with
    | some (.own _) => match evE Φ io x ρ with
      | some (d, fr, ρ1) => match ρ1[i]? with
        | some (.lck d') => if okTo ρ1 io j && i != j && (ρ1.set i .un).all noLck then .nxt ((ρ1.set j (mkSl fr d)).set i (.own d')) else .bad
        | _ => .bad
      | none => .bad
    | _ => .bad
  | .setT is x, ρ => match evE Φ io x ρ with
    | some (d, _, ρ1) => match asg io (.tp is) d ρ1 with
      | some ρ2 => .nxt ρ2
      | none => .bad
    | none => .bad
  | .par i j a b, ρ => match evOs Φ io (.cons a (.cons b .nil)) ρ with
    | some ([.dn x, .dn y], ρ1) => if okTo ρ1 io i && okTo ρ1 io j && i != j then .nxt ((ρ1.set i (.val x)).set j (.val y)) else .bad
    | _ => .bad
  | .setI i k x, ρ => match evE Φ io x ρ with
    | some (d, _, ρ1) => match ρ1[i]? with
      | some (.own _) => match evO Φ io k ρ1 with
        | some (t, ρ2) => match ρ2[i]?, rsv ρ2 t with
          | some (.own o), some kd => match setD o kd d with
            | some o' => .nxt (ρ2.set i (.own o'))
            | none => .bad
          | _, _ => .bad
        | none => .bad
      | _ => .bad
    | none => .bad
  | .retv i, ρ => match ρ[i]? with
    | some (.val d) => .ret d false ρ
    | some (.own d) => if !io.contains i && io.all (fun j => isOwn ρ[j]?) then .ret d true (ρ.set i .un) else .bad
    | _ => .bad
  | .ret x, ρ => match evE Φ io x ρ with
    | some (d, fr, ρ1) => .ret d fr ρ1
    | none => .bad
  | .retN, ρ => .ret .non false ρ
  | .iff c a b, ρ => match evT Φ io c ρ with
    | some (k, ρ1) => if k then exB a ρ1 else exB b ρ1
    | none => .bad
  | .for g it b, ρ => if it.isL then .bad else match evI Φ io it ρ with
    | some (items, ρ1) => forGo (fun x ρ => match asg io g x ρ with
      | some ρ2 => exB b ρ2
      | none => .bad) items ρ1
    | none => .bad
  | .ex x, ρ => match evE Φ io x ρ with
    | some (_, _, ρ1) => .nxt ρ1
    | none => .bad
  | .pass, ρ => .nxt ρ
  | .brk, ρ => .brk ρ
  | .cnt, ρ => .cnt ρ
def exB : IB → EV → Out
  | .nil, ρ => .nxt ρ
  | .cons s b, ρ => match exS s ρ with
    | .nxt ρ1 => exB b ρ1
    | o => o
end
end
/-- a def: how many slots, its body -/
structure Df where
  np : Nat
  ns : Nat
  body : IB
def owns : Nat → EV → List Nat
  | _, [] => []
  | i, .own _ :: r => i :: owns (i + 1) r
  | i, _ :: r => owns (i + 1) r
/-- a call, to some depth -/
def run (T : List Df) : Nat → Fn
  | 0, _, _ => none
  | n + 1, f, as => match T[f]? with
    | some d => if as.length = d.np then
      (match exB (run T n) (owns 0 as) d.body (as ++ List.replicate (d.ns - d.np) .un) with
        | .ret v fr ρ => some (v, fr, outsOf as ρ)
        | .nxt ρ => some (.non, false, outsOf as ρ)
        | _ => none) else none
    | none => none
end L2.PL
end
section
set_option maxRecDepth 100000
/-! PL, part D: how slots and heap stand to the plain data. -/
namespace L2.PL
open PySem PySem.Spec PyProof.Rows
/-- at a def's entry: the heap, what of it may change, the lent parameters with their addresses -/
structure Gh where
  H0 : Hp
  exc : List Addr
  io : List (Nat × Addr)
def At (c : Cn) (F H : Hp) (a : Addr) : D → Prop
  | .lst xs => ∃ vs, H a = some (.lst vs) ∧ Rps c F xs vs
  | .dic t kvs => ∃ ns, H a = some (dHO c a t ns) ∧ Rpk c F t kvs ns
  | _ => False
def SlOk (c : Cn) (F H : Hp) (o : Option V) : Sl → Prop
  | .un => True
  | .val d => ∃ v, o = some v ∧ Rp c F d v
  | .own d => ∃ a, o = some (.ref a) ∧ F a = none ∧ At c F H a d
  | .lck d => ∃ a ob u, o = some (.ref a) ∧ F a = none ∧ H a = some (.frz ob u) ∧ At c F (upd H a u) a d
/-- owned by a slot -/
def Ow (σ : St) (ρ : EV) (a : Addr) : Prop := ∃ (i : Nat) (d : D), ρ[i]? = some (Sl.own d) ∧ σ[i]? = some (some (V.ref a))
structure Rel (c : Cn) (G : Gh) (F : Hp) (σ : St) (H : Hp) (ρ : EV) : Prop where
  sub : Le F H
  len : σ.length = ρ.length
  sl : ∀ (i : Nat) (s : Sl) (o : Option V), ρ[i]? = some s → σ[i]? = some o → SlOk c F H o s
  dis : ∀ (i j : Nat) (a : Addr) (d d' : D), ρ[i]? = some (.own d) → ρ[j]? = some (.own d') → σ[i]? = some (some (.ref a)) → σ[j]? = some (some (.ref a)) → i = j
  new : ∀ a, Ow σ ρ a → G.H0 a = none ∨ a ∈ G.exc
  keep : ∀ a o, G.H0 a = some o → a ∉ G.exc → H a = some o
  io : ∀ p ∈ G.io, σ[p.1]? = some (some (.ref p.2))
structure Ext (c : Cn) (G : Gh) (σ : St) (F : Hp) (ρ : EV) (H : Hp) (F' : Hp) (ρ' : EV) (H' : Hp) : Prop where
  le : Le F F'
  rel : Rel c G F' σ H' ρ'
  fm : ∀ a o, H a = some o → ¬ Ow σ ρ a → H' a = some o
  gr : ∀ a, F' a ≠ none → F a ≠ none ∨ H a = none ∨ Ow σ ρ a
  ow : ∀ a, Ow σ ρ' a → Ow σ ρ a
  dm : ∀ a, H a ≠ none → H' a ≠ none
section
variable {c : Cn} {G : Gh} {σ : St} {F F' F'' H H' H'' : Hp} {ρ ρ' ρ'' : EV} {a : Addr} {d : D} {v : V} {i : Nat}
theorem At.there (h : At c F H a d) : H a ≠ none := by
  cases d with
  | lst xs => obtain ⟨vs, e, _⟩ := h; rw [e]; exact fun z => nomatch z
  | dic t kvs => obtain ⟨ns, e, _⟩ := h; rw [e]; exact fun z => nomatch z
  | _ => exact h.elim
theorem At.mut (h : At c F H a d) : ∃ u, H a = some u ∧ Mut (some u) := by
  cases d with
  | lst xs => obtain ⟨vs, e, _⟩ := h; exact ⟨_, e, True.intro⟩
  | dic t kvs => obtain ⟨ns, e, _⟩ := h; exact ⟨_, e, dHO_mut _ _ _ _⟩
  | _ => exact h.elim
theorem At.not_frz {b : Addr} {ob : Obj} {u2 : HO} (h : At c F H a d) (e : H b = some (.frz ob u2)) : b ≠ a := fun z => by
  subst z
  obtain ⟨u, q, mu⟩ := h.mut
  rw [q] at e
  cases e
  exact mu
theorem At.le (l : Le F F') (e : H' a = H a) (h : At c F H a d) : At c F' H' a d := by
  cases d with
  | lst xs => obtain ⟨vs, q, r⟩ := h; exact ⟨vs, e.trans q, Rps.le l _ _ r⟩
  | dic t kvs => obtain ⟨ns, q, r⟩ := h; exact ⟨ns, e.trans q, Rpk.le l _ _ _ r⟩
  | _ => exact h.elim
theorem At.cont (h : At c F H a d) : isCont d = true := by cases d <;> first | rfl | exact h.elim
theorem Ow.at' (R : Rel c G F σ H ρ) (h : Ow σ ρ a) : F a = none ∧ ∃ d, At c F H a d := by
  obtain ⟨i, d, e1, e2⟩ := h
  obtain ⟨b, q1, q2, q3⟩ := R.sl i _ _ e1 e2
  have q1' := Option.some.inj q1
  cases q1'
  exact ⟨q2, d, q3⟩
theorem Ow.there (R : Rel c G F σ H ρ) (h : Ow σ ρ a) : H a ≠ none := by
  obtain ⟨_, d, q⟩ := h.at' R
  exact q.there
theorem Rel.sub_none (R : Rel c G F σ H ρ) (h : H a = none) : F a = none := by
  cases e : F a with
  | none => rfl
  | some o => have := R.sub a o e; rw [h] at this; cases this
theorem Ext.refl (R : Rel c G F σ H ρ) : Ext c G σ F ρ H F ρ H := ⟨Le.refl _, R, fun _ _ e _ => e, fun _ h => .inl h, fun _ h => h, fun _ h => h⟩
theorem Ext.trans (A : Ext c G σ F ρ H F' ρ' H') (B : Ext c G σ F' ρ' H' F'' ρ'' H'') : Ext c G σ F ρ H F'' ρ'' H'' where
  le := A.le.trans B.le
  rel := B.rel
  fm := fun a o e n => B.fm a o (A.fm a o e n) fun z => n (A.ow a z)
  gr := fun a h => by
    rcases B.gr a h with h | h | h
    · exact A.gr a h
    · by_cases e : H a = none
      · exact .inr (.inl e)
      · exact absurd h (A.dm a e)
    · exact .inr (.inr (A.ow a h))
  ow := fun a h => A.ow a (B.ow a h)
  dm := fun a h => B.dm a (A.dm a h)
/-- a value, new or frozen -/
def Res (c : Cn) (fr : Bool) (F' H' H : Hp) (d : D) (v : V) : Prop :=
  (∃ a, fr = true ∧ v = .ref a ∧ H a = none ∧ F' a = none ∧ At c F' H' a d) ∨ (fr && isCont d) = false ∧ Rp c F' d v
theorem Res.fl {fr : Bool} {H H' : Hp} (h : Rp c F d v) (e : (fr && isCont d) = false := by rfl) : Res c fr F H' H d v := .inr ⟨e, h⟩
/-- what can be read now -/
def Rt (c : Cn) (F H : Hp) (d : D) (v : V) : Prop := Rp c F d v ∨ (∃ a, v = .ref a ∧ At c F H a d) ∨ ∃ a ob u, v = .ref a ∧ H a = some (.frz ob u) ∧ At c F (upd H a u) a d
theorem Rt.of (h : Rp c F d v) : Rt c F H d v := .inl h
theorem Rt.flat (h : Rt c F H d v) (hf : isCont d = false) : Rp c F d v := by
  rcases h with h | ⟨a, _, q⟩ | ⟨a, _, _, _, _, q⟩
  · exact h
  · rw [q.cont] at hf; cases hf
  · rw [q.cont] at hf; cases hf
theorem Rt.list {xs : List D} (l : Le F H) (h : Rt c F H (.lst xs) v) : ∃ a vs, v = .ref a ∧ SqL c.K H a vs ∧ Rps c F xs vs := by
  rcases h with h | ⟨a, rfl, vs, e, r⟩ | ⟨a, ob, u, rfl, ef, vs, e, r⟩
  · rw [Rp] at h
    obtain ⟨a, vs, e, s, r⟩ := h
    exact ⟨a, vs, e, sqL_le l s, r⟩
  · exact ⟨a, vs, rfl, SqL.of e, r⟩
  · rw [upd_same] at e
    cases e
    exact ⟨a, vs, rfl, .inl (.inr ⟨ob, ef⟩), r⟩
theorem Rt.tup {xs : List D} (l : Le F H) (h : Rt c F H (.tup xs) v) : ∃ a vs, v = .ref a ∧ SqT c.K H a vs ∧ Rps c F xs vs := by
  have h := h.flat rfl
  rw [Rp] at h
  obtain ⟨a, vs, e, s, r⟩ := h
  exact ⟨a, vs, e, sqT_le l s, r⟩
theorem Rt.int {i : Int} (h : Rt c F H (.int i) v) : v = .int i := by have h := h.flat rfl; rwa [Rp] at h
theorem Rt.str {i : Str} (h : Rt c F H (.str i) v) : v = .str i := by have h := h.flat rfl; rwa [Rp] at h
theorem Rt.bl {i : Bool} (h : Rt c F H (.bl i) v) : v = .bl i := by have h := h.flat rfl; rwa [Rp] at h
theorem Rt.non (h : Rt c F H .non v) : v = .non := by have h := h.flat rfl; rwa [Rp] at h
theorem Rpk.keys (l : Le F H) {t : Bool} {kvs : List (NestedKey × D)} {ns : List Ent} (h : Rpk c F t kvs ns) : ∀ n ∈ ns, KeyOk t n.1 ∧ RpKey c H n.1 n.2.1 := fun n hn => ⟨(h.ok n hn).1, RpKey.le l _ _ (h.ok n hn).2⟩
theorem Rt.dic {X : Cx} {t : Bool} {kvs : List (NestedKey × D)} (l : Le F H) (h : Rt (cn X) F H (.dic t kvs) v) : ∃ a ns, v = .ref a ∧ Dic X H a t ns ∧ Rpk (cn X) F t kvs ns := by
  rcases h with h | ⟨a, rfl, ns, e, r⟩ | ⟨a, ob, u, rfl, ef, ns, e, r⟩
  · rw [Rp] at h
    obtain ⟨a, ob, ns, e, s, r⟩ := h
    exact ⟨a, ns, e, ⟨.inr ⟨ob, l _ _ s⟩, r.keys l⟩, r⟩
  · exact ⟨a, ns, rfl, ⟨.inl e, r.keys l⟩, r⟩
  · rw [upd_same] at e
    have e := Option.some.inj e
    subst e
    exact ⟨a, ns, rfl, ⟨.inr ⟨ob, ef⟩, r.keys l⟩, r⟩
/-! tokens -/
def TokOk (c : Cn) (F : Hp) (σ : St) : Tok' → V → Prop
  | .dn d, v => Rp c F d v
  | .pk i, v => σ[i]? = some (some v)
theorem TokOk.le {t : Tok'} (l : Le F F') (h : TokOk c F σ t v) : TokOk c F' σ t v := by
  cases t with
  | dn d => exact Rp.le l _ _ h
  | pk i => exact h
theorem TokOk.rsv {t : Tok'} (R : Rel c G F σ H ρ) (h : TokOk c F σ t v) (e : rsv ρ t = some d) : Rt c F H d v := by
  cases t with
  | dn d' => cases e; exact .inl h
  | pk i =>
    have h : σ[i]? = some (some v) := h
    simp only [L2.PL.rsv] at e
    cases q : ρ[i]? with
    | none => rw [q] at e; cases e
    | some s =>
      rw [q] at e
      have z := R.sl i s _ q h
      cases s with
      | un => cases e
      | val d' =>
        cases e
        obtain ⟨v', e1, r⟩ := z
        cases e1
        exact .inl r
      | own d' =>
        cases e
        obtain ⟨a, e1, _, r⟩ := z
        cases e1
        exact .inr (.inl ⟨a, rfl, r⟩)
      | lck d' =>
        cases e
        obtain ⟨a, ob, u, e1, _, e2, r⟩ := z
        cases e1
        exact .inr (.inr ⟨a, ob, u, rfl, e2, r⟩)
def TokOks (c : Cn) (F : Hp) (σ : St) : List Tok' → List V → Prop
  | [], vs => vs = []
  | t :: ts, vs => ∃ v vs', vs = v :: vs' ∧ TokOk c F σ t v ∧ TokOks c F σ ts vs'
theorem TokOks.le (l : Le F F') : ∀ {ts : List Tok'} {vs : List V}, TokOks c F σ ts vs → TokOks c F' σ ts vs
  | [], _, h => h
  | t :: ts, vs, ⟨v, vs', e, h1, h2⟩ => ⟨v, vs', e, h1.le l, TokOks.le l h2⟩
theorem TokOks.dns : ∀ {ts : List Tok'} {vs : List V} {ds : List D}, TokOks c F σ ts vs → dns ts = some ds → Rps c F ds vs
  | [], _, ds, h, e => by cases e; have h : _ = [] := h; subst h; exact Rps.nil
  | .dn d :: ts, vs, ds, ⟨v, vs', e1, h1, h2⟩, e => by
    unfold L2.PL.dns at e
    obtain ⟨ds', q, rfl⟩ := Option.map_eq_some_iff.mp e
    subst e1
    exact Rps.cons h1 (TokOks.dns h2 q)
  | .pk i :: ts, vs, ds, _, e => by cases e
/-! ### steps of the relation -/
/-- something new is laid; it is not owned by a slot -/
theorem Ext.laid {o : HO} (R : Rel c G F σ H ρ) (hn : H a = none) : Ext c G σ F ρ H F ρ (upd H a o) where
  le := Le.refl _
  fm := fun b u e _ => by rw [upd_ne (ne_of_none e hn)]; exact e
  gr := fun _ h => .inl h
  ow := fun _ h => h
  dm := fun b h => by
    by_cases e : b = a
    · subst e; rw [upd_same]; exact fun z => nomatch z
    · rw [upd_ne e]; exact h
  rel :=
    have ne : ∀ {b : Addr}, H b ≠ none → b ≠ a := fun h z => by subst z; exact h hn
    { sub := fun b u e => by rw [upd_ne (ne (fun z => by rw [R.sub b u e] at z; cases z))]; exact R.sub b u e
      len := R.len
      sl := fun i s o' e1 e2 => by
        have q := R.sl i s o' e1 e2
        cases s with
        | un => exact q
        | val d => exact q
        | own d =>
          obtain ⟨b, q1, q2, q3⟩ := q
          exact ⟨b, q1, q2, q3.le (Le.refl _) (upd_ne (ne q3.there))⟩
        | lck d =>
          obtain ⟨b, ob, u, q1, q2, q3, q4⟩ := q
          have nb : b ≠ a := ne (by rw [q3]; exact fun z => nomatch z)
          exact ⟨b, ob, u, q1, q2, by rw [upd_ne nb]; exact q3, q4.le (Le.refl _) (by rw [upd_same, upd_same])⟩
      dis := R.dis
      new := R.new
      keep := fun b u e h => by
        have q := R.keep b u e h
        rw [upd_ne (ne (fun z => by rw [q] at z; cases z))]; exact q
      io := R.io }
/-- something that no slot owns is frozen, whether new or not: it is locked in the heap -/
theorem Ext.freeze {u w : HO} (R0 : Rel c G F σ H ρ) (E : Ext c G σ F ρ H F' ρ' H') (hn : H a = none) (hf : F' a = none) (e : H' a = some w) (mw : Mut (some w)) (no : ¬ Ow σ ρ' a) : Ext c G σ F ρ H (upd F' a u) ρ' (upd H' a u) where
  le := E.le.trans (Le.upd hf)
  fm := fun b o q n => by rw [upd_ne (ne_of_none q hn)]; exact E.fm b o q n
  gr := fun b h => by
    by_cases z : b = a
    · subst z; exact .inr (.inl hn)
    · rw [upd_ne z] at h; exact E.gr b h
  ow := E.ow
  dm := fun b h => by
    by_cases z : b = a
    · subst z; rw [upd_same]; exact fun z => nomatch z
    · rw [upd_ne z]; exact E.dm b h
  rel :=
    { sub := fun b o q => by
        by_cases z : b = a
        · subst z; rw [upd_same] at q ⊢; exact q
        · rw [upd_ne z] at q ⊢; exact E.rel.sub b o q
      len := E.rel.len
      sl := fun i s o' e1 e2 => by
        have q := E.rel.sl i s o' e1 e2
        cases s with
        | un => exact q
        | val d => obtain ⟨v, q1, q2⟩ := q; exact ⟨v, q1, Rp.le (Le.upd hf) _ _ q2⟩
        | own d =>
          obtain ⟨b, q1, q2, q3⟩ := q
          have nb : b ≠ a := fun z => no ⟨i, d, e1, by rw [e2, q1, z]⟩
          exact ⟨b, q1, by rw [upd_ne nb]; exact q2, q3.le (Le.upd hf) (upd_ne nb)⟩
        | lck d =>
          obtain ⟨b, ob, u2, q1, q2, q3, q4⟩ := q
          have nb : b ≠ a := fun z => by subst z; rw [e] at q3; cases q3; exact mw
          exact ⟨b, ob, u2, q1, by rw [upd_ne nb]; exact q2, by rw [upd_ne nb]; exact q3, q4.le (Le.upd hf) (by rw [upd_same, upd_same])⟩
      dis := E.rel.dis
      new := E.rel.new
      keep := fun b o q h => by
        have r := E.rel.keep b o q h
        have nb : b ≠ a := fun z => by
          subst z
          have k := R0.keep b o q h
          rw [hn] at k
          cases k
        rw [upd_ne nb]; exact r
      io := E.rel.io }
theorem At.frozen {u : HO} {ob : Obj} (hf : F a = none) (e : H a = some u) (h : At c F H a d) : Rp c (upd F a (.frz ob u)) d (.ref a) := by
  cases d with
  | lst xs =>
    obtain ⟨vs, q, r⟩ := h
    rw [e] at q
    cases q
    rw [Rp]
    exact ⟨a, vs, rfl, .inl (.inr ⟨ob, upd_same⟩), Rps.le (Le.upd hf) _ _ r⟩
  | dic t kvs =>
    obtain ⟨ns, q, r⟩ := h
    rw [e] at q
    cases q
    rw [Rp]
    exact ⟨a, ob, ns, rfl, upd_same, Rpk.le (Le.upd hf) _ _ _ r⟩
  | _ => exact h.elim
/-- a slot's own object is frozen -/
theorem Ext.lock {u : HO} {ob : Obj} (R : Rel c G F σ H ρ) (e1 : ρ[i]? = some (.own d)) (e2 : σ[i]? = some (some (.ref a))) (e : H a = some u) :
    Ext c G σ F ρ H (upd F a (.frz ob u)) (ρ.set i (.val d)) (upd H a (.frz ob u)) ∧ Rp c (upd F a (.frz ob u)) d (.ref a) := by
  obtain ⟨b, q1, hf, hat⟩ := R.sl i _ _ e1 e2
  cases (Option.some.inj q1 : V.ref a = V.ref b)
  have hi : i < ρ.length := (List.getElem?_eq_some_iff.mp e1).1
  have owa : Ow σ ρ a := ⟨i, d, e1, e2⟩
  have fr := hat.frozen (ob := ob) hf e
  have owb : ∀ b, Ow σ (ρ.set i (.val d)) b → Ow σ ρ b ∧ b ≠ a := fun b ⟨j, d', q1, q2⟩ => by
    by_cases hj : i = j
    · subst hj; rw [List.getElem?_set_self hi] at q1; cases q1
    · rw [List.getElem?_set_ne hj] at q1
      exact ⟨⟨j, d', q1, q2⟩, fun z => hj (R.dis i j a d d' e1 q1 e2 (by rw [← z]; exact q2))⟩
  refine ⟨⟨Le.upd hf, ⟨?_, by rw [List.length_set]; exact R.len, ?_, ?_, fun b hb => R.new b (owb b hb).1, ?_, R.io⟩, fun b o q n => ?_, fun b h => ?_, fun b h => (owb b h).1, fun b h => ?_⟩, fr⟩
  · intro b o q
    by_cases z : b = a
    · subst z; rw [upd_same] at q ⊢; exact q
    · rw [upd_ne z] at q ⊢; exact R.sub b o q
  · intro j s o q1 q2
    by_cases hj : i = j
    · subst hj
      rw [List.getElem?_set_self hi] at q1
      cases q1
      rw [e2] at q2
      cases q2
      exact ⟨_, rfl, fr⟩
    · rw [List.getElem?_set_ne hj] at q1
      have r := R.sl j s o q1 q2
      cases s with
      | un => exact r
      | val d' => obtain ⟨v, z1, z2⟩ := r; exact ⟨v, z1, Rp.le (Le.upd hf) _ _ z2⟩
      | own d' =>
        obtain ⟨b, z1, z2, z3⟩ := r
        have nb : b ≠ a := fun z => hj (R.dis i j a d d' e1 q1 e2 (by rw [q2, z1, z]))
        exact ⟨b, z1, by rw [upd_ne nb]; exact z2, z3.le (Le.upd hf) (upd_ne nb)⟩
      | lck d' =>
        obtain ⟨b, ob2, u2, z1, z2, z3, z4⟩ := r
        have nb := hat.not_frz z3
        exact ⟨b, ob2, u2, z1, by rw [upd_ne nb]; exact z2, by rw [upd_ne nb]; exact z3, z4.le (Le.upd hf) (by rw [upd_same, upd_same])⟩
  · intro j k b d1 d2 q1 q2 q3 q4
    have h1 := owb b ⟨j, d1, q1, q3⟩
    have j1 : i ≠ j := fun z => by subst z; rw [List.getElem?_set_self hi] at q1; cases q1
    have k1 : i ≠ k := fun z => by subst z; rw [List.getElem?_set_self hi] at q2; cases q2
    rw [List.getElem?_set_ne j1] at q1
    rw [List.getElem?_set_ne k1] at q2
    exact R.dis j k b d1 d2 q1 q2 q3 q4
  · intro b o q h
    have r := R.keep b o q h
    have nb : b ≠ a := fun z => by
      subst z
      rcases R.new _ owa with z | z
      · rw [q] at z; cases z
      · exact h z
    rw [upd_ne nb]; exact r
  · rw [upd_ne (fun z => n (by rw [z]; exact owa))]; exact q
  · by_cases z : b = a
    · exact .inr (.inr (by rw [z]; exact owa))
    · rw [upd_ne z] at h; exact .inl h
  · by_cases z : b = a
    · subst z; rw [upd_same]; exact fun z => nomatch z
    · rw [upd_ne z]; exact h
/-- a slot's own object changes -/
theorem Ext.change {u : HO} {d' : D} (R : Rel c G F σ H ρ) (e1 : ρ[i]? = some (.own d)) (e2 : σ[i]? = some (some (.ref a))) (hat' : At c F (upd H a u) a d') :
    Ext c G σ F ρ H F (ρ.set i (.own d')) (upd H a u) := by
  obtain ⟨b, q1, hf, hat⟩ := R.sl i _ _ e1 e2
  cases (Option.some.inj q1 : V.ref a = V.ref b)
  have hi : i < ρ.length := (List.getElem?_eq_some_iff.mp e1).1
  have owa : Ow σ ρ a := ⟨i, d, e1, e2⟩
  have owj : ∀ {j : Nat} {d1 : D}, (ρ.set i (.own d'))[j]? = some (.own d1) → ∃ d2, ρ[j]? = some (.own d2) := fun {j d1} q => by
    by_cases hj : i = j
    · subst hj; exact ⟨d, e1⟩
    · rw [List.getElem?_set_ne hj] at q; exact ⟨d1, q⟩
  have owb : ∀ b, Ow σ (ρ.set i (.own d')) b → Ow σ ρ b := fun b ⟨j, d1, q1, q2⟩ => by
    obtain ⟨d2, q⟩ := owj q1
    exact ⟨j, d2, q, q2⟩
  refine ⟨Le.refl _, ⟨?_, by rw [List.length_set]; exact R.len, ?_, ?_, fun b hb => R.new b (owb b hb), ?_, R.io⟩, fun b o q n => ?_, fun b h => .inl h, owb, fun b h => ?_⟩
  · intro b o q
    rw [upd_ne (fun z => by rw [z, hf] at q; cases q)]; exact R.sub b o q
  · intro j s o q1 q2
    by_cases hj : i = j
    · subst hj
      rw [List.getElem?_set_self hi] at q1
      cases q1
      rw [e2] at q2
      cases q2
      exact ⟨a, rfl, hf, hat'⟩
    · rw [List.getElem?_set_ne hj] at q1
      have r := R.sl j s o q1 q2
      cases s with
      | un => exact r
      | val d' => exact r
      | own d1 =>
        obtain ⟨b, z1, z2, z3⟩ := r
        have nb : b ≠ a := fun z => hj (R.dis i j a d d1 e1 q1 e2 (by rw [q2, z1, z]))
        exact ⟨b, z1, z2, z3.le (Le.refl _) (upd_ne nb)⟩
      | lck d1 =>
        obtain ⟨b, ob2, u2, z1, z2, z3, z4⟩ := r
        have nb := hat.not_frz z3
        exact ⟨b, ob2, u2, z1, z2, by rw [upd_ne nb]; exact z3, z4.le (Le.refl _) (by rw [upd_same, upd_same])⟩
  · intro j k b d1 d2 q1 q2 q3 q4
    obtain ⟨d3, z3⟩ := owj q1
    obtain ⟨d4, z4⟩ := owj q2
    exact R.dis j k b d3 d4 z3 z4 q3 q4
  · intro b o q h
    have r := R.keep b o q h
    have nb : b ≠ a := fun z => by
      subst z
      rcases R.new _ owa with z | z
      · rw [q] at z; cases z
      · exact h z
    rw [upd_ne nb]; exact r
  · rw [upd_ne (fun z => n (by rw [z]; exact owa))]; exact q
  · by_cases z : b = a
    · subst z; rw [upd_same]; exact fun z => nomatch z
    · rw [upd_ne z]; exact h
/-- a name is stored: a value that is frozen, or one that no slot owns -/
theorem Rel.store {s : Sl} (R : Rel c G F σ H ρ) (hi : i < ρ.length) (hio : ∀ p ∈ G.io, p.1 ≠ i) (ok : SlOk c F H (some v) s)
    (fresh : ∀ d, s = .own d → ∀ b, v = .ref b → ¬ Ow σ ρ b ∧ (G.H0 b = none ∨ b ∈ G.exc)) : Rel c G F (σ.set i (some v)) H (ρ.set i s) := by
  have hs : i < σ.length := by rw [R.len]; exact hi
  have cases' : ∀ {j : Nat} {d1 : D} {b : Addr}, (ρ.set i s)[j]? = some (.own d1) → (σ.set i (some v))[j]? = some (some (.ref b)) → (j = i ∧ s = .own d1 ∧ v = .ref b) ∨ (j ≠ i ∧ ρ[j]? = some (.own d1) ∧ σ[j]? = some (some (.ref b))) := fun {j d1 b} q1 q2 => by
    by_cases hj : i = j
    · subst hj
      rw [List.getElem?_set_self hi] at q1
      rw [List.getElem?_set_self hs] at q2
      exact .inl ⟨rfl, Option.some.inj q1, Option.some.inj (Option.some.inj q2)⟩
    · rw [List.getElem?_set_ne hj] at q1 q2
      exact .inr ⟨fun z => hj z.symm, q1, q2⟩
  refine ⟨R.sub, by rw [List.length_set, List.length_set]; exact R.len, fun j t o q1 q2 => ?_, fun j k b d1 d2 q1 q2 q3 q4 => ?_, fun b ⟨j, d1, q1, q2⟩ => ?_, R.keep, fun p hp => ?_⟩
  · by_cases hj : i = j
    · subst hj
      rw [List.getElem?_set_self hi] at q1
      rw [List.getElem?_set_self hs] at q2
      cases q1
      cases q2
      exact ok
    · rw [List.getElem?_set_ne hj] at q1 q2
      exact R.sl j t o q1 q2
  · rcases cases' q1 q3 with ⟨z1, z2, z3⟩ | ⟨z1, z2, z3⟩
    · rcases cases' q2 q4 with ⟨y1, y2, y3⟩ | ⟨y1, y2, y3⟩
      · rw [z1, y1]
      · exact absurd ⟨k, d2, y2, y3⟩ (fresh d1 z2 b z3).1
    · rcases cases' q2 q4 with ⟨y1, y2, y3⟩ | ⟨y1, y2, y3⟩
      · exact absurd ⟨j, d1, z2, z3⟩ (fresh d2 y2 b y3).1
      · exact R.dis j k b d1 d2 z2 y2 z3 y3
  · rcases cases' q1 q2 with ⟨z1, z2, z3⟩ | ⟨z1, z2, z3⟩
    · exact (fresh d1 z2 b z3).2
    · exact R.new b ⟨j, d1, z2, z3⟩
  · rw [List.getElem?_set_ne (Ne.symm (hio p hp))]
    exact R.io p hp
/-- slots forgotten -/
theorem Rel.weaken {σ' : St} {ρ' : EV} (R : Rel c G F σ H ρ) (h1 : σ'.length = σ.length) (h2 : ρ'.length = ρ.length)
    (h : ∀ i : Nat, ρ'[i]? = some .un ∨ ρ'[i]? = none ∨ (ρ'[i]? = ρ[i]? ∧ σ'[i]? = σ[i]?)) (hio : ∀ p ∈ G.io, σ'[p.1]? = σ[p.1]?) : Rel c G F σ' H ρ' := by
  have hc : ∀ {j : Nat} {d1 : D}, ρ'[j]? = some (.own d1) → ρ[j]? = some (.own d1) ∧ σ'[j]? = σ[j]? := fun {j d1} q => by
    rcases h j with z | z | ⟨z1, z2⟩
    · rw [q] at z; cases z
    · rw [q] at z; cases z
    · exact ⟨by rw [← z1]; exact q, z2⟩
  refine ⟨R.sub, by rw [h1, h2]; exact R.len, fun j t o q1 q2 => ?_, fun j k b d1 d2 q1 q2 q3 q4 => ?_, fun b ⟨j, d1, q1, q2⟩ => ?_, R.keep, fun p hp => ?_⟩
  · rcases h j with z | z | ⟨z1, z2⟩
    · rw [q1] at z; cases z; exact True.intro
    · rw [q1] at z; cases z
    · exact R.sl j t o (by rw [← z1]; exact q1) (by rw [← z2]; exact q2)
  · obtain ⟨z1, z2⟩ := hc q1
    obtain ⟨z3, z4⟩ := hc q2
    exact R.dis j k b d1 d2 z1 z3 (by rw [← z2]; exact q3) (by rw [← z4]; exact q4)
  · obtain ⟨z1, z2⟩ := hc q1
    exact R.new b ⟨j, d1, z1, by rw [← z2]; exact q2⟩
  · rw [hio p hp]; exact R.io p hp
/-- a new value is frozen -/
theorem Res.freeze {fr : Bool} (R0 : Rel c G F σ H ρ) (E : Ext c G σ F ρ H F' ρ' H') (r : Res c fr F' H' H d v) :
    Rp c F' d v ∨ ∃ a u, v = .ref a ∧ H' a = some u ∧ Mut (some u) ∧ ∀ ob, Ext c G σ F ρ H (upd F' a (.frz ob u)) ρ' (upd H' a (.frz ob u)) ∧ Rp c (upd F' a (.frz ob u)) d v := by
  rcases r with ⟨a, _, rfl, hn, hf, hat⟩ | ⟨_, r⟩
  · obtain ⟨u, e, mu⟩ := hat.mut
    have no : ¬ Ow σ ρ' a := fun z => (E.ow a z).there R0 hn
    exact .inr ⟨a, u, rfl, e, mu, fun ob => ⟨Ext.freeze R0 E hn hf e mu no, hat.frozen hf e⟩⟩
  · exact .inl r
/-- a slot's own object is locked -/
theorem Ext.lockL {u : HO} {ob : Obj} (R : Rel c G F σ H ρ) (e1 : ρ[i]? = some (.own d)) (e2 : σ[i]? = some (some (.ref a))) (e : H a = some u) : Ext c G σ F ρ H F (ρ.set i (.lck d)) (upd H a (.frz ob u)) := by
  obtain ⟨b, q1, hf, hat⟩ := R.sl i _ _ e1 e2
  cases (Option.some.inj q1 : V.ref a = V.ref b)
  have hi : i < ρ.length := (List.getElem?_eq_some_iff.mp e1).1
  have owa : Ow σ ρ a := ⟨i, d, e1, e2⟩
  have owb : ∀ b, Ow σ (ρ.set i (.lck d)) b → Ow σ ρ b ∧ b ≠ a := fun b ⟨j, d', q1, q2⟩ => by
    by_cases hj : i = j
    · subst hj; rw [List.getElem?_set_self hi] at q1; cases q1
    · rw [List.getElem?_set_ne hj] at q1
      exact ⟨⟨j, d', q1, q2⟩, fun z => hj (R.dis i j a d d' e1 q1 e2 (by rw [← z]; exact q2))⟩
  refine ⟨Le.refl _, ⟨?_, by rw [List.length_set]; exact R.len, ?_, ?_, fun b hb => R.new b (owb b hb).1, ?_, R.io⟩, fun b o q n => ?_, fun b h => .inl h, fun b h => (owb b h).1, fun b h => ?_⟩
  · intro b o q
    rw [upd_ne (fun z => by rw [z, hf] at q; cases q)]; exact R.sub b o q
  · intro j s o q1 q2
    by_cases hj : i = j
    · subst hj
      rw [List.getElem?_set_self hi] at q1
      cases q1
      rw [e2] at q2
      cases q2
      exact ⟨a, ob, u, rfl, hf, upd_same, hat.le (Le.refl _) (by rw [upd_same, e])⟩
    · rw [List.getElem?_set_ne hj] at q1
      have r := R.sl j s o q1 q2
      cases s with
      | un => exact r
      | val d' => exact r
      | own d' =>
        obtain ⟨b, z1, z2, z3⟩ := r
        have nb : b ≠ a := fun z => hj (R.dis i j a d d' e1 q1 e2 (by rw [q2, z1, z]))
        exact ⟨b, z1, z2, z3.le (Le.refl _) (upd_ne nb)⟩
      | lck d' =>
        obtain ⟨b, ob2, u2, z1, z2, z3, z4⟩ := r
        have nb := hat.not_frz z3
        exact ⟨b, ob2, u2, z1, z2, by rw [upd_ne nb]; exact z3, z4.le (Le.refl _) (by rw [upd_same, upd_same])⟩
  · intro j k b d1 d2 q1 q2 q3 q4
    have h1 := owb b ⟨j, d1, q1, q3⟩
    have j1 : i ≠ j := fun z => by subst z; rw [List.getElem?_set_self hi] at q1; cases q1
    have k1 : i ≠ k := fun z => by subst z; rw [List.getElem?_set_self hi] at q2; cases q2
    rw [List.getElem?_set_ne j1] at q1
    rw [List.getElem?_set_ne k1] at q2
    exact R.dis j k b d1 d2 q1 q2 q3 q4
  · intro b o q h
    have r := R.keep b o q h
    have nb : b ≠ a := fun z => by
      subst z
      rcases R.new _ owa with z | z
      · rw [q] at z; cases z
      · exact h z
    rw [upd_ne nb]; exact r
  · rw [upd_ne (fun z => n (by rw [z]; exact owa))]; exact q
  · by_cases z : b = a
    · subst z; rw [upd_same]; exact fun z => nomatch z
    · rw [upd_ne z]; exact h
/-- and unlocked -/
theorem Rel.unlock {u : HO} {ob : Obj} (R : Rel c G F σ H ρ) (e1 : ρ[i]? = some (.lck d)) (e2 : σ[i]? = some (some (.ref a))) (e : H a = some (.frz ob u)) (hf : F a = none) (hat : At c F (upd H a u) a d) (nl : ∀ j s, j ≠ i → ρ[j]? = some s → ∀ d', s ≠ .lck d') (hw : G.H0 a = none ∨ a ∈ G.exc) :
    Rel c G F σ (upd H a u) (ρ.set i (.own d)) := by
  have hi : i < ρ.length := (List.getElem?_eq_some_iff.mp e1).1
  have oth : ∀ {j : Nat} {d' : D}, i ≠ j → ρ[j]? = some (.own d') → σ[j]? ≠ some (some (.ref a)) := fun {j d'} hj q z => by
    obtain ⟨b, z1, _, z3⟩ := R.sl j _ _ q z
    cases (Option.some.inj z1 : V.ref a = V.ref b)
    exact z3.not_frz e rfl
  refine ⟨fun b o q => ?_, by rw [List.length_set]; exact R.len, fun j s o q1 q2 => ?_, fun j k b d1 d2 q1 q2 q3 q4 => ?_, fun b ⟨j, d1, q1, q2⟩ => ?_, fun b o q h => ?_, R.io⟩
  · rw [upd_ne (fun z => by rw [z, hf] at q; cases q)]; exact R.sub b o q
  · by_cases hj : i = j
    · subst hj
      rw [List.getElem?_set_self hi] at q1
      cases q1
      rw [e2] at q2
      cases q2
      exact ⟨a, rfl, hf, hat⟩
    · rw [List.getElem?_set_ne hj] at q1
      have r := R.sl j s o q1 q2
      cases s with
      | un => exact r
      | val d' => exact r
      | own d' =>
        obtain ⟨b, z1, z2, z3⟩ := r
        have nb : b ≠ a := fun z => oth hj q1 (by rw [q2, z1, z])
        exact ⟨b, z1, z2, z3.le (Le.refl _) (upd_ne nb)⟩
      | lck d' => exact absurd rfl (nl j _ (Ne.symm hj) q1 d')
  · by_cases j1 : i = j
    · by_cases k1 : i = k
      · rw [← j1, ← k1]
      · subst j1
        rw [List.getElem?_set_ne k1] at q2
        rw [e2] at q3
        cases q3
        exact absurd q4 (oth k1 q2)
    · rw [List.getElem?_set_ne j1] at q1
      by_cases k1 : i = k
      · subst k1
        rw [e2] at q4
        cases q4
        exact absurd q3 (oth j1 q1)
      · rw [List.getElem?_set_ne k1] at q2
        exact R.dis j k b d1 d2 q1 q2 q3 q4
  · by_cases j1 : i = j
    · subst j1
      rw [e2] at q2
      cases q2
      exact hw
    · rw [List.getElem?_set_ne j1] at q1
      exact R.new b ⟨j, d1, q1, q2⟩
  · have r := R.keep b o q h
    have nb : b ≠ a := fun z => by
      subst z
      rcases hw with z | z
      · rw [q] at z; cases z
      · exact h z
    rw [upd_ne nb]; exact r
end
end L2.PL
end
section
set_option maxRecDepth 100000
/-! PL, part E: the operations by values. -/
namespace L2.PL
open PySem PySem.Spec PyProof.Rows
/-- something may have been made -/
structure Nw (F H F' H' : Hp) : Prop where
  le : Le F F'
  kp : ∀ a o, H a = some o → H' a = some o
  sub : Le F' H'
  gr : ∀ a, F' a ≠ none → F a ≠ none ∨ H a = none
section
variable {c : Cn} {G : Gh} {σ : St} {F F' F'' H H' H'' : Hp} {ρ : EV} {a p : Addr} {d : D} {v : V}
theorem Nw.refl (l : Le F H) : Nw F H F H := ⟨Le.refl _, fun _ _ e => e, l, fun _ h => .inl h⟩
theorem Nw.trans (x : Nw F H F' H') (y : Nw F' H' F'' H'') : Nw F H F'' H'' := ⟨x.le.trans y.le, fun a o e => y.kp a o (x.kp a o e), y.sub, fun a h => by
  rcases y.gr a h with h | h
  · exact x.gr a h
  · right
    cases e : H a with
    | none => rfl
    | some o => rw [x.kp a o e] at h; cases h⟩
theorem le_none (l : Le F H) (h : H a = none) : F a = none := by
  cases e : F a with
  | none => rfl
  | some o => have := l a o e; rw [h] at this; cases this
theorem Nw.alloc {o : HO} (l : Le F H) (h : H p = none) : Nw F H F (upd H p o) := ⟨Le.refl _, fun b u e => by rw [upd_ne (ne_of_none e h)]; exact e, fun b u e => by rw [upd_ne (ne_of_none (l b u e) h)]; exact l b u e, fun _ h => .inl h⟩
theorem Nw.allocF {o : HO} (l : Le F H) (h : H p = none) : Nw F H (upd F p o) (upd H p o) := ⟨Le.upd (le_none l h), fun b u e => by rw [upd_ne (ne_of_none e h)]; exact e, fun b u e => by
  by_cases z : b = p
  · subst z; rw [upd_same] at e ⊢; exact e
  · rw [upd_ne z] at e ⊢; exact l b u e, fun b e => by
  by_cases z : b = p
  · subst z; exact .inr h
  · rw [upd_ne z] at e; exact .inl e⟩
theorem Nw.nn (x : Nw F H F' H') (h : H' a = none) : H a = none := by
  cases e : H a with
  | none => rfl
  | some o => rw [x.kp a o e] at h; cases h
theorem Nw.ext (R : Rel c G F σ H ρ) (x : Nw F H F' H') : Ext c G σ F ρ H F' ρ H' where
  le := x.le
  fm := fun a o e _ => x.kp a o e
  gr := fun a h => (x.gr a h).elim .inl fun h => .inr (.inl h)
  ow := fun _ h => h
  dm := fun a h => by
    cases e : H a with
    | none => exact absurd e h
    | some o => rw [x.kp a o e]; exact fun z => nomatch z
  rel :=
    { sub := x.sub
      len := R.len
      sl := fun i s o e1 e2 => by
        have q := R.sl i s o e1 e2
        cases s with
        | un => exact q
        | val d => obtain ⟨v, q1, q2⟩ := q; exact ⟨v, q1, Rp.le x.le _ _ q2⟩
        | own d =>
          obtain ⟨b, q1, q2, q3⟩ := q
          have hb : H b ≠ none := q3.there
          refine ⟨b, q1, ?_, q3.le x.le ?_⟩
          · cases e : F' b with
            | none => rfl
            | some o =>
              rcases x.gr b (by rw [e]; exact fun z => nomatch z) with z | z
              · exact absurd q2 z
              · exact absurd z hb
          · cases e : H b with
            | none => exact absurd e hb
            | some o => exact x.kp b o e
        | lck d =>
          obtain ⟨b, ob, u, q1, q2, q3, q4⟩ := q
          refine ⟨b, ob, u, q1, ?_, x.kp b _ q3, q4.le x.le (by rw [upd_same, upd_same])⟩
          cases e : F' b with
          | none => rfl
          | some o =>
            rcases x.gr b (by rw [e]; exact fun z => nomatch z) with z | z
            · exact absurd q2 z
            · rw [q3] at z; cases z
      dis := R.dis
      new := R.new
      keep := fun b o e h => x.kp b o (R.keep b o e h)
      io := R.io }
theorem Rt.mono (l : Le F F') (k : ∀ a o, H a = some o → H' a = some o) (h : Rt c F H d v) : Rt c F' H' d v := by
  rcases h with h | ⟨a, e, q⟩ | ⟨a, ob, u, e, ef, q⟩
  · exact .inl (Rp.le l _ _ h)
  · refine .inr (.inl ⟨a, e, q.le l ?_⟩)
    cases z : H a with
    | none => exact absurd z q.there
    | some o => exact k a o z
  · exact .inr (.inr ⟨a, ob, u, e, k _ _ ef, q.le l (by rw [upd_same, upd_same])⟩)
end
theorem big_line : bigN = sizeLine := by rw [sizeLine_eq]
/-- a two-place operation: its operands can be read; what it gives is new or frozen -/
def rB (X : Cx) (f : D → D → Option D) : R2 := fun x y H Q => ∃ F dx dy d, Le F H ∧ Rt (cn X) F H dx x ∧ Rt (cn X) F H dy y ∧ f dx dy = some d ∧ ∀ v F' H', Nw F H F' H' → Res (cn X) true F' H' H d v → Q v H'
/-- what it gives is frozen -/
def rBF (X : Cx) (f : D → D → Option D) : R2 := fun x y H Q => ∃ F dx dy d, Le F H ∧ Rt (cn X) F H dx x ∧ Rt (cn X) F H dy y ∧ f dx dy = some d ∧ ∀ v F' H', Nw F H F' H' → Rp (cn X) F' d v → Q v H'
/-- a one-place operation -/
def rC (X : Cx) (f : D → Option D) : List V → Hp → VK → Prop := fun xs H Q => ∃ F dx d x, xs = [x] ∧ Le F H ∧ Rt (cn X) F H dx x ∧ f dx = some d ∧ ∀ v F' H', Nw F H F' H' → Res (cn X) true F' H' H d v → Q v H'
section
variable {c : Cn} {F H : Hp} {p : Addr} {vs : List V} {xs : List D}
theorem res_list (l : Le F H) (h : H p = none) (r : Rps c F xs vs) : Res c true F (upd H p (.lst vs)) H (.lst xs) (.ref p) := .inl ⟨p, rfl, rfl, h, le_none l h, vs, upd_same, r⟩
theorem rp_tup (l : Le F H) (h : H p = none) (r : Rps c F xs vs) : Rp c (upd F p (.tup vs)) (.tup xs) (.ref p) := by
  rw [Rp]
  exact ⟨p, vs, rfl, .inl (.inl upd_same), Rps.le (Le.upd (le_none l h)) _ _ r⟩
theorem rp_int (i : Int) : Rp c F (.int i) (.int i) := by rw [Rp]
theorem rp_bl (i : Bool) : Rp c F (.bl i) (.bl i) := by rw [Rp]
theorem rp_str (i : Str) : Rp c F (.str i) (.str i) := by rw [Rp]
theorem rp_non : Rp c F .non .non := by rw [Rp]
end
def bop : BOp → Operator
  | .add => .Add | .sub => .Sub | .mul => .Mult | .fdiv => .FloorDiv | .mod => .Mod | .pow => .Pow
section
variable {X : Cx}
theorem cut_map {α : Type} (f : α → α) (xs : List α) : True := trivial
theorem op_catL : OpR X (binaryOp .Add) (fun x y H Q => ∃ a b xs ys, x = .ref a ∧ y = .ref b ∧ SqL X.K H a xs ∧ SqL X.K H b ys ∧ xs.length + ys.length ≤ sizeLine ∧ ∀ p, H p = none → Q (.ref p) (upd H p (.lst (xs ++ ys)))) := by
  intro pins s σ H x y v u Q I rx ry h
  obtain ⟨a, b, xs, ys, rfl, rfl, ha, hb, hz, q⟩ := h
  obtain rfl : v = Value.ref a := rx
  obtain rfl : u = Value.ref b := ry
  obtain ⟨its, r1, p1, _⟩ := I.list ha
  obtain ⟨its2, r2, p2, _⟩ := I.list hb
  obtain ⟨⟨cls, dd, data, sl⟩, ho, hc, n, hd⟩ := p1.isList
  obtain ⟨⟨cls2, dd2, data2, sl2⟩, ho2, hc2, n2, hd2⟩ := p2.isList
  simp only at hc hd hc2 hd2
  subst hc hd hc2 hd2
  have e : its.toArray ++ its2.toArray = (its ++ its2).toArray := by simp
  have hsz : its.toArray.size + its2.toArray.size ≤ sizeLine := by rw [List.size_toArray, List.size_toArray, ← r1.length, ← r2.length]; exact hz
  refine concat_meets ⟨_, ho, rfl⟩ ⟨_, ho2, rfl⟩ noFill_list_add seq_list_add PySem.F.slot_list_add PySem.F.entry_list_add (PySem.F.args_list_add_2 _ _) (PyProof.Rows.list_addW a b its.toArray its2.toArray n n2 dd dd2 sl sl2 hsz) ⟨ho, ho2, ?_⟩
  rw [e]
  exact ⟨.ref _, _, I.lnew (t' := s.toks) (r1.append r2) (by rw [List.length_append]; exact hz), rfl, q _ I.fresh⟩
theorem mulOk_C {i j : Int} (h : mulOk i j = true) : CMul i j := by
  unfold mulOk at h
  simp only [Bool.or_eq_true, Bool.and_eq_true, decide_eq_true_eq] at h
  exact h
theorem op_bin (o : BOp) : OpR X (binaryOp (bop o)) (rB X (binD o)) := by
  intro pins s σ H x y v u Q I rx ry h
  obtain ⟨F, dx, dy, d, l, hx, hy, e, k⟩ := h
  have fin : ∀ {i : Int} {w : V}, d = .int i → w = .int i → Q w H := fun {i w} e1 e2 => by subst e1 e2; exact k _ F H (.refl l) (.fl (rp_int i))
  unfold binD at e
  split at e
  · -- ints
    cases e
    rw [hx.int] at rx; rw [hy.int] at ry
    exact op_add pins s σ H _ _ v u Q I rx ry ⟨_, _, rfl, rfl, fin rfl rfl⟩
  · -- texts
    split at e
    · rename_i hz
      cases e
      rw [hx.str] at rx; rw [hy.str] at ry
      exact op_add_str pins s σ H _ _ v u Q I rx ry ⟨_, _, rfl, rfl, by rw [← big_line]; exact hz, k _ F H (.refl l) (.fl (rp_str _))⟩
    · cases e
  · -- lists
    rename_i xs ys
    split at e
    · rename_i hz
      cases e
      obtain ⟨a, vs, rfl, sa, ra⟩ := hx.list l
      obtain ⟨b, us, rfl, sb, rb⟩ := hy.list l
      refine op_catL pins s σ H _ _ v u Q I rx ry ⟨a, b, vs, us, rfl, rfl, sa, sb, by rw [← ra.length, ← rb.length, ← big_line]; exact hz, fun p hp => ?_⟩
      exact k _ F _ (.alloc l hp) (res_list l hp (ra.append rb))
    · cases e
  · -- tuples
    rename_i xs ys
    split at e
    · rename_i hz
      cases e
      have hx' := hx.flat rfl
      have hy' := hy.flat rfl
      obtain ⟨a, vs, rfl, sa, ra⟩ := hx.tup l
      obtain ⟨b, us, rfl, sb, rb⟩ := hy.tup l
      refine op_catA pins s σ H _ _ v u Q I rx ry ⟨a, b, vs, us, rfl, rfl, sa, sb, by rw [← ra.length, ← rb.length, ← big_line]; exact hz, fun h0 => ?_, fun h0 h1 => ?_, fun h0 h1 p hp => ?_⟩
      · have z := ra.nil_iff.mp h0
        subst z
        exact k _ F H (.refl l) (.fl hy')
      · have z := rb.nil_iff.mp h1
        subst z
        exact k _ F H (.refl l) (.fl (by rw [List.append_nil]; exact hx'))
      · exact k _ _ _ (.allocF l hp) (.fl (rp_tup l hp (ra.append rb)))
    · cases e
  · cases e
    rw [hx.int] at rx; rw [hy.int] at ry
    exact op_sub pins s σ H _ _ v u Q I rx ry ⟨_, _, rfl, rfl, fin rfl rfl⟩
  · split at e
    · rename_i hz
      cases e
      rw [hx.int] at rx; rw [hy.int] at ry
      exact op_mul pins s σ H _ _ v u Q I rx ry ⟨_, _, rfl, rfl, mulOk_C hz, fin rfl rfl⟩
    · cases e
  · split at e
    · rename_i hz
      cases e
      rw [hx.int] at rx; rw [hy.int] at ry
      exact op_fdivN pins s σ H _ _ v u Q I rx ry ⟨_, _, rfl, rfl, hz, fin rfl rfl⟩
    · cases e
  · split at e
    · rename_i hz
      cases e
      rw [hx.int] at rx; rw [hy.int] at ry
      exact op_modN pins s σ H _ _ v u Q I rx ry ⟨_, _, rfl, rfl, hz, fin rfl rfl⟩
    · cases e
  · split at e
    · rename_i hz
      cases e
      rw [hx.int] at rx; rw [hy.int] at ry
      exact op_pow pins s σ H _ _ v u Q I rx ry ⟨_, _, rfl, rfl, hz, fin rfl rfl⟩
    · cases e
  · cases e
def rU1 (X : Cx) (f : D → Option D) : V → Hp → VK → Prop := fun x H Q => ∃ F dx d, Le F H ∧ Rt (cn X) F H dx x ∧ f dx = some d ∧ ∀ v F' H', Nw F H F' H' → Res (cn X) true F' H' H d v → Q v H'
theorem un_negD : UnR X (unaryOp .USub) (rU1 X negD) := by
  intro pins s σ H x v Q I rx h
  obtain ⟨F, dx, d, l, hx, e, k⟩ := h
  unfold negD at e
  split at e
  · cases e
    rw [hx.int] at rx
    exact un_neg pins s σ H _ v Q I rx ⟨_, rfl, k _ F H (.refl l) (.fl (rp_int _))⟩
  · cases e
/-! ### comparisons -/
def noDic : D → Bool
  | .dic _ _ => false
  | _ => true
mutual
theorem dp_of {H : Hp} (l : Le F H) : ∀ (d : D) (v : V), Rp (cn X) F d v → SeqAt.shaped (toPy d) = true ∨ (toPy d).canLay0 = true → Dp X.K H v (toPy d)
  | .non, v, h, _ => by rw [Rp] at h; subst h; exact .non
  | .bl _, v, h, _ => by rw [Rp] at h; subst h; exact .bl _
  | .int _, v, h, _ => by rw [Rp] at h; subst h; exact .int _
  | .str _, v, h, _ => by rw [Rp] at h; subst h; exact .str _
  | .tup xs, v, h, s => by
    have s : (toPy (.tup xs)).canLay0 = true := s.elim SeqAt.canLay_of_shaped id
    rw [Rp] at h
    obtain ⟨a, vs, rfl, q, r⟩ := h
    rw [toPy]
    exact .tup (sqT_le l q) (dps_of l xs vs r (by simpa [toPy, PyData.canLay0] using s))
  | .lst xs, v, h, s => by
    have s : (toPy (.lst xs)).canLay0 = true := s.elim SeqAt.canLay_of_shaped id
    rw [Rp] at h
    obtain ⟨a, vs, rfl, q, r⟩ := h
    rw [toPy]
    exact .lst (sqL_le l q) (dps_of l xs vs r (by simpa [toPy, PyData.canLay0] using s))
  | .dic _ _, v, h, s => by
    have s : (toPy (.dic _ _)).canLay0 = true := s.elim SeqAt.canLay_of_shaped id
    simp [toPy, PyData.canLay0] at s
theorem dps_of {H : Hp} (l : Le F H) : ∀ (ds : List D) (vs : List V), Rps (cn X) F ds vs → PyData.canLayAll0 (toPys ds) = true → DpAll X.K H vs (toPys ds)
  | [], vs, h, _ => by rw [Rps] at h; subst h; rw [toPys]; exact .nil
  | d :: ds, vs, h, s => by
    rw [Rps] at h
    obtain ⟨v, vs', rfl, h1, h2⟩ := h
    rw [toPys] at s ⊢
    simp [PyData.canLayAll0] at s
    exact .cons (dp_of l d v h1 (.inr s.1)) (dps_of l ds vs' h2 s.2)
end
theorem rt_dp {F H : Hp} {d : D} {v : V} (l : Le F H) (h : Rt (cn X) F H d v) (s : SeqAt.shaped (toPy d) = true) : Dp X.K H v (toPy d) := by
  rcases h with h | ⟨a, rfl, q⟩ | ⟨a, ob, u, rfl, ef, q⟩
  · exact dp_of l d v h (.inl s)
  rotate_left
  · cases d with
    | lst xs =>
      obtain ⟨vs, e, r⟩ := q
      rw [upd_same] at e
      cases e
      have s := SeqAt.canLay_of_shaped s
      rw [toPy] at s ⊢
      exact .lst (.inl (.inr ⟨ob, ef⟩)) (dps_of l xs vs r (by simpa [PyData.canLay0] using s))
    | dic t kvs => have s := SeqAt.canLay_of_shaped s; simp [toPy, PyData.canLay0] at s
    | _ => exact q.elim
  · cases d with
    | lst xs =>
      obtain ⟨vs, e, r⟩ := q
      have s := SeqAt.canLay_of_shaped s
      rw [toPy] at s ⊢
      exact .lst (SqL.of e) (dps_of l xs vs r (by simpa [PyData.canLay0] using s))
    | dic t kvs => have s := SeqAt.canLay_of_shaped s; simp [toPy, PyData.canLay0] at s
    | _ => exact q.elim
theorem toV_rp {F : Hp} {d : D} {v : V} (hf : flatD d = true) (h : Rp (cn X) F d v) : v = toV d ∧ flatV v = true := by
  cases d with
  | non => rw [Rp] at h; subst h; exact ⟨rfl, rfl⟩
  | bl _ => rw [Rp] at h; subst h; exact ⟨rfl, rfl⟩
  | int _ => rw [Rp] at h; subst h; exact ⟨rfl, rfl⟩
  | str _ => rw [Rp] at h; subst h; exact ⟨rfl, rfl⟩
  | _ => cases hf
theorem toV_rps {F : Hp} : ∀ {ds : List D} {vs : List V}, ds.all flatD = true → Rps (cn X) F ds vs → vs = ds.map toV ∧ vs.all flatV = true
  | [], vs, _, h => by rw [Rps] at h; subst h; exact ⟨rfl, rfl⟩
  | d :: ds, vs, f, h => by
    rw [List.all_cons, Bool.and_eq_true] at f
    rw [Rps] at h
    obtain ⟨v, vs', rfl, h1, h2⟩ := h
    obtain ⟨e1, f1⟩ := toV_rp f.1 h1
    obtain ⟨e2, f2⟩ := toV_rps f.2 h2
    exact ⟨by rw [List.map_cons, ← e1, ← e2], by rw [List.all_cons, f1, f2]; rfl⟩
theorem flat_cont {d : D} (h : flatD d = true) : isCont d = false := by cases d <;> first | rfl | cases h
theorem sameDic_at {F : Hp} {ks ls : List (NestedKey × D)} {ns ms : List Ent} (h : sameDic ks ls = true) (r1 : Rpk (cn X) F false ks ns) (r2 : Rpk (cn X) F false ls ms) :
    ns.length = ms.length ∧ ∀ p ∈ ns.map lf, valV (ms.map lf) p.1 = some p.2 ∧ flatB p.2 = true := by
  unfold sameDic at h
  rw [Bool.and_eq_true] at h
  obtain ⟨h1, h2⟩ := h
  refine ⟨by rw [← r1.length, ← r2.length]; simpa using h1, fun p hp => ?_⟩
  obtain ⟨n, hn, rfl⟩ := List.mem_map.mp hp
  obtain ⟨i, hi⟩ := List.getElem?_of_mem hn
  obtain ⟨k, kv, v⟩ := n
  obtain ⟨d, e1, rk, rd⟩ := r1.get' hi
  have q := List.all_eq_true.mp h2 _ (List.mem_of_getElem? e1)
  dsimp only at q
  cases hl : look ls k with
  | none => rw [hl] at q; cases q
  | some d' =>
    rw [hl] at q
    simp only [Bool.and_eq_true, decide_eq_true_eq] at q
    obtain ⟨⟨f1, f2⟩, e⟩ := q
    obtain ⟨v', hv', rd'⟩ := (r2.look (k := k)).1 d' hl
    have a1 := toV_rp f1 rd'
    have a2 := toV_rp f2 rd
    have ok := (r1.ok _ hn).1
    refine ⟨?_, ?_⟩
    · show valV (ms.map lf) (leafK k) = some v
      rw [valV_lf ok fun m hm => (r2.ok m hm).1, hv', a1.1, e, ← a2.1]
    · have z : flatV v = true := a2.2
      show flatB v = true
      cases v <;> first | rfl | cases z
theorem op_eqB (neg : Bool) (hu : X.A.units + 64 < cLine) : OpR X (compareOp (if neg then .NotEq else .Eq)) (fun x y H Q => ∃ F dx dy b, Le F H ∧ Rt (cn X) F H dx x ∧ Rt (cn X) F H dy y ∧ eqD dx dy = some b ∧ Q (.bl (if neg then !b else b)) H) := by
  intro pins s σ H x y v u Q I rx ry h
  obtain ⟨F, dx, dy, b, l, hx, hy, e, k⟩ := h
  have gen : ∀ {p q : V}, scal p q = true → decide (p = q) = b → RelV p v → RelV q u → wpAny (model X.prog X.w) X.A (compareOp (if neg then .NotEq else .Eq) v u) (EP X pins σ Q) X.xe s := fun {p q} hs hd rp rq => by
    cases neg with
    | false => exact op_eq pins s σ H p q v u Q I rp rq ⟨hs, by rw [hd]; exact k⟩
    | true => exact op_ne pins s σ H p q v u Q I rp rq ⟨hs, by rw [hd]; exact k⟩
  have deep : SeqAt.shaped (toPy dx) = true → SeqAt.shaped (toPy dy) = true → PyData.eqv (toPy dx) (toPy dy) = b → wpAny (model X.prog X.w) X.A (compareOp (if neg then .NotEq else .Eq) v u) (EP X pins σ Q) X.xe s := fun s1 s2 eb => by
    cases neg with
    | false => exact op_eqD hu pins s σ H x y v u Q I rx ry ⟨_, _, rt_dp l hx s1, rt_dp l hy s2, s1, s2, by rw [eb]; exact k⟩
    | true => exact op_neD hu pins s σ H x y v u Q I rx ry ⟨_, _, rt_dp l hx s1, rt_dp l hy s2, s1, s2, by rw [eb]; exact k⟩
  unfold eqD at e
  split at e
  · have e := Option.some.inj e
    rw [hx.int] at rx; rw [hy.int] at ry
    exact gen rfl (by rw [dec_int]; exact e) rx ry
  · have e := Option.some.inj e
    rw [hx.str] at rx; rw [hy.str] at ry
    exact gen rfl (by rw [dec_str]; exact e) rx ry
  · have e := Option.some.inj e
    rw [hx.bl] at rx; rw [hy.bl] at ry
    exact gen rfl (by rw [dec_bl]; exact e) rx ry
  · split at e
    · rename_i ks ls hs
      have e := Option.some.inj e
      obtain ⟨a, ns, rfl, da, ra⟩ := hx.dic l
      obtain ⟨a', ms, rfl, da', ra'⟩ := hy.dic l
      obtain rfl : v = Value.ref a := rx
      obtain rfl : u = Value.ref a' := ry
      obtain ⟨q1, q2⟩ := sameDic_at hs ra ra'
      obtain ⟨_, ya, va, wa, dda⟩ := dk_at I da
      obtain ⟨_, yb, vb, wb, ddb⟩ := dk_at I da'
      have hl : va.length = vb.length := by
        have l1 := wa.length
        have l2 := wb.length
        simp only [List.length_map] at l1 l2
        omega
      subst e
      cases neg with
      | false => exact PySem.W.keq_eq (knd := mixKind X.prog X.w) (r := true) ya yb dda ddb (by omega) (fun _ => hits_all wb wa q2) (fin_bl I k (by simp [hl]))
      | true => exact PySem.W.keq_ne (knd := mixKind X.prog X.w) (r := true) ya yb dda ddb (by omega) (fun _ => hits_all wb wa q2) (fin_bl I k (by simp [hl]))
    · cases e
  · split at e
    · rename_i hs
      rw [Bool.and_eq_true] at hs
      exact deep hs.1 hs.2 (Option.some.inj e)
    · cases e
def cop : COp → CmpOp
  | .eq => .Eq | .ne => .NotEq | .lt => .Lt | .le => .LtE | .gt => .Gt | .ge => .GtE | .isn => .Is | .notn => .IsNot | .isb => .Is | .inn => .In | .notin => .NotIn
theorem op_inB (neg : Bool) (hu : X.A.units + 64 < cLine) : OpR X (compareOp (if neg then .NotIn else .In)) (fun x y H Q => ∃ F dx dy b, Le F H ∧ Rt (cn X) F H dx x ∧ Rt (cn X) F H dy y ∧ inD dx dy = some b ∧ Q (.bl (if neg then !b else b)) H) := by
  intro pins s σ H x y v u Q I rx ry h
  obtain ⟨F, dx, dy, b, l, hx, hy, e, k⟩ := h
  have sq : ∀ {ys : List D} {p : Addr} {vs : List V}, flatD dx = true → ys.all flatD = true → y = .ref p → (SqL X.K H p vs ∨ SqT X.K H p vs) → Rps (cn X) F ys vs → inV (toV dx) (ys.map toV) = b →
      wpAny (model X.prog X.w) X.A (compareOp (if neg then .NotIn else .In) v u) (EP X pins σ Q) X.xe s := fun {ys p vs} f1 f2 ey hs r eb => by
    obtain ⟨e1, g1⟩ := toV_rp f1 (hx.flat (flat_cont f1))
    obtain ⟨e2, g2⟩ := toV_rps f2 r
    cases neg with
    | false => exact op_in_seq pins s σ H x y v u Q I rx ry ⟨p, vs, ey, hs, g1, g2, by rw [e1, e2, eb]; exact k⟩
    | true => exact op_notIn_seq pins s σ H x y v u Q I rx ry ⟨p, vs, ey, hs, g1, g2, by rw [e1, e2, eb]; exact k⟩
  unfold inD at e
  split at e
  · rename_i t kvs
    split at e
    · rename_i key hk
      split at e
      · rename_i ok
        have e := Option.some.inj e
        obtain ⟨a, ns, rfl, da, ra⟩ := hy.dic l
        obtain rfl : u = Value.ref a := ry
        have cx : isCont dx = false := by cases dx <;> first | rfl | (simp [keyOf] at hk)
        have rk := RpKey.le l _ _ (rpKey_of (hx.flat cx) hk)
        have e2 := ra.isSome (k := key)
        cases neg with
        | false => exact g_in (by omega) I da (keyOk_of ok) rk rx fun s' I' => ⟨.bl _, H, I', rfl, by rw [e2, e]; exact k⟩
        | true => exact g_notIn (by omega) I da (keyOk_of ok) rk rx fun s' I' => ⟨.bl _, H, I', rfl, by rw [e2, e]; exact k⟩
      · cases e
    · cases e
  · split at e
    · rename_i hs
      rw [Bool.and_eq_true] at hs
      obtain ⟨p, vs, ey, sl, r⟩ := hy.list l
      exact sq hs.1 hs.2 ey (.inl sl) r (Option.some.inj e)
    · cases e
  · split at e
    · rename_i hs
      rw [Bool.and_eq_true] at hs
      obtain ⟨p, vs, ey, sl, r⟩ := hy.tup l
      exact sq hs.1 hs.2 ey (.inr sl) r (Option.some.inj e)
    · cases e
  · cases e
theorem Rps.isEmpty {F : Hp} {ds : List D} {vs : List V} (r : Rps (cn X) F ds vs) : ds.isEmpty = vs.isEmpty := by
  have := r.length
  cases ds with
  | nil => cases vs with
    | nil => rfl
    | cons _ _ => simp at this
  | cons _ _ => cases vs with
    | nil => simp at this
    | cons _ _ => rfl
theorem isNon_v {F H : Hp} {d : D} {v : V} (h : Rt (cn X) F H d v) : decide (v = .non) = isNon d := by
  rcases h with h | ⟨a, rfl, q⟩ | ⟨a, _, _, rfl, _, q⟩
  · cases d with
    | non => rw [Rp] at h; subst h; rfl
    | bl _ => rw [Rp] at h; subst h; rfl
    | int _ => rw [Rp] at h; subst h; rfl
    | str _ => rw [Rp] at h; subst h; rfl
    | tup _ => rw [Rp] at h; obtain ⟨a, _, rfl, _⟩ := h; rfl
    | lst _ => rw [Rp] at h; obtain ⟨a, _, rfl, _⟩ := h; rfl
    | dic _ _ => rw [Rp] at h; obtain ⟨a, _, _, rfl, _⟩ := h; rfl
  · cases d <;> first | rfl | exact q.elim
  · cases d <;> first | rfl | exact q.elim
theorem op_cmp (o : COp) (hu : X.A.units + 64 < cLine) : OpR X (compareOp (cop o)) (rB X fun x y => (cmpD o x y).map .bl) := by
  intro pins s σ H x y v u Q I rx ry h
  obtain ⟨F, dx, dy, d, l, hx, hy, e, k⟩ := h
  obtain ⟨b, e1, rfl⟩ := Option.map_eq_some_iff.mp e
  clear e
  have fin : Q (.bl b) H := k _ F H (.refl l) (.fl (rp_bl b))
  have e := e1
  clear e1
  unfold cmpD at e
  split at e
  · exact op_eqB false hu pins s σ H x y v u Q I rx ry ⟨F, _, _, b, l, hx, hy, e, fin⟩
  · obtain ⟨b', e2, rfl⟩ := Option.map_eq_some_iff.mp e
    exact op_eqB true hu pins s σ H x y v u Q I rx ry ⟨F, _, _, b', l, hx, hy, e2, fin⟩
  · cases e
    rw [hx.int] at rx; rw [hy.int] at ry
    exact op_lt pins s σ H _ _ v u Q I rx ry ⟨_, _, rfl, rfl, fin⟩
  · cases e
    rw [hx.int] at rx; rw [hy.int] at ry
    exact op_le pins s σ H _ _ v u Q I rx ry ⟨_, _, rfl, rfl, fin⟩
  · cases e
    rw [hx.int] at rx; rw [hy.int] at ry
    exact op_gt pins s σ H _ _ v u Q I rx ry ⟨_, _, rfl, rfl, fin⟩
  · cases e
    rw [hx.int] at rx; rw [hy.int] at ry
    exact op_ge pins s σ H _ _ v u Q I rx ry ⟨_, _, rfl, rfl, fin⟩
  · cases e
    rw [hy.non] at ry
    exact op_isN pins s σ H _ _ v u Q I rx ry ⟨rfl, by rw [isNon_v hx]; exact fin⟩
  · cases e
    rw [hy.non] at ry
    exact op_notN pins s σ H _ _ v u Q I rx ry ⟨rfl, by rw [isNon_v hx]; exact fin⟩
  · cases e
    rw [hx.bl] at rx; rw [hy.bl] at ry
    exact op_isBl pins s σ H _ _ v u Q I rx ry ⟨_, _, rfl, rfl, fin⟩
  · exact op_inB false hu pins s σ H x y v u Q I rx ry ⟨F, _, _, b, l, hx, hy, e, fin⟩
  · obtain ⟨b', e2, rfl⟩ := Option.map_eq_some_iff.mp e
    exact op_inB true hu pins s σ H x y v u Q I rx ry ⟨F, _, _, b', l, hx, hy, e2, fin⟩
  · cases e
/-- truth -/
theorem tru_D (hu : X.A.units + 64 < cLine) : TruR X (fun x H Q => ∃ F d k, Le F H ∧ Rt (cn X) F H d x ∧ truD d = some k ∧ Q k H) := by
  intro pins s σ H x v Q I rx h
  obtain ⟨F, d, k, l, hx, e, q⟩ := h
  unfold truD at e
  split at e
  · cases e
    rw [hx.bl] at rx
    exact tru_ok pins s σ H _ v Q I rx ⟨k, rfl, q⟩
  · cases e
    rw [hx.int] at rx
    exact tru_ok pins s σ H _ v Q I rx ⟨_, rfl, q⟩
  · cases e
    rw [hx.non] at rx
    exact tru_ok pins s σ H _ v Q I rx ⟨_, rfl, q⟩
  · cases e
    obtain ⟨a, vs, rfl, sa, ra⟩ := hx.list l
    exact tru_ok pins s σ H _ v Q I rx ⟨_, .inl ⟨vs, sa, by rw [ra.isEmpty]⟩, q⟩
  · cases e
    obtain ⟨a, vs, rfl, sa, ra⟩ := hx.tup l
    exact tru_ok pins s σ H _ v Q I rx ⟨_, .inr (.inl ⟨vs, sa, by rw [ra.isEmpty]⟩), q⟩
  · cases e
/-! ### subscripts and slices -/
theorem Rps.atI {F : Hp} {ds : List D} {vs : List V} {i : Int} {d : D} (r : Rps (cn X) F ds vs) (e : atI ds i = some d) : ∃ v, L2.atI vs i = some v ∧ Rp (cn X) F d v := by
  unfold L2.atI at e ⊢
  rw [← r.length]
  cases h : ixN ds.length i with
  | none => rw [h] at e; cases e
  | some j =>
    rw [h] at e
    exact r.get e
theorem ix_D (hu : X.A.units + 64 < cLine) : IxR X (rBF X idxD) := by
  intro value slice pins s σ H x y v u Q I rx ry h hs
  obtain ⟨F, dx, dy, d, l, hx, hy, e, k⟩ := h
  unfold idxD at e
  split at e
  · obtain ⟨a, vs, rfl, sa, ra⟩ := hx.list l
    obtain ⟨w, hw, rw'⟩ := ra.atI e
    rw [hy.int] at ry
    exact ix_list value slice pins s σ H _ _ v u Q I rx ry ⟨a, vs, _, w, rfl, rfl, sa, hw, k _ F H (.refl l) rw'⟩ hs
  · obtain ⟨a, vs, rfl, sa, ra⟩ := hx.tup l
    obtain ⟨w, hw, rw'⟩ := ra.atI e
    rw [hy.int] at ry
    exact ix_tup value slice pins s σ H _ _ v u Q I rx ry ⟨a, vs, _, w, rfl, rfl, sa, hw, k _ F H (.refl l) rw'⟩ hs
  · rename_i t kvs
    split at e
    · rename_i key hk
      split at e
      · rename_i ok
        obtain ⟨a, ns, rfl, da, ra⟩ := hx.dic l
        obtain rfl : v = Value.ref a := rx
        have cx : isCont dy = false := by cases dy <;> first | rfl | (simp [keyOf] at hk)
        have rk := RpKey.le l _ _ (rpKey_of (hy.flat cx) hk)
        obtain ⟨w, hw, rw'⟩ := (ra.look (k := key)).1 d e
        exact tail_any (da.typeIs I) PySem.F.slot_dict_getitem.lookup (g_getItem (by omega) I da (keyOk_of ok) rk ry hw fun w' s' I' r' => ⟨w, H, I', r', k _ F H (.refl l) rw'⟩) hs
      · cases e
    · cases e
  · cases e
theorem cut_rps {F : Hp} {ds : List D} {vs : List V} {lo hi : Option Int} (r : Rps (cn X) F ds vs) : Rps (cn X) F (cutD ds lo hi) (cutV vs lo hi) := by
  unfold cutD cutV
  rw [r.length]
  exact (r.drop _).take _
theorem cutD_whole {ds : List D} {lo hi : Option Int} (h : HT.sIx ds.length 0 lo = 0 ∧ HT.sIx ds.length ds.length hi = ds.length) : cutD ds lo hi = ds := by
  unfold cutD
  rw [h.1, h.2]
  simp
theorem sl_D : SlR X (fun x lo hi H Q => ∃ F dx d, Le F H ∧ Rt (cn X) F H dx x ∧ sliD dx lo hi = some d ∧ ∀ v F' H', Nw F H F' H' → Res (cn X) true F' H' H d v → Q v H') := by
  intro pins s σ H x v vl vu lo hi sl Q I rx hs pl pu h
  obtain ⟨F, dx, d, l, hx, e, k⟩ := h
  unfold sliD at e
  split at e
  · cases e
    obtain ⟨a, vs, rfl, sa, ra⟩ := hx.list l
    exact sl_list pins s σ H _ v vl vu lo hi sl Q I rx hs pl pu ⟨a, vs, rfl, sa, fun p hp => k _ F _ (.alloc l hp) (res_list l hp (cut_rps ra))⟩
  · rename_i xs
    cases e
    have hx' := hx.flat rfl
    obtain ⟨a, vs, rfl, sa, ra⟩ := hx.tup l
    refine sl_tupA pins s σ H _ v vl vu lo hi sl Q I rx hs pl pu ⟨a, vs, rfl, sa, fun hw => ?_, fun _ p hp => k _ _ _ (.allocF l hp) (.fl (rp_tup l hp (cut_rps ra)))⟩
    rw [← ra.length] at hw
    exact k _ F H (.refl l) (.fl (by rw [cutD_whole hw]; exact hx'))
  · cases e
end
end L2.PL
end
section
set_option maxRecDepth 100000
/-! PL, part F: built-in functions and methods by values. -/
namespace L2.PL
open PySem PySem.Spec PyProof.Rows
theorem pgetL {α β : Type} {F : α → β → Prop} : ∀ {l₁ : List α} {l₂ : List β} {i : Nat} {x : α}, Paired F l₁ l₂ → l₁[i]? = some x → ∃ y, l₂[i]? = some y ∧ F x y
  | _, _, _, _, .nil, e => by simp at e
  | _, _, i, x, .cons r t, e => by
    cases i with
    | zero => simp at e; subst e; exact ⟨_, rfl, r⟩
    | succ i => simp at e; obtain ⟨y, q1, q2⟩ := pgetL t e; exact ⟨y, by simpa using q1, q2⟩
section
variable {X : Cx} {pins : List (Addr × Obj)} {σ : St} {F H : Hp} {s : Shared} {a : Addr} {t : Bool} {ns : List Ent}
theorem Dic.ents (I : Inv X pins σ H s) (d : Dic X H a t ns) : ∃ (es : Array DictEntry) (ep : Nat), s.heap.DictRaw a es ep ∧ es.size = ns.length ∧
    ∀ (i : Nat) (hi : i < es.size) (n : Ent), ns[i]? = some n → RelV n.2.1 es[i].key ∧ RelV n.2.2 es[i].val := by
  cases t with
  | true =>
    obtain ⟨z, hs, xs, pr, dd⟩ := dn_at I d
    obtain ⟨es, ep, raw, sz, q⟩ := dd.raw
    refine ⟨es, ep, raw, by rw [sz, ← Paired.length pr], fun i hi n hn => ?_⟩
    obtain ⟨y, hy, e1, e2, _⟩ := q i hi
    obtain ⟨x, hx, _, p2, p3⟩ := pgetL pr hn
    rw [hy] at hx
    cases hx
    rw [e1, e2, p2]
    exact ⟨rfl, p3⟩
  | false =>
    obtain ⟨z, hs, vs, r, dd⟩ := dk_at I d
    obtain ⟨es, ep, raw, sz, q⟩ := dd.raw
    have hl := Paired.length r
    rw [List.length_map] at hl
    refine ⟨es, ep, raw, by rw [sz, ← hl], fun i hi n hn => ?_⟩
    obtain ⟨⟨k', v'⟩, hx, p2, p3⟩ := pgetL (x := lf n) r (by rw [List.getElem?_map, hn]; rfl)
    obtain ⟨q1, q2⟩ := q i hi k' v' hx
    obtain ⟨ok, rk⟩ := d.ks n (List.mem_of_getElem? hn)
    rw [kV_leafK ok rk, q2]
    refine ⟨keyIs_rel (k := leafK n.1) ?_, p3⟩
    rw [← mixKind_is X.prog X.w]
    have p2 : (lf n).1 = k' := p2
    rw [show leafK n.1 = k' from p2]
    exact q1
theorem Rpk.keysRp {c : Cn} : ∀ {kvs : List (NestedKey × D)} {ns : List Ent}, Rpk c F t kvs ns → Rps c F (kvs.map fun p => toD p.1) (ns.map fun n => n.2.1)
  | [], _, h => by rw [Rpk] at h; subst h; exact Rps.nil
  | (k, d) :: r, ns, h => by
    rw [Rpk] at h
    obtain ⟨kv, v, ns', rfl, ok, rk, rd, rr⟩ := h
    exact Rps.cons ((rp_toD _ _).mp rk) (Rpk.keysRp rr)
theorem Rpk.valsRp {c : Cn} : ∀ {kvs : List (NestedKey × D)} {ns : List Ent}, Rpk c F t kvs ns → Rps c F (kvs.map fun p => p.2) (ns.map fun n => n.2.2)
  | [], _, h => by rw [Rpk] at h; subst h; exact Rps.nil
  | (k, d) :: r, ns, h => by
    rw [Rpk] at h
    obtain ⟨kv, v, ns', rfl, ok, rk, rd, rr⟩ := h
    exact Rps.cons rd (Rpk.valsRp rr)
/-! ### len, list, tuple, abs, sum, sorted, isinstance -/
theorem cr_len (hu : X.A.units + 64 < cLine) : CallR X (.builtin "len") (rC X (biD .len)) := by
  intro pins s σ H xs us Q I r h
  obtain ⟨F, dx, d, x, rfl, l, hx, e, k⟩ := h
  cases dx with
  | lst ds =>
    cases e
    obtain ⟨a, vs, rfl, sa, ra⟩ := hx.list l
    exact call_len_seq pins s σ H _ us Q I r ⟨a, vs, rfl, .inl sa, by rw [← ra.length]; exact k _ F H (.refl l) (.fl (rp_int _))⟩
  | tup ds =>
    cases e
    obtain ⟨a, vs, rfl, sa, ra⟩ := hx.tup l
    exact call_len_seq pins s σ H _ us Q I r ⟨a, vs, rfl, .inr sa, by rw [← ra.length]; exact k _ F H (.refl l) (.fl (rp_int _))⟩
  | dic t kvs =>
    cases e
    obtain ⟨a, ns, rfl, da, ra⟩ := hx.dic l
    obtain ⟨u, rfl, rx⟩ := vals1 r
    cases rx
    exact g_len (by omega) I da fun tk s' I' => ⟨.int ns.length, H, I', ⟨tk, rfl⟩, by rw [← ra.length]; exact k _ F H (.refl l) (.fl (rp_int _))⟩
  | _ => cases e
theorem cr_abs : CallR X (.builtin "abs") (rC X (biD .abs)) := by
  intro pins s σ H xs us Q I r h
  obtain ⟨F, dx, d, x, rfl, l, hx, e, k⟩ := h
  cases dx with
  | int i =>
    cases e
    rw [hx.int] at r
    exact call_abs pins s σ H _ us Q I r ⟨i, rfl, k _ F H (.refl l) (.fl (rp_int _))⟩
  | _ => cases e
theorem ints_of {c : Cn} : ∀ {ds : List D} {is : List Int} {vs : List V}, intsD ds = some is → Rps c F ds vs → vs = is.map V.int
  | [], is, vs, e, h => by cases e; rw [Rps] at h; subst h; rfl
  | .int i :: ds, is, vs, e, h => by
    unfold intsD at e
    obtain ⟨js, e1, rfl⟩ := Option.map_eq_some_iff.mp e
    rw [Rps] at h
    obtain ⟨v, vs', rfl, r, rr⟩ := h
    rw [Rp] at r
    subst r
    rw [ints_of e1 rr]
    rfl
  | .non :: _, _, _, e, _ => by cases e
  | .bl _ :: _, _, _, e, _ => by cases e
  | .str _ :: _, _, _, e, _ => by cases e
  | .tup _ :: _, _, _, e, _ => by cases e
  | .lst _ :: _, _, _, e, _ => by cases e
  | .dic _ _ :: _, _, _, e, _ => by cases e
theorem cr_sumD (hc : X.calm = true) : CallR X (.builtin "sum") (rC X (biD .sum)) := by
  intro pins s σ H xs us Q I r h
  obtain ⟨F, dx, d, x, rfl, l, hx, e, k⟩ := h
  cases dx with
  | lst ds =>
    obtain ⟨is, e1, rfl⟩ := Option.map_eq_some_iff.mp e
    obtain ⟨a, vs, rfl, sa, ra⟩ := hx.list l
    rw [ints_of e1 ra] at sa
    exact cr_sum hc pins s σ H _ us Q I r ⟨a, is, rfl, sa, k _ F H (.refl l) (.fl (rp_int _))⟩
  | _ => cases e
theorem cr_tuple : CallR X (.type "tuple") (rC X (biD .tuple)) := by
  intro pins s σ H xs us Q I r h
  obtain ⟨F, dx, d, x, rfl, l, hx, e, k⟩ := h
  cases dx with
  | lst ds =>
    cases e
    obtain ⟨a, vs, rfl, sa, ra⟩ := hx.list l
    exact call_tuple_of pins s σ H _ us Q I r ⟨a, vs, rfl, .inl ⟨sa, fun p hp => k _ _ _ (.allocF l hp) (.fl (rp_tup l hp ra))⟩⟩
  | tup ds =>
    cases e
    have hx' := hx.flat rfl
    obtain ⟨a, vs, rfl, sa, ra⟩ := hx.tup l
    exact call_tuple_of pins s σ H _ us Q I r ⟨a, vs, rfl, .inr ⟨sa, k _ F H (.refl l) (.fl hx')⟩⟩
  | _ => cases e
theorem cr_list (hc : X.calm = true) : CallR X (.type "list") (rC X (biD .list)) := by
  intro pins s σ H xs us Q I r h
  obtain ⟨F, dx, d, x, rfl, l, hx, e, k⟩ := h
  cases dx with
  | lst ds =>
    cases e
    obtain ⟨a, vs, rfl, sa, ra⟩ := hx.list l
    exact call_list_of pins s σ H _ us Q I r ⟨a, vs, rfl, .inl sa, fun p hp => k _ F _ (.alloc l hp) (res_list l hp ra)⟩
  | tup ds =>
    cases e
    obtain ⟨a, vs, rfl, sa, ra⟩ := hx.tup l
    exact call_list_of pins s σ H _ us Q I r ⟨a, vs, rfl, .inr sa, fun p hp => k _ F _ (.alloc l hp) (res_list l hp ra)⟩
  | dic t kvs =>
    cases e
    obtain ⟨a, ns, rfl, da, ra⟩ := hx.dic l
    obtain ⟨u, rfl, rx⟩ := vals1 r
    cases rx
    obtain ⟨es, ep, raw, sz, q⟩ := da.ents I
    obtain ⟨z, hs⟩ := da.small I
    refine PySem.W.kdl_call (KdlSrc.rawDict hs) (I.ok.hd hc) raw (by rw [sz]; exact z) fun h' tk acc' c' kp e it => ?_
    have hv : Vals (ns.map fun n => n.2.1) acc'.toList := by
      refine vals_of_at (by have := it.1; simp only [List.length_map, Array.length_toList]; omega) fun j x u h1 h2 => ?_
      rw [List.getElem?_map] at h1
      obtain ⟨n, hn, rfl⟩ := Option.map_eq_some_iff.mp h1
      obtain ⟨hi, rfl⟩ := it.2 j u (by rw [← Array.getElem?_toList]; exact h2)
      exact (q j hi n hn).1
    have hp : H s.heap.objs.size = none := I.fresh
    exact ⟨.ref s.heap.objs.size, _, I.laid (t' := tk) kp (Nat.le_refl _) (show ObjOk X.prog X.w _ h' _ (.lst (ns.map fun n => n.2.1)) from ⟨by rw [List.length_map]; exact z, acc'.toList, c', hv, by rw [Array.toArray_toList]; exact e⟩), rfl,
      k _ F _ (.alloc l hp) (res_list l hp (Rpk.keysRp ra))⟩
  | _ => cases e
theorem rps_each {c : Cn} (P : D → V → Prop) (hP : ∀ d v, P d v → Rp c F d v) : ∀ {out : List Value} {ds : List D}, PySem.W.EachIs (fun (u : Value) (d : D) => ∃ v, RelV v u ∧ P d v) out ds → ∃ vs, Vals vs out ∧ Rps c F ds vs
  | _, _, .nil => ⟨[], .nil, Rps.nil⟩
  | _, _, .cons ⟨v, r, p⟩ t => by
    obtain ⟨vs, r1, r2⟩ := rps_each P hP t
    exact ⟨v :: vs, .cons r r1, Rps.cons (hP _ _ p) r2⟩
theorem each_of (I : Inv X pins σ H s) (l : Le F H) : ∀ {ds : List D} {vs : List V} {us : List Value}, Rps (cn X) F ds vs → Vals vs us → ds.all (fun d => decide ((toPy d).depth ≤ 64) && (toPy d).canLay0) = true →
    PySem.W.EachIs (fun (u : Value) (d : D) => ∃ v, RelV v u ∧ Rp (cn X) F d v) us ds ∧ PySem.W.EachIs (fun (u : Value) (d : D) => ∃ as, Reads s.heap u (toPy d) as) us ds
  | [], _, us, h, r, _ => by
    rw [Rps] at h
    subst h
    cases r
    exact ⟨.nil, .nil⟩
  | d :: ds, _, us, h, r, q => by
    rw [Rps] at h
    obtain ⟨v, vs', rfl, r1, r2⟩ := h
    cases r with
    | cons ru rr =>
    rw [List.all_cons, Bool.and_eq_true, Bool.and_eq_true] at q
    obtain ⟨h1, h2⟩ := each_of I l r2 rr q.2
    exact ⟨.cons ⟨v, ru, r1⟩ h1, .cons (Dp.reads I _ _ _ (dp_of l d v r1 (.inr q.1.2)) ru) h2⟩
theorem allAlike_of {ds : List PyData} (h : allAlikeB ds = true) : PySem.W.AllAlike ds := fun d hd d' hd' => by
  unfold allAlikeB at h
  exact List.all_eq_true.mp (List.all_eq_true.mp h d hd) d' hd'
theorem sortable_of {ds : List PyData} (h : sortableB ds = true) : PySem.W.Sortable ds := by
  unfold sortableB at h
  rw [Bool.or_eq_true] at h
  rcases h with h | h
  · refine .inl fun d hd => ?_
    have q := List.all_eq_true.mp h d hd
    cases d with
    | tuple xs => cases xs with
      | nil => cases q
      | cons x r => exact ⟨x, r, rfl⟩
    | _ => cases q
  · refine .inr fun d hd => ?_
    have q := List.all_eq_true.mp h d hd
    exact ⟨fun e => (by rw [e] at q; cases q), fun xs e => (by rw [e] at q; cases q)⟩
theorem cr_sortedD (hu : X.A.units + 128 < cLine) : CallR X (.builtin "sorted") (rC X (biD .sorted)) := by
  intro pins s σ H xs us Q I r h
  obtain ⟨F, dx, d, x, rfl, l, hx, e, k⟩ := h
  cases dx with
  | lst ds =>
    obtain ⟨es, e1, rfl⟩ := Option.map_eq_some_iff.mp e
    unfold sortD at e1
    split at e1
    · rename_i hh
      cases e1
      simp only [Bool.and_eq_true, decide_eq_true_eq] at hh
      obtain ⟨⟨⟨h1, h2⟩, h3⟩, h4⟩ := hh
      obtain ⟨a, vs, rfl, sa, ra⟩ := hx.list l
      obtain ⟨u, rfl, rx⟩ := vals1 r
      cases rx
      obtain ⟨its, rv, pl, hz⟩ := I.list sa
      obtain ⟨E1, E2⟩ := each_of I l ra rv (by rw [List.all_eq_true]; intro d hd; have := List.all_eq_true.mp h3 d hd; simpa using this)
      refine PySem.W.sorted_data (vs := its) (enc := toPy) pl.isList E1 E2 (allAlike_of h1) (sortable_of h2) (by rw [← big_line]; exact h4) (fun b hb => ?_) fun out hl E3 => ?_
      · have := List.all_eq_true.mp h3 b hb
        simp only [Bool.and_eq_true, decide_eq_true_eq] at this
        omega
      · obtain ⟨ws, w1, w2⟩ := rps_each (fun d v => Rp (cn X) F d v) (fun _ _ q => q) E3
        obtain ⟨ep, he'⟩ := PyProof.Rows.sortedAll_at s.heap its out.toArray
        have hlen : ws.length ≤ sizeLine := by rw [← w2.length, List.length_mergeSort, ← big_line]; exact h4
        have hp : H (s.heap.objs.size + 1) = none := I.hok.fresh (Nat.le_succ _)
        exact ⟨.ref _, upd H (s.heap.objs.size + 1) (.lst ws), I.laid (t' := s.toks) (fun _ _ => PyProof.Rows.sortedAll_old) (Nat.le_succ _) ⟨hlen, out, ep, w1, he'⟩, rfl, k _ F _ (.alloc l hp) (res_list l hp w2)⟩
    · cases e1
  | _ => cases e
/-! ### dict -/
theorem pairs_rps : ∀ {ds : List D} {ps : List (NestedKey × D)} {vs : List V}, pairsD t ds = some ps → Rps (cn X) F ds vs →
    ∃ (as : List Addr) (ns : List Ent), vs = as.map V.ref ∧ Rpk (cn X) F t ps ns ∧ Paired (fun (b : Addr) (n : Ent) => SqT X.K F b [n.2.1, n.2.2]) as ns
  | [], ps, vs, e, h => by
    cases e
    rw [Rps] at h
    subst h
    exact ⟨[], [], rfl, Rpk.nil, .nil⟩
  | d :: ds, ps, vs, e, h => by
    unfold pairsD at e
    split at e
    · rename_i p ps' e1 e2
      cases e
      rw [Rps] at h
      obtain ⟨v, vs', rfl, r, rr⟩ := h
      obtain ⟨as, ns, rfl, q1, q2⟩ := pairs_rps e2 rr
      unfold pairD at e1
      split at e1
      · rename_i kd vd
        split at e1
        · rename_i key hk
          split at e1
          · rename_i ok
            cases e1
            rw [Rp] at r
            obtain ⟨b, us, rfl, sb, rs⟩ := r
            rw [Rps] at rs
            obtain ⟨kv, us', rfl, r1, rs⟩ := rs
            rw [Rps] at rs
            obtain ⟨vv, us'', rfl, r2, rs⟩ := rs
            rw [Rps] at rs
            subst rs
            exact ⟨b :: as, (key, kv, vv) :: ns, rfl, Rpk.cons (keyOk_of ok) (rpKey_of r1 hk) r2 q1, .cons sb q2⟩
          · cases e1
        · cases e1
      · cases e1
    · cases e
def nmrg (ns more : List Ent) : List Ent := more.foldl (fun acc n => nput acc n.1 n.2.1 n.2.2) ns
theorem nput_ok {ns : List Ent} {k : NestedKey} {kv v : V} (h : ∀ n ∈ ns, KeyOk t n.1) (ok : KeyOk t k) : ∀ n ∈ nput ns k kv v, KeyOk t n.1 := by
  intro n hn
  unfold nput at hn
  split at hn
  · obtain ⟨m, hm, rfl⟩ := List.mem_map.mp hn
    split
    · exact h m hm
    · exact h m hm
  · rcases List.mem_append.mp hn with z | z
    · exact h n z
    · rw [List.mem_singleton] at z; subst z; exact ok
theorem Rpk.mrg : ∀ {ps kvs : List (NestedKey × D)} {ms ns : List Ent}, Rpk (cn X) F t kvs ns → Rpk (cn X) F t ps ms → Rpk (cn X) F t (L2.PL.mrg kvs ps) (nmrg ns ms)
  | [], _, ms, _, h, h' => by rw [Rpk] at h'; subst h'; exact h
  | (k, d) :: r, kvs, ms, ns, h, h' => by
    rw [Rpk] at h'
    obtain ⟨kv, v, ns', rfl, ok, rk, rd, rr⟩ := h'
    show Rpk (cn X) F t (L2.PL.mrg (L2.PL.put kvs k d) r) (nmrg (nput ns k kv v) ns')
    exact Rpk.mrg (h.put ok rk rd) rr
theorem lf_mrg : ∀ {ms ns : List Ent}, (∀ n ∈ ns, KeyOk false n.1) → (∀ n ∈ ms, KeyOk false n.1) → mergeK (ns.map lf) (ms.map lf) = (nmrg ns ms).map lf
  | [], ns, _, _ => rfl
  | m :: ms, ns, h, h' => by
    have ok := h' m List.mem_cons_self
    have e := putK_lf ok m.2.1 m.2.2 h
    show mergeK (putK (ns.map lf) (leafK m.1) m.2.2) (ms.map lf) = _
    rw [e]
    exact lf_mrg (nput_ok h ok) fun n hn => h' n (List.mem_cons_of_mem _ hn)
theorem pe3_mrg : ∀ {ms ns : List Ent} {ys xs : List (NestedKey × Addr × Value)}, PE3 ns xs → PE3 ms ys → PE3 (nmrg ns ms) (storedAllH xs ys)
  | _, _, _, _, h, .nil => h
  | m :: ms, ns, y :: ys, xs, h, .cons ⟨e1, e2, e3⟩ r => by
    show PE3 (nmrg (nput ns m.1 m.2.1 m.2.2) ms) (storedAllH (storedH xs y.1 y.2.1 y.2.2) ys)
    rw [e1, e2]
    exact pe3_mrg (pe3_put e3 h) r
theorem len_nmrg : ∀ (ms ns : List Ent), (nmrg ns ms).length ≤ ns.length + ms.length
  | [], ns => by simp [nmrg]
  | m :: ms, ns => by
    have := len_nmrg ms (nput ns m.1 m.2.1 m.2.2)
    have := length_nput ns m.1 m.2.1 m.2.2
    simp only [nmrg, List.foldl_cons, List.length_cons] at *
    omega
theorem res_dic {kvs : List (NestedKey × D)} {p : Addr} (l : Le F H) (h : H p = none) (r : Rpk (cn X) F t kvs ns) : Res (cn X) true F (upd H p (dHO (cn X) p t ns)) H (.dic t kvs) (.ref p) := .inl ⟨p, rfl, rfl, h, le_none l h, ns, upd_same, r⟩
theorem pright {α β : Type} {F : α → β → Prop} : ∀ {l₁ : List α} {l₂ : List β}, Paired F l₁ l₂ → ∀ b ∈ l₂, ∃ a, F a b ∧ a ∈ l₁
  | _, _, .nil, _, h => nomatch h
  | _, _, .cons r t, b, h => by
    rcases List.mem_cons.mp h with z | z
    · subst z; exact ⟨_, r, List.mem_cons_self⟩
    · obtain ⟨a, q1, q2⟩ := pright t b z; exact ⟨a, q1, List.mem_cons_of_mem _ q2⟩
theorem tup_pairs (I : Inv X pins σ H s) (l : Le F H) : ∀ {as : List Addr} {ms : List Ent}, (∀ n ∈ ms, KeyOk true n.1 ∧ RpKey (cn X) H n.1 n.2.1) → Paired (fun (b : Addr) (n : Ent) => SqT X.K F b [n.2.1, n.2.2]) as ms →
    ∃ ys : List (NestedKey × Addr × Value), PE3 ms ys ∧ ∀ (j : Nat) (y : NestedKey × Addr × Value), ys[j]? = some y → ∃ b, as[j]? = some b ∧ IsTup s.heap b #[Value.ref y.2.1, y.2.2]
  | _, _, _, .nil => ⟨[], .nil, fun j y e => by simp at e⟩
  | b :: as, m :: ms, f, .cons h t => by
    obtain ⟨ys, q1, q2⟩ := tup_pairs I l (fun n hn => f n (List.mem_cons_of_mem _ hn)) t
    obtain ⟨its, rv, ht, _⟩ := I.tuple (sqT_le l h)
    obtain ⟨u, y, rfl, ru, ry⟩ := vals2 rv
    obtain ⟨ok, rk⟩ := f m List.mem_cons_self
    obtain ⟨kb, e⟩ := key_ref ok rk
    rw [e] at ru
    obtain rfl : u = Value.ref kb := ru
    refine ⟨(m.1, kb, y) :: ys, .cons ⟨rfl, e, ry⟩ q1, fun j z e => ?_⟩
    cases j with
    | zero => simp at e; subst e; exact ⟨b, rfl, ht⟩
    | succ j => simp at e; obtain ⟨b', z1, z2⟩ := q2 j z e; exact ⟨b', by simpa using z1, z2⟩
theorem cr_dictD (t : Bool) (hu : X.A.units + 64 < cLine) (hc : X.calm = true) : CallR X (.type "dict") (rC X (biD (.dict t))) := by
  intro pins s σ H xs us Q I r h
  obtain ⟨F, dx, d, x, rfl, l, hx, e, k⟩ := h
  cases dx with
  | lst ds =>
    have e : (pairsD t ds).map (fun ps => D.dic t (L2.PL.mrg [] ps)) = some d := by cases t <;> exact e
    obtain ⟨ps, e1, rfl⟩ := Option.map_eq_some_iff.mp e
    obtain ⟨a, vs, rfl, sa, ra⟩ := hx.list l
    obtain ⟨as, ms, rfl, q1, q2⟩ := pairs_rps e1 ra
    have fin := q1.ok
    cases t with
    | false =>
      refine call_dictP hc pins s σ H _ us Q I r ⟨a, as, ms.map lf, rfl, sa, ?_, fun p hp => ?_⟩
      · clear sa r k q1 ra e1 e
        induction q2 with
        | nil => exact .nil
        | @cons b n as' ns' hb ht ih =>
          have okn := fin n List.mem_cons_self
          refine .cons ?_ (ih fun m hm => fin m (List.mem_cons_of_mem _ hm))
          show SqT X.K H b [kV (leafK n.1), n.2.2]
          rw [← kV_leafK okn.1 okn.2]
          exact sqT_le l hb
      · have z := lf_mrg (ns := []) (ms := ms) (fun _ h => nomatch h) fun n hn => (fin n hn).1
        rw [List.map_nil] at z
        rw [z]
        exact k _ F _ (.alloc l hp) (res_dic (t := false) l hp (Rpk.mrg Rpk.nil q1))
    | true =>
      obtain ⟨u, rfl, rx⟩ := vals1 r
      cases rx
      obtain ⟨its, rv, pl, hz⟩ := I.list sa
      have ei := refs_at rv
      subst ei
      rw [List.length_map] at hz
      have fin2 : ∀ n ∈ ms, KeyOk true n.1 ∧ RpKey (cn X) H n.1 n.2.1 := fun n hn => ⟨(fin n hn).1, RpKey.le l _ _ (fin n hn).2⟩
      obtain ⟨ys, y1, y2⟩ := tup_pairs I l fin2 q2
      obtain ⟨o, n, ho, hcl, hd, hdat⟩ := pl
      have hlen := Paired.length y1
      have hlen2 := Paired.length q2
      have hst : ∀ x ∈ ys, (nestedKind X.prog X.w).is s.heap x.1 x.2.1 := fun x hx => by
        obtain ⟨m, ⟨e1, e2, _⟩, hm⟩ := pright y1 x hx
        obtain ⟨ok, rk⟩ := fin2 m hm
        rw [e2] at rk
        rw [← e1]
        exact key_at I ok rk
      refine call_dict_pairsH (knd := nestedKind X.prog X.w) (ps := ys) (PairArg.list (prog := X.prog) (w := X.w) a (as.map Value.ref).toArray (fun j => (as[j]?).getD 0) (ys.map fun y => (Value.ref y.2.1, y.2.2))) (I.ok.hd hc)
        (by show X.A.units + 1 + 1 + 8 < cLine; omega) ⟨⟨o, n, ho, hcl, hd, hdat⟩, by simp; omega, fun j kk v hj => ?_⟩ ⟨by simp, fun i key v hr => ?_⟩ (fun h' k' x hx => ?_) (by simp; omega) fun h' tk dd kp => ?_
      · rw [List.getElem?_map] at hj
        obtain ⟨y, hy, e2⟩ := Option.map_eq_some_iff.mp hj
        cases e2
        obtain ⟨b, hb, ht⟩ := y2 j y hy
        refine ⟨by simp [hb], .inl ?_⟩
        show s.heap.IsTuple ((as[j]?).getD 0) _
        rw [hb]
        obtain ⟨o', ho', hc', n', hd'⟩ := ht
        exact ⟨o', ho', hc', n', hd'⟩
      · have hr : (ys.map fun y => (Value.ref y.2.1, y.2.2))[i]? = some (key, v) := hr
        rw [List.getElem?_map] at hr
        obtain ⟨y, hy, e2⟩ := Option.map_eq_some_iff.mp hr
        cases e2
        exact ⟨y.1, y.2.1, hy, rfl⟩
      · obtain ⟨z1, z2⟩ := hst x hx
        exact ⟨NestedIs.at (fun b o vs n hb _ => k' b o (Nat.ne_of_lt (Heap.lt_size hb)) (fun z => nomatch z) hb) _ _ z1, z2⟩
      · have hp : H s.heap.objs.size = none := I.fresh
        have hm : (s.heap.objs.size == sysModules) = false := beq_eq_false_iff_ne.mpr (Nat.ne_of_gt I.big)
        have zl : (nmrg [] ms).length ≤ sizeLine := Nat.le_trans (len_nmrg ms []) (by simp; omega)
        exact ⟨.ref _, _, I.laid (t' := tk) (fun b o e => kp b o (fun z => nomatch z) e) (Nat.le_refl _) (dn_new zl hm (pe3_mrg .nil y1) dd), rfl, k _ F _ (.alloc l hp) (res_dic (t := true) l hp (Rpk.mrg Rpk.nil q1))⟩
  | dic t' kvs =>
    cases t with
    | true => cases t' <;> cases e
    | false =>
      cases t' with
      | true => cases e
      | false =>
        cases e
        obtain ⟨a, ns, rfl, da, ra⟩ := hx.dic l
        obtain ⟨u, rfl, rx⟩ := vals1 r
        cases rx
        exact d_copyOf (kvs := ns.map lf) I da.rd fun p s' hp I' => ⟨.ref p, _, I', rfl, k _ F _ (.alloc l hp) (res_dic (t := false) l hp ra)⟩
  | _ => cases t <;> cases e
end
end L2.PL
end
section
set_option maxRecDepth 100000
/-! PL, part G: isinstance, views, what is turned round, methods. -/
namespace L2.PL
open PySem PySem.Spec PyProof.Rows HT
section
variable {prog : Program} {w : World} {A : Around} {E : Value → Shared → Prop} {s : Shared}
theorem applied_rev {sl : Addr} {vs : Value} {n : Nat} {Q : Int × Int × Nat → Shared → Prop} (hs : s.heap.IsSliceOf sl .none .none vs) (ps : IsPart vs (some (-1)))
    (h : Q ((n : Int) - 1, -1, n) s) : wpAny (model prog w) A (Builtin.Slice.sliceApplied (.ref sl) (pure (n : Int))) Q E s := by
  obtain ⟨os, hos, hcs, hds⟩ := id hs
  cases ps
  rename_i t
  unfold Builtin.Slice.sliceApplied Builtin.Slice.sliceFields
  refine wpAny_bind (wpAny_bind (wpAny_field hos hds (x := .none) rfl (wpAny_bind (wpAny_field hos hds (x := .none) rfl (wpAny_bind (wpAny_field hos hds (x := .int (-1) t) rfl (wpAny_pure ?_)))))))
  refine wpAny_bind (slicePart_int ?_)
  show wpAny _ _ (if ((-1 : Int) == 0) = true then _ else _) _ _ s
  rw [if_neg (by decide)]
  refine wpAny_bind (slicePart_none (wpAny_bind (slicePart_none (wpAny_bind (wpAny_pure ?_)))))
  show wpAny _ _ (pure ((n : Int) - 1, (-1 : Int), Builtin.Slice.slicePlaces ((n : Int) - 1) (-1) (-1))) _ _ s
  have e : Builtin.Slice.slicePlaces ((n : Int) - 1) (-1) (-1) = n := by
    unfold Builtin.Slice.slicePlaces
    have h1 : ¬ ((-1 : Int) > 0) := by decide
    rw [if_neg h1]
    by_cases h0 : n = 0
    · subst h0; rfl
    · rw [if_pos (by omega), show (- -1 : Int) = 1 by decide, Int.ediv_one]
      omega
  rw [e]
  exact wpAny_pure h
theorem fm_map {α β : Type} {f : α → Option β} {g : α → β} : ∀ {l : List α}, (∀ x ∈ l, f x = some (g x)) → l.filterMap f = l.map g
  | [], _ => rfl
  | x :: l, h => by rw [List.filterMap_cons, h x List.mem_cons_self, List.map_cons, fm_map fun y hy => h y (List.mem_cons_of_mem _ hy)]
theorem pick_rev (xs : Array Value) : ((List.range xs.size).filterMap fun (m : Nat) => xs[(((xs.size : Int) - 1) + (m : Int) * (-1)).toNat]?).toArray = xs.toList.reverse.toArray := by
  congr 1
  apply List.ext_getElem?
  intro i
  have e : ((List.range xs.size).filterMap fun (m : Nat) => xs[(((xs.size : Int) - 1) + (m : Int) * (-1)).toNat]?) = (List.range xs.size).map fun m => xs[xs.size - 1 - m]?.getD .none := by
    apply fm_map
    intro m hm
    have hm := List.mem_range.mp hm
    have e1 : (((xs.size : Int) - 1) + (m : Int) * (-1)).toNat = xs.size - 1 - m := by omega
    rw [e1]
    have h2 : xs.size - 1 - m < xs.size := by omega
    simp [h2]
  rw [e]
  by_cases hi : i < xs.size
  · rw [List.getElem?_map, List.getElem?_range hi, List.getElem?_reverse (by simpa using hi)]
    have h2 : xs.size - 1 - i < xs.size := by omega
    simp [h2]
  · rw [List.getElem?_eq_none (by simpa using hi), List.getElem?_eq_none (by simpa using hi)]
theorem getItem_tuple_rev {t sl : Addr} {items : Array Value} {vs : Value} {Q : Value → Shared → Prop} (ht : IsTup s.heap t items) (hs : s.heap.IsSliceOf sl .none .none vs) (ps : IsPart vs (some (-1)))
    (h : Q (.ref s.heap.objs.size) { s with heap := s.heap.push { cls := .type "tuple", data := .seq items.toList.reverse.toArray } })
    (hsz : items.size ≤ sizeLine) : wpAny (model prog w) A (getItem (.ref t) (.ref sl)) Q E s := by
  have htake : sizeOk (.seq items.toList.reverse.toArray) := by
    show items.toList.reverse.toArray.size ≤ sizeLine
    simpa using hsz
  obtain ⟨os, hos, hcs, hds⟩ := id hs
  have hTs : s.TypeIs (.ref sl) "slice" := ⟨os, hos, hcs⟩
  unfold getItem
  try with_reducible refine wpAny_holding ?_
  first | refine wpAny_bind (wpAny_pure ?_) | skip
  refine wpAny_bind (wpAny_sequenceKey ht.typeIs (by decide) ?_)
  refine wpAny_bind (wpAny_callSpecial?_slot (name := Str.ofString "__getitem__") ht.typeIs PyProof.Rows.slot_tuple_getitem
    (wpAny_call_entry PyProof.Rows.slot_tuple_getitem ht.typeIs entry_tuple_getitem ?_ (args_tuple_getitem _ _)))
  show wpAny _ _ (Builtin.Tuple.tupleItemsOf (.ref t) >>= _) _ _ s
  refine wpAny_bind (tupleItemsOf_ ht ?_)
  refine wpAny_bind (wpAny_typeOf hTs ?_)
  rw [if_pos (by decide)]
  refine wpAny_bind (applied_rev hs ps ?_)
  have hno : ¬ ((((items.size : Int) - 1) == 0 && (-1 : Int) == 1 && items.size == items.size) = true) := by
    intro q
    rw [Bool.and_eq_true, Bool.and_eq_true] at q
    exact absurd q.1.2 (by decide)
  show wpAny _ _ (if (((items.size : Int) - 1) == 0 && (-1 : Int) == 1 && items.size == items.size) = true then _ else _) _ _ s
  rw [if_neg hno, pick_rev]
  first
    | exact wpAny_bind (m := Builtin.Tuple.tupleExact _) (wpAny_newObj_type (wpAny_pure ⟨_, rfl, wpAny_pure h⟩) htake)
    | exact wpAny_bind (m := Builtin.Tuple.tupleExact _) (wpAny_newObj_type (wpAny_bind (wpAny_pure (wpAny_pure ⟨_, rfl, wpAny_pure h⟩))) htake)
    | exact wpAny_bind (wpAny_bind (m := Builtin.Tuple.tupleExact _) (wpAny_newObj_type (wpAny_pure (wpAny_pure ⟨_, rfl, wpAny_pure h⟩)) htake))
    | exact wpAny_bind (wpAny_bind (m := Builtin.Tuple.tupleExact _) (wpAny_newObj_type (wpAny_pure ⟨_, rfl, wpAny_pure h⟩) htake))
end
section
variable {X : Cx}
def tRev (X : Cx) (te : TE) : TE := fun σ H Q => te σ H fun x H1 => rU1 X revD x H1 Q
theorem pe_rev {e : Expr} {te : TE} {k : Nat} {p1 p2 p3 pos : Pos} (he : PE X e te) : PE X (.Subscript e (.Slice none none (some (.UnaryOp .USub (.Constant (.int 1) k p1) p2)) p3) pos) (tRev X te) := by
  refine ⟨fun pins s σ H Q I h => ?_⟩
  refine Subscript_ (thn (he.run pins s σ H _ I h) fun v s1 ⟨x, H1, I1, r1, q1⟩ => ?_)
  have hst : PO X (some (.UnaryOp .USub (.Constant (.int 1) k p1) p2)) (tPart (tUn (rU fun i => .int (-i)) (tC (.int 1)))) := po_some (pe_un un_neg pe_int)
  refine wpAny_Slice (thn (po_none.run pins s1 σ H1 (fun o H2 => o = none ∧ H2 = H1) I1 ⟨rfl, rfl⟩) fun vl s2 ⟨l, H2, I2, pl, el, e2⟩ => ?_)
  subst el e2
  refine thn (po_none.run pins s2 σ H2 (fun o H3 => o = none ∧ H3 = H2) I2 ⟨rfl, rfl⟩) fun vu s3 ⟨u, H3, I3, pu, eu, e3⟩ => ?_
  subst eu e3
  refine thn (hst.run pins s3 σ H3 (fun o H4 => o = some (-1) ∧ H4 = H3) I3 ⟨1, rfl, -1, rfl, rfl, rfl⟩) fun vs s4 ⟨o, H4, I4, ps, eo, e4⟩ => ?_
  subst eo e4
  obtain ⟨F, dx, d, l, hx, e, q⟩ := q1
  have I5 : Inv X pins σ H4 { s4 with heap := s4.heap.push { cls := .type "slice", data := .fields #[vl, vu, vs] } } := I4.kept (t' := s4.toks) fun b ob q => Heap.get?_push_of_some _ q
  cases dx with
  | lst ds =>
    cases e
    obtain ⟨a, xs, rfl, sa, ra⟩ := hx.list l
    cases r1
    obtain ⟨its, r, ht, hz⟩ := I5.list sa
    have hlen := r.length
    show wpAny (model X.prog X.w) X.A (subscriptTail _ _ (.ref a) (.ref s4.heap.objs.size)) (EP X pins σ Q) X.xe { s4 with heap := s4.heap.push { cls := .type "slice", data := .fields #[vl, vu, vs] } }
    refine tail_any (ops := [.ref a, .ref s4.heap.objs.size]) ht.isList.typeIs (PySem.slot_list_getitem.lookup) ?_ (by with_unfolding_all rfl)
    refine wpAny_getItem_list_slice ht.isList (Heap.IsSliceOf.new _ vl vu vs) pl pu ps (by decide) ?_ (by rw [List.size_toArray]; omega)
    rw [PySem.W.krv_pick]
    have hp := I5.hok.fresh (Nat.le_refl _)
    refine ⟨.ref _, _, I5.laid (t' := s4.toks) (o := .lst xs.reverse) (fun b ob q => Heap.get?_push_of_some _ q) (Nat.le_refl _) ?_, rfl, q _ F _ (.alloc l hp) (res_list l hp ra.rev)⟩
    exact ⟨by rw [List.length_reverse]; exact hz, _, 0, r.reverse, Heap.get?_push_size _ rfl⟩
  | tup ds =>
    cases e
    obtain ⟨a, xs, rfl, sa, ra⟩ := hx.tup l
    cases r1
    obtain ⟨its, r, ht, hz⟩ := I5.tuple sa
    have hlen := r.length
    show wpAny (model X.prog X.w) X.A (subscriptTail _ _ (.ref a) (.ref s4.heap.objs.size)) (EP X pins σ Q) X.xe { s4 with heap := s4.heap.push { cls := .type "slice", data := .fields #[vl, vu, vs] } }
    refine tail_any (ops := [.ref a, .ref s4.heap.objs.size]) ht.typeIs (PyProof.Rows.slot_tuple_getitem.lookup) ?_ (by with_unfolding_all rfl)
    have hsl := Heap.IsSliceOf.new s4.heap vl vu vs
    cases pl
    cases pu
    refine getItem_tuple_rev ht hsl ps ?_ (by rw [List.size_toArray]; omega)
    have hp := I5.hok.fresh (Nat.le_refl _)
    refine ⟨.ref _, _, I5.laid (t' := s4.toks) (o := .tup xs.reverse) (fun b ob q => Heap.get?_push_of_some _ q) (Nat.le_refl _) ?_, rfl, q _ _ _ (.allocF l hp) (.fl (rp_tup l hp ra.rev))⟩
    exact ⟨by rw [List.length_reverse]; exact hz, _, r.reverse, IsTup.new _ _⟩
  | _ => cases e
/-! ### isinstance -/
def tyS : Ty → String
  | .int => "int" | .bool => "bool" | .str => "str" | .list => "list" | .tuple => "tuple" | .dict => "dict"
def tyD : D → String
  | .non => "NoneType" | .bl _ => "bool" | .int _ => "int" | .str _ => "str" | .tup _ => "tuple" | .lst _ => "list" | .dic _ _ => "dict"
theorem kit_tab (ty : Ty) (d : D) : kitB (tyD d) (tyS ty) = some (isTy ty d) := by
  cases ty <;> cases d <;> simp only [tyD, tyS, isTy] <;> decide +kernel
theorem tyx_of {F H : Hp} {d : D} {x : V} {pins : List (Addr × Obj)} {σ : St} {s : Shared} {u : Value} (I : Inv X pins σ H s) (l : Le F H) (h : Rt (cn X) F H d x) (rx : RelV x u) :
    ∃ P : Heap → Prop, PySem.W.KitX X.K u (.type (tyD d)) P ∧ P s.heap ∧ u ≠ .builtin "__main__.__loader__#opaque" := by
  cases d with
  | non => rw [h.non] at rx; exact kit_of I rx (.base .non)
  | bl b => rw [h.bl] at rx; exact kit_of I rx (.base (.bl _))
  | int i => rw [h.int] at rx; exact kit_of I rx (.base (.int _))
  | str y => rw [h.str] at rx; exact kit_of I rx (.base (.str _))
  | tup ds =>
    obtain ⟨a, vs, rfl, sa, _⟩ := h.tup l
    cases rx
    obtain ⟨its, _, ⟨o, h1, h2, _⟩, _⟩ := I.tuple sa
    exact ⟨_, PySem.W.kitx_tuple, ⟨o, h1, h2⟩, fun z => nomatch z⟩
  | lst ds =>
    obtain ⟨a, vs, rfl, sa, _⟩ := h.list l
    cases rx
    obtain ⟨its, _, pl, _⟩ := I.list sa
    obtain ⟨o, h1, h2, _⟩ := pl.isList
    exact ⟨_, PySem.W.kitx_list, ⟨o, h1, h2⟩, fun z => nomatch z⟩
  | dic t kvs =>
    obtain ⟨a, ns, rfl, da, _⟩ := h.dic l
    cases rx
    obtain ⟨o, h1, h2⟩ := da.typeIs I
    exact ⟨_, PySem.W.kitx_dict, ⟨o, h1, h2⟩, fun z => nomatch z⟩
/-- isinstance(x, T) -/
def rIs (X : Cx) (ty : Ty) : List V → Hp → VK → Prop := fun xs H Q => ∃ F dx x, xs = [x, .ty (tyS ty)] ∧ Le F H ∧ Rt (cn X) F H dx x ∧ Q (.bl (isTy ty dx)) H
theorem cr_is (ty : Ty) : CallR X (.builtin "isinstance") (rIs X ty) := by
  intro pins s σ H xs us Q I r h
  obtain ⟨F, dx, x, rfl, l, hx, q⟩ := h
  obtain ⟨u1, u2, rfl, r1, r2⟩ := vals2 r
  obtain rfl : u2 = Value.type (tyS ty) := r2
  obtain ⟨P, Z, p, hn⟩ := tyx_of I l hx r1
  exact PySem.W.kia_one Z I.kIn p (kit_ty (kit_tab ty dx)) hn fun tk => ⟨.bl _, H, I.tok tk, rfl, q⟩
/-! ### list(d.items()), list(d.values()), sum(d.values()) -/
/-- a view at p of the dict at d -/
def valsO (p d : Addr) : HO := .ext fun h => h.IsValuesView p d
theorem valsO_ok {P : Program} {w : World} {H : Hp} {h : Heap} {p d : Addr} (e : h.get? p = some { cls := .type "dict_values", data := .fields #[.ref d] }) : ObjOk P w H h p (valsO p d) :=
  ⟨⟨_, e, rfl, rfl⟩, ⟨_, e⟩, fun h1 h2 x k => let ⟨o, ho, r⟩ := x; ⟨o, k o ho, r⟩⟩
/-- a method of a dict, nothing changed: what it is called with, what comes out -/
def DMt (X : Cx) (id : String) (r : V → List V → Hp → VK → Prop) : Prop :=
  ∀ (pins : List (Addr × Obj)) (s : Shared) (σ : St) (H : Hp) (x : V) (xs : List V) (v : Value) (us : List Value) (Q : VK), Inv X pins σ H s → RelV x v → Vals xs us → r x xs H Q →
    wpAny (model X.prog X.w) X.A (call (.builtin id) (v :: us)) (EP X pins σ Q) X.xe s
def isDic (X : Cx) (x : V) (H : Hp) : Prop := ∃ a t ns, x = .ref a ∧ Dic X H a t ns
theorem isDic_is {pins : List (Addr × Obj)} {σ : St} {H : Hp} {s : Shared} {x : V} {v : Value} (I : Inv X pins σ H s) (r : RelV x v) (h : isDic X x H) : s.TypeIs v "dict" ∧ ∀ b, v = .ref b → ∃ ob, s.heap.get? b = some ob ∧ ob.dict = none := by
  obtain ⟨a, t, ns, rfl, d⟩ := h
  obtain rfl : v = Value.ref a := r
  exact ⟨d.typeIs I, d.noDict I⟩
def tDM0 (X : Cx) (r : V → List V → Hp → VK → Prop) (to : TE) : TE := fun σ H Q => to σ H fun x H1 => isDic X x H1 ∧ r x [] H1 Q
def tDM (X : Cx) (r : V → List V → Hp → VK → Prop) (to : TE) (t : TA) : TE := fun σ H Q => to σ H fun x H1 => isDic X x H1 ∧ t σ H1 fun xs H2 => r x xs H2 Q
section
variable {o e : Expr} {es : List Expr} {to : TE} {t : TA} {name : Str} {apos cpos : Pos} {id : String} {r : V → List V → Hp → VK → Prop}
theorem pe_dm0 (slot : Slot "dict" name id) (hty : typeOf (.builtin id) = pure (.type "method_descriptor")) (hm : DMt X id r) (ho : PE X o to)
    (hbase : attributeBase o name X.env (eval o X.env) = eval o X.env := by rfl) (hline : (apos.endLine == cpos.line) = true := by rfl) : PE X (.Call (.Attribute o name apos) [] [] cpos) (tDM0 X r to) := by
  refine ⟨fun pins s σ H Q I h => ?_⟩
  refine wpAny_Call_method0_late hbase hline (thn (ho.run pins s σ H _ I h) fun v s1 ⟨x, H1, I1, r1, ty, q1⟩ => ?_)
  obtain ⟨h1, h2⟩ := isDic_is I1 r1 ty
  exact ⟨"dict", id, PySem.F.plainAttrs_dict, slot, hty, h1, h2, Calls.callWith_builtin rfl (PySem.evalArgs_none (hm pins s1 σ H1 x [] v [] Q I1 r1 .nil q1))⟩
theorem pe_dm (slot : Slot "dict" name id) (hty : typeOf (.builtin id) = pure (.type "method_descriptor")) (hm : DMt X id r) (ho : PE X o to) (ha : PA X (e :: es) t)
    (hbase : attributeBase o name X.env (eval o X.env) = eval o X.env := by rfl)
    (hfew : ((backTo cpos (starEach (e :: es) X.env)).all (fun x => !x.1) && (backToKw cpos (keywordEach [] X.env)).all (fun x => x.1.isSome)
      && decide ((e :: es).length + ([] : List Keyword).length + (if ([] : List Keyword).isEmpty then 0 else 1) < 30)) = true := by rfl)
    (hline : (apos.endLine == cpos.line) = true := by rfl) (hs : starEach (e :: es) X.env = (false, eval e X.env) :: starEach es X.env := by rfl) (hplain : (backTo cpos (starEach es X.env)).any (·.1) = false := by rfl) :
    PE X (.Call (.Attribute o name apos) (e :: es) [] cpos) (tDM X r to t) := by
  refine ⟨fun pins s σ H Q I h => ?_⟩
  refine wpAny_Call_method_late hbase hfew hline rfl (thn (ho.run pins s σ H _ I h) fun v s1 ⟨x, H1, I1, r1, ty, q1⟩ => ?_)
  obtain ⟨h1, h2⟩ := isDic_is I1 r1 ty
  refine ⟨"dict", id, PySem.F.plainAttrs_dict, slot, hty, h1, h2, ?_⟩
  have hA := ha.run cpos pins s1 σ H1 _ I1 q1
  rw [hs] at hA ⊢
  refine Calls.callWith_builtin (by show (false || (backTo cpos (starEach es X.env)).any (·.1)) = false; rw [hplain] <;> rfl) (Calls.evalArgs_plain ?_)
  exact thn hA fun us s2 ⟨vs, H2, I2, r2, q2⟩ => hm pins s2 σ H2 x vs v us Q I2 r1 r2 q2
end
/-- d.items(): the view -/
def rView (X : Cx) (O : Addr → Addr → HO) : V → List V → Hp → VK → Prop := fun x xs H Q => ∃ a, x = .ref a ∧ xs = [] ∧ ∀ p, H p = none → Q (.ref p) (upd H p (O p a))
theorem dm_items : DMt X "dict.items" (fun x xs H Q => isDic X x H ∧ rView X DX.itemsO x xs H Q) := by
  intro pins s σ H x xs v us Q I rx rxs h
  obtain ⟨⟨a', t, ns, e, d⟩, a, rfl, rfl, q⟩ := h
  cases e
  cases rx
  cases rxs
  obtain ⟨es, ep, raw, _⟩ := d.ents I
  have hp := I.fresh
  exact DT.callItems (es := es) (ep := ep) (d.small I).2 raw ⟨.ref s.heap.objs.size, _, I.laid (t' := s.toks) (fun b u e => Heap.get?_push_of_some _ e) (Nat.le_refl _) (DX.itemsO_ok (Heap.get?_push_size _ rfl)), rfl, q _ hp⟩
theorem dm_values : DMt X "dict.values" (fun x xs H Q => isDic X x H ∧ rView X valsO x xs H Q) := by
  intro pins s σ H x xs v us Q I rx rxs h
  obtain ⟨⟨a', t, ns, e, d⟩, a, rfl, rfl, q⟩ := h
  cases e
  cases rx
  cases rxs
  obtain ⟨es, ep, raw, _⟩ := d.ents I
  have hp := I.fresh
  exact call_meetsIn PySem.F.slot_dict_values raw.typeIs PySem.F.entry_dict_values (PySem.F.args_dict_values_1 _) (meets_dict_values_raw a' (d.small I).2)
    ⟨⟨es, ep, raw⟩, .ref s.heap.objs.size, _, I.laid (t' := s.toks) (fun b u e => Heap.get?_push_of_some _ e) (Nat.le_refl _) (valsO_ok (Heap.get?_push_size _ rfl)), rfl, q _ hp⟩
theorem rps_at {c : Cn} {F : Hp} : ∀ {xs : List D} {vs : List V}, xs.length = vs.length → (∀ (j : Nat) (d : D) (v : V), xs[j]? = some d → vs[j]? = some v → Rp c F d v) → Rps c F xs vs
  | [], [], _, _ => Rps.nil
  | [], _ :: _, h, _ => by simp at h
  | _ :: _, [], h, _ => by simp at h
  | x :: xs, v :: vs, h, f => Rps.cons (f 0 x v rfl rfl) (rps_at (by simpa using h) fun j d u h1 h2 => f (j + 1) d u (by simpa using h1) (by simpa using h2))
/-- list() of a dict's view -/
def rLV (X : Cx) (O : Addr → Addr → HO) (f : List (NestedKey × D) → Option D) : List V → Hp → VK → Prop := fun xs H Q => ∃ F p a t ns kvs d, xs = [.ref p] ∧ H p = some (O p a) ∧ Dic X H a t ns ∧ Le F H ∧ Rpk (cn X) F t kvs ns ∧ f kvs = some d ∧
  ∀ v F' H', Nw F H F' H' → Res (cn X) true F' H' H d v → Q v H'
theorem Rpk.at' {c : Cn} {F : Hp} {t : Bool} {kvs : List (NestedKey × D)} {ns : List Ent} {j : Nat} {n : Ent} (r : Rpk c F t kvs ns) (h : ns[j]? = some n) : ∃ q, kvs[j]? = some q ∧ Rp c F (toD q.1) n.2.1 ∧ Rp c F q.2 n.2.2 := by
  obtain ⟨k, kv, v⟩ := n
  obtain ⟨d, e1, rk, rd⟩ := r.get' h
  exact ⟨_, e1, (rp_toD _ _).mp rk, rd⟩
theorem cr_litems (hc : X.calm = true) : CallR X (.type "list") (rLV X DX.itemsO fun kvs => some (.lst (kvs.map fun p => .tup [toD p.1, p.2]))) := by
  intro pins s σ H xs us Q I r h
  obtain ⟨F, p, a, t, ns, kvs, d, rfl, hp, da, l, ra, e, k⟩ := h
  cases e
  obtain rfl := Vals.ref1 r
  have view : s.heap.IsItemsView p a := (show ObjOk X.prog X.w H s.heap p (DX.itemsO p a) from I.hok p _ hp).1
  obtain ⟨es, ep, raw, sz, q⟩ := da.ents I
  obtain ⟨z, hs⟩ := da.small I
  refine PySem.W.dil_call (I.ok.hd hc) view raw (by rw [sz]; exact z) fun h' tk acc c' as kp eS el g hacc => ?_
  have hSn : H s.heap.objs.size = none := I.fresh
  have lak : as.length = ns.length := by omega
  have big : ∀ b ∈ as, s.heap.objs.size < b := g.above
  have hno : ∀ b ∈ as, H b = none := fun b hb => I.hok.fresh (Nat.le_of_lt (big b hb))
  have I1 : Inv X pins σ (upd H s.heap.objs.size (.lst (as.map V.ref))) { s with heap := h', toks := tk } := by
    refine I.laid (t' := tk) kp (Nat.le_refl _) (show ObjOk X.prog X.w _ h' _ (.lst (as.map V.ref)) from ⟨by rw [List.length_map]; omega, as.map Value.ref, c', ?_, by rw [← hacc, Array.toArray_toList]; exact eS⟩)
    exact vals_of_at (by simp) fun j x u h1 h2 => by
      rw [List.getElem?_map] at h1 h2
      obtain ⟨b, hb, rfl⟩ := Option.map_eq_some_iff.mp h1
      rw [hb] at h2
      cases h2
      rfl
  have nd : as.Nodup := List.Pairwise.imp (fun h => Nat.ne_of_lt h) g.rise
  obtain ⟨H2, I2, g2, q2⟩ := DX.takeT (P := fun b vs => ∃ (j : Nat) (n : Ent), as[j]? = some b ∧ ns[j]? = some n ∧ vs = [n.2.1, n.2.2]) I as _ I1 nd fun b hb => by
    refine ⟨Nat.le_of_lt (big b hb), by rw [upd_ne (Nat.ne_of_gt (big b hb))]; exact hno b hb, ?_⟩
    obtain ⟨j, hj⟩ := List.getElem?_of_mem hb
    obtain ⟨hje, hg⟩ := g.pairs j b hj
    have hjn : j < ns.length := by omega
    obtain ⟨r1, r2⟩ := q j hje ns[j] (List.getElem?_eq_getElem hjn)
    exact ⟨_, ⟨j, ns[j], hj, List.getElem?_eq_getElem hjn, rfl⟩, fun H2 => ⟨by rw [sizeLine_eq]; simp, [es[j].key, es[j].val], .cons r1 (.cons r2 .nil), ⟨_, hg, rfl, 0, rfl⟩⟩⟩
  have e2 : ∀ b o, H b = some o → H2 b = some o := fun b o e => g2 b o (by rw [upd_ne (ne_of_none e hSn)]; exact e)
  let F' : Hp := fun b => if b ∈ as then H2 b else F b
  have lF : Le F F' := fun b o e => by
    show (if b ∈ as then H2 b else F b) = some o
    rw [if_neg fun hb => nomatch (l b o e).symm.trans (hno b hb)]
    exact e
  have nw : Nw F H F' H2 := ⟨lF, e2, fun b o e => by
    have e : (if b ∈ as then H2 b else F b) = some o := e
    split at e
    · exact e
    · exact e2 b o (l b o e), fun b e => by
    have e : (if b ∈ as then H2 b else F b) ≠ none := e
    split at e
    · rename_i hb
      exact .inr (hno b hb)
    · exact .inl e⟩
  refine ⟨.ref s.heap.objs.size, H2, I2, rfl, k _ F' H2 nw (.inl ⟨_, rfl, rfl, hSn, ?_, as.map V.ref, g2 _ _ upd_same, ?_⟩)⟩
  · show (if s.heap.objs.size ∈ as then H2 _ else F _) = none
    rw [if_neg fun hb => Nat.lt_irrefl _ (big _ hb)]
    exact le_none l hSn
  · refine rps_at (by simp [ra.length, lak]) fun j d v h1 h2 => ?_
    rw [List.getElem?_map] at h1 h2
    obtain ⟨kd, hkd, rfl⟩ := Option.map_eq_some_iff.mp h1
    obtain ⟨b, hb, rfl⟩ := Option.map_eq_some_iff.mp h2
    have hbm := List.mem_of_getElem? hb
    obtain ⟨vs, ⟨j', n, hj', hn, rfl⟩, hv⟩ := q2 b hbm
    have ej : j' = j := by
      have h3 := (List.getElem?_eq_some_iff.mp hj')
      have h4 := (List.getElem?_eq_some_iff.mp hb)
      obtain ⟨i3, e3⟩ := h3
      obtain ⟨i4, e4⟩ := h4
      have pw := List.pairwise_iff_getElem.mp g.rise
      rcases Nat.lt_trichotomy j' j with z | z | z
      · have := pw j' j i3 i4 z; rw [e3, e4] at this; exact absurd this (Nat.lt_irrefl _)
      · exact z
      · have := pw j j' i4 i3 z; rw [e3, e4] at this; exact absurd this (Nat.lt_irrefl _)
    subst ej
    obtain ⟨q, hq, p1, p2⟩ := Rpk.at' ra hn
    rw [hkd] at hq
    cases hq
    rw [Rp]
    refine ⟨b, [n.2.1, n.2.2], rfl, .inl (.inl ?_), Rps.le lF _ _ (Rps.cons p1 (Rps.cons p2 Rps.nil))⟩
    show (if b ∈ as then H2 b else F b) = _
    rw [if_pos hbm]
    exact hv
theorem cr_lvals (hc : X.calm = true) : CallR X (.type "list") (rLV X valsO fun kvs => some (.lst (kvs.map fun p => p.2))) := by
  intro pins s σ H xs us Q I r h
  obtain ⟨F, p, a, t, ns, kvs, d, rfl, hp, da, l, ra, e, k⟩ := h
  cases e
  obtain rfl := Vals.ref1 r
  have view : s.heap.IsValuesView p a := (show ObjOk X.prog X.w H s.heap p (valsO p a) from I.hok p _ hp).1
  obtain ⟨es, ep, raw, sz, q⟩ := da.ents I
  obtain ⟨z, hs⟩ := da.small I
  refine PySem.W.kdl_call KdlSrc.rawValues (I.ok.hd hc) ⟨view, raw⟩ (by rw [sz]; exact z) fun h' tk acc' c' kp e it => ?_
  have hv : Vals (ns.map fun n => n.2.2) acc'.toList := by
    refine vals_of_at (by have := it.1; simp only [List.length_map, Array.length_toList]; omega) fun j x u h1 h2 => ?_
    rw [List.getElem?_map] at h1
    obtain ⟨n, hn, rfl⟩ := Option.map_eq_some_iff.mp h1
    obtain ⟨hi, rfl⟩ := it.2 j u (by rw [← Array.getElem?_toList]; exact h2)
    exact (q j hi n hn).2
  have hp : H s.heap.objs.size = none := I.fresh
  exact ⟨.ref s.heap.objs.size, _, I.laid (t' := tk) kp (Nat.le_refl _) (show ObjOk X.prog X.w _ h' _ (.lst (ns.map fun n => n.2.2)) from ⟨by rw [List.length_map]; exact z, acc'.toList, c', hv, by rw [Array.toArray_toList]; exact e⟩), rfl,
    k _ F _ (.alloc l hp) (res_list l hp (Rpk.valsRp ra))⟩
theorem cr_svals (hc : X.calm = true) : CallR X (.builtin "sum") (rLV X valsO fun kvs => (intsD (kvs.map fun p => p.2)).map fun is => .int is.sum) := by
  intro pins s σ H xs us Q I r h
  obtain ⟨F, p, a, t, ns, kvs, d, rfl, hp, da, l, ra, e, k⟩ := h
  obtain ⟨is, e1, rfl⟩ := Option.map_eq_some_iff.mp e
  obtain rfl := Vals.ref1 r
  have view : s.heap.IsValuesView p a := (show ObjOk X.prog X.w H s.heap p (valsO p a) from I.hok p _ hp).1
  obtain ⟨es, ep, raw, sz, q⟩ := da.ents I
  obtain ⟨z, hs⟩ := da.small I
  have ei := ints_of e1 (Rpk.valsRp ra)
  have li : is.length = ns.length := by rw [← List.length_map (f := V.int), ← ei, List.length_map]
  refine call_sum_walkAnyS (wpAny_pyIter_values_raw view raw ⟨s.heap.objs.size, [s.heap.objs.size, a], [s.heap.objs.size], _, es.size, _, _, fun i => is.getD i 0, rfl, (Walks.rawValues (A := X.A.in1) (I.ok.hd hc) s.heap.objs.size a (Nat.ne_of_lt raw.lt_size) es ep).toS, ⟨⟨_, Heap.get?_push_size _ rfl, rfl, rfl⟩, raw.push _⟩, fun b hb => ?_, fun i v hv => ?_, fun s' t' hm => ?_⟩)
  · simp only [Heap.size_push]
    simp only [List.mem_cons, List.not_mem_nil, or_false] at hb
    rcases hb with rfl | rfl
    · exact Nat.lt_succ_self _
    · exact Nat.lt_succ_of_lt raw.lt_size
  · obtain ⟨hi, rfl⟩ := hv
    have hin : i < ns.length := by omega
    obtain ⟨_, r2⟩ := q i hi ns[i] (List.getElem?_eq_getElem hin)
    have e3 : (ns.map fun n => n.2.2)[i]? = some ns[i].2.2 := by rw [List.getElem?_map, List.getElem?_eq_getElem hin]; rfl
    rw [ei, List.getElem?_map] at e3
    obtain ⟨j, hj, e4⟩ := Option.map_eq_some_iff.mp e3
    rw [← e4] at r2
    obtain ⟨t, ht⟩ := r2
    exact ⟨t, by rw [ht]; show _ = Value.int (is.getD i 0) t; rw [List.getD_eq_getElem?_getD, hj]; rfl⟩
  · have e5 := hm.eq_with
    rw [e5]
    refine ⟨.int is.sum, H, I.kept (t' := s'.toks) fun b u hb => hm.heap b u (by simp only [List.mem_cons, List.not_mem_nil, or_false]; exact Nat.ne_of_lt (Heap.lt_size hb)) (Heap.get?_push_of_some _ hb), ?_, k _ F H (.refl l) (.fl (rp_int _))⟩
    rw [preSum_getD, List.take_of_length_le (by omega)]
    exact ⟨t', rfl⟩
end
end L2.PL
end
section
set_option maxRecDepth 100000
/-! PL, part H: expressions keep what the evaluator tells. -/
namespace L2.PL
open PySem PySem.Spec PyProof.Rows
section
variable {X : Cx}
theorem _root_.L2.PE.imp {e : Expr} {t t' : TE} (h : PE X e t) (f : ∀ σ H Q, t' σ H Q → t σ H Q) : PE X e t' := ⟨fun pins s σ H Q I q => h.run pins s σ H Q I (f σ H Q q)⟩
theorem _root_.L2.PT.imp {e : Expr} {t t' : TT} (h : PT X e t) (f : ∀ σ H Q, t' σ H Q → t σ H Q) : PT X e t' := ⟨fun pins s σ H Q I q => h.run pins s σ H Q I (f σ H Q q)⟩
theorem _root_.L2.PW.imp {e : Expr} {t t' : TT} (h : PW X e t) (f : ∀ σ H Q, t' σ H Q → t σ H Q) : PW X e t' := ⟨fun wh pins s σ H Q I q => h.run wh pins s σ H Q I (f σ H Q q)⟩
theorem _root_.L2.PA.imp {es : List Expr} {t t' : TA} (h : PA X es t) (f : ∀ σ H Q, t' σ H Q → t σ H Q) : PA X es t' := ⟨fun pos pins s σ H Q I q => h.run pos pins s σ H Q I (f σ H Q q)⟩
theorem _root_.L2.PO.imp {e : Option Expr} {t t' : TO} (h : PO X e t) (f : ∀ σ H Q, t' σ H Q → t σ H Q) : PO X e t' := ⟨fun pins s σ H Q I q => h.run pins s σ H Q I (f σ H Q q)⟩
theorem _root_.L2.PTs.imp {e : List Expr} {t t' : TT} (h : PTs X e t) (f : ∀ σ H Q, t' σ H Q → t σ H Q) : PTs X e t' := ⟨fun pins s σ H Q I q => h.run pins s σ H Q I (f σ H Q q)⟩
theorem _root_.L2.PI.imp {tg e : Expr} {t t' : TI} (h : PI X tg e t) (f : ∀ σ H Q, t' σ H Q → t σ H Q) : PI X tg e t' := ⟨fun pins s σ H Q I q => h.run pins s σ H Q I (f σ H Q q)⟩
theorem _root_.L2.PS.imp {st : Stmt} {t t' : TS} (h : PS X st t) (f : ∀ D σ H, t' D σ H → t D σ H) : PS X st t' := ⟨fun pins s σ H D I q => h.run pins s σ H D I (f D σ H q)⟩
theorem _root_.L2.PSs.imp {st : List Stmt} {t t' : TS} (h : PSs X st t) (f : ∀ D σ H, t' D σ H → t D σ H) : PSs X st t' := ⟨fun pins s σ H D I q => h.run pins s σ H D I (f D σ H q)⟩
theorem _root_.L2.PG.imp {e : Expr} {t t' : TG} (h : PG X e t) (f : ∀ v σ H Q, t' v σ H Q → t v σ H Q) : PG X e t' := ⟨fun pins s σ H v u Q I r q => h.run pins s σ H v u Q I r (f v σ H Q q)⟩
end
abbrev Gh.ioS (G : Gh) : List Nat := G.io.map (·.1)
section
variable (c : Cn) (Φ : Fn) (G : Gh)
def tX (e : IE) : TE := fun σ H Q => ∃ F ρ d fr ρ', Rel c G F σ H ρ ∧ evE Φ G.ioS e ρ = some (d, fr, ρ') ∧ ∀ v F' H', Ext c G σ F ρ H F' ρ' H' → Res c fr F' H' H d v → Q v H'
def tF (e : IE) : TE := fun σ H Q => ∃ F ρ d fr ρ', Rel c G F σ H ρ ∧ evE Φ G.ioS e ρ = some (d, fr, ρ') ∧ ∀ v F' H', Ext c G σ F ρ H F' ρ' H' → Rp c F' d v → Q v H'
def tO (o : IO) : TE := fun σ H Q => ∃ F ρ t ρ', Rel c G F σ H ρ ∧ evO Φ G.ioS o ρ = some (t, ρ') ∧ ∀ v F' H', Ext c G σ F ρ H F' ρ' H' → TokOk c F' σ t v → Q v H'
def tOs (os : IOs) : TA := fun σ H Q => ∃ F ρ ts ρ', Rel c G F σ H ρ ∧ evOs Φ G.ioS os ρ = some (ts, ρ') ∧ ∀ vs F' H', Ext c G σ F ρ H F' ρ' H' → TokOks c F' σ ts vs → Q vs H'
def tP (p : IP) : TO := fun σ H Q => ∃ F ρ i ρ', Rel c G F σ H ρ ∧ evP Φ G.ioS p ρ = some (i, ρ') ∧ ∀ F' H', Ext c G σ F ρ H F' ρ' H' → Q i H'
def tT (t : IT) : TT := fun σ H Q => ∃ F ρ b ρ', Rel c G F σ H ρ ∧ evT Φ G.ioS t ρ = some (b, ρ') ∧ ∀ F' H', Ext c G σ F ρ H F' ρ' H' → Q b H'
def tTs (t : IC) : TT := fun σ H Q => ∃ F ρ b ρ', Rel c G F σ H ρ ∧ evC Φ G.ioS t ρ = some (b, ρ') ∧ ∀ F' H', Ext c G σ F ρ H F' ρ' H' → Q b H'
end
section
variable {c : Cn} {G : Gh} {σ : St} {F F' F'' H H' H'' : Hp} {ρ ρ' ρ'' : EV} {d : D} {v : V} {fr : Bool}
theorem Res.back (h : Res c fr F' H' H'' d v) (k : ∀ a, H a ≠ none → H'' a ≠ none) : Res c fr F' H' H d v := by
  rcases h with ⟨a, e1, e2, e3, q⟩ | h
  · refine .inl ⟨a, e1, e2, ?_, q⟩
    cases z : H a with
    | none => rfl
    | some o => exact absurd e3 (k a (by rw [z]; exact fun z => nomatch z))
  · exact .inr h
/-- behind a step, something made by value -/
theorem Ext.fin (E : Ext c G σ F ρ H F' ρ' H') (n : Nw F' H' F'' H'') : Ext c G σ F ρ H F'' ρ' H'' := E.trans (n.ext E.rel)
end
section
variable {X : Cx} {Φ : Fn} {G : Gh} {e a b : Expr} {pos : Pos}
theorem _root_.L2.PE.fz {ie : IE} (h : PE X e (tX (cn X) Φ G ie)) : PE X e (tF (cn X) Φ G ie) := by
  refine ⟨fun pins s σ H Q I hw => ?_⟩
  obtain ⟨F, ρ, d, fr, ρ', R, ev, k⟩ := hw
  refine thn (h.run pins s σ H (fun v H1 => ∃ F', Ext (cn X) G σ F ρ H F' ρ' H1 ∧ Res (cn X) fr F' H1 H d v) I ⟨F, ρ, d, fr, ρ', R, ev, fun v F' H' E r => ⟨F', E, r⟩⟩) fun u s1 ⟨v, H1, I1, rv, F', E, r⟩ => ?_
  rcases Res.freeze R E r with rp | ⟨a, w, rfl, e, mu, fz⟩
  · exact ⟨v, H1, I1, rv, k v F' H1 E rp⟩
  · obtain ⟨od, I2⟩ := I1.lock e mu
    obtain ⟨E2, rp⟩ := fz od
    exact ⟨.ref a, _, I2, rv, k _ _ _ E2 rp⟩
theorem po_e {ie : IE} (h : PE X e (tX (cn X) Φ G ie)) : PE X e (tO (cn X) Φ G (.e ie)) := h.fz.imp fun σ H Q ⟨F, ρ, t, ρ', R, ev, k⟩ => by
  simp only [evO] at ev
  obtain ⟨⟨d, fr, ρ2⟩, e1, e2⟩ := Option.map_eq_some_iff.mp ev
  cases e2
  exact ⟨F, ρ, d, fr, _, R, e1, fun v F' H' E r => k v F' H' E r⟩
theorem Rel.at' {c : Cn} {F H : Hp} {σ : St} {ρ : EV} {i : Nat} {s : Sl} (R : Rel c G F σ H ρ) (e : ρ[i]? = some s) : ∃ o, σ[i]? = some o ∧ SlOk c F H o s := by
  have hi : i < ρ.length := (List.getElem?_eq_some_iff.mp e).1
  have h2 : i < σ.length := by rw [R.len]; exact hi
  exact ⟨σ[i], List.getElem?_eq_getElem h2, R.sl i s _ e (List.getElem?_eq_getElem h2)⟩
theorem po_pk {x : Str} {p : Pos} (i : Nat) (hN : X.N[i]? = some x) (hv : Vis X.env.scope x) (hd : (x == ("__debug__" : Str)) = false := by decide) (hcd : (x == ("__classdict__" : Str)) = false := by decide) : PE X (.Name x p) (tO (cn X) Φ G (.pk i)) := by
  refine (pe_var hN hv hd hcd).imp fun σ H Q ⟨F, ρ, t, ρ', R, ev, k⟩ => ?_
  simp only [evO] at ev
  split at ev
  · cases ev
  · rename_i s hs e
    cases ev
    obtain ⟨o, e1, q⟩ := R.at' e
    cases s with
    | un => exact absurd rfl hs
    | val d => obtain ⟨v, rfl, r⟩ := q; exact ⟨v, e1, k v F H (.refl R) e1⟩
    | own d => obtain ⟨a, rfl, r⟩ := q; exact ⟨_, e1, k _ F H (.refl R) e1⟩
    | lck d => obtain ⟨a, ob, w, rfl, r⟩ := q; exact ⟨_, e1, k _ F H (.refl R) e1⟩
  · cases ev
theorem px_var {x : Str} {p : Pos} (i : Nat) (hN : X.N[i]? = some x) (hv : Vis X.env.scope x) (hd : (x == ("__debug__" : Str)) = false := by decide) (hcd : (x == ("__classdict__" : Str)) = false := by decide) : PE X (.Name x p) (tX (cn X) Φ G (.var i)) := by
  refine ⟨fun pins s σ H Q I ⟨F, ρ, d, fr, ρ', R, ev, k⟩ => ?_⟩
  simp only [evE, frz1] at ev
  cases es : ρ[i]? with
  | none => rw [es] at ev; cases ev
  | some sl =>
    rw [es] at ev
    obtain ⟨o, e1, q⟩ := R.at' es
    cases sl with
    | un => cases ev
    | lck d' => cases ev
    | val d' =>
      cases ev
      obtain ⟨v, rfl, r⟩ := q
      exact (pe_var hN hv hd hcd).run pins s σ H Q I ⟨v, e1, k v F H (.refl R) (.fl r)⟩
    | own d' =>
      cases ev
      obtain ⟨a, rfl, hf, hat⟩ := q
      refine thn ((pe_var hN hv hd hcd).run pins s σ H (fun v H1 => v = .ref a ∧ H1 = H) I ⟨_, e1, rfl, rfl⟩) fun u s1 ⟨v, H1, I1, rv, ev, eh⟩ => ?_
      subst ev eh
      obtain ⟨w, e, mu⟩ := hat.mut
      obtain ⟨od, I2⟩ := I1.lock e mu
      obtain ⟨E, rp⟩ := Ext.lock (ob := od) R es e1 e
      exact ⟨_, _, I2, rv, k _ _ _ E (.fl rp)⟩
theorem px_cst {v : V} (d : D) (h : PE X e (tC v)) (r : ∀ F, Rp (cn X) F d v) : PE X e (tX (cn X) Φ G (.cst d)) := h.imp fun σ H Q ⟨F, ρ, d', fr, ρ', R, ev, k⟩ => by
  simp only [evE] at ev
  cases ev
  exact k v F H (.refl R) (.fl (r F))
theorem px_int {i : Int} {j} : PE X (.Constant (.int i) j pos) (tX (cn X) Φ G (.cst (.int i))) := px_cst _ pe_int fun F => rp_int i
theorem px_bl {i : Bool} {j} : PE X (.Constant (.bool i) j pos) (tX (cn X) Φ G (.cst (.bl i))) := px_cst _ pe_bl fun F => rp_bl i
theorem px_str {i : Str} {j} : PE X (.Constant (.str i) j pos) (tX (cn X) Φ G (.cst (.str i))) := px_cst _ pe_str fun F => rp_str i
theorem px_non {j} : PE X (.Constant .none j pos) (tX (cn X) Φ G (.cst .non)) := px_cst _ pe_non fun F => rp_non
/-! ### two operands -/
theorem two {oa ob : IO} {r : R2} {σ : St} {H : Hp} {Q : VK} {F : Hp} {ρ ρ1 ρ2 : EV} {tx ty : Tok'} {dx dy : D} (R : Rel (cn X) G F σ H ρ) (ea : evO Φ G.ioS oa ρ = some (tx, ρ1)) (eb : evO Φ G.ioS ob ρ1 = some (ty, ρ2)) (ex : rsv ρ2 tx = some dx) (ey : rsv ρ2 ty = some dy)
    (k : ∀ x y F2 H2, Ext (cn X) G σ F ρ H F2 ρ2 H2 → Rt (cn X) F2 H2 dx x → Rt (cn X) F2 H2 dy y → r x y H2 Q) : tOp r (tO (cn X) Φ G oa) (tO (cn X) Φ G ob) σ H Q :=
  ⟨F, ρ, tx, ρ1, R, ea, fun vx F1 H1 E1 T1 => ⟨F1, ρ1, ty, ρ2, E1.rel, eb, fun vy F2 H2 E2 T2 => k vx vy F2 H2 (E1.trans E2) ((T1.le E2.le).rsv E2.rel ex) (T2.rsv E2.rel ey)⟩⟩
theorem px_bin (o : BOp) {oa ob : IO} (ha : PE X a (tO (cn X) Φ G oa)) (hb : PE X b (tO (cn X) Φ G ob)) : PE X (.BinOp a (bop o) b pos) (tX (cn X) Φ G (.bin o oa ob)) := by
  refine (pe_op (op_bin o) ha hb).imp fun σ H Q ⟨F, ρ, d, fr, ρ', R, ev, k⟩ => ?_
  simp only [evE] at ev
  split at ev
  · rename_i tx ρ1 ea
    split at ev
    · rename_i ty ρ2 eb
      split at ev
      · rename_i dx dy ex ey
        obtain ⟨d', e1, e2⟩ := Option.map_eq_some_iff.mp ev
        cases e2
        exact two R ea eb ex ey fun x y F2 H2 E r1 r2 => ⟨F2, dx, dy, d, E.rel.sub, r1, r2, e1, fun v F' H' nw res => k v F' H' (E.fin nw) (res.back E.dm)⟩
      · cases ev
    · cases ev
  · cases ev
theorem px_cmpG {r : R2} (o : COp) {oa ob : IO} {σ : St} {H : Hp} {Q : VK} (h : tX (cn X) Φ G (.cmp o oa ob) σ H Q) : tOp (rB X fun x y => (cmpD o x y).map .bl) (tO (cn X) Φ G oa) (tO (cn X) Φ G ob) σ H Q := by
  obtain ⟨F, ρ, d, fr, ρ', R, ev, k⟩ := h
  simp only [evE] at ev
  split at ev
  · rename_i tx ρ1 ea
    split at ev
    · rename_i ty ρ2 eb
      split at ev
      · rename_i dx dy ex ey
        obtain ⟨d', e1, e2⟩ := Option.map_eq_some_iff.mp ev
        cases e2
        exact two R ea eb ex ey fun x y F2 H2 E r1 r2 => ⟨F2, dx, dy, _, E.rel.sub, r1, r2, (by show (cmpD o dx dy).map D.bl = _; rw [e1]; rfl), fun v F' H' nw res => k v F' H' (E.fin nw) (res.back E.dm)⟩
      · cases ev
    · cases ev
  · cases ev
theorem px_cmp (o : COp) {oa ob : IO} (hu : X.A.units + 64 < cLine) (ha : PE X a (tO (cn X) Φ G oa)) (hb : PE X b (tO (cn X) Φ G ob)) (hm : behindInMarks (cop o) b = false) : PE X (.Compare a [cop o] [b] pos) (tX (cn X) Φ G (.cmp o oa ob)) :=
  (pe_cmpR (op_cmp o hu) ha hb hm).imp fun σ H Q h => px_cmpG (r := fun _ _ _ _ => True) o h
theorem px_neg {oa : IO} (ha : PE X a (tO (cn X) Φ G oa)) : PE X (.UnaryOp .USub a pos) (tX (cn X) Φ G (.neg oa)) := by
  refine (pe_un un_negD ha).imp fun σ H Q ⟨F, ρ, d, fr, ρ', R, ev, k⟩ => ?_
  simp only [evE] at ev
  split at ev
  · rename_i tx ρ1 ea
    split at ev
    · rename_i dx ex
      obtain ⟨d', e1, e2⟩ := Option.map_eq_some_iff.mp ev
      cases e2
      exact ⟨F, ρ, tx, _, R, ea, fun x F1 H1 E T => ⟨F1, dx, d, E.rel.sub, T.rsv E.rel ex, e1, fun v F' H' nw res => k v F' H' (E.fin nw) (res.back E.dm)⟩⟩
    · cases ev
  · cases ev
theorem px_idx {oa ob : IO} (hu : X.A.units + 64 < cLine) (ha : PE X a (tO (cn X) Φ G oa)) (hb : PE X b (tO (cn X) Φ G ob)) (hs : PlainIx b) : PE X (.Subscript a b pos) (tX (cn X) Φ G (.idx oa ob)) := by
  refine (pe_ix (ix_D hu) ha hb hs).imp fun σ H Q ⟨F, ρ, d, fr, ρ', R, ev, k⟩ => ?_
  simp only [evE] at ev
  split at ev
  · rename_i tx ρ1 ea
    split at ev
    · rename_i ty ρ2 eb
      split at ev
      · rename_i dx dy ex ey
        obtain ⟨d', e1, e2⟩ := Option.map_eq_some_iff.mp ev
        cases e2
        exact two R ea eb ex ey fun x y F2 H2 E r1 r2 => ⟨F2, dx, dy, d, E.rel.sub, r1, r2, e1, fun v F' H' nw res => k v F' H' (E.fin nw) (.fl res)⟩
      · cases ev
    · cases ev
  · cases ev
/-! ### slices -/
theorem pp_no : PO X none (tP (cn X) Φ G .no) := po_none.imp fun σ H Q ⟨F, ρ, i, ρ', R, ev, k⟩ => by
  simp only [evP] at ev
  cases ev
  exact k F H (.refl R)
theorem pp_yes {oa : IO} (ha : PE X a (tO (cn X) Φ G oa)) : PO X (some a) (tP (cn X) Φ G (.yes oa)) := (po_some ha).imp fun σ H Q ⟨F, ρ, i, ρ', R, ev, k⟩ => by
  simp only [evP] at ev
  split at ev
  · rename_i tx ρ1 ea
    split at ev
    · rename_i j ex
      cases ev
      exact ⟨F, ρ, tx, _, R, ea, fun x F1 H1 E T => ⟨j, (T.rsv E.rel ex).int, k F1 H1 E⟩⟩
    · cases ev
  · cases ev
theorem px_sli {oa : IO} {lo hi : Option Expr} {pl ph : IP} {p2 : Pos} (ha : PE X a (tO (cn X) Φ G oa)) (hl : PO X lo (tP (cn X) Φ G pl)) (hh : PO X hi (tP (cn X) Φ G ph)) : PE X (.Subscript a (.Slice lo hi none p2) pos) (tX (cn X) Φ G (.sli oa pl ph)) := by
  refine (pe_slice sl_D ha hl hh).imp fun σ H Q ⟨F, ρ, d, fr, ρ', R, ev, k⟩ => ?_
  simp only [evE] at ev
  split at ev
  · rename_i tx ρ1 ea
    split at ev
    · rename_i l ρ2 el
      split at ev
      · rename_i h ρ3 eh
        split at ev
        · rename_i dx ex
          obtain ⟨d', e1, e2⟩ := Option.map_eq_some_iff.mp ev
          cases e2
          exact ⟨F, ρ, tx, ρ1, R, ea, fun x F1 H1 E1 T => ⟨F1, ρ1, l, ρ2, E1.rel, el, fun F2 H2 E2 => ⟨F2, ρ2, h, _, E2.rel, eh, fun F3 H3 E3 =>
            ⟨F3, dx, d, E3.rel.sub, (T.le (E2.le.trans E3.le)).rsv E3.rel ex, e1, fun v F' H' nw res => k v F' H' (((E1.trans E2).trans E3).fin nw) (res.back ((E1.trans E2).trans E3).dm)⟩⟩⟩⟩
        · cases ev
      · cases ev
    · cases ev
  · cases ev
theorem px_rev {oa : IO} {j : Nat} {p1 p2 p3 : Pos} (ha : PE X a (tO (cn X) Φ G oa)) : PE X (.Subscript a (.Slice none none (some (.UnaryOp .USub (.Constant (.int 1) j p1) p2)) p3) pos) (tX (cn X) Φ G (.rev oa)) := by
  refine (pe_rev ha).imp fun σ H Q ⟨F, ρ, d, fr, ρ', R, ev, k⟩ => ?_
  simp only [evE] at ev
  split at ev
  · rename_i tx ρ1 ea
    split at ev
    · rename_i dx ex
      obtain ⟨d', e1, e2⟩ := Option.map_eq_some_iff.mp ev
      cases e2
      exact ⟨F, ρ, tx, _, R, ea, fun x F1 H1 E T => ⟨F1, dx, d, E.rel.sub, T.rsv E.rel ex, e1, fun v F' H' nw res => k v F' H' (E.fin nw) (res.back E.dm)⟩⟩
    · cases ev
  · cases ev
/-! ### tests -/
theorem pt_of {oa : IO} (hu : X.A.units + 64 < cLine) (ha : PE X a (tO (cn X) Φ G oa)) (he : ∀ whole, isTrue a X.env whole = (do let v ← whole; standAt a.pos; holding [v] (truthy v)) := by intro _; rfl) : PT X a (tT (cn X) Φ G (.e oa)) := by
  refine ⟨fun pins s σ H Q I ⟨F, ρ, b, ρ', R, ev, k⟩ => ?_⟩
  simp only [evT] at ev
  split at ev
  · rename_i tx ρ1 ea
    split at ev
    · rename_i dx ex
      obtain ⟨d', e1, e2⟩ := Option.map_eq_some_iff.mp ev
      cases e2
      refine isTrue_plain (thn (ha.run pins s σ H (fun x H1 => ∃ F1, Ext (cn X) G σ F ρ H F1 ρ' H1 ∧ Rt (cn X) F1 H1 dx x) I ⟨F, ρ, tx, _, R, ea, fun x F1 H1 E T => ⟨F1, E, T.rsv E.rel ex⟩⟩) fun v s1 ⟨x, H1, I1, r1, F1, E, rt⟩ => ?_) (he _)
      exact tru_D hu pins s1 σ H1 x v Q I1 r1 ⟨F1, dx, b, E.rel.sub, rt, e1, k F1 H1 E⟩
    · cases ev
  · cases ev
theorem pt_cmpX (o : COp) {oa ob : IO} (hu : X.A.units + 64 < cLine) (ha : PE X a (tO (cn X) Φ G oa)) (hb : PE X b (tO (cn X) Φ G ob)) (hm : behindInMarks (cop o) b = false) : PT X (.Compare a [cop o] [b] pos) (tT (cn X) Φ G (.e (.e (.cmp o oa ob)))) := by
  refine (pt_cmpR (op_cmp o hu) ha hb hm).imp fun σ H Q ⟨F, ρ, b, ρ', R, ev, k⟩ => ?_
  refine px_cmpG (r := fun _ _ _ _ => True) o ?_
  simp only [evT, evO] at ev
  split at ev
  · rename_i tx ρ1 ea
    obtain ⟨⟨d, fr, ρ2⟩, e1, e2⟩ := Option.map_eq_some_iff.mp ea
    cases e2
    simp only [rsv] at ev
    obtain ⟨d', e3, e4⟩ := Option.map_eq_some_iff.mp ev
    cases e4
    have hb : ∃ k, d = .bl k := by
      have e5 := e1
      simp only [evE] at e5
      split at e5
      · split at e5
        · split at e5
          · obtain ⟨k', _, e6⟩ := Option.map_eq_some_iff.mp e5
            cases e6
            exact ⟨_, rfl⟩
          · cases e5
        · cases e5
      · cases e5
    obtain ⟨kb, rfl⟩ := hb
    cases e3
    refine ⟨F, ρ, _, fr, _, R, e1, fun v F' H' E r => ?_⟩
    rcases r with ⟨a, _, _, _, _, q⟩ | ⟨_, r⟩
    · exact q.elim
    · rw [Rp] at r
      exact ⟨_, r, k F' H' E⟩
  · cases ev
theorem pt_notX {ta : IT} (ha : PT X a (tT (cn X) Φ G ta)) : PT X (.UnaryOp .Not a pos) (tT (cn X) Φ G (.not ta)) := (pt_not ha).imp fun σ H Q ⟨F, ρ, b, ρ', R, ev, k⟩ => by
  simp only [evT] at ev
  obtain ⟨⟨b', ρ2⟩, e1, e2⟩ := Option.map_eq_some_iff.mp ev
  cases e2
  exact ⟨F, ρ, b', _, R, e1, k⟩
theorem pw_and1X {ta : IT} (ha : PT X a (tT (cn X) Φ G ta)) : PW X (.BoolOp .And [a] pos) (tT (cn X) Φ G ta) := pw_and1 ha
theorem pw_or1X {ta : IT} (ha : PT X a (tT (cn X) Φ G ta)) : PW X (.BoolOp .Or [a] pos) (tT (cn X) Φ G ta) := pw_or1 ha
theorem pw_andX {ta tb : IT} {rest : List Expr} (ha : PT X a (tT (cn X) Φ G ta)) (hb : PW X (.BoolOp .And (b :: rest) pos) (tT (cn X) Φ G tb)) : PW X (.BoolOp .And (a :: b :: rest) pos) (tT (cn X) Φ G (.and ta tb)) := (pw_and ha hb).imp fun σ H Q ⟨F, ρ, k0, ρ', R, ev, k⟩ => by
  simp only [evT] at ev
  split at ev
  · rename_i kb ρ1 ea
    refine ⟨F, ρ, kb, ρ1, R, ea, fun F1 H1 E1 => ?_⟩
    cases kb with
    | true =>
      simp only [if_true] at ev ⊢
      exact ⟨F1, ρ1, _, _, E1.rel, ev, fun F2 H2 E2 => k F2 H2 (E1.trans E2)⟩
    | false =>
      simp only [Bool.false_eq_true, if_false] at ev ⊢
      cases ev
      exact k F1 H1 E1
  · cases ev
theorem pw_orX {ta tb : IT} {rest : List Expr} (ha : PT X a (tT (cn X) Φ G ta)) (hb : PW X (.BoolOp .Or (b :: rest) pos) (tT (cn X) Φ G tb)) : PW X (.BoolOp .Or (a :: b :: rest) pos) (tT (cn X) Φ G (.or ta tb)) := (pw_or ha hb).imp fun σ H Q ⟨F, ρ, k0, ρ', R, ev, k⟩ => by
  simp only [evT] at ev
  split at ev
  · rename_i kb ρ1 ea
    refine ⟨F, ρ, kb, ρ1, R, ea, fun F1 H1 E1 => ?_⟩
    cases kb with
    | false =>
      simp only [Bool.false_eq_true, if_false] at ev ⊢
      exact ⟨F1, ρ1, _, _, E1.rel, ev, fun F2 H2 E2 => k F2 H2 (E1.trans E2)⟩
    | true =>
      simp only [if_true] at ev ⊢
      cases ev
      exact k F1 H1 E1
  · cases ev
theorem pts_no : PTs X [] (tTs (cn X) Φ G .no) := pts_nil.imp fun σ H Q ⟨F, ρ, k0, ρ', R, ev, k⟩ => by
  simp only [evC] at ev
  cases ev
  exact k F H (.refl R)
theorem pts_yes {ta : IT} (ha : PT X a (tT (cn X) Φ G ta)) : PTs X [a] (tTs (cn X) Φ G (.yes ta)) := (pts_one ha).imp fun σ H Q ⟨F, ρ, k0, ρ', R, ev, k⟩ => by
  simp only [evC] at ev
  exact ⟨F, ρ, k0, ρ', R, ev, k⟩
/-! ### and, or, not, if as values -/
theorem px_one {op} {ie : IE} (h : PE X a (tX (cn X) Φ G ie)) : PE X (.BoolOp op [a] pos) (tX (cn X) Φ G ie) := pe_one h
theorem res_bl {c : Cn} {k fr : Bool} {F' H' H : Hp} {v : V} (r : Res c fr F' H' H (.bl k) v) : v = .bl k := by
  rcases r with ⟨a, _, _, _, _, q⟩ | ⟨_, r⟩
  · exact q.elim
  · rwa [Rp] at r
theorem px_and {x y : IE} {rest : List Expr} (ha : PE X a (tX (cn X) Φ G x)) (hb : PE X (.BoolOp .And (b :: rest) pos) (tX (cn X) Φ G y)) : PE X (.BoolOp .And (a :: b :: rest) pos) (tX (cn X) Φ G (.andv x y)) := (pe_and ha hb).imp fun σ H Q ⟨F, ρ, d, fr, ρ', R, ev, k⟩ => by
  simp only [evE] at ev
  split at ev
  · rename_i kb fa ρ1 ea
    refine ⟨F, ρ, .bl kb, fa, ρ1, R, ea, fun v F1 H1 E1 r => ⟨kb, res_bl r, ?_⟩⟩
    cases kb with
    | true =>
      simp only [if_true] at ev ⊢
      exact ⟨F1, ρ1, _, _, _, E1.rel, ev, fun w F2 H2 E2 r2 => k w F2 H2 (E1.trans E2) (r2.back E1.dm)⟩
    | false =>
      simp only [Bool.false_eq_true, if_false] at ev ⊢
      cases ev
      exact k _ F1 H1 E1 (.fl (rp_bl _))
  · cases ev
theorem px_or {x y : IE} {rest : List Expr} (ha : PE X a (tX (cn X) Φ G x)) (hb : PE X (.BoolOp .Or (b :: rest) pos) (tX (cn X) Φ G y)) : PE X (.BoolOp .Or (a :: b :: rest) pos) (tX (cn X) Φ G (.orv x y)) := (pe_or ha hb).imp fun σ H Q ⟨F, ρ, d, fr, ρ', R, ev, k⟩ => by
  simp only [evE] at ev
  split at ev
  · rename_i kb fa ρ1 ea
    refine ⟨F, ρ, .bl kb, fa, ρ1, R, ea, fun v F1 H1 E1 r => ⟨kb, res_bl r, ?_⟩⟩
    cases kb with
    | false =>
      simp only [Bool.false_eq_true, if_false] at ev ⊢
      exact ⟨F1, ρ1, _, _, _, E1.rel, ev, fun w F2 H2 E2 r2 => k w F2 H2 (E1.trans E2) (r2.back E1.dm)⟩
    | true =>
      simp only [if_true] at ev ⊢
      cases ev
      exact k _ F1 H1 E1 (.fl (rp_bl _))
  · cases ev
theorem px_not {oa : IO} (hu : X.A.units + 64 < cLine) (ha : PE X a (tO (cn X) Φ G oa)) : PE X (.UnaryOp .Not a pos) (tX (cn X) Φ G (.notv (.e oa))) := by
  refine ⟨fun pins s σ H Q I ⟨F, ρ, d, fr, ρ', R, ev, k⟩ => ?_⟩
  simp only [evE, evT] at ev
  obtain ⟨⟨kb, ρ2⟩, e0, e00⟩ := Option.map_eq_some_iff.mp ev
  cases e00
  split at e0
  · rename_i tx ρ1 ea
    split at e0
    · rename_i dx ex
      obtain ⟨d', e1, e2⟩ := Option.map_eq_some_iff.mp e0
      cases e2
      refine UnaryOp_ (thn (ha.run pins s σ H (fun x H1 => ∃ F1, Ext (cn X) G σ F ρ H F1 _ H1 ∧ Rt (cn X) F1 H1 dx x) I ⟨F, ρ, tx, _, R, ea, fun x F1 H1 E T => ⟨F1, E, T.rsv E.rel ex⟩⟩) fun v s1 ⟨x, H1, I1, r1, F1, E, rt⟩ => ?_)
      exact not_of (thn (tru_D hu pins s1 σ H1 x v (fun b H2 => b = kb ∧ H2 = H1) I1 r1 ⟨F1, dx, kb, E.rel.sub, rt, e1, rfl, rfl⟩) fun b s2 ⟨H2, I2, e3, e4⟩ => by
        subst e3 e4
        exact ⟨.bl (!b), _, I2, rfl, k _ F1 _ E (.fl (rp_bl _))⟩)
    · cases e0
  · cases e0
theorem px_ite {cnd : Expr} {t : IT} {x y : IE} (hc : PT X cnd (tT (cn X) Φ G t)) (ha : PE X a (tX (cn X) Φ G x)) (hb : PE X b (tX (cn X) Φ G y)) : PE X (.IfExp cnd a b pos) (tX (cn X) Φ G (.ite t x y)) := (pe_ifExp hc ha hb).imp fun σ H Q ⟨F, ρ, d, fr, ρ', R, ev, k⟩ => by
  simp only [evE] at ev
  split at ev
  · rename_i kb ρ1 ea
    refine ⟨F, ρ, kb, ρ1, R, ea, fun F1 H1 E1 => ?_⟩
    cases kb with
    | true =>
      simp only [if_true] at ev ⊢
      exact ⟨F1, ρ1, _, _, _, E1.rel, ev, fun w F2 H2 E2 r2 => k w F2 H2 (E1.trans E2) (r2.back E1.dm)⟩
    | false =>
      simp only [Bool.false_eq_true, if_false] at ev ⊢
      exact ⟨F1, ρ1, _, _, _, E1.rel, ev, fun w F2 H2 E2 r2 => k w F2 H2 (E1.trans E2) (r2.back E1.dm)⟩
  · cases ev
/-! ### lists of operands, displays -/
theorem pos_nil : PA X [] (tOs (cn X) Φ G .nil) := pa_nil.imp fun σ H Q ⟨F, ρ, ts, ρ', R, ev, k⟩ => by
  simp only [evOs] at ev
  cases ev
  exact k [] F H (.refl R) rfl
theorem pos_cons {es : List Expr} {o : IO} {os : IOs} (ha : PE X e (tO (cn X) Φ G o)) (hr : PA X es (tOs (cn X) Φ G os)) (hs : starEach (e :: es) X.env = (false, eval e X.env) :: starEach es X.env := by rfl) : PA X (e :: es) (tOs (cn X) Φ G (.cons o os)) :=
  (pa_cons ha hr hs).imp fun σ H Q ⟨F, ρ, ts, ρ', R, ev, k⟩ => by
  simp only [evOs] at ev
  split at ev
  · rename_i t ρ1 ea
    obtain ⟨⟨ts', ρ2⟩, e1, e2⟩ := Option.map_eq_some_iff.mp ev
    cases e2
    exact ⟨F, ρ, t, ρ1, R, ea, fun v F1 H1 E1 T1 => ⟨F1, ρ1, ts', _, E1.rel, e1, fun vs F2 H2 E2 T2 => k _ F2 H2 (E1.trans E2) ⟨v, vs, rfl, T1.le E2.le, T2⟩⟩⟩
  · cases ev
theorem px_tup {es : List Expr} {os : IOs} {x1} (h : PA X es (tOs (cn X) Φ G os)) : PE X (.Tuple es x1 pos) (tX (cn X) Φ G (.tup os)) := (pe_tup h).imp fun σ H Q ⟨F, ρ, d, fr, ρ', R, ev, k⟩ => by
  simp only [evE] at ev
  split at ev
  · rename_i ts ρ1 ea
    split at ev
    · rename_i ds eds
      split at ev
      · rename_i hz
        cases ev
        exact ⟨F, ρ, ts, _, R, ea, fun vs F1 H1 E T => ⟨by rw [← (T.dns eds).length, ← big_line]; exact hz, fun p hp => k _ _ _ (E.fin (.allocF E.rel.sub hp)) (.fl (rp_tup E.rel.sub hp (T.dns eds)))⟩⟩
      · cases ev
    · cases ev
  · cases ev
theorem px_lst {es : List Expr} {os : IOs} (h : PA X es (tOs (cn X) Φ G os)) : PE X (.List es pos) (tX (cn X) Φ G (.lst os)) := (pe_lst h).imp fun σ H Q ⟨F, ρ, d, fr, ρ', R, ev, k⟩ => by
  simp only [evE] at ev
  split at ev
  · rename_i ts ρ1 ea
    split at ev
    · rename_i ds eds
      split at ev
      · rename_i hz
        cases ev
        exact ⟨F, ρ, ts, _, R, ea, fun vs F1 H1 E T => ⟨by rw [← (T.dns eds).length, ← big_line]; exact hz, fun p hp => k _ _ _ (E.fin (.alloc E.rel.sub hp)) ((res_list E.rel.sub hp (T.dns eds)).back E.dm)⟩⟩
      · cases ev
    · cases ev
  · cases ev
theorem px_dic0 (t : Bool) : PE X (.Dict [] [] pos) (tX (cn X) Φ G (.dic t .nil)) := by
  refine ⟨fun pins s σ H Q I ⟨F, ρ, d, fr, ρ', R, ev, k⟩ => ?_⟩
  simp only [evE, evOs, dns, dicPairs, List.length_nil, Nat.zero_le, if_true] at ev
  cases ev
  have hp := I.fresh
  exact wpAny_Dict_empty ⟨.ref s.heap.objs.size, _, I.laid (a := s.heap.objs.size) (o := dHO (cn X) s.heap.objs.size t []) (t' := s.toks) (fun _ _ q => Heap.get?_push_of_some _ q) (Nat.le_refl _) (dic_empty s.heap I.big t), rfl,
    k _ F _ ((Ext.refl R).fin (.alloc R.sub hp)) (res_dic R.sub hp Rpk.nil)⟩
end
end L2.PL
end
section
set_option maxRecDepth 100000
/-! PL, part I: calls of defs, built-in calls, methods. -/
namespace L2.PL
open PySem PySem.Spec PyProof.Rows
/-! ### a def's promise -/
def G0 : Gh := ⟨fun _ => none, [], []⟩
def spR (c : Cn) (Φ : Fn) (f np : Nat) : Sp := fun vs H Q _ => vs.length = np ∧ ∃ F as d fr outs, Rel c G0 F (vs.map some) H as ∧ Φ f as = some (d, fr, outs) ∧ outs.length = as.length ∧
  ∀ v F' H', Ext c G0 (vs.map some) F as H F' outs H' → Res c fr F' H' H d v → Q v H'
section
variable {c : Cn} {G : Gh} {σ : St} {F F' H H' : Hp} {ρ ρ' : EV}
theorem args_get : ∀ {ts : List Tok'} {vs : List V} {as : EV}, TokOks c F σ ts vs → argsOf ρ ts = some as → vs.length = ts.length ∧ as.length = ts.length ∧
    ∀ (j : Nat) (s : Sl), as[j]? = some s → ∃ t v, ts[j]? = some t ∧ vs[j]? = some v ∧ TokOk c F σ t v ∧ argOf ρ t = some s
  | [], vs, as, h, e => by
    have h : vs = [] := h
    subst h
    cases e
    exact ⟨rfl, rfl, fun j s e => by simp at e⟩
  | t :: ts, vs, as, h, e => by
    obtain ⟨v, vs', rfl, h1, h2⟩ := h
    unfold argsOf at e
    split at e
    · rename_i s ss e1 e2
      cases e
      obtain ⟨l1, l2, q⟩ := args_get h2 e2
      refine ⟨by simp [l1], by simp [l2], fun j s' e => ?_⟩
      cases j with
      | zero => simp at e; subst e; exact ⟨t, v, rfl, rfl, h1, e1⟩
      | succ j => simp at e; obtain ⟨t', v', q1, q2, q3, q4⟩ := q j s' e; exact ⟨t', v', by simpa using q1, by simpa using q2, q3, q4⟩
    · cases e
theorem lent_mem : ∀ {ts : List Tok'} {j i : Nat} {d : D}, ts[j]? = some (.pk i) → ρ[i]? = some (.own d) → i ∈ lent ρ ts
  | [], j, i, d, h, _ => by simp at h
  | t :: ts, j, i, d, h, e => by
    cases j with
    | zero =>
      simp at h
      subst h
      simp only [lent, e]
      exact List.mem_cons_self
    | succ j =>
      have ih := lent_mem (ts := ts) (j := j) (by simpa using h) e
      cases t with
      | dn _ => exact ih
      | pk m =>
        simp only [lent]
        split
        · exact List.mem_cons_of_mem _ ih
        · exact ih
theorem lent_inj : ∀ {ts : List Tok'} {j k i : Nat} {d : D}, (lent ρ ts).Nodup → ts[j]? = some (.pk i) → ts[k]? = some (.pk i) → ρ[i]? = some (.own d) → j = k
  | [], j, k, i, d, _, h, _, _ => by simp at h
  | t :: ts, j, k, i, d, n, h1, h2, e => by
    cases j with
    | zero =>
      cases k with
      | zero => rfl
      | succ k =>
        simp at h1
        subst h1
        simp only [lent, e] at n
        exact absurd (lent_mem (ts := ts) (j := k) (by simpa using h2) e) (List.nodup_cons.mp n).1
    | succ j =>
      cases k with
      | zero =>
        simp at h2
        subst h2
        simp only [lent, e] at n
        exact absurd (lent_mem (ts := ts) (j := j) (by simpa using h1) e) (List.nodup_cons.mp n).1
      | succ k =>
        have n' : (lent ρ ts).Nodup := by
          cases t with
          | dn _ => exact n
          | pk m =>
            simp only [lent] at n
            split at n
            · exact (List.nodup_cons.mp n).2
            · exact n
        have z : j = k := lent_inj (ts := ts) n' (by simpa using h1) (by simpa using h2) e
        rw [z]
theorem arg_own {t : Tok'} {d : D} (h : argOf ρ t = some (.own d)) : ∃ i, t = .pk i ∧ ρ[i]? = some (.own d) := by
  cases t with
  | dn _ => cases h
  | pk i =>
    refine ⟨i, rfl, ?_⟩
    simp only [argOf] at h
    split at h
    · cases h
    · cases h
    · rename_i s _ _ e; cases h; exact e
    · cases h
theorem arg_sl {t : Tok'} {v : V} {s : Sl} (R : Rel c G F σ H ρ) (h : TokOk c F σ t v) (e : argOf ρ t = some s) : SlOk c F H (some v) s := by
  cases t with
  | dn d => cases e; exact ⟨v, rfl, h⟩
  | pk i =>
    simp only [argOf] at e
    split at e
    · cases e
    · cases e
    · rename_i s' _ _ e'; cases e; exact R.sl i _ _ e' h
    · cases e
theorem args_ow {ts : List Tok'} {vs : List V} {as : EV} (T : TokOks c F σ ts vs) (ea : argsOf ρ ts = some as) {j : Nat} {d : D} {a : Addr} (e1 : as[j]? = some (.own d)) (e2 : (vs.map some)[j]? = some (some (.ref a))) :
    ∃ i, ts[j]? = some (.pk i) ∧ ρ[i]? = some (.own d) ∧ σ[i]? = some (some (.ref a)) := by
  obtain ⟨_, _, q⟩ := args_get T ea
  obtain ⟨t, v, h1, h2, h3, h4⟩ := q j _ e1
  obtain ⟨i, rfl, h5⟩ := arg_own h4
  rw [List.getElem?_map, h2] at e2
  cases e2
  exact ⟨i, h1, h5, h3⟩
theorem args_Ow {ts : List Tok'} {vs : List V} {as : EV} (T : TokOks c F σ ts vs) (ea : argsOf ρ ts = some as) {a : Addr} (h : Ow (vs.map some) as a) : Ow σ ρ a := by
  obtain ⟨j, d, e1, e2⟩ := h
  obtain ⟨i, _, h5, h6⟩ := args_ow T ea e1 e2
  exact ⟨i, d, h5, h6⟩
theorem args_rel {ts : List Tok'} {vs : List V} {as : EV} (R : Rel c G F σ H ρ) (T : TokOks c F σ ts vs) (ea : argsOf ρ ts = some as) (n : (lent ρ ts).Nodup) : Rel c G0 F (vs.map some) H as := by
  obtain ⟨l1, l2, q⟩ := args_get T ea
  refine ⟨R.sub, by rw [List.length_map, l1, l2], fun j s o e1 e2 => ?_, fun j k a d d' e1 e2 e3 e4 => ?_, fun _ _ => .inl rfl, fun _ _ h => (nomatch h), fun p hp => (nomatch hp)⟩
  · obtain ⟨t, v, _, h2, h3, h4⟩ := q j s e1
    rw [List.getElem?_map, h2] at e2
    cases e2
    exact arg_sl R h3 h4
  · obtain ⟨i, h1, h2, h3⟩ := args_ow T ea e1 e3
    obtain ⟨i', h1', h2', h3'⟩ := args_ow T ea e2 e4
    have z := R.dis i i' a d d' h2 h2' h3 h3'
    subst z
    exact lent_inj n h1 h1' h2
theorem back_len {ρ0 : EV} : ∀ (ts : List Tok') (outs ρ : EV), (back ρ0 ts outs ρ).length = ρ.length
  | [], outs, ρ => rfl
  | .dn _ :: ts, [], ρ => rfl
  | .dn _ :: ts, _ :: outs, ρ => back_len ts outs ρ
  | .pk i :: ts, [], ρ => rfl
  | .pk i :: ts, s :: outs, ρ => by
    unfold back
    split
    · rw [back_len ts outs, List.length_set]
    · exact back_len ts outs ρ
theorem lent_own {ρ0 : EV} {m : Nat} {ts : List Tok'} {d : D} (h : ρ0[m]? = some (.own d)) : lent ρ0 (.pk m :: ts) = m :: lent ρ0 ts := by simp only [lent, h]
theorem lent_not {ρ0 : EV} {m : Nat} {ts : List Tok'} (h : ∀ d, ρ0[m]? ≠ some (.own d)) : lent ρ0 (.pk m :: ts) = lent ρ0 ts := by
  rw [lent]
  split
  · exact absurd ‹_› (h _)
  · rfl
theorem back_own {ρ0 ρ outs : EV} {m : Nat} {ts : List Tok'} {d : D} {o : Sl} (h : ρ0[m]? = some (.own d)) : back ρ0 (.pk m :: ts) (o :: outs) ρ = back ρ0 ts outs (ρ.set m o) := by simp only [back, h]
theorem back_not {ρ0 ρ outs : EV} {m : Nat} {ts : List Tok'} {o : Sl} (h : ∀ d, ρ0[m]? ≠ some (.own d)) : back ρ0 (.pk m :: ts) (o :: outs) ρ = back ρ0 ts outs ρ := by
  rw [back]
  split
  · exact absurd ‹_› (h _)
  · rfl
theorem back_get {ρ0 : EV} : ∀ {ts : List Tok'} {outs ρ : EV}, (lent ρ0 ts).Nodup → outs.length = ts.length → ∀ i : Nat, i < ρ.length →
    (i ∉ lent ρ0 ts ∧ (back ρ0 ts outs ρ)[i]? = ρ[i]?) ∨ ∃ (j : Nat) (d : D) (s : Sl), ts[j]? = some (Tok'.pk i) ∧ ρ0[i]? = some (.own d) ∧ outs[j]? = some s ∧ (back ρ0 ts outs ρ)[i]? = some s
  | [], outs, ρ, _, _, i, _ => .inl ⟨by simp [lent], rfl⟩
  | t :: ts, [], ρ, _, h, _, _ => by simp at h
  | .dn _ :: ts, o :: outs, ρ, n, h, i, hi => by
    rcases back_get (ρ0 := ρ0) (ts := ts) (outs := outs) n (by simpa using h) i hi with ⟨q1, q2⟩ | ⟨j, d, s, q1, q2, q3, q4⟩
    · exact .inl ⟨q1, q2⟩
    · exact .inr ⟨j + 1, d, s, by simpa using q1, q2, by simpa using q3, q4⟩
  | .pk m :: ts, o :: outs, ρ, n, h, i, hi => by
    have h' : outs.length = ts.length := by simpa using h
    by_cases hd : ∃ d, ρ0[m]? = some (.own d)
    · obtain ⟨d, hd⟩ := hd
      rw [lent_own hd] at n ⊢
      rw [back_own hd]
      obtain ⟨n1, n2⟩ := List.nodup_cons.mp n
      rcases back_get (ρ0 := ρ0) (ts := ts) (outs := outs) (ρ := ρ.set m o) n2 h' i (by rw [List.length_set]; exact hi) with ⟨q1, q2⟩ | ⟨j, d', s, q1, q2, q3, q4⟩
      · by_cases e : m = i
        · subst e
          rw [List.getElem?_set_self hi] at q2
          exact .inr ⟨0, d, o, rfl, hd, rfl, q2⟩
        · rw [List.getElem?_set_ne e] at q2
          exact .inl ⟨by simp only [List.mem_cons, not_or]; exact ⟨fun z => e z.symm, q1⟩, q2⟩
      · exact .inr ⟨j + 1, d', s, by simpa using q1, q2, by simpa using q3, q4⟩
    · have hd : ∀ d, ρ0[m]? ≠ some (.own d) := fun d e => hd ⟨d, e⟩
      rw [lent_not hd] at n ⊢
      rw [back_not hd]
      rcases back_get (ρ0 := ρ0) (ts := ts) (outs := outs) n h' i hi with ⟨q1, q2⟩ | ⟨j, d, s, q1, q2, q3, q4⟩
      · exact .inl ⟨q1, q2⟩
      · exact .inr ⟨j + 1, d, s, by simpa using q1, q2, by simpa using q3, q4⟩
theorem back_ext {ts : List Tok'} {vs : List V} {as outs : EV} (R : Rel c G F σ H ρ) (T : TokOks c F σ ts vs) (ea : argsOf ρ ts = some as) (n : (lent ρ ts).Nodup) (hl : outs.length = as.length)
    (E : Ext c G0 (vs.map some) F as H F' outs H') : Ext c G σ F ρ H F' (back ρ ts outs ρ) H' := by
  obtain ⟨l1, l2, q⟩ := args_get T ea
  have aw : ∀ {a}, Ow (vs.map some) as a → Ow σ ρ a := args_Ow T ea
  have gb : ∀ i : Nat, i < ρ.length → _ := back_get (ρ0 := ρ) (ts := ts) (outs := outs) (ρ := ρ) n (by rw [hl, l2])
  have lb := back_len (ρ0 := ρ) ts outs ρ
  have wasOwn : ∀ {i : Nat} {d : D}, (back ρ ts outs ρ)[i]? = some (.own d) → ∃ d', ρ[i]? = some (.own d') := fun {i d} e => by
    have hi : i < ρ.length := by rw [← lb]; exact (List.getElem?_eq_some_iff.mp e).1
    rcases gb i hi with ⟨_, q2⟩ | ⟨j, d', s, _, q2, _⟩
    · exact ⟨d, by rw [← q2]; exact e⟩
    · exact ⟨d', q2⟩
  have ow' : ∀ a, Ow σ (back ρ ts outs ρ) a → Ow σ ρ a := fun a ⟨i, d, e1, e2⟩ => by
    obtain ⟨d', e3⟩ := wasOwn e1
    exact ⟨i, d', e3, e2⟩
  refine ⟨E.le, ⟨E.rel.sub, by rw [lb]; exact R.len, fun i s o e1 e2 => ?_, fun i k a d d' e1 e2 e3 e4 => ?_, fun a h => R.new a (ow' a h), fun b o e h => ?_, R.io⟩, fun a o e h => E.fm a o e fun z => h (aw z), fun a h => ?_, ow', E.dm⟩
  · have hi : i < ρ.length := by rw [← lb]; exact (List.getElem?_eq_some_iff.mp e1).1
    rcases gb i hi with ⟨q1, q2⟩ | ⟨j, d', s', q1, q2, q3, q4⟩
    · rw [q2] at e1
      have z := R.sl i s o e1 e2
      cases s with
      | un => exact z
      | val d => obtain ⟨v, z1, z2⟩ := z; exact ⟨v, z1, Rp.le E.le _ _ z2⟩
      | own d =>
        obtain ⟨a, z1, z2, z3⟩ := z
        have no : ¬ Ow (vs.map some) as a := fun ⟨j, d2, w1, w2⟩ => by
          obtain ⟨i2, w3, w4, w5⟩ := args_ow T ea w1 w2
          have z := R.dis i i2 a d d2 e1 w4 (by rw [e2, z1]) w5
          subst z
          exact q1 (lent_mem w3 w4)
        obtain ⟨u, hu, _⟩ := z3.mut
        refine ⟨a, z1, ?_, z3.le E.le (by rw [E.fm a u hu no, hu])⟩
        cases hf : F' a with
        | none => rfl
        | some w =>
          rcases E.gr a (by rw [hf]; exact fun z => nomatch z) with w1 | w1 | w1
          · exact absurd z2 w1
          · exact absurd w1 z3.there
          · exact absurd w1 no
      | lck d =>
        obtain ⟨a, ob, u, z1, z2, z3, z4⟩ := z
        have no : ¬ Ow (vs.map some) as a := fun w => ((aw w).at' R).2.elim fun d' hat => hat.not_frz z3 rfl
        refine ⟨a, ob, u, z1, ?_, E.fm a _ z3 no, z4.le E.le (by rw [upd_same, upd_same])⟩
        cases hf : F' a with
        | none => rfl
        | some w =>
          rcases E.gr a (by rw [hf]; exact fun z => nomatch z) with w1 | w1 | w1
          · exact absurd z2 w1
          · rw [z3] at w1; cases w1
          · exact absurd w1 no
    · rw [q4] at e1
      cases e1
      have hj : j < ts.length := (List.getElem?_eq_some_iff.mp q1).1
      obtain ⟨t, v, h1, h2, h3, h4⟩ := q j as[j] (List.getElem?_eq_getElem (by omega))
      rw [q1] at h1
      cases h1
      have h3 : σ[i]? = some (some v) := h3
      rw [h3] at e2
      cases e2
      exact E.rel.sl j _ _ q3 (by rw [List.getElem?_map, h2]; rfl)
  · obtain ⟨d1, w1⟩ := wasOwn e1
    obtain ⟨d2, w2⟩ := wasOwn e2
    exact R.dis i k a d1 d2 w1 w2 e3 e4
  · have z := R.keep b o e h
    refine E.fm b o z fun w => ?_
    rcases R.new b (aw w) with w1 | w1
    · rw [e] at w1; cases w1
    · exact h w1
  · rcases E.gr a h with w | w | w
    · exact .inl w
    · exact .inr (.inl w)
    · exact .inr (.inr (aw w))
end
section
variable {X : Cx} {Φ : Fn} {G : Gh} {e a b : Expr} {pos : Pos}
theorem call_imp {os : IOs} {i np : Nat} {E : XK} {σ : St} {H : Hp} {Q : VK} (h : tX (cn X) Φ G (.call i os) σ H Q) (hn : ∀ (ρ : EV) (ts : List Tok') (ρ' : EV), evOs Φ G.ioS os ρ = some (ts, ρ') → ts.length = np) : tCall (spR (cn X) Φ i np) [] E (tOs (cn X) Φ G os) σ H Q := by
  obtain ⟨F, ρ, d, fr, ρ', R, ev, k⟩ := h
  simp only [evE] at ev
  split at ev
  · rename_i ts ρ1 ea
    split at ev
    · rename_i nd
      split at ev
      · rename_i as eas
        split at ev
        · rename_i d' fr' outs eΦ
          split at ev
          · rename_i hl
            cases ev
            refine ⟨F, ρ, ts, ρ1, R, ea, fun vs F1 H1 E1 T1 => ?_⟩
            show spR (cn X) Φ i np (vs ++ []) H1 Q E
            rw [List.append_nil]
            refine ⟨by rw [(args_get T1 eas).1]; exact hn ρ ts ρ1 ea, F1, as, d, fr, outs, args_rel E1.rel T1 eas nd, eΦ, hl, fun v F' H' E2 r => ?_⟩
            exact k v F' H' (E1.trans (back_ext E1.rel T1 eas nd hl E2)) (r.back E1.dm)
          · cases ev
        · cases ev
      · cases ev
    · cases ev
  · cases ev
def IOs.len : IOs → Nat
  | .nil => 0
  | .cons _ os => os.len + 1
theorem evOs_len : ∀ (os : IOs) (ρ : EV) (ts : List Tok') (ρ' : EV) {io : List Nat}, evOs Φ io os ρ = some (ts, ρ') → ts.length = os.len
  | .nil, ρ, ts, ρ', io, e => by simp only [evOs] at e; cases e; rfl
  | .cons o os, ρ, ts, ρ', io, e => by
    simp only [evOs] at e
    split at e
    · obtain ⟨⟨ts', ρ2⟩, e1, e2⟩ := Option.map_eq_some_iff.mp e
      cases e2
      rw [List.length_cons, evOs_len os _ _ _ e1]
      rfl
    · cases e
theorem px_call {CX : CXT} {k i np : Nat} {f : Addr} {fd : FuncData} {ps : List Str} {x : Str} {p : Pos} {es : List Expr} {os : IOs} (F : FnOk X.prog X.w X.K X.mg X.base CX k f fd ps (spR (cn X) Φ i np)) (hr : Room k X.A) (hg : Gl X x) (hm : X.mg x = some (.ref f)) (hk : PySem.W.keepIn X.K (.ref f) = true) (hb : Binds X.K fd ps [])
    (hx : Passes CX X E0) (ha : PA X (e :: es) (tOs (cn X) Φ G os)) (hl : os.len = np) (hdb : (x == ("__debug__" : Str)) = false := by decide) (he : starEach (e :: es) X.env = (false, eval e X.env) :: starEach es X.env := by rfl) (hpl : (backTo pos (starEach es X.env)).any (·.1) = false := by rfl) :
    PE X (.Call (.Name x p) (e :: es) [] pos) (tX (cn X) Φ G (.call i os)) :=
  (pe_call F hr hg hm hk hb .nil hx ha hdb he hpl).imp fun σ H Q h => call_imp h fun ρ ts ρ' e => (evOs_len _ _ _ _ e).trans hl
/-! ### built-in calls -/
theorem bi_imp {oa : IO} {bi : Bi} {σ : St} {H : Hp} {Q : VK} (h : tX (cn X) Φ G (.bi bi oa) σ H Q) : tCB (rC X (biD bi)) (tCons (tO (cn X) Φ G oa) tNil) σ H Q := by
  obtain ⟨F, ρ, d, fr, ρ', R, ev, k⟩ := h
  simp only [evE] at ev
  split at ev
  · rename_i tx ρ1 ea
    split at ev
    · rename_i dx ex
      obtain ⟨d', e1, e2⟩ := Option.map_eq_some_iff.mp ev
      cases e2
      exact ⟨F, ρ, tx, _, R, ea, fun x F1 H1 E T => ⟨F1, dx, d, x, rfl, E.rel.sub, T.rsv E.rel ex, e1, fun v F' H' nw res => k v F' H' (E.fin nw) (res.back E.dm)⟩⟩
    · cases ev
  · cases ev
theorem px_biB (bi : Bi) {oa : IO} {x : Str} {p : Pos} {id : String} (hc : CallR X (.builtin id) (rC X (biD bi))) (hg : Gl X x) (hm : X.mg x = none) (hv : bootBuiltins x = some (.builtin id)) (ha : PE X e (tO (cn X) Φ G oa)) (hn : x ≠ "__name__" := by decide) (hdb : (x == ("__debug__" : Str)) = false := by decide)
    (hs : starEach [e] X.env = (false, eval e X.env) :: starEach [] X.env := by rfl) : PE X (.Call (.Name x p) [e] [] pos) (tX (cn X) Φ G (.bi bi oa)) := (pe_callB hc hg hm hv (pa_cons ha pa_nil hs) hn hdb hs).imp fun σ H Q h => bi_imp h
theorem px_biT (bi : Bi) {oa : IO} {x : Str} {p : Pos} {T : String} (hc : CallR X (.type T) (rC X (biD bi))) (hg : Gl X x) (hm : X.mg x = none) (hv : bootBuiltins x = some (.type T)) (ha : PE X e (tO (cn X) Φ G oa)) (hn : x ≠ "__name__" := by decide) (hdb : (x == ("__debug__" : Str)) = false := by decide)
    (hs : starEach [e] X.env = (false, eval e X.env) :: starEach [] X.env := by rfl) : PE X (.Call (.Name x p) [e] [] pos) (tX (cn X) Φ G (.bi bi oa)) := (pe_callTy hc hg hm hv (pa_cons ha pa_nil hs) hn hdb hs).imp fun σ H Q h => bi_imp h
theorem px_isi (ty : Ty) {oa : IO} {p p' : Pos} (hg : Gl X "isinstance") (hm : X.mg "isinstance" = none) (hv : bootBuiltins "isinstance" = some (.builtin "isinstance")) {x : Str} (hgx : Gl X x) (hmx : X.mg x = none) (hvx : bootBuiltins x = some (.type (tyS ty))) (ha : PE X e (tO (cn X) Φ G oa))
    (hn : x ≠ "__name__" := by decide) (hdb : (x == ("__debug__" : Str)) = false := by decide) (hs : starEach [e, .Name x p'] X.env = (false, eval e X.env) :: starEach [.Name x p'] X.env := by rfl) (hpl : (backTo pos (starEach [.Name x p'] X.env)).any (·.1) = false := by rfl) :
    PE X (.Call (.Name "isinstance" p) [e, .Name x p'] [] pos) (tX (cn X) Φ G (.bi (.isi ty) oa)) :=
  (pe_callB (cr_is ty) hg hm hv (pa_cons ha (pa_cons (pe_bltn (v := .ty (tyS ty)) hgx hmx hvx rfl hn hdb) pa_nil) hs) (he := hs) (hpl := hpl)).imp fun σ H Q ⟨F, ρ, d, fr, ρ', R, ev, k⟩ => by
  simp only [evE] at ev
  split at ev
  · rename_i tx ρ1 ea
    split at ev
    · rename_i dx ex
      cases ev
      exact ⟨F, ρ, tx, _, R, ea, fun x F1 H1 E T => ⟨F1, dx, x, rfl, E.rel.sub, T.rsv E.rel ex, k _ F1 H1 E (.fl (rp_bl _))⟩⟩
    · cases ev
  · cases ev
/-! ### views -/
theorem Dic.upd {H : Hp} {a p : Addr} {t : Bool} {ns : List Ent} {o : HO} (d : Dic X H a t ns) (hp : H p = none) : Dic X (upd H p o) a t ns := by
  have l : Le H (L2.upd H p o) := Le.upd hp
  exact ⟨Rd.le l d.rd, fun n hn => ⟨(d.ks n hn).1, RpKey.le l _ _ (d.ks n hn).2⟩⟩
theorem view_imp {O : Addr → Addr → HO} {bi : Bi} {f : List (NestedKey × D) → Option D} (hbi : ∀ dx d, biD bi dx = some d → ∃ t kvs, dx = .dic t kvs ∧ f kvs = some d) {oa : IO} {σ : St} {H : Hp} {Q : VK} (h : tX (cn X) Φ G (.bi bi oa) σ H Q) :
    tCB (rLV X O f) (tCons (tDM0 X (fun x xs H Q => isDic X x H ∧ rView X O x xs H Q) (tO (cn X) Φ G oa)) tNil) σ H Q := by
  obtain ⟨F, ρ, d, fr, ρ', R, ev, k⟩ := h
  simp only [evE] at ev
  split at ev
  · rename_i tx ρ1 ea
    split at ev
    · rename_i dx ex
      obtain ⟨d', e1, e2⟩ := Option.map_eq_some_iff.mp ev
      cases e2
      obtain ⟨t, kvs, rfl, e3⟩ := hbi _ _ e1
      refine ⟨F, ρ, tx, _, R, ea, fun x F1 H1 E T => ?_⟩
      obtain ⟨a, ns, rfl, da, ra⟩ := (T.rsv E.rel ex).dic E.rel.sub
      refine ⟨⟨a, t, ns, rfl, da⟩, ⟨a, t, ns, rfl, da⟩, a, rfl, rfl, fun p hp => ?_⟩
      have nw : Nw F1 H1 F1 (upd H1 p (O p a)) := .alloc E.rel.sub hp
      exact ⟨F1, p, a, t, ns, kvs, d, rfl, upd_same, da.upd hp, nw.sub, ra, e3, fun v F' H' nw2 res => k v F' H' (E.fin (nw.trans nw2)) (res.back fun a ha => ((E.fin nw).dm a ha))⟩
    · cases ev
  · cases ev
theorem px_litems {oa : IO} {p apos cpos : Pos} (hc : X.calm = true) (hg : Gl X "list") (hm : X.mg "list" = none) (hv : bootBuiltins "list" = some (.type "list")) (ha : PE X a (tO (cn X) Φ G oa))
    (hbase : attributeBase a "items" X.env (eval a X.env) = eval a X.env := by rfl) (hline : (apos.endLine == cpos.line) = true := by rfl) : PE X (.Call (.Name "list" p) [.Call (.Attribute a "items" apos) [] [] cpos] [] pos) (tX (cn X) Φ G (.bi .litems oa)) :=
  (pe_callTy (cr_litems hc) hg hm hv (pa_cons (pe_dm0 PySem.F.slot_dict_items PySem.F.type_dict_items dm_items ha hbase hline) pa_nil)).imp fun σ H Q h => view_imp (fun dx d e => by
    cases dx with
    | dic t kvs => exact ⟨t, kvs, rfl, e⟩
    | _ => cases e) h
theorem px_lvals {oa : IO} {p apos cpos : Pos} (hc : X.calm = true) (hg : Gl X "list") (hm : X.mg "list" = none) (hv : bootBuiltins "list" = some (.type "list")) (ha : PE X a (tO (cn X) Φ G oa))
    (hbase : attributeBase a "values" X.env (eval a X.env) = eval a X.env := by rfl) (hline : (apos.endLine == cpos.line) = true := by rfl) : PE X (.Call (.Name "list" p) [.Call (.Attribute a "values" apos) [] [] cpos] [] pos) (tX (cn X) Φ G (.bi .lvals oa)) :=
  (pe_callTy (cr_lvals hc) hg hm hv (pa_cons (pe_dm0 PySem.F.slot_dict_values PySem.F.type_dict_values dm_values ha hbase hline) pa_nil)).imp fun σ H Q h => view_imp (fun dx d e => by
    cases dx with
    | dic t kvs => exact ⟨t, kvs, rfl, e⟩
    | _ => cases e) h
theorem px_svals {oa : IO} {p apos cpos : Pos} (hc : X.calm = true) (hg : Gl X "sum") (hm : X.mg "sum" = none) (hv : bootBuiltins "sum" = some (.builtin "sum")) (ha : PE X a (tO (cn X) Φ G oa))
    (hbase : attributeBase a "values" X.env (eval a X.env) = eval a X.env := by rfl) (hline : (apos.endLine == cpos.line) = true := by rfl) : PE X (.Call (.Name "sum" p) [.Call (.Attribute a "values" apos) [] [] cpos] [] pos) (tX (cn X) Φ G (.bi .svals oa)) :=
  (pe_callB (cr_svals hc) hg hm hv (pa_cons (pe_dm0 PySem.F.slot_dict_values PySem.F.type_dict_values dm_values ha hbase hline) pa_nil)).imp fun σ H Q h => view_imp (fun dx d e => by
    cases dx with
    | dic t kvs => exact ⟨t, kvs, rfl, e⟩
    | _ => cases e) h
end
end L2.PL
end
section
set_option maxRecDepth 100000
/-! PL, part J: methods, dict displays, what is walked. -/
namespace L2.PL
open PySem PySem.Spec PyProof.Rows
section
variable {X : Cx} {Φ : Fn} {G : Gh} {e a b : Expr} {pos : Pos}
/-! ### methods that change nothing -/
def rMt (X : Cx) (m : Mt) : V → List V → Hp → VK → Prop := fun x xs H Q => ∃ F dx ds d, Le F H ∧ Rt (cn X) F H dx x ∧ Rps (cn X) F ds xs ∧ mtD m dx ds = some d ∧ ∀ v, Rp (cn X) F d v → Q v H
theorem key_flat {d : D} {k : NestedKey} (h : keyOf d = some k) : isCont d = false := by cases d <;> first | rfl | (simp [keyOf] at h)
theorem look_getD {F : Hp} {t : Bool} {kvs : List (NestedKey × D)} {ns : List Ent} {k : NestedKey} {x : D} {v : V} (r : Rpk (cn X) F t kvs ns) (rx : Rp (cn X) F x v) : Rp (cn X) F ((look kvs k).getD x) ((nlook ns k).getD v) := by
  cases h : look kvs k with
  | none => rw [(r.look (k := k)).2 h]; exact rx
  | some d => obtain ⟨w, e, q⟩ := (r.look (k := k)).1 d h; rw [e]; exact q
theorem dm_get (hu : X.A.units + 64 < cLine) : DMt X "dict.get" (rMt X .get) := by
  intro pins s σ H x xs v us Q I rx rxs h
  obtain ⟨F, dx, ds, d, l, hx, hds, e, k⟩ := h
  cases dx with
  | dic t kvs =>
    obtain ⟨a, ns, rfl, da, ra⟩ := hx.dic l
    obtain rfl : v = Value.ref a := rx
    match ds, hds, e with
    | [kd], hds, e =>
      rw [Rps] at hds
      obtain ⟨kv, vs', rfl, rk, hds⟩ := hds
      rw [Rps] at hds
      subst hds
      obtain ⟨u, rfl, ru⟩ := vals1 rxs
      simp only [mtD] at e
      split at e
      · rename_i key hk
        split at e
        · rename_i ok
          cases e
          exact g_get1 (by omega) I da (keyOk_of ok) (RpKey.le l _ _ (rpKey_of rk hk)) ru fun w' s' I' r' => ⟨_, H, I', r', k _ (look_getD ra rp_non)⟩
        · cases e
      · cases e
    | [kd, xd], hds, e =>
      rw [Rps] at hds
      obtain ⟨kv, vs', rfl, rk, hds⟩ := hds
      rw [Rps] at hds
      obtain ⟨xv, vs', rfl, rx2, hds⟩ := hds
      rw [Rps] at hds
      subst hds
      obtain ⟨u, w, rfl, ru, rw'⟩ := vals2 rxs
      simp only [mtD] at e
      split at e
      · rename_i key hk
        split at e
        · rename_i ok
          cases e
          exact g_get2 (by omega) I da (keyOk_of ok) (RpKey.le l _ _ (rpKey_of rk hk)) ru rw' fun w' s' I' r' => ⟨_, H, I', r', k _ (look_getD ra rx2)⟩
        · cases e
      · cases e
    | [], _, e => simp [mtD] at e
    | _ :: _ :: _ :: _, _, e => simp [mtD] at e
  | _ => simp [mtD] at e
theorem px_get {oa : IO} {es : List Expr} {os : IOs} {apos cpos : Pos} (hu : X.A.units + 64 < cLine) (ho : PE X a (tO (cn X) Φ G oa)) (ha : PA X (e :: es) (tOs (cn X) Φ G os))
    (hbase : attributeBase a "get" X.env (eval a X.env) = eval a X.env := by rfl)
    (hfew : ((backTo cpos (starEach (e :: es) X.env)).all (fun x => !x.1) && (backToKw cpos (keywordEach [] X.env)).all (fun x => x.1.isSome)
      && decide ((e :: es).length + ([] : List Keyword).length + (if ([] : List Keyword).isEmpty then 0 else 1) < 30)) = true := by rfl)
    (hline : (apos.endLine == cpos.line) = true := by rfl) (hs : starEach (e :: es) X.env = (false, eval e X.env) :: starEach es X.env := by rfl) (hplain : (backTo cpos (starEach es X.env)).any (·.1) = false := by rfl) :
    PE X (.Call (.Attribute a "get" apos) (e :: es) [] cpos) (tX (cn X) Φ G (.mt .get oa os)) :=
  (pe_dm PySem.F.slot_dict_get PySem.F.type_dict_get (dm_get hu) ho ha hbase hfew hline hs hplain).imp fun σ H Q ⟨F, ρ, d, fr, ρ', R, ev, k⟩ => by
  simp only [evE] at ev
  split at ev
  · rename_i tx ρ1 ea
    split at ev
    · rename_i t0 kvs0 ex0
      split at ev
      · rename_i ts ρ2 eb
        split at ev
        · rename_i dx ds ex eds
          obtain ⟨d', e1, e2⟩ := Option.map_eq_some_iff.mp ev
          cases e2
          refine ⟨F, ρ, tx, ρ1, R, ea, fun x F1 H1 E1 T => ⟨?_, F1, ρ1, ts, _, E1.rel, eb, fun xs F2 H2 E2 Ts => ⟨F2, dx, ds, d, E2.rel.sub, (T.le E2.le).rsv E2.rel ex, Ts.dns eds, e1, fun v r => k v F2 H2 (E1.trans E2) (.fl r)⟩⟩⟩
          obtain ⟨a', ns, rfl, da, _⟩ := (T.rsv E1.rel ex0).dic E1.rel.sub
          exact ⟨a', t0, ns, rfl, da⟩
        · cases ev
      · cases ev
    · cases ev
  · cases ev
/-! ### methods that change a slot's own object -/
def rMu (X : Cx) (m : Mu) : V → List V → Hp → VK → Prop := fun x xs H Q => ∃ F d ds a d1 d2, x = .ref a ∧ F a = none ∧ Le F H ∧ At (cn X) F H a d ∧ Rps (cn X) F ds xs ∧ muD m d ds = some (d1, d2) ∧
  ∀ v u, At (cn X) F (upd H a u) a d2 → Rp (cn X) F d1 v → Q v (upd H a u)
theorem mu_append : MtM X "list.append" (rMu X .append) := by
  intro pins s σ H x xs v us Q I rx rxs h
  obtain ⟨F, d, ds, a, d1, d2, rfl, hf, l, hat, hds, e, k⟩ := h
  unfold muD at e
  split at e <;> first | contradiction | (cases e; done) | skip
  · rename_i vs y
    split at e
    · rename_i hz
      cases e
      obtain ⟨ws, eH, rw'⟩ := hat
      rw [Rps] at hds
      obtain ⟨yv, vs', rfl, ry, hds⟩ := hds
      rw [Rps] at hds
      subst hds
      exact mt_append pins s σ H _ _ v us Q I rx rxs ⟨a, ws, yv, rfl, rfl, eH, by rw [← rw'.length, ← big_line]; exact hz, k _ _ ⟨_, upd_same, rw'.append (Rps.cons ry Rps.nil)⟩ rp_non⟩
    · cases e
theorem Rps.dropLast {c : Cn} {F : Hp} {ds : List D} {vs : List V} (h : Rps c F ds vs) : Rps c F ds.dropLast vs.dropLast := by
  rw [List.dropLast_eq_take, List.dropLast_eq_take, h.length]
  exact h.take _
theorem mu_pop : MtM X "list.pop" (rMu X .pop) := by
  intro pins s σ H x xs v us Q I rx rxs h
  obtain ⟨F, d, ds, a, d1, d2, rfl, hf, l, hat, hds, e, k⟩ := h
  unfold muD at e
  split at e <;> first | contradiction | (cases e; done) | skip
  · rename_i vs
    split at e
    · rename_i y hy
      cases e
      obtain ⟨ws, eH, rw'⟩ := hat
      rw [Rps] at hds
      subst hds
      rw [rw'.length] at hy
      obtain ⟨yv, h1, h2⟩ := rw'.get hy
      exact mt_pop pins s σ H _ _ v us Q I rx rxs ⟨a, ws, yv, rfl, rfl, eH, h1, k _ _ ⟨_, upd_same, rw'.dropLast⟩ h2⟩
    · cases e
theorem mu_reverse : MtM X "list.reverse" (rMu X .reverse) := by
  intro pins s σ H x xs v us Q I rx rxs h
  obtain ⟨F, d, ds, a, d1, d2, rfl, hf, l, hat, hds, e, k⟩ := h
  unfold muD at e
  split at e <;> first | contradiction | (cases e; done) | skip
  · cases e
    obtain ⟨ws, eH, rw'⟩ := hat
    rw [Rps] at hds
    subst hds
    exact mt_reverse pins s σ H _ _ v us Q I rx rxs ⟨a, ws, rfl, rfl, eH, k _ _ ⟨_, upd_same, rw'.rev⟩ rp_non⟩
theorem upd_self {H : Hp} {a : Addr} {o : HO} (h : H a = some o) : upd H a o = H := by
  funext b
  by_cases e : b = a
  · subst e; rw [upd_same, h]
  · rw [upd_ne e]
theorem dm_setdefault (hu : X.A.units + 64 < cLine) : DMt X "dict.setdefault" (rMu X .setdefault) := by
  intro pins s σ H x xs v us Q I rx rxs h
  obtain ⟨F, d, ds, a, d1, d2, rfl, hf, l, hat, hds, e, k⟩ := h
  unfold muD at e
  split at e <;> first | contradiction | (cases e; done) | skip
  · rename_i t kvs kd xd _
    rw [Rps] at hds
    obtain ⟨kv, vs', rfl, rk, hds⟩ := hds
    rw [Rps] at hds
    obtain ⟨xv, vs', rfl, rx2, hds⟩ := hds
    rw [Rps] at hds
    subst hds
    obtain ⟨u, w, rfl, ru, rw'⟩ := vals2 rxs
    obtain rfl : v = Value.ref a := rx
    split at e
    · rename_i key hk
      split at e
      · rename_i ok
        rw [Bool.and_eq_true, decide_eq_true_eq] at ok
        obtain ⟨ns, eH, ra⟩ := hat
        refine g_setdefault (by omega) I eH (ra.keys l) (keyOk_of ok.1) (RpKey.le l _ _ (rpKey_of rk hk)) ru rw' (by rw [← ra.length, ← big_line]; exact ok.2) (fun y w' s' hy I' r' => ?_) fun w' s' hn I' r' => ?_
        · cases hl : look kvs key with
          | none => rw [(ra.look (k := key)).2 hl] at hy; cases hy
          | some dv =>
            rw [hl] at e
            cases e
            obtain ⟨yv, h1, h2⟩ := (ra.look (k := key)).1 _ hl
            rw [h1] at hy
            cases hy
            have z := k y (dHO (cn X) a t ns) ⟨ns, upd_same, ra⟩ h2
            rw [upd_self eH] at z
            exact ⟨y, H, I', r', z⟩
        · cases hl : look kvs key with
          | some dv =>
            obtain ⟨yv, h1, h2⟩ := (ra.look (k := key)).1 _ hl
            rw [h1] at hn
            cases hn
          | none =>
            rw [hl] at e
            cases e
            exact ⟨_, _, I', r', k _ _ ⟨_, upd_same, ra.put (keyOk_of ok.1) (rpKey_of rk hk) rx2⟩ rx2⟩
      · cases e
    · cases e
theorem mu_imp {m : Mu} {i : Nat} {os : IOs} {σ : St} {H : Hp} {Q : VK} {ty : V → Hp → Prop} (hty : ∀ F H a d, muTy m d = true → Le F H → At (cn X) F H a d → ty (.ref a) H) (h : tX (cn X) Φ G (.mu m i os) σ H Q) :
    (fun σ H Q => tVar i σ H fun x H1 => ty x H1 ∧ tOs (cn X) Φ G os σ H1 fun xs H2 => rMu X m x xs H2 Q : TE) σ H Q := by
  obtain ⟨F, ρ, d, fr, ρ', R, ev, k⟩ := h
  simp only [evE] at ev
  split at ev
  · rename_i d0 e0
    split at ev
    · rename_i hm
      split at ev
      · rename_i ts ρ1 ea
        split at ev
        · rename_i d1 ds e1 eds
          obtain ⟨⟨y, d2⟩, e2, e3⟩ := Option.map_eq_some_iff.mp ev
          cases e3
          obtain ⟨o, es, a, rfl, hf, hat⟩ := R.at' e0
          refine ⟨.ref a, es, hty F H a d0 hm R.sub hat, F, ρ, ts, ρ1, R, ea, fun xs F1 H1 E1 T => ?_⟩
          obtain ⟨a', q1, hf1, hat1⟩ := E1.rel.sl i _ _ e1 es
          cases q1
          exact ⟨F1, d1, ds, a, y, d2, rfl, hf1, E1.rel.sub, hat1, T.dns eds, e2, fun v u ha hv => k v F1 _ (E1.trans (Ext.change E1.rel e1 es ha)) (.fl hv)⟩
        · cases ev
      · cases ev
    · cases ev
  · cases ev
theorem ty_list {m : Mu} (hm : m ≠ .setdefault) {F H : Hp} {a : Addr} {d : D} (h : muTy m d = true) (l : Le F H) (hat : At (cn X) F H a d) : tyV X.K "list" (.ref a) H := by
  cases d with
  | lst xs => obtain ⟨vs, e, _⟩ := hat; exact .inl ⟨rfl, vs, SqL.of e⟩
  | _ => cases m <;> first | (cases h; done) | exact absurd rfl hm
theorem ty_dic {F H : Hp} {a : Addr} {d : D} (h : muTy .setdefault d = true) (l : Le F H) (hat : At (cn X) F H a d) : isDic X (.ref a) H := by
  cases d with
  | dic t kvs => obtain ⟨ns, e, ra⟩ := hat; exact ⟨a, t, ns, rfl, .inl e, ra.keys l⟩
  | _ => cases h
section
variable {x : Str} {p apos cpos : Pos} {es : List Expr} {os : IOs}
theorem px_append (i : Nat) (hN : X.N[i]? = some x) (hv : Vis X.env.scope x) (ha : PA X [e] (tOs (cn X) Φ G os)) (hd : (x == ("__debug__" : Str)) = false := by decide) (hcd : (x == ("__classdict__" : Str)) = false := by decide)
    (hbase : attributeBase (.Name x p) "append" X.env (eval (.Name x p) X.env) = eval (.Name x p) X.env := by rfl)
    (hfew : ((backTo cpos (starEach [e] X.env)).all (fun x => !x.1) && (backToKw cpos (keywordEach [] X.env)).all (fun x => x.1.isSome)
      && decide (([e] : List Expr).length + ([] : List Keyword).length + (if ([] : List Keyword).isEmpty then 0 else 1) < 30)) = true := by rfl)
    (hline : (apos.endLine == cpos.line) = true := by rfl) (hs : starEach [e] X.env = (false, eval e X.env) :: starEach [] X.env := by rfl) (hplain : (backTo cpos (starEach [] X.env)).any (·.1) = false := by rfl) :
    PE X (.Call (.Attribute (.Name x p) "append" apos) [e] [] cpos) (tX (cn X) Φ G (.mu .append i os)) :=
  (pe_bm PySem.F.plainAttrs_list PySem.F.slot_list_append PySem.F.type_list_append mu_append (pe_var hN hv hd hcd) ha hbase hfew hline hs hplain).imp fun σ H Q h => mu_imp (fun F H a d => ty_list (by intro z; cases z)) h
theorem nil_os {i : Nat} {m : Mu} {ty : V → Hp → Prop} {σ : St} {H : Hp} {Q : VK} (h : (fun σ H Q => tVar i σ H fun x H1 => ty x H1 ∧ tOs (cn X) Φ G .nil σ H1 fun xs H2 => rMu X m x xs H2 Q : TE) σ H Q) :
    (fun σ H Q => tVar i σ H fun x H1 => ty x H1 ∧ rMu X m x [] H1 Q : TE) σ H Q := by
  obtain ⟨v, e, h1, F, ρ, ts, ρ', R, ev, k⟩ := h
  simp only [evOs] at ev
  cases ev
  exact ⟨v, e, h1, k [] F H (.refl R) rfl⟩
theorem px_pop (i : Nat) (hN : X.N[i]? = some x) (hv : Vis X.env.scope x) (hd : (x == ("__debug__" : Str)) = false := by decide) (hcd : (x == ("__classdict__" : Str)) = false := by decide)
    (hbase : attributeBase (.Name x p) "pop" X.env (eval (.Name x p) X.env) = eval (.Name x p) X.env := by rfl) (hline : (apos.endLine == cpos.line) = true := by rfl) :
    PE X (.Call (.Attribute (.Name x p) "pop" apos) [] [] cpos) (tX (cn X) Φ G (.mu .pop i .nil)) :=
  (pe_bm0 PySem.F.plainAttrs_list PySem.F.slot_list_pop PySem.F.type_list_pop mu_pop (pe_var hN hv hd hcd) hbase hline).imp fun σ H Q h => nil_os (mu_imp (fun F H a d => ty_list (by intro z; cases z)) h)
theorem px_reverse (i : Nat) (hN : X.N[i]? = some x) (hv : Vis X.env.scope x) (hd : (x == ("__debug__" : Str)) = false := by decide) (hcd : (x == ("__classdict__" : Str)) = false := by decide)
    (hbase : attributeBase (.Name x p) "reverse" X.env (eval (.Name x p) X.env) = eval (.Name x p) X.env := by rfl) (hline : (apos.endLine == cpos.line) = true := by rfl) :
    PE X (.Call (.Attribute (.Name x p) "reverse" apos) [] [] cpos) (tX (cn X) Φ G (.mu .reverse i .nil)) :=
  (pe_bm0 PySem.F.plainAttrs_list PySem.F.slot_list_reverse PySem.F.type_list_reverse mu_reverse (pe_var hN hv hd hcd) hbase hline).imp fun σ H Q h => nil_os (mu_imp (fun F H a d => ty_list (by intro z; cases z)) h)
theorem px_setdefault (i : Nat) (hu : X.A.units + 64 < cLine) (hN : X.N[i]? = some x) (hv : Vis X.env.scope x) (ha : PA X (e :: es) (tOs (cn X) Φ G os)) (hd : (x == ("__debug__" : Str)) = false := by decide) (hcd : (x == ("__classdict__" : Str)) = false := by decide)
    (hbase : attributeBase (.Name x p) "setdefault" X.env (eval (.Name x p) X.env) = eval (.Name x p) X.env := by rfl)
    (hfew : ((backTo cpos (starEach (e :: es) X.env)).all (fun x => !x.1) && (backToKw cpos (keywordEach [] X.env)).all (fun x => x.1.isSome)
      && decide ((e :: es).length + ([] : List Keyword).length + (if ([] : List Keyword).isEmpty then 0 else 1) < 30)) = true := by rfl)
    (hline : (apos.endLine == cpos.line) = true := by rfl) (hs : starEach (e :: es) X.env = (false, eval e X.env) :: starEach es X.env := by rfl) (hplain : (backTo cpos (starEach es X.env)).any (·.1) = false := by rfl) :
    PE X (.Call (.Attribute (.Name x p) "setdefault" apos) (e :: es) [] cpos) (tX (cn X) Φ G (.mu .setdefault i os)) :=
  (pe_dm PySem.F.slot_dict_setdefault PySem.F.type_dict_setdefault (dm_setdefault hu) (pe_var hN hv hd hcd) ha hbase hfew hline hs hplain).imp fun σ H Q h => mu_imp (fun F H a d => ty_dic) h
end
end
end L2.PL
end
section
set_option maxRecDepth 100000
/-! PL, part K: targets, what is walked, comprehensions, dict displays. -/
namespace L2.PL
open PySem PySem.Spec PyProof.Rows
section
variable {c : Cn} {G : Gh} {σ : St} {F F' H H' : Hp} {ρ ρ' : EV} {a : Addr}
theorem Ext.poke {o : HO} (R0 : Rel c G F σ H ρ) (E : Ext c G σ F ρ H F' ρ' H') (hn : H a = none) (hf : F' a = none) (th : H' a ≠ none) (nfz : ∀ ob w, H' a ≠ some (.frz ob w)) : Ext c G σ F ρ H F' ρ' (upd H' a o) := by
  have no : ¬ Ow σ ρ' a := fun z => (E.ow a z).there R0 hn
  refine ⟨E.le, ⟨fun b u e => ?_, E.rel.len, fun i s o' e1 e2 => ?_, E.rel.dis, E.rel.new, fun b u e h => ?_, E.rel.io⟩, fun b u e n => ?_, E.gr, E.ow, fun b h => ?_⟩
  · rw [upd_ne (ne_of_none e hf)]; exact E.rel.sub b u e
  · have q := E.rel.sl i s o' e1 e2
    cases s with
    | un => exact q
    | val d => exact q
    | own d =>
      obtain ⟨b, q1, q2, q3⟩ := q
      have nb : b ≠ a := fun z => no ⟨i, d, e1, by rw [e2, q1, z]⟩
      exact ⟨b, q1, q2, q3.le (Le.refl _) (upd_ne nb)⟩
    | lck d =>
      obtain ⟨b, ob, w, q1, q2, q3, q4⟩ := q
      have nb : b ≠ a := fun z => by subst z; exact nfz ob w q3
      exact ⟨b, ob, w, q1, q2, by rw [upd_ne nb]; exact q3, q4.le (Le.refl _) (by rw [upd_same, upd_same])⟩
  · have z := R0.keep b u e h
    rw [upd_ne (fun w => by rw [w, hn] at z; cases z)]
    exact E.rel.keep b u e h
  · rw [upd_ne (ne_of_none e hn)]; exact E.fm b u e n
  · by_cases z : b = a
    · subst z; rw [upd_same]; exact fun z => nomatch z
    · rw [upd_ne z]; exact E.dm b h
/-! ### targets -/
def tG (c : Cn) (G : Gh) (g : IG) : TG := fun v σ H Q => ∃ F ρ d ρ', Rel c G F σ H ρ ∧ Rp c F d v ∧ asg G.ioS g d ρ = some ρ' ∧ ∀ σ', Rel c G F σ' H ρ' → (∀ i, i ∉ tgts g → σ'[i]? = σ[i]?) → σ'.length = σ.length → Q σ' H
def tGs (c : Cn) (G : Gh) (is : List Nat) : TGs := fun vs σ H Q => ∃ F ρ ds ρ', Rel c G F σ H ρ ∧ Rps c F ds vs ∧ asgs G.ioS is ds ρ = some ρ' ∧ ∀ σ', Rel c G F σ' H ρ' → (∀ i, i ∉ is → σ'[i]? = σ[i]?) → σ'.length = σ.length → Q σ' H
theorem okTo_of {ρ : EV} {i : Nat} (h : okTo ρ G.ioS i = true) : i < ρ.length ∧ ∀ p ∈ G.io, p.1 ≠ i := by
  unfold okTo at h
  rw [Bool.and_eq_true, decide_eq_true_eq] at h
  refine ⟨h.1, fun p hp e => ?_⟩
  have : G.ioS.contains i = true := by
    rw [List.contains_iff_mem]
    exact List.mem_map.mpr ⟨p, hp, e⟩
  rw [this] at h
  exact absurd h.2 (by simp)
theorem Rel.storeV {i : Nat} {d : D} {v : V} (R : Rel c G F σ H ρ) (h : okTo ρ G.ioS i = true) (r : Rp c F d v) : Rel c G F (σ.set i (some v)) H (ρ.set i (.val d)) :=
  R.store (okTo_of h).1 (okTo_of h).2 ⟨v, rfl, r⟩ fun d e => nomatch e
end
section
variable {X : Cx} {G : Gh} {pos : Pos}
theorem pg_nm {i : Nat} {x : Str} (hN : X.N.Nodup) (hi : X.N[i]? = some x) (hx : Loc X.env.scope x) (hf : X.fn x = true ∨ X.env.scope.names.lookup x = some .local) : PG X (.Name x pos) (tG (cn X) G (.nm i)) :=
  (pg_name hN hi hx hf).imp fun v σ H Q ⟨F, ρ, d, ρ', R, rp, e, k⟩ => by
  simp only [asg] at e
  split at e
  · rename_i h
    cases e
    exact k _ (R.storeV h rp) (fun j hj => List.getElem?_set_ne (fun z => hj (by rw [← z]; exact List.mem_singleton.mpr rfl))) (List.length_set ..)
  · cases e
theorem pgs_no : PGs X [] (tGs (cn X) G []) := ⟨fun pins s σ H vs us Q I r ⟨F, ρ, ds, ρ', R, rp, e, k⟩ => by
  cases ds with
  | cons d ds => simp [asgs] at e
  | nil =>
    simp only [asgs] at e
    cases e
    rw [Rps] at rp
    exact pgs_nil.run pins s σ H vs us Q I r ⟨rp, k σ R (fun _ _ => rfl) rfl⟩⟩
theorem pgs_nm {i : Nat} {is : List Nat} {x : Str} {p : Pos} {es : List Expr} (hN : X.N.Nodup) (hi : X.N[i]? = some x) (hx : Loc X.env.scope x) (hf : X.fn x = true ∨ X.env.scope.names.lookup x = some .local) (h : PGs X es (tGs (cn X) G is))
    (hs : (assignEach (.Name x p :: es) X.env).map (·.2) = assign (.Name x p) X.env :: (assignEach es X.env).map (·.2) := by rfl) : PGs X (.Name x p :: es) (tGs (cn X) G (i :: is)) :=
  ⟨fun pins s σ H vs us Q I r ⟨F, ρ, ds, ρ', R, rp, e, k⟩ => by
  cases ds with
  | nil => simp [asgs] at e
  | cons d ds =>
    simp only [asgs] at e
    split at e
    · rename_i ho
      rw [Rps] at rp
      obtain ⟨v, vs', rfl, r1, r2⟩ := rp
      refine (pgs_cons (pg_name hN hi hx hf) h hs).run pins s σ H _ us Q I r ⟨v, vs', rfl, F, _, ds, ρ', R.storeV ho r1, r2, e, fun σ' R' h1 h2 => k σ' R' (fun j hj => ?_) (by rw [h2, List.length_set])⟩
      rw [List.mem_cons, not_or] at hj
      rw [h1 j hj.2, List.getElem?_set_ne (Ne.symm hj.1)]
    · cases e⟩
theorem pg_tp {es : List Expr} {k : Nat} {is : List Nat} (hc : X.calm = true) (h : PGs X es (tGs (cn X) G is))
    (hn : (assignEach es X.env).length = is.length := by rfl) (hst : (assignEach es X.env).findIdx? (·.1) = none := by rfl) : PG X (.Tuple es k pos) (tG (cn X) G (.tp is)) :=
  (pg_tup hc h hn hst).imp fun v σ H Q ⟨F, ρ, d, ρ', R, rp, e, k⟩ => by
  cases d with
  | tup ds =>
    simp only [asg] at e
    split at e
    · rename_i hl
      rw [Rp] at rp
      obtain ⟨a, vs, rfl, sq, rs⟩ := rp
      exact ⟨a, vs, rfl, sqT_le R.sub sq, by rw [← rs.length, hl], F, ρ, ds, ρ', R, rs, e, k⟩
    · cases e
  | _ => simp [asg] at e
end
/-! ### what is walked -/
structure Wk (c : Cn) (F : Hp) (L : List (Addr × HO)) (items : List D) (J : It) : Prop where
  go : ∀ (i : Nat) (H : Hp), Le F H → (∀ p ∈ L, H p.1 = some p.2) → i < items.length → J.go i H
  stop : ∀ (i : Nat) (H : Hp), Le F H → (∀ p ∈ L, H p.1 = some p.2) → items.length ≤ i → J.stop i H
  yld : ∀ (i : Nat) (H : Hp) (x : V) (H' : Hp), Le F H → (∀ p ∈ L, H p.1 = some p.2) → J.yld i H x H' → i < items.length → H' = H ∧ ∃ d, items[i]? = some d ∧ Rp c F d x
def wI (c : Cn) (Φ : Fn) (G : Gh) (ii : II) : TI := fun σ H R => ∃ F ρ items ρ', Rel c G F σ H ρ ∧ evI Φ G.ioS ii ρ = some (items, ρ') ∧ ∀ J L F' H', Ext c G σ F ρ H F' ρ' H' → Wk c F' L items J → (∀ p ∈ L, H' p.1 = some p.2 ∧ ¬ Ow σ ρ' p.1) → (ii.isL = false → L = []) → R J H'
/-- the keys of a frozen dict -/
def Itn (c : Cn) (d : Addr) (o : Obj) (t : Bool) (ns : List Ent) : It :=
  ⟨fun i H => H d = some (.frz o (dHO c d t ns)) ∧ (∀ n ∈ ns, KeyOk t n.1 ∧ RpKey c H n.1 n.2.1) ∧ i < ns.length, fun i H x H' => H' = H ∧ ∃ n, ns[i]? = some n ∧ x = n.2.1,
    fun i H => H d = some (.frz o (dHO c d t ns)) ∧ (∀ n ∈ ns, KeyOk t n.1 ∧ RpKey c H n.1 n.2.1) ∧ ns.length ≤ i⟩
theorem frz_obj {X : Cx} {pins : List (Addr × Obj)} {σ : St} {H : Hp} {s : Shared} {d : Addr} {o : Obj} {u : HO} (I : Inv X pins σ H s) (h : H d = some (.frz o u)) : s.heap.get? d = some o := (I.hok d _ h).1
theorem dic_frz {X : Cx} {pins : List (Addr × Obj)} {σ : St} {H : Hp} {s : Shared} {d : Addr} {o : Obj} {t : Bool} {ns : List Ent} (I : Inv X pins σ H s) (h : H d = some (.frz o (dHO (cn X) d t ns))) (ks : ∀ n ∈ ns, KeyOk t n.1 ∧ RpKey (cn X) H n.1 n.2.1) :
    (d == sysModules) = false ∧ s.heap.get? d = some o ∧ o.ExactDict ∧ ∃ (es : Array DictEntry) (ep : Nat), o.data = .dict es ep ∧ es.size = ns.length ∧ ∀ (i : Nat) (n : Ent), ns[i]? = some n → ∃ en, es[i]? = some en ∧ RelV n.2.1 en.key := by
  have D : Dic X H d t ns := ⟨.inr ⟨o, h⟩, ks⟩
  obtain ⟨es, ep, ⟨o', ho, hx, hd⟩, sz, q⟩ := D.ents I
  have e := frz_obj I h
  rw [ho] at e
  cases e
  refine ⟨(D.small I).2, ho, hx, es, ep, hd, sz, fun i n hn => ?_⟩
  have hi : i < es.size := by rw [sz]; exact (List.getElem?_eq_some_iff.mp hn).1
  exact ⟨es[i], Array.getElem?_eq_getElem hi, (q i hi n hn).1⟩
theorem turn_dic {P : Program} {w : World} {K : PySem.W.Frag} {tg : Expr} {d : Addr} {o : Obj} {es : Array DictEntry} {ep : Nat} {t : Bool} {ns : List Ent} (it : Addr) (hod : o.data = .dict es ep) : Turn P w K tg (Itn ⟨P, w, K⟩ d o t ns) [it] it (fun i h => h.IsKeyIter it d i ns.length ep) where
  mem := by simp
  obj := fun i h st b hb => by
    have e : b = it := by simpa using hb
    subst e
    obtain ⟨oi, e, c, dd⟩ := st
    exact ⟨oi, e, fun v z => by rw [dd] at z; cases z⟩
  keep := fun i h h' st k => st.at fun oi e => k it (by simp) oi e
  item := by
    intro X hP hw hK hc i pins s σ H E I hf st hg
    subst hP hw hK
    obtain ⟨hd, ks, hi⟩ := hg
    obtain ⟨f0, f1, f2, f3, f4, f5⟩ := hf it (by simp)
    obtain ⟨hs, hgd, hx, es', ep', hdt, hsz, ent⟩ := dic_frz I hd ks
    obtain ⟨rfl, rfl⟩ := dict_ep hod hdt
    obtain ⟨n, hn⟩ : ∃ p, ns[i]? = some p := ⟨ns[i], List.getElem?_eq_getElem hi⟩
    obtain ⟨en, hen, hkey⟩ := ent i n hn
    refine next_key_item st hgd hdt hsz hen fun h' st' sb => ?_
    have I1 : Inv X pins σ H { s with heap := h' } := I.turned (t' := s.toks) (fun b ob hb e => (sb.2 b hb).trans e) f0 f1 f3 f4 f5
    obtain ⟨oi, e, c, dd⟩ := id st'
    exact ⟨en.key, rfl, go_of (s := { s with heap := h' }) e c dd (by decide) ⟨n.2.1, H, I1, hkey, ⟨rfl, n, hn, rfl⟩, st', fun b hb => (hf b hb).1⟩⟩
  done := by
    intro X hP hw hK hc i pins s σ H E I hf st hg
    subst hP hw hK
    obtain ⟨hd, ks, hi⟩ := hg
    obtain ⟨f0, f1, f2, f3, f4, f5⟩ := hf it (by simp)
    obtain ⟨hs, hgd, hx, es', ep', hdt, hsz, ent⟩ := dic_frz I hd ks
    obtain ⟨rfl, rfl⟩ := dict_ep hod hdt
    exact next_key_end (I.ok.hd hc) st hgd hdt hsz hi fun h' eb => ⟨rfl, I.turned (t' := s.toks) (fun b ob hb e => eb b ob hb e) f0 f1 f3 f4 f5⟩
  self := fun A i s Q E st h => by
    refine wpAny_pyIter_slot st.typeIs F.slot_dict_keyiterator_iter (wpAny_call_entry F.slot_dict_keyiterator_iter st.typeIs F.entry_dict_keyiterator_iter ?_ (F.args_dict_keyiterator_iter_1 _))
    show wpAny _ _ (ret (.ref it)) _ _ s
    exact wpAny_pure ⟨_, rfl, "dict_keyiterator", _, st.typeIs, F.slot_dict_keyiterator_next.lookup, h⟩
section
variable {X : Cx} {Φ : Fn} {G : Gh} {e a b tg : Expr} {pos : Pos}
theorem wk_tup {c : Cn} {F : Hp} {a : Addr} {vs : List V} {ds : List D} (s : SqT c.K F a vs) (r : Rps c F ds vs) {L : List (Addr × HO)} : Wk c F L ds (Itt c.K a) where
  go := fun i H l _ hi => by
    obtain ⟨v, e, _⟩ := r.get (List.getElem?_eq_getElem hi)
    exact ⟨vs, v, sqT_le l s, e⟩
  stop := fun i H l _ hi => ⟨vs, sqT_le l s, by rw [← r.length]; exact hi⟩
  yld := fun i H x H' l _ h hi => ⟨h.1, r.get' (h.2 vs (sqT_le l s))⟩
theorem pi_it {ie : IE} (h : PE X e (tX (cn X) Φ G ie)) : PI X tg e (wI (cn X) Φ G (.it ie)) := by
  refine ⟨fun pins s σ H R I ⟨F, ρ, items, ρ', Rl, ev, k⟩ => ?_⟩
  simp only [evI] at ev
  split at ev
  · rename_i d fr ρ1 e1
    obtain ⟨xs, e2, e3⟩ := Option.map_eq_some_iff.mp ev
    cases e3
    refine thn (h.fz.run pins s σ H (fun v H1 => ∃ F1, Ext (cn X) G σ F ρ H F1 ρ' H1 ∧ Rp (cn X) F1 d v) I ⟨F, ρ, d, fr, ρ', Rl, e1, fun v F' H' E r => ⟨F', E, r⟩⟩) fun u s1 ⟨v, H1, I1, r1, F1, E, rp⟩ => ?_
    cases d with
    | lst ds =>
      cases e2
      rw [Rp] at rp
      obtain ⟨a, vs, rfl, sq, rs⟩ := rp
      obtain rfl : u = Value.ref a := r1
      obtain ⟨its, rv, p, hz⟩ := I1.list (sqL_le E.rel.sub sq)
      exact wpAny_pyIter_list p.isList (pi_one (tk := s1.toks) I1 _ (turn_list a _) ⟨_, Heap.get?_push_size _ rfl, rfl, rfl⟩ (k _ [] F1 H1 E
        { go := fun i H l _ hi => by
            obtain ⟨v, e, _⟩ := rs.get (List.getElem?_eq_getElem hi)
            exact ⟨vs, v, sqL_le l sq, e⟩
          stop := fun i H l _ hi => ⟨vs, sqL_le l sq, by rw [← rs.length]; exact hi⟩
          yld := fun i H x H' l _ h hi => ⟨h.1, rs.get' (h.2 vs (sqL_le l sq))⟩ } (fun _ h => nomatch h) fun _ => rfl))
    | tup ds =>
      cases e2
      rw [Rp] at rp
      obtain ⟨a, vs, rfl, sq, rs⟩ := rp
      obtain rfl : u = Value.ref a := r1
      obtain ⟨its, rv, p, hz⟩ := I1.tuple (sqT_le E.rel.sub sq)
      exact wpAny_pyIter_tuple (show s1.heap.IsTuple a its.toArray from p) (pi_one (tk := s1.toks) I1 _ (turn_tuple a _) ⟨_, Heap.get?_push_size _ rfl, rfl, rfl⟩ (k _ [] F1 H1 E (wk_tup sq rs) (fun _ h => nomatch h) fun _ => rfl))
    | dic t kvs =>
      cases e2
      rw [Rp] at rp
      obtain ⟨a, o, ns, rfl, hf, ra⟩ := rp
      obtain rfl : u = Value.ref a := r1
      obtain ⟨hs, hgd, hx, es, ep, hdt, hsz, ent⟩ := dic_frz I1 (E.rel.sub _ _ hf) (ra.keys E.rel.sub)
      refine iter_keys hs hgd hx hdt (pi_one (tk := s1.toks) I1 _ (turn_dic (t := t) (ns := ns) _ hdt) ⟨_, Heap.get?_push_size _ rfl, rfl, ?_⟩ (k _ [] F1 H1 E
        { go := fun i H l _ hi => ⟨l _ _ hf, ra.keys l, by rw [← ra.length]; simpa using hi⟩
          stop := fun i H l _ hi => ⟨l _ _ hf, ra.keys l, by rw [← ra.length]; simpa using hi⟩
          yld := fun i H x H' l _ h hi => by
            obtain ⟨rfl, n, hn, rfl⟩ := h
            obtain ⟨q, hq, p1, _⟩ := Rpk.at' ra hn
            exact ⟨rfl, toD q.1, by rw [List.getElem?_map, hq]; rfl, p1⟩ } (fun _ h => nomatch h) fun _ => rfl))
      rw [hsz] <;> rfl
    | _ => simp [itemsD] at e2
  · cases ev
theorem rng_len (lo : Int) (n : Nat) : (rangeD lo n).length = n := by simp [rangeD]
theorem wk_rng {c : Cn} {F : Hp} {L : List (Addr × HO)} (lo : Int) (n : Nat) : Wk c F L (rangeD lo n) (Itr lo n) where
  go := fun i H l _ hi => by rw [rng_len] at hi; exact hi
  stop := fun i H l _ hi => by rw [rng_len] at hi; exact hi
  yld := fun i H x H' l _ h hi => by
    rw [rng_len] at hi
    exact ⟨h.1, _, by unfold rangeD; rw [List.getElem?_map, List.getElem?_range hi]; rfl, by rw [h.2, Rp]⟩
theorem rngOk_of {i : Int} (h : rngOk i = true) : -(2 ^ 62) ≤ i ∧ i < 2 ^ 62 := by
  unfold rngOk at h
  rw [Bool.and_eq_true, decide_eq_true_eq, decide_eq_true_eq] at h
  exact h
theorem toks_len {c : Cn} {F : Hp} {σ : St} : ∀ {ts : List Tok'} {vs : List V}, TokOks c F σ ts vs → vs.length = ts.length
  | [], vs, T => by have T : vs = [] := T; subst T; rfl
  | t :: ts, vs, ⟨v, vs', e, _, h2⟩ => by subst e; simp [toks_len h2]
theorem toks_rsvs {c : Cn} {F H : Hp} {σ : St} {ρ : EV} {G : Gh} (R : Rel c G F σ H ρ) : ∀ {ts : List Tok'} {vs : List V} {ds : List D}, TokOks c F σ ts vs → rsvs ρ ts = some ds → Paired (fun d v => Rt c F H d v) ds vs
  | [], _, ds, h, e => by cases e; have h : _ = [] := h; subst h; exact .nil
  | t :: ts, vs, ds, ⟨v, vs', e1, h1, h2⟩, e => by
    unfold L2.PL.rsvs at e
    split at e
    · rename_i d ds' q1 q2
      cases e
      subst e1
      exact .cons (h1.rsv R q1) (toks_rsvs R h2 q2)
    · cases e
theorem pi_rng1 {os : IOs} {p : Pos} (hg : Gl X "range") (hm : X.mg "range" = none) (ha : PA X [a] (tOs (cn X) Φ G os)) (hl : os.len = 1) (hs : starEach [a] X.env = [(false, eval a X.env)] := by rfl) : PI X tg (.Call (.Name "range" p) [a] [] pos) (wI (cn X) Φ G (.rng os)) :=
  (pi_range1 hg hm ha hs).imp fun σ H R ⟨F, ρ, items, ρ', Rl, ev, k⟩ => by
  simp only [evI] at ev
  split at ev
  · rename_i ts ρ1 ea
    have lt := evOs_len _ _ _ _ ea
    split at ev
    · rename_i ds eds
      obtain ⟨xs, e2, e3⟩ := Option.map_eq_some_iff.mp ev
      cases e3
      refine ⟨F, ρ, ts, _, Rl, ea, fun vs F1 H1 E T => ?_⟩
      have pr := toks_rsvs E.rel T eds
      unfold rngD at e2
      split at e2
      · rename_i j
        split at e2
        · rename_i hj
          cases e2
          cases pr with
          | cons r t =>
            cases t
            exact ⟨j, by rw [r.int], (rngOk_of hj).1, (rngOk_of hj).2, k _ [] F1 H1 E (wk_rng 0 _) (fun _ h => nomatch h) fun _ => rfl⟩
        · cases e2
      · exfalso
        have l1 := Paired.length pr
        have l2 := toks_len T
        rw [hl] at lt
        simp at l1
        omega
      · cases e2
    · cases ev
  · cases ev
theorem pi_rng2 {os : IOs} {p : Pos} (hg : Gl X "range") (hm : X.mg "range" = none) (ha : PA X [a, b] (tOs (cn X) Φ G os)) (hl : os.len = 2) (hs : starEach [a, b] X.env = [(false, eval a X.env), (false, eval b X.env)] := by rfl) (hs2 : starEach [b] X.env = [(false, eval b X.env)] := by rfl) : PI X tg (.Call (.Name "range" p) [a, b] [] pos) (wI (cn X) Φ G (.rng os)) :=
  (pi_range2 hg hm ha hs hs2).imp fun σ H R ⟨F, ρ, items, ρ', Rl, ev, k⟩ => by
  simp only [evI] at ev
  split at ev
  · rename_i ts ρ1 ea
    have lt := evOs_len _ _ _ _ ea
    split at ev
    · rename_i ds eds
      obtain ⟨xs, e2, e3⟩ := Option.map_eq_some_iff.mp ev
      cases e3
      refine ⟨F, ρ, ts, _, Rl, ea, fun vs F1 H1 E T => ?_⟩
      have pr := toks_rsvs E.rel T eds
      unfold rngD at e2
      split at e2
      · exfalso
        have l1 := Paired.length pr
        have l2 := toks_len T
        rw [hl] at lt
        simp at l1
        omega
      · rename_i i j
        split at e2
        · rename_i hj
          rw [Bool.and_eq_true] at hj
          cases e2
          cases pr with
          | cons r t =>
            cases t with
            | cons r2 t =>
              cases t
              exact ⟨i, j, by rw [r.int, r2.int], ⟨(rngOk_of hj.1).1, (rngOk_of hj.1).2, (rngOk_of hj.2).1, (rngOk_of hj.2).2⟩, k _ [] F1 H1 E (wk_rng i _) (fun _ h => nomatch h) fun _ => rfl⟩
        · cases e2
      · cases e2
    · cases ev
  · cases ev
/-- a slot's own dict is walked while it is locked -/
theorem pi_itl (i : Nat) {x : Str} {p : Pos} (hN : X.N[i]? = some x) (hv : Vis X.env.scope x) (hd : (x == ("__debug__" : Str)) = false := by decide) (hcd : (x == ("__classdict__" : Str)) = false := by decide) : PI X tg (.Name x p) (wI (cn X) Φ G (.itl i)) := by
  refine ⟨fun pins s σ H R I ⟨F, ρ, items, ρ', Rl, ev, k⟩ => ?_⟩
  simp only [evI] at ev
  split at ev
  · rename_i d e0
    obtain ⟨xs, e2, e3⟩ := Option.map_eq_some_iff.mp ev
    cases e3
    obtain ⟨o, eσ, a, rfl, hf, hat⟩ := Rl.at' e0
    refine thn ((pe_var hN hv hd hcd).run pins s σ H (fun v H1 => v = .ref a ∧ H1 = H) I ⟨_, eσ, rfl, rfl⟩) fun u s1 ⟨v, H1, I1, rv, ev, eh⟩ => ?_
    subst ev eh
    obtain rfl : u = Value.ref a := rv
    obtain ⟨w, eH, mu⟩ := hat.mut
    obtain ⟨od, I2⟩ := I1.lock eH mu
    have E := Ext.lockL (ob := od) Rl e0 eσ eH
    have hi : i < ρ.length := (List.getElem?_eq_some_iff.mp e0).1
    have noow : ¬ Ow σ (ρ.set i (.lck d)) a := fun ⟨j, d', q1, q2⟩ => by
      by_cases hj : i = j
      · subst hj; rw [List.getElem?_set_self hi] at q1; cases q1
      · rw [List.getElem?_set_ne hj] at q1
        exact hj (Rl.dis i j a d d' e0 q1 eσ q2)
    have keepL : ∀ p ∈ [(a, HO.frz od w)], upd H1 a (.frz od w) p.1 = some p.2 ∧ ¬ Ow σ (ρ.set i (.lck d)) p.1 := fun p hp => by
      rw [List.mem_singleton] at hp
      subst hp
      exact ⟨upd_same, noow⟩
    cases d with
    | lst ds =>
      cases e2
      obtain ⟨vs, eH', rs⟩ := hat
      rw [eH] at eH'
      cases eH'
      have sq : ∀ {H : Hp}, (∀ p ∈ [(a, HO.frz od (.lst vs))], H p.1 = some p.2) → SqL X.K H a vs := fun {H} h => .inl (.inr ⟨od, h _ (List.mem_singleton.mpr rfl)⟩)
      obtain ⟨its, rv2, pl, hz⟩ := I2.list (sq fun p hp => (keepL p hp).1)
      exact wpAny_pyIter_list pl.isList (pi_one (tk := s1.toks) I2 _ (turn_list a _) ⟨_, Heap.get?_push_size _ rfl, rfl, rfl⟩ (k _ [(a, .frz od (.lst vs))] F _ E
        { go := fun i H l kp hi => by
            obtain ⟨v, e, _⟩ := rs.get (List.getElem?_eq_getElem hi)
            exact ⟨vs, v, sq kp, e⟩
          stop := fun i H l kp hi => ⟨vs, sq kp, by rw [← rs.length]; exact hi⟩
          yld := fun i H x H' l kp h hi => ⟨h.1, rs.get' (h.2 vs (sq kp))⟩ } keepL fun h => nomatch h))
    | dic t kvs =>
      cases e2
      obtain ⟨ns, eH', ra⟩ := hat
      rw [eH] at eH'
      have eH' := Option.some.inj eH'
      subst eH'
      obtain ⟨hs, hgd, hx, es, ep, hdt, hsz, ent⟩ := dic_frz I2 upd_same (ra.keys E.rel.sub)
      refine iter_keys hs hgd hx hdt (pi_one (tk := s1.toks) I2 _ (turn_dic (t := t) (ns := ns) _ hdt) ⟨_, Heap.get?_push_size _ rfl, rfl, ?_⟩ (k _ [(a, .frz od (dHO (cn X) a t ns))] F _ E
        { go := fun i H l kp hi => ⟨kp _ (List.mem_singleton.mpr rfl), ra.keys l, by rw [← ra.length]; simpa using hi⟩
          stop := fun i H l kp hi => ⟨kp _ (List.mem_singleton.mpr rfl), ra.keys l, by rw [← ra.length]; simpa using hi⟩
          yld := fun i H x H' l kp h hi => by
            obtain ⟨rfl, n, hn, rfl⟩ := h
            obtain ⟨q, hq, p1, _⟩ := Rpk.at' ra hn
            exact ⟨rfl, toD q.1, by rw [List.getElem?_map, hq]; rfl, p1⟩ } keepL fun h => nomatch h))
      rw [hsz] <;> rfl
    | _ => exact hat.elim
  · cases ev
end
end L2.PL
end
section
set_option maxRecDepth 100000
/-! PL, part L: comprehensions, dict displays. -/
namespace L2.PL
open PySem PySem.Spec PyProof.Rows
theorem wipeE_len : ∀ (vs : List Nat) (ρ : EV), (wipeE ρ vs).length = ρ.length
  | [], _ => rfl
  | i :: is, ρ => by rw [wipeE, wipeE_len is, List.length_set]
theorem wipeE_out {i : Nat} : ∀ {vs : List Nat} {ρ : EV}, i ∉ vs → (wipeE ρ vs)[i]? = ρ[i]?
  | [], _, _ => rfl
  | j :: is, ρ, h => by
    rw [List.mem_cons, not_or] at h
    rw [wipeE, wipeE_out h.2, List.getElem?_set_ne (Ne.symm h.1)]
theorem wipeE_un {i : Nat} : ∀ {vs : List Nat} {ρ : EV}, (ρ[i]? = some .un ∨ ρ[i]? = none) → (wipeE ρ vs)[i]? = some .un ∨ (wipeE ρ vs)[i]? = none
  | [], _, h => h
  | j :: is, ρ, h => by
    rw [wipeE]
    refine wipeE_un ?_
    by_cases e : j = i
    · subst e
      by_cases hj : j < ρ.length
      · exact .inl (List.getElem?_set_self hj)
      · exact .inr (List.getElem?_eq_none (by rw [List.length_set]; omega))
    · rw [List.getElem?_set_ne e]; exact h
theorem wipeE_in {i : Nat} : ∀ {vs : List Nat} {ρ : EV}, i ∈ vs → (wipeE ρ vs)[i]? = some .un ∨ (wipeE ρ vs)[i]? = none
  | [], _, h => nomatch h
  | j :: is, ρ, h => by
    rw [wipeE]
    by_cases e : j = i
    · subst e
      refine wipeE_un ?_
      by_cases hj : j < ρ.length
      · exact .inl (List.getElem?_set_self hj)
      · exact .inr (List.getElem?_eq_none (by rw [List.length_set]; omega))
    · rcases List.mem_cons.mp h with z | z
      · exact absurd z.symm e
      · exact wipeE_in z
theorem wipe_out {i : Nat} {σ : St} : ∀ {vs : List Nat}, i ∉ vs → (wipe σ vs)[i]? = σ[i]?
  | [], _ => rfl
  | j :: is, h => by
    rw [List.mem_cons, not_or] at h
    rw [wipe, List.getElem?_set_ne (Ne.symm h.1), wipe_out h.2]
theorem wipe_in {i : Nat} {σ : St} : ∀ {vs : List Nat}, i ∈ vs → i < σ.length → (wipe σ vs)[i]? = some none
  | [], h, _ => nomatch h
  | j :: is, h, hi => by
    rw [wipe]
    by_cases e : j = i
    · subst e
      rw [List.getElem?_set_self (by rw [wipe_length]; exact hi)]
    · rw [List.getElem?_set_ne e]
      rcases List.mem_cons.mp h with z | z
      · exact absurd z.symm e
      · exact wipe_in z hi
theorem unwipe_len {ρ0 : EV} : ∀ (vs : List Nat) (ρ : EV), (unwipe ρ0 vs ρ).length = ρ.length
  | [], _ => rfl
  | i :: is, ρ => by
    rw [unwipe, unwipe_len is]
    split
    · rw [List.length_set]
    · rfl
theorem unwipe_out {ρ0 : EV} {i : Nat} : ∀ {vs : List Nat} {ρ : EV}, i ∉ vs → (unwipe ρ0 vs ρ)[i]? = ρ[i]?
  | [], _, _ => rfl
  | j :: is, ρ, h => by
    rw [List.mem_cons, not_or] at h
    rw [unwipe, unwipe_out h.2]
    split
    · rw [List.getElem?_set_ne (Ne.symm h.1)]
    · rfl
theorem unwipe_in {ρ0 : EV} {i : Nat} : ∀ {vs : List Nat} {ρ : EV}, ρ.length = ρ0.length → (i ∈ vs ∨ ρ[i]? = ρ0[i]?) → (unwipe ρ0 vs ρ)[i]? = ρ0[i]?
  | [], _, _, h => by
    rcases h with h | h
    · exact nomatch h
    · exact h
  | j :: is, ρ, hl, h => by
    rw [unwipe]
    cases e : ρ0[j]? with
    | none =>
      refine unwipe_in (by simpa using hl) ?_
      rcases h with h | h
      · rcases List.mem_cons.mp h with z | z
        · subst z
          refine .inr ?_
          have := List.getElem?_eq_none_iff.mp e
          rw [e]
          exact List.getElem?_eq_none (by simp only; omega)
        · exact .inl z
      · exact .inr h
    | some s =>
      refine unwipe_in (by simp only [List.length_set]; exact hl) ?_
      by_cases z : j = i
      · subst z
        refine .inr ?_
        have hj := (List.getElem?_eq_some_iff.mp e).1
        rw [List.getElem?_set_self (by omega), e]
      · rw [List.getElem?_set_ne z]
        rcases h with h | h
        · rcases List.mem_cons.mp h with w | w
          · exact absurd w.symm z
          · exact .inl w
        · exact .inr h
theorem asgs_get {io : List Nat} : ∀ {is : List Nat} {ds : List D} {ρ ρ' : EV}, asgs io is ds ρ = some ρ' → ρ'.length = ρ.length ∧ (∀ i, i ∉ is → ρ'[i]? = ρ[i]?) ∧ ∀ i, i ∈ is ∨ (∃ d, ρ[i]? = some (.val d)) → ∃ d, ρ'[i]? = some (.val d)
  | [], [], ρ, ρ', e => by cases e; exact ⟨rfl, fun _ _ => rfl, fun i h => h.elim (fun z => nomatch z) id⟩
  | [], _ :: _, _, _, e => by simp [asgs] at e
  | _ :: _, [], _, _, e => by simp [asgs] at e
  | i :: is, d :: ds, ρ, ρ', e => by
    simp only [asgs] at e
    split at e
    · rename_i ho
      have hi : i < ρ.length := by unfold okTo at ho; rw [Bool.and_eq_true, decide_eq_true_eq] at ho; exact ho.1
      obtain ⟨l, o, n⟩ := asgs_get e
      refine ⟨by rw [l, List.length_set], fun j hj => ?_, fun j hj => n j ?_⟩
      · rw [List.mem_cons, not_or] at hj
        rw [o j hj.2, List.getElem?_set_ne (Ne.symm hj.1)]
      · by_cases z : i = j
        · subst z
          exact .inr ⟨d, List.getElem?_set_self hi⟩
        · rw [List.getElem?_set_ne z]
          rcases hj with hj | hj
          · rcases List.mem_cons.mp hj with w | w
            · exact absurd w.symm z
            · exact .inl w
          · exact .inr hj
    · cases e
theorem asg_get {io : List Nat} {g : IG} {d : D} {ρ ρ' : EV} (e : asg io g d ρ = some ρ') : ρ'.length = ρ.length ∧ (∀ i, i ∉ tgts g → ρ'[i]? = ρ[i]?) ∧ ∀ i, i ∈ tgts g → ∃ d, ρ'[i]? = some (.val d) := by
  cases g with
  | nm i =>
    simp only [asg] at e
    split at e
    · rename_i ho
      cases e
      have hi : i < ρ.length := by unfold okTo at ho; rw [Bool.and_eq_true, decide_eq_true_eq] at ho; exact ho.1
      refine ⟨List.length_set .., fun j hj => List.getElem?_set_ne fun z => hj (by rw [← z]; exact List.mem_singleton.mpr rfl), fun j hj => ?_⟩
      have : j = i := List.mem_singleton.mp hj
      subst this
      exact ⟨d, List.getElem?_set_self hi⟩
    · cases e
  | tp is =>
    cases d with
    | tup ds =>
      simp only [asg] at e
      split at e
      · obtain ⟨l, o, n⟩ := asgs_get e
        exact ⟨l, o, fun i hi => n i (.inl hi)⟩
      · cases e
    | _ => simp [asg] at e
/-- a comprehension under way: D its new object -/
structure CI (c : Cn) (G : Gh) (σ : St) (vs : List Nat) (F1 : Hp) (ρ1 : EV) (H1 : Hp) (D : Addr) (F : Hp) (ρ : EV) (H : Hp) : Prop where
  r : Rel c G F1 (wipe σ vs) H1 (wipeE ρ1 vs)
  n : H1 D = none
  e : Ext c G (wipe σ vs) F1 (wipeE ρ1 vs) H1 F ρ H
  f : F D = none
section
variable {c : Cn} {G : Gh} {σ σ2 : St} {vs : List Nat} {F1 F F4 H1 H H4 : Hp} {ρ1 ρ ρ2 ρ4 : EV} {D : Addr} {g : IG} {y : L2.PL.D}
theorem wipe_io (hio : ∀ i ∈ vs, i ∉ G.ioS) {p : Nat × Addr} (hp : p ∈ G.io) : p.1 ∉ vs := fun h => hio _ h (List.mem_map.mpr ⟨p, hp, rfl⟩)
theorem CI.start {o : HO} (R : Rel c G F1 σ H1 ρ1) (hn : H1 D = none) (hio : ∀ i ∈ vs, i ∉ G.ioS) : CI c G σ vs F1 ρ1 H1 D F1 (wipeE ρ1 vs) (upd H1 D o) := by
  have Rw : Rel c G F1 (wipe σ vs) H1 (wipeE ρ1 vs) := R.weaken (wipe_length σ vs) (wipeE_len vs ρ1) (fun i => by
    by_cases h : i ∈ vs
    · rcases wipeE_in (ρ := ρ1) h with z | z
      · exact .inl z
      · exact .inr (.inl z)
    · exact .inr (.inr ⟨wipeE_out h, wipe_out h⟩)) fun p hp => wipe_out (wipe_io hio hp)
  exact ⟨Rw, hn, (Ext.refl Rw).trans (Ext.laid Rw hn), le_none R.sub hn⟩
theorem wipe_same (hv : ∀ i ∈ tgts g, i ∈ vs) (h1 : ∀ i, i ∉ tgts g → σ2[i]? = (wipe σ vs)[i]?) (h2 : σ2.length = (wipe σ vs).length) : wipe σ2 vs = wipe σ vs := by
  have hl : σ2.length = σ.length := by rw [h2, wipe_length]
  apply List.ext_getElem?
  intro i
  by_cases h : i ∈ vs
  · by_cases hi : i < σ.length
    · rw [wipe_in h hi, wipe_in h (by rw [hl]; exact hi)]
    · rw [List.getElem?_eq_none (by rw [wipe_length, hl]; omega), List.getElem?_eq_none (by rw [wipe_length]; omega)]
  · rw [wipe_out h, h1 i fun z => h (hv i z)]
theorem CI.turn {o : HO} (C : CI c G σ vs F1 ρ1 H1 D F ρ H) (hD : H D = some o) (mo : Mut (some o)) (hv : ∀ i ∈ tgts g, i ∈ vs) (hio : ∀ i ∈ vs, i ∉ G.ioS) (a2 : asg G.ioS g y ρ = some ρ2) (h1 : ∀ i, i ∉ tgts g → σ2[i]? = (wipe σ vs)[i]?)
    (h2 : σ2.length = (wipe σ vs).length) (E : Ext c G σ2 F ρ2 H F4 ρ4 H4) : CI c G σ vs F1 ρ1 H1 D F4 (wipeE ρ4 vs) H4 ∧ H4 D = some o ∧ ∀ o', CI c G σ vs F1 ρ1 H1 D F4 (wipeE ρ4 vs) (upd H4 D o') := by
  obtain ⟨l2, o2, n2⟩ := asg_get a2
  have ow2 : ∀ {b}, Ow σ2 ρ2 b → Ow (wipe σ vs) ρ b := fun {b} ⟨i, d, e1, e2⟩ => by
    by_cases h : i ∈ tgts g
    · obtain ⟨d', e3⟩ := n2 i h
      rw [e3] at e1
      cases e1
    · exact ⟨i, d, by rw [← o2 i h]; exact e1, by rw [← h1 i h]; exact e2⟩
  have noD : ¬ Ow (wipe σ vs) ρ D := fun z => (C.e.ow D z).there C.r C.n
  have hD4 : H4 D = some o := E.fm D o hD fun z => noD (ow2 z)
  have fD4 : F4 D = none := by
    cases z : F4 D with
    | none => rfl
    | some w =>
      rcases E.gr D (by rw [z]; exact fun z => nomatch z) with q | q | q
      · exact absurd C.f q
      · rw [hD] at q; cases q
      · exact absurd (ow2 q) noD
  have hsame := wipe_same hv h1 h2
  have out : ∀ {i : Nat}, i ∉ vs → σ2[i]? = (wipe σ vs)[i]? := fun {i} h => h1 i fun z => h (hv i z)
  have Rw : Rel c G F4 (wipe σ vs) H4 (wipeE ρ4 vs) := E.rel.weaken h2.symm (wipeE_len vs ρ4) (fun i => by
    by_cases h : i ∈ vs
    · rcases wipeE_in (ρ := ρ4) h with z | z
      · exact .inl z
      · exact .inr (.inl z)
    · exact .inr (.inr ⟨wipeE_out h, (out h).symm⟩)) fun p hp => (out (wipe_io hio hp)).symm
  have E' : Ext c G (wipe σ vs) F ρ H F4 (wipeE ρ4 vs) H4 := by
    refine ⟨E.le, Rw, fun b u e n => E.fm b u e fun z => n (ow2 z), fun b h => ?_, fun b ⟨i, d, e1, e2⟩ => ?_, E.dm⟩
    · rcases E.gr b h with q | q | q
      · exact .inl q
      · exact .inr (.inl q)
      · exact .inr (.inr (ow2 q))
    · by_cases h : i ∈ vs
      · rcases wipeE_in (ρ := ρ4) h with z | z
        · rw [z] at e1; cases e1
        · rw [z] at e1; cases e1
      · rw [wipeE_out h] at e1
        exact ow2 (E.ow b ⟨i, d, e1, by rw [out h]; exact e2⟩)
  have C4 : CI c G σ vs F1 ρ1 H1 D F4 (wipeE ρ4 vs) H4 := ⟨C.r, C.n, C.e.trans E', fD4⟩
  exact ⟨C4, hD4, fun o' => ⟨C.r, C.n, Ext.poke C.r C4.e C.n fD4 (by rw [hD4]; exact fun z => nomatch z) (fun ob w z => by rw [hD4] at z; cases z; exact mo), fD4⟩⟩
/-- what is kept through the turns -/
theorem CI.kept {L : List (Addr × HO)} (C : CI c G σ vs F1 ρ1 H1 D F ρ H) (hL : ∀ p ∈ L, H1 p.1 = some p.2 ∧ ¬ Ow σ ρ1 p.1) : ∀ p ∈ L, H p.1 = some p.2 := fun p hp => by
  obtain ⟨h1, h2⟩ := hL p hp
  refine C.e.fm _ _ h1 fun ⟨i, d, e1, e2⟩ => h2 ?_
  by_cases h : i ∈ vs
  · rcases wipeE_in (ρ := ρ1) h with z | z
    · rw [z] at e1; cases e1
    · rw [z] at e1; cases e1
  · exact ⟨i, d, by rw [← wipeE_out h]; exact e1, by rw [← wipe_out h]; exact e2⟩
theorem CI.stop (C : CI c G σ vs F1 ρ1 H1 D F ρ H) (R1 : Rel c G F1 σ H1 ρ1) (hio : ∀ i ∈ vs, i ∉ G.ioS) : Ext c G σ F1 ρ1 H1 F (unwipe ρ1 vs ρ) H := by
  have hl : ρ.length = ρ1.length := by
    have := C.e.rel.len
    rw [wipe_length, R1.len] at this
    exact this.symm
  have ow1 : ∀ {b}, Ow (wipe σ vs) (wipeE ρ1 vs) b → Ow σ ρ1 b := fun {b} ⟨i, d, e1, e2⟩ => by
    by_cases h : i ∈ vs
    · rcases wipeE_in (ρ := ρ1) h with z | z
      · rw [z] at e1; cases e1
      · rw [z] at e1; cases e1
    · exact ⟨i, d, by rw [← wipeE_out h]; exact e1, by rw [← wipe_out h]; exact e2⟩
  have not1 : ∀ {i : Nat} {d : L2.PL.D} {b : Addr}, i ∈ vs → ρ1[i]? = some (.own d) → σ[i]? = some (some (.ref b)) → ¬ Ow (wipe σ vs) (wipeE ρ1 vs) b := fun {i d b} hi e1 e2 ⟨j, d', q1, q2⟩ => by
    by_cases h : j ∈ vs
    · rcases wipeE_in (ρ := ρ1) h with z | z
      · rw [z] at q1; cases q1
      · rw [z] at q1; cases q1
    · rw [wipeE_out h] at q1
      rw [wipe_out h] at q2
      exact h (by rw [← R1.dis i j b d d' e1 q1 e2 q2]; exact hi)
  have ow' : ∀ {b}, Ow σ (unwipe ρ1 vs ρ) b → Ow σ ρ1 b := fun {b} ⟨i, d, e1, e2⟩ => by
    by_cases h : i ∈ vs
    · rw [unwipe_in hl (.inl h)] at e1
      exact ⟨i, d, e1, e2⟩
    · rw [unwipe_out h] at e1
      exact ow1 (C.e.ow b ⟨i, d, e1, by rw [wipe_out h]; exact e2⟩)
  refine ⟨C.e.le, ⟨C.e.rel.sub, by rw [unwipe_len, hl]; exact R1.len, fun i s o e1 e2 => ?_, fun i k b d d' e1 e2 e3 e4 => ?_, fun b hb => R1.new b (ow' hb), C.e.rel.keep, R1.io⟩, fun b u e n => C.e.fm b u e fun z => n (ow1 z), fun b h => ?_, fun b => ow', C.e.dm⟩
  · by_cases h : i ∈ vs
    · rw [unwipe_in hl (.inl h)] at e1
      have q := R1.sl i s o e1 e2
      cases s with
      | un => exact q
      | val d => obtain ⟨v, q1, q2⟩ := q; exact ⟨v, q1, Rp.le C.e.le _ _ q2⟩
      | own d =>
        obtain ⟨b, q1, q2, q3⟩ := q
        subst q1
        have no := not1 h e1 e2
        obtain ⟨u, hu, _⟩ := q3.mut
        refine ⟨b, rfl, ?_, q3.le C.e.le (by rw [C.e.fm b u hu no, hu])⟩
        cases z : F b with
        | none => rfl
        | some w =>
          rcases C.e.gr b (by rw [z]; exact fun z => nomatch z) with w1 | w1 | w1
          · exact absurd q2 w1
          · exact absurd w1 q3.there
          · exact absurd w1 no
      | lck d =>
        obtain ⟨b, ob, u, q1, q2, q3, q4⟩ := q
        have no : ¬ Ow (wipe σ vs) (wipeE ρ1 vs) b := fun w => ((ow1 w).at' R1).2.elim fun d' hat => hat.not_frz q3 rfl
        refine ⟨b, ob, u, q1, ?_, C.e.fm b _ q3 no, q4.le C.e.le (by rw [upd_same, upd_same])⟩
        cases z : F b with
        | none => rfl
        | some w =>
          rcases C.e.gr b (by rw [z]; exact fun z => nomatch z) with w1 | w1 | w1
          · exact absurd q2 w1
          · rw [q3] at w1; cases w1
          · exact absurd w1 no
    · rw [unwipe_out h] at e1
      exact C.e.rel.sl i s o e1 (by rw [wipe_out h]; exact e2)
  · by_cases h : i ∈ vs
    · rw [unwipe_in hl (.inl h)] at e1
      by_cases h' : k ∈ vs
      · rw [unwipe_in hl (.inl h')] at e2
        exact R1.dis i k b d d' e1 e2 e3 e4
      · rw [unwipe_out h'] at e2
        exact absurd (C.e.ow b ⟨k, d', e2, by rw [wipe_out h']; exact e4⟩) (not1 h e1 e3)
    · rw [unwipe_out h] at e1
      by_cases h' : k ∈ vs
      · rw [unwipe_in hl (.inl h')] at e2
        exact absurd (C.e.ow b ⟨i, d, e1, by rw [wipe_out h]; exact e3⟩) (not1 h' e2 e4)
      · rw [unwipe_out h'] at e2
        exact C.e.rel.dis i k b d d' e1 e2 (by rw [wipe_out h]; exact e3) (by rw [wipe_out h']; exact e4)
  · rcases C.e.gr b h with q | q | q
    · exact .inl q
    · exact .inr (.inl q)
    · exact .inr (.inr (ow1 q))
end
section
variable {X : Cx} {Φ : Fn} {G : Gh} {pos : Pos}
theorem cnd_of {g : IG} {vs : List Nat} {n : Nat} (h : ((tgts g).all vs.contains && vs.all (fun i => decide (i < n) && !G.ioS.contains i)) = true) : (∀ i ∈ tgts g, i ∈ vs) ∧ ∀ i ∈ vs, i ∉ G.ioS := by
  rw [Bool.and_eq_true] at h
  refine ⟨fun i hi => by simpa using List.all_eq_true.mp h.1 i hi, fun i hi z => ?_⟩
  have := List.all_eq_true.mp h.2 i hi
  rw [Bool.and_eq_true] at this
  have z2 : G.ioS.contains i = true := List.contains_iff_mem.mpr z
  rw [z2] at this
  exact absurd this.2 (by simp)
/-- the reading of a list comprehension, from the evaluator's -/
theorem lc_imp {vs : List Nat} {g : IG} {it : II} {cc : IC} {x : IE} {σ : St} {H : Hp} {Q : VK} (h : tX (cn X) Φ G (.lc vs g it cc x) σ H Q) : tLc (wI (cn X) Φ G it) (tG (cn X) G g) (tTs (cn X) Φ G cc) (tF (cn X) Φ G x) vs σ H Q := by
  obtain ⟨F, ρ, d, fr, ρ', R, ev, k⟩ := h
  simp only [evE] at ev
  split at ev
  · rename_i items ρ1 ei
    split at ev
    · rename_i hc
      obtain ⟨hv, hio⟩ := cnd_of hc
      split at ev
      · rename_i ds ρe el
        cases ev
        refine ⟨F, ρ, items, ρ1, R, ei, fun J L F1 H1 E1 wk hL _ D hD => ?_⟩
        refine ⟨fun i m H => m = items.length - i ∧ i ≤ items.length ∧ ∃ Fi ρi acc accV, CI (cn X) G σ vs F1 ρ1 H1 D Fi ρi H ∧ H D = some (.lst accV) ∧ Rps (cn X) Fi acc accV ∧ lcGo (fun y ρ => match asg G.ioS g y ρ with
          | some ρ2 => match evC Φ G.ioS cc ρ2 with
            | some (true, ρ3) => match evE Φ G.ioS x ρ3 with
              | some (d, _, ρ4) => some (some d, wipeE ρ4 vs)
              | none => none
            | some (false, ρ3) => some (none, wipeE ρ3 vs)
            | none => none
          | none => none) (items.drop i) ρi acc = some (ds, ρe), ⟨_, rfl, Nat.zero_le _, F1, wipeE ρ1 vs, [], [], CI.start E1.rel hD hio, upd_same, Rps.nil, el⟩, ?_⟩
        rintro i m Hi ⟨hm, hi, Fi, ρi, acc, accV, C, hDi, ra, go⟩
        by_cases hlt : i < items.length
        · refine .inr ⟨wk.go i Hi (C.e.le.trans C.e.rel.sub) (C.kept hL) hlt, fun H' => ∃ m', m' < m ∧ m' = items.length - (i + 1) ∧ i + 1 ≤ items.length ∧ _, fun H' ⟨m', a1, a2⟩ => ⟨m', a1, a2⟩, ?_⟩
          intro xv H' hy
          obtain ⟨eH, y, ey, ry⟩ := wk.yld i Hi xv H' (C.e.le.trans C.e.rel.sub) (C.kept hL) hy hlt
          subst eH
          have edrop : items.drop i = y :: items.drop (i + 1) := by
            rw [List.drop_eq_getElem_cons hlt]
            rw [List.getElem?_eq_getElem hlt] at ey
            rw [Option.some.inj ey]
          rw [edrop] at go
          simp only [lcGo] at go
          cases ea : asg G.ioS g y ρi with
          | none => simp only [ea] at go; cases go
          | some ρ2 =>
            simp only [ea] at go
            refine ⟨Fi, ρi, y, ρ2, C.e.rel, Rp.le C.e.le _ _ ry, ea, fun σ2 R2 h1 h2 => ⟨wipe_same hv h1 h2, ?_⟩⟩
            cases ec : evC Φ G.ioS cc ρ2 with
            | none => simp only [ec] at go; cases go
            | some p =>
              obtain ⟨b, ρ3⟩ := p
              simp only [ec] at go
              refine ⟨Fi, ρ2, b, ρ3, R2, ec, fun F3 H3 E3 => ?_⟩
              cases b with
              | false =>
                simp only [Bool.false_eq_true, if_false] at go ⊢
                obtain ⟨C3, hD3, _⟩ := C.turn hDi True.intro hv hio ea h1 h2 E3
                exact ⟨_, by omega, rfl, hlt, F3, wipeE ρ3 vs, acc, accV, C3, hD3, Rps.le E3.le _ _ ra, go⟩
              | true =>
                simp only [if_true] at go ⊢
                cases ex : evE Φ G.ioS x ρ3 with
                | none => simp only [ex] at go; cases go
                | some p =>
                  obtain ⟨dx, fx, ρ4⟩ := p
                  simp only [ex] at go
                  split at go
                  · rename_i hz
                    refine ⟨F3, ρ3, dx, fx, ρ4, E3.rel, ex, fun v F4 H4 E4 rv => ?_⟩
                    obtain ⟨C4, hD4, C5⟩ := C.turn hDi True.intro hv hio ea h1 h2 (E3.trans E4)
                    have ra4 := Rps.le (E3.le.trans E4.le) _ _ ra
                    exact ⟨accV, hD4, by rw [← ra.length, ← big_line]; exact hz, _, by omega, rfl, hlt, F4, wipeE ρ4 vs, acc ++ [dx], accV ++ [v], C5 _, upd_same, ra4.append (Rps.cons rv Rps.nil), go⟩
                  · cases go
        · refine .inl ⟨wk.stop i Hi (C.e.le.trans C.e.rel.sub) (C.kept hL) (by omega), ?_⟩
          rw [List.drop_eq_nil_of_le (by omega)] at go
          simp only [lcGo] at go
          cases go
          exact k _ Fi Hi (E1.trans (C.stop E1.rel hio)) (.inl ⟨D, rfl, rfl, by
            cases z : H D with
            | none => rfl
            | some o => exact absurd hD (E1.dm D (by rw [z]; exact fun z => nomatch z)), C.f, accV, hDi, ra⟩)
      · cases ev
    · cases ev
  · cases ev
end
end L2.PL
end
section
set_option maxRecDepth 100000
/-! PL, part M: comprehensions as expressions and statements, dict displays. -/
namespace L2.PL
open PySem PySem.Spec PyProof.Rows
section
variable {X : Cx} {Φ : Fn} {G : Gh} {pos : Pos}
/-- the dict under way: of texts and ints -/
theorem dc_imp {vs : List Nat} {g : IG} {it : II} {cc : IC} {kx x : IE} {σ : St} {H : Hp} {Q : VK} (h : tX (cn X) Φ G (.dc false vs g it cc kx x) σ H Q) :
    tDc (wI (cn X) Φ G it) (tG (cn X) G g) (tTs (cn X) Φ G cc) (tF (cn X) Φ G kx) (tF (cn X) Φ G x) vs σ H Q := by
  obtain ⟨F, ρ, d, fr, ρ', R, ev, k⟩ := h
  simp only [evE] at ev
  split at ev
  · rename_i items ρ1 ei
    split at ev
    · rename_i hc
      obtain ⟨hv, hio⟩ := cnd_of hc
      split at ev
      · rename_i ps ρe el
        cases ev
        refine ⟨F, ρ, items, ρ1, R, ei, fun J L F1 H1 E1 wk hL _ D hD => ?_⟩
        refine ⟨fun i m H => m = items.length - i ∧ i ≤ items.length ∧ ∃ (Fi : Hp) (ρi : EV) (acc : List (NestedKey × L2.PL.D)) (ns : List Ent), CI (cn X) G σ vs F1 ρ1 H1 D Fi ρi H ∧ H D = some (dHO (cn X) D false ns) ∧ Rpk (cn X) Fi false acc ns ∧ dcGo (fun y ρ => match asg G.ioS g y ρ with
          | some ρ2 => match evC Φ G.ioS cc ρ2 with
            | some (true, ρ3) => match evE Φ G.ioS kx ρ3 with
              | some (kd, _, ρ4) => match evE Φ G.ioS x ρ4 with
                | some (d, _, ρ5) => match keyOf kd with
                  | some kk => if keyOkB false kk then some (some (kk, d), wipeE ρ5 vs) else none
                  | none => none
                | none => none
              | none => none
            | some (false, ρ3) => some (none, wipeE ρ3 vs)
            | none => none
          | none => none) (items.drop i) ρi acc = some (ps, ρe), ⟨_, rfl, Nat.zero_le _, F1, wipeE ρ1 vs, [], [], CI.start E1.rel hD hio, upd_same, Rpk.nil, el⟩, ?_⟩
        rintro i m Hi ⟨hm, hi, Fi, ρi, acc, ns, C, hDi, ra, go⟩
        by_cases hlt : i < items.length
        · refine .inr ⟨wk.go i Hi (C.e.le.trans C.e.rel.sub) (C.kept hL) hlt, fun H' => ∃ m', m' < m ∧ m' = items.length - (i + 1) ∧ i + 1 ≤ items.length ∧ _, fun H' ⟨m', a1, a2⟩ => ⟨m', a1, a2⟩, ?_⟩
          intro xv H' hy
          obtain ⟨eH, y, ey, ry⟩ := wk.yld i Hi xv H' (C.e.le.trans C.e.rel.sub) (C.kept hL) hy hlt
          subst eH
          have edrop : items.drop i = y :: items.drop (i + 1) := by
            rw [List.drop_eq_getElem_cons hlt]
            rw [List.getElem?_eq_getElem hlt] at ey
            rw [Option.some.inj ey]
          rw [edrop] at go
          simp only [dcGo] at go
          cases ea : asg G.ioS g y ρi with
          | none => simp only [ea] at go; cases go
          | some ρ2 =>
            simp only [ea] at go
            refine ⟨Fi, ρi, y, ρ2, C.e.rel, Rp.le C.e.le _ _ ry, ea, fun σ2 R2 h1 h2 => ⟨wipe_same hv h1 h2, ?_⟩⟩
            cases ec : evC Φ G.ioS cc ρ2 with
            | none => simp only [ec] at go; cases go
            | some p =>
              obtain ⟨b, ρ3⟩ := p
              simp only [ec] at go
              refine ⟨Fi, ρ2, b, ρ3, R2, ec, fun F3 H3 E3 => ?_⟩
              cases b with
              | false =>
                simp only [Bool.false_eq_true, if_false] at go ⊢
                obtain ⟨C3, hD3, _⟩ := C.turn hDi (dHO_mut _ _ _ _) hv hio ea h1 h2 E3
                exact ⟨_, by omega, rfl, hlt, F3, wipeE ρ3 vs, acc, ns, C3, hD3, Rpk.le E3.le _ _ _ ra, go⟩
              | true =>
                simp only [if_true] at go ⊢
                cases ek : evE Φ G.ioS kx ρ3 with
                | none => simp only [ek] at go; cases go
                | some p =>
                  obtain ⟨kd, fk, ρ4⟩ := p
                  simp only [ek] at go
                  refine ⟨F3, ρ3, kd, fk, ρ4, E3.rel, ek, fun kv F4 H4 E4 rk => ?_⟩
                  cases ex : evE Φ G.ioS x ρ4 with
                  | none => simp only [ex] at go; cases go
                  | some p =>
                    obtain ⟨dx, fx, ρ5⟩ := p
                    simp only [ex] at go
                    refine ⟨F4, ρ4, dx, fx, ρ5, E4.rel, ex, fun v F5 H5 E5 rv => ?_⟩
                    cases eo : keyOf kd with
                    | none => simp only [eo] at go; cases go
                    | some kk =>
                      simp only [eo] at go
                      by_cases hok : keyOkB false kk = true
                      · rw [if_pos hok] at go
                        simp only at go
                        split at go
                        · rename_i hz
                          obtain ⟨C5, hD5, C6⟩ := C.turn hDi (dHO_mut _ _ _ _) hv hio ea h1 h2 ((E3.trans E4).trans E5)
                          have ra5 := Rpk.le ((E3.le.trans E4.le).trans E5.le) _ _ _ ra
                          have rk5 := rpKey_of (Rp.le E5.le _ _ rk) eo
                          have ok := keyOk_of hok
                          refine ⟨ns.map lf, leafK kk, kV_leafK ok rk5, hD5, by rw [List.length_map, ← ra.length, ← big_line]; exact hz, _, by omega, rfl, hlt, F5, wipeE ρ5 vs, put acc kk dx, nput ns kk kv v, ?_, ?_, ra5.put ok rk5 rv, go⟩
                          · exact C6 _
                          · rw [putK_lf ok kv v fun n hn => (ra.ok n hn).1]
                            exact upd_same
                        · cases go
                      · rw [if_neg hok] at go
                        cases go
        · refine .inl ⟨wk.stop i Hi (C.e.le.trans C.e.rel.sub) (C.kept hL) (by omega), ?_⟩
          rw [List.drop_eq_nil_of_le (by omega)] at go
          simp only [dcGo] at go
          cases go
          exact k _ Fi Hi (E1.trans (C.stop E1.rel hio)) (.inl ⟨D, rfl, rfl, by
            cases z : H D with
            | none => rfl
            | some o => exact absurd hD (E1.dm D (by rw [z]; exact fun z => nomatch z)), C.f, ns, hDi, ra⟩)
      · cases ev
    · cases ev
  · cases ev
section
variable {elt kx vx tg iter : Expr} {ifs : List Expr} {scope : Scope} {own : List (Str × Nat)} {spos : Pos} {g : IG} {it : II} {cc : IC} {x k : IE}
theorem px_lc (hc : X.calm = true) (hN : X.N.Nodup) (hi : PI X tg iter (wI (cn X) Φ G it)) (ok : BlkOk X.N X.env.scope scope own)
    (hg : ∀ (s : Shared) (H : Hp) (C : Addr) (cl : List (Str × Addr)) (fp : List Addr), PG (X.blk s H scope (compEnvC scope cl C X.env) fp) tg (tG (cn X) G g)) (ht : ∀ (s : Shared) (H : Hp) (C : Addr) (cl : List (Str × Addr)) (fp : List Addr), PTs (X.blk s H scope (compEnvC scope cl C X.env) fp) ifs (tTs (cn X) Φ G cc))
    (he : ∀ (s : Shared) (H : Hp) (C : Addr) (cl : List (Str × Addr)) (fp : List Addr), PE (X.blk s H scope (compEnvC scope cl C X.env) fp) elt (tX (cn X) Φ G x)) (hs : ∀ x, foldedSetIterable iter X.env x = pure x := by intro _; rfl) :
    PE X (.ListComp elt [⟨tg, iter, ifs, 0⟩] scope pos) (tX (cn X) Φ G (.lc (own.map (·.2)) g it cc x)) :=
  (pe_lc hc hN hi ok hg ht (fun s H C cl fp => (he s H C cl fp).fz) hs).imp fun σ H Q h => lc_imp h
theorem px_dc (hc : X.calm = true) (hN : X.N.Nodup) (hi : PI X tg iter (wI (cn X) Φ G it)) (ok : BlkOk X.N X.env.scope scope own)
    (hg : ∀ (s : Shared) (H : Hp) (C : Addr) (cl : List (Str × Addr)) (fp : List Addr), PG (X.blk s H scope (compEnvC scope cl C X.env) fp) tg (tG (cn X) G g)) (ht : ∀ (s : Shared) (H : Hp) (C : Addr) (cl : List (Str × Addr)) (fp : List Addr), PTs (X.blk s H scope (compEnvC scope cl C X.env) fp) ifs (tTs (cn X) Φ G cc))
    (hk : ∀ (s : Shared) (H : Hp) (C : Addr) (cl : List (Str × Addr)) (fp : List Addr), PE (X.blk s H scope (compEnvC scope cl C X.env) fp) kx (tX (cn X) Φ G k))
    (he : ∀ (s : Shared) (H : Hp) (C : Addr) (cl : List (Str × Addr)) (fp : List Addr), PE (X.blk s H scope (compEnvC scope cl C X.env) fp) vx (tX (cn X) Φ G x)) (hs : ∀ x, foldedSetIterable iter X.env x = pure x := by intro _; rfl) :
    PE X (.DictComp kx vx [⟨tg, iter, ifs, 0⟩] scope pos) (tX (cn X) Φ G (.dc false (own.map (·.2)) g it cc k x)) :=
  (pe_dc hc hN hi ok hg ht (fun s H C cl fp => (hk s H C cl fp).fz) (fun s H C cl fp => (he s H C cl fp).fz) hs).imp fun σ H Q h => dc_imp h
/-- name = {..} on one line, the name a local -/
theorem ps_setDc {i : Nat} {y : Str} {py : Pos} {wi : TI} {g : TG} {tt : TT} {tk tv : TE} (hc : X.calm = true) (hN : X.N.Nodup) (hy : X.N[i]? = some y) (hyl : X.env.scope.names.lookup y = some .local)
    (hsw : swapsWith (.DictComp kx vx [⟨tg, iter, ifs, 0⟩] scope pos) (some (.Name y py)) spos.line X.env = pure true) (hi : PI X tg iter wi) (ok : BlkOk X.N X.env.scope scope own)
    (hg : ∀ (s : Shared) (H : Hp) (C : Addr) (cl : List (Str × Addr)) (fp : List Addr), PG (X.blk s H scope (compEnvC scope cl C X.env) fp) tg g) (ht : ∀ (s : Shared) (H : Hp) (C : Addr) (cl : List (Str × Addr)) (fp : List Addr), PTs (X.blk s H scope (compEnvC scope cl C X.env) fp) ifs tt)
    (hk : ∀ (s : Shared) (H : Hp) (C : Addr) (cl : List (Str × Addr)) (fp : List Addr), PE (X.blk s H scope (compEnvC scope cl C X.env) fp) kx tk)
    (he : ∀ (s : Shared) (H : Hp) (C : Addr) (cl : List (Str × Addr)) (fp : List Addr), PE (X.blk s H scope (compEnvC scope cl C X.env) fp) vx tv) (hs : ∀ x, foldedSetIterable iter X.env x = pure x := by intro _; rfl) :
    PS X (.Assign [.Name y py] (.DictComp kx vx [⟨tg, iter, ifs, 0⟩] scope pos) spos) (tAsg (tDc wi g tt tk tv (own.map (·.2))) (gName i)) := by
  refine ⟨fun pins s σ H D I h => ?_⟩
  rw [exec_Assign_Name_used _ _ _ _ hsw]
  refine wpAny_bind (wpAny_standAt (wpAny_bind ?_))
  show wpAny _ X.A (do let _ ← comprehension (.DictComp kx vx [⟨tg, iter, ifs, 0⟩] scope pos) scope X.env (firstIterPos [⟨tg, iter, ifs, 0⟩] pos) newDict false (eval iter X.env) (some (assign (.Name y py) X.env))) _ _ s
  have h : tDc wi g tt tk tv (own.map (·.2)) σ H (fun x H1 => gName i x σ H1 D.nx) := h
  refine wpAny_bind (thn (dc_core (Qf := fun _ s' => SP X pins D .next s') hc hN I hi ok hg ht hk he hs h fun L C s' m H' I' q hn f => ?_) fun _ s' hq => wpAny_pure (wpAny_pure hq))
  show wpAny _ _ (assign (.Name y py) X.env (.ref L)) _ _ _
  refine wpAny_assign_Name (store_ok2 (v := V.ref L) I' hN hy (.inl hyl) rfl (fun s2 I2 ⟨a, sb, ha⟩ => ?_) (.inr hyl))
  obtain ⟨f0, f1, f2, f3, f4, f5⟩ := f
  have haC : C ≠ a := by
    rcases ha with z | z
    · rw [z]; exact f1
    · exact fun e => f4 y a z e.symm
  refine ⟨m, hn.sameBut sb haC, fun h3 sb3 => ?_⟩
  exact ⟨_, H', I2.turned (t' := s2.toks) (fun b o hb e => (sb3.2 b hb).trans e) f0 f1 f3 f4 f5, q⟩
end
/-! ### dict displays -/
def trO (c : Cn) (Φ : Fn) (G : Gh) : IOs → List (TE × TE)
  | .cons k (.cons v os) => (tO c Φ G k, tO c Φ G v) :: trO c Φ G os
  | _ => []
theorem pd_nil : PPs X pos [] [] (trO (cn X) Φ G .nil) := pps_nil
theorem pd_cons {k v : Expr} {ks : List (Option Expr)} {vs : List Expr} {ok ov : IO} {os : IOs} (hk : PE X k (tO (cn X) Φ G ok)) (hv : PE X v (tO (cn X) Φ G ov)) (h : PPs X pos ks vs (trO (cn X) Φ G os)) : PPs X pos (some k :: ks) (v :: vs) (trO (cn X) Φ G (.cons ok (.cons ov os))) :=
  pps_cons hk hv h
theorem pairs_imp : ∀ (os : IOs) {F H : Hp} {σ : St} {ρ ρ' : EV} {ts : List Tok'} {ds : List D} {ps : List (NestedKey × D)} {Q : List (V × V) → Hp → Prop}, Rel (cn X) G F σ H ρ → evOs Φ G.ioS os ρ = some (ts, ρ') → dns ts = some ds → dicPairs false ds = some ps →
    (∀ ns F' H', Ext (cn X) G σ F ρ H F' ρ' H' → Rpk (cn X) F' false ps ns → Q (ns.map fun n => (n.2.1, n.2.2)) H') → tPairs (trO (cn X) Φ G os) σ H Q
  | .nil, F, H, σ, ρ, ρ', ts, ds, ps, Q, R, ev, e1, e2, k => by
    simp only [evOs] at ev
    cases ev
    cases e1
    cases e2
    exact k [] F H (.refl R) Rpk.nil
  | .cons ok .nil, F, H, σ, ρ, ρ', ts, ds, ps, Q, R, ev, e1, e2, k => by
    simp only [evOs] at ev
    split at ev
    · rename_i t ρ1 ea
      cases ev
      cases t with
      | pk i => simp [dns] at e1
      | dn d =>
        simp only [dns, Option.map_some] at e1
        cases e1
        simp [dicPairs] at e2
    · cases ev
  | .cons ok (.cons ov os), F, H, σ, ρ, ρ', ts, ds, ps, Q, R, ev, e1, e2, k => by
    simp only [evOs] at ev
    split at ev
    · rename_i tk ρ1 ek
      obtain ⟨⟨ts1, ρx⟩, e3, e4⟩ := Option.map_eq_some_iff.mp ev
      cases e4
      split at e3
      · rename_i tv ρ2 evv
        obtain ⟨⟨ts2, ρy⟩, e5, e6⟩ := Option.map_eq_some_iff.mp e3
        cases e6
        cases tk with
        | pk i => simp [dns] at e1
        | dn kd =>
          cases tv with
          | pk i => simp [dns] at e1
          | dn vd =>
            simp only [dns, Option.map_map] at e1
            obtain ⟨ds', e7, rfl⟩ := Option.map_eq_some_iff.mp e1
            simp only [Function.comp, dicPairs] at e2
            split at e2
            · rename_i key ps' e8 e9
              split at e2
              · rename_i hok
                cases e2
                refine ⟨F, ρ, _, ρ1, R, ek, fun kv F1 H1 E1 T1 => ⟨F1, ρ1, _, ρ2, E1.rel, evv, fun vv F2 H2 E2 T2 => ?_⟩⟩
                refine pairs_imp os E2.rel e5 e7 e9 fun ns F' H' E' r => ?_
                exact k ((key, kv, vv) :: ns) F' H' ((E1.trans E2).trans E') (Rpk.cons (keyOk_of hok) (rpKey_of (Rp.le (E2.le.trans E'.le) _ _ T1) e8) (Rp.le E'.le _ _ T2) r)
              · cases e2
            · cases e2
      · cases e3
    · cases ev
theorem px_disp {keys : List (Option Expr)} {values : List Expr} {os : IOs} (h : PPs X pos keys values (trO (cn X) Φ G os)) (hall : keys.all (·.isSome) = true) (hl : keys.length = values.length) (h0 : keys ≠ []) (h15 : keys.length ≤ 15) :
    PE X (.Dict keys values pos) (tX (cn X) Φ G (.dic false os)) := (pe_disp h hall hl h0 h15).imp fun σ H Q ⟨F, ρ, d, fr, ρ', R, ev, k⟩ p hp => by
  simp only [evE] at ev
  split at ev
  · rename_i ts ρ1 ea
    split at ev
    · rename_i ds eds
      split at ev
      · rename_i ps eps
        split at ev
        · rename_i hz
          cases ev
          have L := Ext.laid (o := .dK []) R hp
          refine pairs_imp os L.rel ea eds eps fun ns F' H' E r => ?_
          have e2 : H' p = some (.dK []) := E.fm p _ upd_same fun z => by
            obtain ⟨i, d, q1, q2⟩ := z
            exact (show Ow σ ρ p from ⟨i, d, q1, q2⟩).there R hp
          have hf : F' p = none := by
            cases z : F' p with
            | none => rfl
            | some w =>
              rcases E.gr p (by rw [z]; exact fun z => nomatch z) with q | q | q
              · exact absurd (le_none R.sub hp) q
              · rw [upd_same] at q; cases q
              · exact absurd hp (q.there R)
          have EE := L.trans E
          refine ⟨e2, ns.map lf, ?_, by rw [List.length_map, ← r.length]; exact hz, ?_⟩
          · rw [List.map_map]
            refine List.map_congr_left fun n hn => ?_
            obtain ⟨ok, rk⟩ := r.ok n hn
            show (n.2.1, n.2.2) = (kV (leafK n.1), n.2.2)
            rw [← kV_leafK ok rk]
          · have z := lf_mrg (ns := []) (ms := ns) (fun _ h => nomatch h) fun n hn => (r.ok n hn).1
            rw [List.map_nil] at z
            rw [z]
            exact k _ F' _ (EE.trans (Ext.refl EE.rel) |> fun E2 => Ext.poke R E2 hp hf (by rw [e2]; exact fun z => nomatch z) (fun ob w z => by rw [e2] at z; cases z)) (.inl ⟨p, rfl, rfl, hp, hf, _, upd_same, Rpk.mrg Rpk.nil r⟩)
        · cases ev
      · cases ev
    · cases ev
  · cases ev
end
end L2.PL
end
section
set_option maxRecDepth 100000
/-! PL, part N: statements, defs. -/
namespace L2.PL
open PySem PySem.Spec PyProof.Rows
theorem sw_dc {kx vx : Expr} {gs : List Comprehension} {scope : Scope} {pos py : Pos} {y : Str} {l : Nat} {env : Env} (hk : env.scope.kind = .function) (hy : env.scope.names.lookup y = some .local) (hl : (py.line == pos.line) = true)
    (ha : (scope.names.any fun (n, k) => n == y && (k == .local || k == .cell)) = false) : swapsWith (.DictComp kx vx gs scope pos) (some (.Name y py)) l env = pure true := by
  have ky : env.kindOf y = some .local := hy
  have hb : env.blockKind = .function := by unfold Env.blockKind; rw [hk]; rfl
  unfold swapsWith
  simp only [hb, ky, ha, Expr.pos, hl]
  rfl
/-- how F and H stand to the entry -/
structure Hs (G : Gh) (F0 F H : Hp) : Prop where
  le : Le F0 F
  gr : ∀ a, F a ≠ none → F0 a ≠ none ∨ G.H0 a = none ∨ a ∈ G.exc
  dm : ∀ a, G.H0 a ≠ none → H a ≠ none
  ex : ∀ a ∈ G.exc, ∃ j, (j, a) ∈ G.io
section
variable {c : Cn} {G : Gh} {σ : St} {F0 F F' H H' : Hp} {ρ ρ' : EV} {a : Addr} {d : D} {v : V} {fr : Bool}
theorem Hs.none (h : Hs G F0 F H) (hn : H a = none) : G.H0 a = none := by
  cases z : G.H0 a with
  | none => rfl
  | some o => exact absurd hn (h.dm a (by rw [z]; exact fun z => nomatch z))
theorem Hs.step (h : Hs G F0 F H) (R : Rel c G F σ H ρ) (E : Ext c G σ F ρ H F' ρ' H') : Hs G F0 F' H' :=
  ⟨h.le.trans E.le, fun a q => by
    rcases E.gr a q with w | w | w
    · exact h.gr a w
    · exact .inr (.inl (h.none w))
    · exact .inr (R.new a w), fun a q => E.dm a (h.dm a q), h.ex⟩
def Fin (c : Cn) (G : Gh) (F0 F : Hp) (o : Out) (D : Ends) : Prop := match o with
  | .nxt ρ' => ∀ σ' F' H', Rel c G F' σ' H' ρ' → Hs G F0 F' H' → Le F F' → D.nx σ' H'
  | .brk ρ' => ∀ σ' F' H', Rel c G F' σ' H' ρ' → Hs G F0 F' H' → Le F F' → D.bk σ' H'
  | .cnt ρ' => ∀ σ' F' H', Rel c G F' σ' H' ρ' → Hs G F0 F' H' → Le F F' → D.ct σ' H'
  | .ret d fr ρ' => ∀ v σ' F' H', Rel c G F' σ' H' ρ' → Hs G F0 F' H' → Le F F' → Res c fr F' H' G.H0 d v → D.rt v H'
  | .bad => False
theorem Fin.le {o : Out} {D : Ends} (l : Le F F') (h : Fin c G F0 F o D) : Fin c G F0 F' o D := by
  cases o with
  | nxt ρ' => exact fun σ' F2 H' R s l2 => h σ' F2 H' R s (l.trans l2)
  | brk ρ' => exact fun σ' F2 H' R s l2 => h σ' F2 H' R s (l.trans l2)
  | cnt ρ' => exact fun σ' F2 H' R s l2 => h σ' F2 H' R s (l.trans l2)
  | ret d fr ρ' => exact fun v σ' F2 H' R s l2 => h v σ' F2 H' R s (l.trans l2)
  | bad => exact h.elim
def tS (c : Cn) (Φ : Fn) (G : Gh) (F0 : Hp) (s : IS) : TS := fun D σ H => ∃ F ρ, Rel c G F σ H ρ ∧ Hs G F0 F H ∧ Fin c G F0 F (exS Φ G.ioS s ρ) D
def tBk (c : Cn) (Φ : Fn) (G : Gh) (F0 : Hp) (b : IB) : TS := fun D σ H => ∃ F ρ, Rel c G F σ H ρ ∧ Hs G F0 F H ∧ Fin c G F0 F (exB Φ G.ioS b ρ) D
theorem Res.entry (h : Hs G F0 F H) (r : Res c fr F' H' H d v) : Res c fr F' H' G.H0 d v := r.back h.dm
end
section
variable {X : Cx} {Φ : Fn} {G : Gh} {F0 : Hp} {e a b : Expr} {pos : Pos} {st : Stmt} {rest : List Stmt}
theorem pss_no : PSs X [] (tBk (cn X) Φ G F0 .nil) := pss_nil.imp fun D σ H ⟨F, ρ, R, h, k⟩ => by
  simp only [exB] at k
  exact k σ F H R h (Le.refl _)
theorem pss_co {s : IS} {b : IB} (h1 : PS X st (tS (cn X) Φ G F0 s)) (h2 : PSs X rest (tBk (cn X) Φ G F0 b)) : PSs X (st :: rest) (tBk (cn X) Φ G F0 (.cons s b)) := (pss_cons h1 h2).imp fun D σ H ⟨F, ρ, R, h, k⟩ => by
  simp only [exB] at k
  refine ⟨F, ρ, R, h, ?_⟩
  generalize exS Φ G.ioS s ρ = o at k ⊢
  cases o with
  | nxt ρ' => exact fun σ' F' H' R' h' l => ⟨F', ρ', R', h', k.le l⟩
  | brk ρ' => exact k
  | cnt ρ' => exact k
  | ret d fr ρ' => exact k
  | bad => exact k
theorem store_res {F F' H H' : Hp} {σ : St} {ρ ρ' : EV} {i : Nat} {d : D} {fr : Bool} {v : V} (R : Rel (cn X) G F σ H ρ) (h : Hs G F0 F H) (E : Ext (cn X) G σ F ρ H F' ρ' H') (r : Res (cn X) fr F' H' H d v) (ho : okTo ρ' G.ioS i = true) :
    Rel (cn X) G F' (σ.set i (some v)) H' (ρ'.set i (mkSl fr d)) := by
  obtain ⟨h1, h2⟩ := okTo_of ho
  unfold mkSl
  rcases r with ⟨a, rfl, rfl, hn, hf, hat⟩ | ⟨e, rp⟩
  · rw [hat.cont]
    refine E.rel.store h1 h2 ⟨a, rfl, hf, hat⟩ fun d' _ b eb => ?_
    cases eb
    exact ⟨fun z => (E.ow a z).there R hn, .inl (h.none hn)⟩
  · rw [e]
    exact E.rel.store h1 h2 ⟨v, rfl, rp⟩ fun d' z => nomatch z
theorem set_imp {i : Nat} {ie : IE} {D : Ends} {σ : St} {H : Hp} (h : tS (cn X) Φ G F0 (.set i ie) D σ H) : tAsg (tX (cn X) Φ G ie) (gName i) D σ H := by
  obtain ⟨F, ρ, R, h, k⟩ := h
  simp only [exS] at k
  split at k
  · rename_i d fr ρ1 ev
    split at k
    · rename_i ho
      exact ⟨F, ρ, d, fr, ρ1, R, ev, fun v F' H' E r => k _ F' H' (store_res R h E r ho) (h.step R E) E.le⟩
    · exact k.elim
  · exact k.elim
/-- name = e, where e walked slot i while it was locked -/
theorem ps_unl (i j : Nat) {ie : IE} {st : Stmt} (h : PS X st (tAsg (tX (cn X) Φ G ie) (gName j))) : PS X st (tS (cn X) Φ G F0 (.setl i j ie)) := by
  refine ⟨fun pins s σ H D I ⟨F, ρ, R, hs, k⟩ => ?_⟩
  simp only [exS] at k
  split at k
  · rename_i d0 e0
    split at k
    · rename_i d fr ρ1 ev
      split at k
      · rename_i d' e1
        split at k
        · rename_i hh
          rw [Bool.and_eq_true, Bool.and_eq_true] at hh
          obtain ⟨⟨ho, hij⟩, hnl⟩ := hh
          have hij : i ≠ j := by simpa using hij
          obtain ⟨o, eσ, a, rfl, hf, hat⟩ := R.at' e0
          obtain ⟨u0, eH, mu⟩ := hat.mut
          have nofrz := I.nofrz eH mu
          refine thn (h.run pins s σ H ⟨fun σ' H' => ∃ v F', σ' = σ.set j (some v) ∧ Ext (cn X) G σ F ρ H F' ρ1 H' ∧ Res (cn X) fr F' H' H d v, fun _ _ => False, fun _ _ => False, fun _ _ => False⟩ I
            ⟨F, ρ, d, fr, ρ1, R, ev, fun v F' H' E r => ⟨v, F', rfl, E, r⟩⟩) fun fl s1 q => ?_
          cases fl with
          | next =>
            obtain ⟨σ', H', I', v, F', rfl, E, r⟩ := q
            obtain ⟨a', ob, u, q1, q2, q3, q4⟩ := E.rel.sl i _ _ e1 eσ
            cases (Option.some.inj q1 : V.ref a = V.ref a')
            have R1 := store_res R hs E r ho
            have hw : G.H0 a = none ∨ a ∈ G.exc := R.new a ⟨i, d0, e0, eσ⟩
            have R2 := R1.unlock (i := i) (d := d') (u := u) (ob := ob) (a := a) (by rw [List.getElem?_set_ne (Ne.symm hij)]; exact e1) (by rw [List.getElem?_set_ne (Ne.symm hij)]; exact eσ) q3 q2 q4 (fun m s' hm es d2 z => by
              subst z
              by_cases hmj : j = m
              · subst hmj
                have hjl : j < ρ1.length := (okTo_of ho).1
                rw [List.getElem?_set_self hjl] at es
                unfold mkSl at es
                split at es <;> cases es
              · rw [List.getElem?_set_ne hmj] at es
                have es2 : (ρ1.set i .un)[m]? = some (.lck d2) := by rw [List.getElem?_set_ne (Ne.symm hm)]; exact es
                have := List.all_eq_true.mp hnl _ (List.mem_of_getElem? es2)
                cases this) hw
            have h2 := hs.step R E
            refine ⟨_, _, I'.unlock q3 nofrz, k _ F' _ R2 ⟨h2.le, h2.gr, fun b hb => ?_, h2.ex⟩ E.le⟩
            by_cases z : b = a
            · subst z; rw [upd_same]; exact fun z => nomatch z
            · rw [upd_ne z]; exact h2.dm b hb
          | ret u => obtain ⟨_, _, _, _, _, q⟩ := q; exact q.elim
          | brk => obtain ⟨_, _, _, q⟩ := q; exact q.elim
          | cont => obtain ⟨_, _, _, q⟩ := q; exact q.elim
        · exact k.elim
      · exact k.elim
    · exact k.elim
  · exact k.elim
theorem ps_setX (i : Nat) {x : Str} {ie : IE} {p' : Pos} (hN : X.N.Nodup) (hi : X.N[i]? = some x) (hx : Loc X.env.scope x) (hf : X.fn x = true ∨ X.env.scope.names.lookup x = some .local) (he : PE X e (tX (cn X) Φ G ie)) (hs : swapsWith e (some (.Name x p')) pos.line X.env = pure false := by rfl) :
    PS X (.Assign [.Name x p'] e pos) (tS (cn X) Φ G F0 (.set i ie)) := (ps_set hN hi hx he hs hf).imp fun D σ H h => set_imp h
theorem ps_setLcX (i : Nat) {y : Str} {py spos : Pos} {elt tg iter : Expr} {ifs : List Expr} {scope : Scope} {own : List (Str × Nat)} {g : IG} {it : II} {cc : IC} {x : IE} (hc : X.calm = true) (hN : X.N.Nodup) (hy : X.N[i]? = some y) (hyl : X.env.scope.names.lookup y = some .local)
    (hsw : swapsWith (.ListComp elt [⟨tg, iter, ifs, 0⟩] scope pos) (some (.Name y py)) spos.line X.env = pure true) (hi : PI X tg iter (wI (cn X) Φ G it)) (ok : BlkOk X.N X.env.scope scope own)
    (hg : ∀ (s : Shared) (H : Hp) (C : Addr) (cl : List (Str × Addr)) (fp : List Addr), PG (X.blk s H scope (compEnvC scope cl C X.env) fp) tg (tG (cn X) G g)) (ht : ∀ (s : Shared) (H : Hp) (C : Addr) (cl : List (Str × Addr)) (fp : List Addr), PTs (X.blk s H scope (compEnvC scope cl C X.env) fp) ifs (tTs (cn X) Φ G cc))
    (he : ∀ (s : Shared) (H : Hp) (C : Addr) (cl : List (Str × Addr)) (fp : List Addr), PE (X.blk s H scope (compEnvC scope cl C X.env) fp) elt (tX (cn X) Φ G x)) (hs : ∀ x, foldedSetIterable iter X.env x = pure x := by intro _; rfl) :
    PS X (.Assign [.Name y py] (.ListComp elt [⟨tg, iter, ifs, 0⟩] scope pos) spos) (tS (cn X) Φ G F0 (.set i (.lc (own.map (·.2)) g it cc x))) :=
  (ps_setLc hc hN hy hyl hsw hi ok hg ht (fun s H C cl fp => (he s H C cl fp).fz) hs).imp fun D σ H h => lc_imp (set_imp h)
theorem ps_setDcX (i : Nat) {y : Str} {py spos : Pos} {kx vx tg iter : Expr} {ifs : List Expr} {scope : Scope} {own : List (Str × Nat)} {g : IG} {it : II} {cc : IC} {k x : IE} (hc : X.calm = true) (hN : X.N.Nodup) (hy : X.N[i]? = some y) (hyl : X.env.scope.names.lookup y = some .local)
    (hsw : swapsWith (.DictComp kx vx [⟨tg, iter, ifs, 0⟩] scope pos) (some (.Name y py)) spos.line X.env = pure true) (hi : PI X tg iter (wI (cn X) Φ G it)) (ok : BlkOk X.N X.env.scope scope own)
    (hg : ∀ (s : Shared) (H : Hp) (C : Addr) (cl : List (Str × Addr)) (fp : List Addr), PG (X.blk s H scope (compEnvC scope cl C X.env) fp) tg (tG (cn X) G g)) (ht : ∀ (s : Shared) (H : Hp) (C : Addr) (cl : List (Str × Addr)) (fp : List Addr), PTs (X.blk s H scope (compEnvC scope cl C X.env) fp) ifs (tTs (cn X) Φ G cc))
    (hk : ∀ (s : Shared) (H : Hp) (C : Addr) (cl : List (Str × Addr)) (fp : List Addr), PE (X.blk s H scope (compEnvC scope cl C X.env) fp) kx (tX (cn X) Φ G k))
    (he : ∀ (s : Shared) (H : Hp) (C : Addr) (cl : List (Str × Addr)) (fp : List Addr), PE (X.blk s H scope (compEnvC scope cl C X.env) fp) vx (tX (cn X) Φ G x)) (hs : ∀ x, foldedSetIterable iter X.env x = pure x := by intro _; rfl) :
    PS X (.Assign [.Name y py] (.DictComp kx vx [⟨tg, iter, ifs, 0⟩] scope pos) spos) (tS (cn X) Φ G F0 (.set i (.dc false (own.map (·.2)) g it cc k x))) :=
  (ps_setDc hc hN hy hyl hsw hi ok hg ht (fun s H C cl fp => (hk s H C cl fp).fz) (fun s H C cl fp => (he s H C cl fp).fz) hs).imp fun D σ H h => dc_imp (set_imp h)
theorem ps_setLcL (l i : Nat) {y : Str} {py spos : Pos} {elt tg iter : Expr} {ifs : List Expr} {scope : Scope} {own : List (Str × Nat)} {g : IG} {it : II} {cc : IC} {x : IE} (hc : X.calm = true) (hN : X.N.Nodup) (hy : X.N[i]? = some y) (hyl : X.env.scope.names.lookup y = some .local)
    (hsw : swapsWith (.ListComp elt [⟨tg, iter, ifs, 0⟩] scope pos) (some (.Name y py)) spos.line X.env = pure true) (hi : PI X tg iter (wI (cn X) Φ G it)) (ok : BlkOk X.N X.env.scope scope own)
    (hg : ∀ (s : Shared) (H : Hp) (C : Addr) (cl : List (Str × Addr)) (fp : List Addr), PG (X.blk s H scope (compEnvC scope cl C X.env) fp) tg (tG (cn X) G g)) (ht : ∀ (s : Shared) (H : Hp) (C : Addr) (cl : List (Str × Addr)) (fp : List Addr), PTs (X.blk s H scope (compEnvC scope cl C X.env) fp) ifs (tTs (cn X) Φ G cc))
    (he : ∀ (s : Shared) (H : Hp) (C : Addr) (cl : List (Str × Addr)) (fp : List Addr), PE (X.blk s H scope (compEnvC scope cl C X.env) fp) elt (tX (cn X) Φ G x)) (hs : ∀ x, foldedSetIterable iter X.env x = pure x := by intro _; rfl) :
    PS X (.Assign [.Name y py] (.ListComp elt [⟨tg, iter, ifs, 0⟩] scope pos) spos) (tS (cn X) Φ G F0 (.setl l i (.lc (own.map (·.2)) g it cc x))) :=
  ps_unl l i ((ps_setLc hc hN hy hyl hsw hi ok hg ht (fun s H C cl fp => (he s H C cl fp).fz) hs).imp fun D σ H h => lc_imp h)
theorem ps_setDcL (l i : Nat) {y : Str} {py spos : Pos} {kx vx tg iter : Expr} {ifs : List Expr} {scope : Scope} {own : List (Str × Nat)} {g : IG} {it : II} {cc : IC} {k x : IE} (hc : X.calm = true) (hN : X.N.Nodup) (hy : X.N[i]? = some y) (hyl : X.env.scope.names.lookup y = some .local)
    (hsw : swapsWith (.DictComp kx vx [⟨tg, iter, ifs, 0⟩] scope pos) (some (.Name y py)) spos.line X.env = pure true) (hi : PI X tg iter (wI (cn X) Φ G it)) (ok : BlkOk X.N X.env.scope scope own)
    (hg : ∀ (s : Shared) (H : Hp) (C : Addr) (cl : List (Str × Addr)) (fp : List Addr), PG (X.blk s H scope (compEnvC scope cl C X.env) fp) tg (tG (cn X) G g)) (ht : ∀ (s : Shared) (H : Hp) (C : Addr) (cl : List (Str × Addr)) (fp : List Addr), PTs (X.blk s H scope (compEnvC scope cl C X.env) fp) ifs (tTs (cn X) Φ G cc))
    (hk : ∀ (s : Shared) (H : Hp) (C : Addr) (cl : List (Str × Addr)) (fp : List Addr), PE (X.blk s H scope (compEnvC scope cl C X.env) fp) kx (tX (cn X) Φ G k))
    (he : ∀ (s : Shared) (H : Hp) (C : Addr) (cl : List (Str × Addr)) (fp : List Addr), PE (X.blk s H scope (compEnvC scope cl C X.env) fp) vx (tX (cn X) Φ G x)) (hs : ∀ x, foldedSetIterable iter X.env x = pure x := by intro _; rfl) :
    PS X (.Assign [.Name y py] (.DictComp kx vx [⟨tg, iter, ifs, 0⟩] scope pos) spos) (tS (cn X) Φ G F0 (.setl l i (.dc false (own.map (·.2)) g it cc k x))) :=
  ps_unl l i ((ps_setDc hc hN hy hyl hsw hi ok hg ht (fun s H C cl fp => (hk s H C cl fp).fz) (fun s H C cl fp => (he s H C cl fp).fz) hs).imp fun D σ H h => dc_imp h)
theorem ps_setTX {is : List Nat} {tg : Expr} {ie : IE} (he : PE X e (tX (cn X) Φ G ie)) (hg : PG X tg (tG (cn X) G (.tp is))) (hs : swapsWithSole [tg] e pos.line X.env = pure false := by rfl) (hw : swappedStores [tg] e X.env = pure none := by rfl)
    (h1 : (assignEach [tg] X.env).map (·.2) = [assign tg X.env] := by rfl) : PS X (.Assign [tg] e pos) (tS (cn X) Φ G F0 (.setT is ie)) := (ps_asg he.fz hg hs hw h1).imp fun D σ H ⟨F, ρ, R, h, k⟩ => by
  simp only [exS] at k
  split at k
  · rename_i d fr ρ1 ev
    split at k
    · rename_i ρ2 ea
      exact ⟨F, ρ, d, fr, ρ1, R, ev, fun v F' H' E rp => ⟨F', ρ1, d, ρ2, E.rel, rp, ea, fun σ' R' _ _ => k σ' F' H' R' (h.step R E) E.le⟩⟩
    · exact k.elim
  · exact k.elim
theorem ps_parX (i j : Nat) {x y : Str} {oa ob : IO} {px py pt : Pos} {kt k2 pt2} (hc : X.calm = true) (hN : X.N.Nodup) (hi : X.N[i]? = some x) (hj : X.N[j]? = some y) (hij : i ≠ j)
    (hx : X.env.scope.names.lookup x = some .local) (hy : X.env.scope.names.lookup y = some .local) (ha : PA X [a, b] (tOs (cn X) Φ G (.cons oa (.cons ob .nil))))
    (hw : swappedStores [.Tuple [.Name x px, .Name y py] kt pt] (.Tuple [a, b] k2 pt2) X.env = pure (some [x, y]))
    (hs : swapsWithSole [.Tuple [.Name x px, .Name y py] kt pt] (.Tuple [a, b] k2 pt2) pos.line X.env = pure false := by rfl) :
    PS X (.Assign [.Tuple [.Name x px, .Name y py] kt pt] (.Tuple [a, b] k2 pt2) pos) (tS (cn X) Φ G F0 (.par i j oa ob)) := (ps_par hc hN hi hj hij hx hy ha hw hs).imp fun D σ H ⟨F, ρ, R, h, k⟩ => by
  simp only [exS] at k
  split at k
  · rename_i dx dy ρ1 ev
    split at k
    · rename_i ho
      rw [Bool.and_eq_true, Bool.and_eq_true] at ho
      obtain ⟨⟨h1, h2⟩, h3⟩ := ho
      refine ⟨F, ρ, _, ρ1, R, ev, fun vs F' H' E T => ?_⟩
      obtain ⟨v, vs1, rfl, t1, w, vs2, rfl, t2, e3⟩ := T
      have e3 : vs2 = [] := e3
      subst e3
      have h2' : okTo (ρ1.set i (.val dx)) G.ioS j = true := by unfold okTo at h2 ⊢; rw [List.length_set]; exact h2
      exact ⟨v, w, rfl, k _ F' H' ((E.rel.storeV h1 t1).storeV h2' t2) (h.step R E) E.le⟩
    · exact k.elim
  · exact k.elim
/-! ### slot[k] = v -/
def rSetX (X : Cx) : TSet := fun o k v H Q => ∃ F d kd vd d' a, o = .ref a ∧ F a = none ∧ Le F H ∧ At (cn X) F H a d ∧ Rt (cn X) F H kd k ∧ Rp (cn X) F vd v ∧ setD d kd vd = some d' ∧ ∀ u, At (cn X) F (upd H a u) a d' → Q (upd H a u)
theorem Rps.set {c : Cn} {F : Hp} : ∀ {ds : List D} {vs : List V} {j : Nat} {d : D} {v : V}, Rps c F ds vs → Rp c F d v → Rps c F (ds.set j d) (vs.set j v)
  | [], vs, _, _, _, h, _ => by rw [Rps] at h; subst h; exact Rps.nil
  | d0 :: ds, vs, j, d, v, h, r => by
    rw [Rps] at h
    obtain ⟨v0, vs', rfl, h1, h2⟩ := h
    cases j with
    | zero => exact Rps.cons r h2
    | succ j => exact Rps.cons h1 (Rps.set h2 r)
theorem set_X (hu : X.A.units + 64 < cLine) : PSet X (rSetX X) := by
  intro pins s σ H o k v ov kv u Q I ro rk rv h
  obtain ⟨F, d, kd, vd, d', a, rfl, hf, l, hat, hk, hv, e, q⟩ := h
  unfold setD at e
  split at e
  · rename_i t kvs
    split at e
    · rename_i key ek
      split at e
      · rename_i ok
        rw [Bool.and_eq_true, decide_eq_true_eq] at ok
        cases e
        obtain ⟨ns, eH, ra⟩ := hat
        obtain rfl : ov = Value.ref a := ro
        have rk' := rpKey_of (hk.flat (key_flat ek)) ek
        exact g_setItem (by omega) I eH (ra.keys l) (keyOk_of ok.1) (RpKey.le l _ _ rk') rk rv (by rw [← ra.length, ← big_line]; exact ok.2) fun s' I' => ⟨_, I', q _ ⟨_, upd_same, ra.put (keyOk_of ok.1) rk' hv⟩⟩
      · cases e
    · cases e
  · split at e
    · rename_i j ej
      cases e
      obtain ⟨vs, eH, ra⟩ := hat
      rw [hk.int] at rk
      rw [ra.length] at ej
      exact set_list pins s σ H _ _ v ov kv u Q I ro rk rv ⟨a, vs, _, j, rfl, rfl, eH, ej, q _ ⟨_, upd_same, ra.set hv⟩⟩
    · cases e
  · cases e
theorem ps_setIX (i : Nat) {x : Str} {p' pt : Pos} {k : Expr} {ok : IO} {ie : IE} (hu : X.A.units + 64 < cLine) (hN : X.N[i]? = some x) (hv : Vis X.env.scope x) (hk : PE X k (tO (cn X) Φ G ok)) (he : PE X e (tX (cn X) Φ G ie))
    (hd : (x == ("__debug__" : Str)) = false := by decide) (hcd : (x == ("__classdict__" : Str)) = false := by decide)
    (hs : swapsWithSole [.Subscript (.Name x p') k pt] e pos.line X.env = pure false := by rfl) (hw : swappedStores [.Subscript (.Name x p') k pt] e X.env = pure none := by rfl)
    (h1 : (assignEach [.Subscript (.Name x p') k pt] X.env).map (·.2) = [assign (.Subscript (.Name x p') k pt) X.env] := by rfl)
    (ha : ∀ v, assign (.Subscript (.Name x p') k pt) X.env v = (do
      let ov ← holding [v] (eval (.Name x p') X.env)
      let iv ← holding [v, ov] (eval k X.env)
      standAt pt
      holding [v, ov, iv] (setItem ov iv v)
      release [v, ov, iv] []) := by intro _; rfl) :
    PS X (.Assign [.Subscript (.Name x p') k pt] e pos) (tS (cn X) Φ G F0 (.setI i ok ie)) :=
  (ps_asg he.fz (pg_sub (pe_var hN hv hd hcd) hk (set_X hu) ha) hs hw h1).imp fun D σ H ⟨F, ρ, R, h, k⟩ => by
  simp only [exS] at k
  split at k
  · rename_i d fr ρ1 ev
    split at k
    · rename_i d0 e0
      split at k
      · rename_i t ρ2 et
        split at k
        · rename_i od kd eo ek
          split at k
          · rename_i d' es
            refine ⟨F, ρ, d, fr, ρ1, R, ev, fun v F1 H1 E1 rp => ?_⟩
            obtain ⟨o, eσ, a, rfl, hf, hat⟩ := E1.rel.at' e0
            refine ⟨.ref a, eσ, F1, ρ1, t, ρ2, E1.rel, et, fun kv F2 H2 E2 T => ?_⟩
            obtain ⟨a', q1, hf2, hat2⟩ := E2.rel.sl i _ _ eo eσ
            cases q1
            refine ⟨F2, od, kd, d, d', a, rfl, hf2, E2.rel.sub, hat2, T.rsv E2.rel ek, Rp.le E2.le _ _ rp, es, fun u hu => ?_⟩
            have EE := (E1.trans E2).trans (Ext.change E2.rel eo eσ hu)
            exact k σ F2 _ EE.rel (h.step R EE) EE.le
          · exact k.elim
        · exact k.elim
      · exact k.elim
    · exact k.elim
  · exact k.elim
/-! ### return -/
theorem ps_retvX (i : Nat) {x : Str} {p : Pos} (hN : X.N[i]? = some x) (hv : Vis X.env.scope x) (hd : (x == ("__debug__" : Str)) = false := by decide) (hcd : (x == ("__classdict__" : Str)) = false := by decide) : PS X (.Return (some (.Name x p)) pos) (tS (cn X) Φ G F0 (.retv i)) :=
  (ps_ret (pe_var hN hv hd hcd)).imp fun D σ H ⟨F, ρ, R, h, k⟩ => by
  simp only [exS] at k
  split at k
  · rename_i d e0
    obtain ⟨o, eσ, v, rfl, rp⟩ := R.at' e0
    exact ⟨v, eσ, k v σ F H R h (Le.refl _) (.fl rp)⟩
  · rename_i d e0
    split at k
    · rename_i hh
      rw [Bool.and_eq_true] at hh
      obtain ⟨h1, h2⟩ := hh
      obtain ⟨o, eσ, a, rfl, hf, hat⟩ := R.at' e0
      refine ⟨_, eσ, k _ σ F H ?_ h (Le.refl _) (.inl ⟨a, rfl, rfl, ?_, hf, hat⟩)⟩
      · refine R.weaken rfl (List.length_set ..) (fun j => ?_) fun p hp => rfl
        by_cases z : i = j
        · subst z
          exact .inl (List.getElem?_set_self (List.getElem?_eq_some_iff.mp e0).1)
        · exact .inr (.inr ⟨List.getElem?_set_ne z, rfl⟩)
      · rcases R.new a ⟨i, d, e0, eσ⟩ with z | z
        · exact z
        · obtain ⟨j, hj⟩ := h.ex a z
          have hjm : j ∈ G.ioS := List.mem_map.mpr ⟨(j, a), hj, rfl⟩
          have w := List.all_eq_true.mp h2 j hjm
          have eσj := R.io (j, a) hj
          have hown : ∃ d', ρ[j]? = some (.own d') := by
            unfold isOwn at w
            split at w
            · exact ⟨_, ‹_›⟩
            · cases w
          obtain ⟨d', ej⟩ := hown
          have := R.dis i j a d d' e0 ej eσ eσj
          subst this
          rw [List.contains_iff_mem.mpr hjm] at h1
          cases h1
    · exact k.elim
  · exact k.elim
theorem ps_retX {ie : IE} (he : PE X e (tX (cn X) Φ G ie)) : PS X (.Return (some e) pos) (tS (cn X) Φ G F0 (.ret ie)) := (ps_ret he).imp fun D σ H ⟨F, ρ, R, h, k⟩ => by
  simp only [exS] at k
  split at k
  · rename_i d fr ρ1 ev
    exact ⟨F, ρ, d, fr, ρ1, R, ev, fun v F' H' E r => k v σ F' H' E.rel (h.step R E) E.le (r.entry h)⟩
  · exact k.elim
theorem ps_retNX : PS X (.Return none pos) (tS (cn X) Φ G F0 .retN) := ps_retN.imp fun D σ H ⟨F, ρ, R, h, k⟩ => by
  simp only [exS] at k
  exact k .non σ F H R h (Le.refl _) (.fl rp_non)
theorem ps_exX {ie : IE} (he : PE X e (tX (cn X) Φ G ie)) (hs : swapsWith e none pos.line X.env = pure false := by rfl) : PS X (.Expr e pos) (tS (cn X) Φ G F0 (.ex ie)) := (ps_expr he hs).imp fun D σ H ⟨F, ρ, R, h, k⟩ => by
  simp only [exS] at k
  split at k
  · rename_i d fr ρ1 ev
    exact ⟨F, ρ, d, fr, ρ1, R, ev, fun v F' H' E r => k σ F' H' E.rel (h.step R E) E.le⟩
  · exact k.elim
theorem ps_passX : PS X (.Pass pos) (tS (cn X) Φ G F0 .pass) := ps_pass.imp fun D σ H ⟨F, ρ, R, h, k⟩ => by
  simp only [exS] at k
  exact k σ F H R h (Le.refl _)
theorem ps_ifX {cnd : Expr} {t : IT} {s1 s2 : List Stmt} {x y : IB} (hc : PT X cnd (tT (cn X) Φ G t)) (ha : PSs X s1 (tBk (cn X) Φ G F0 x)) (hb : PSs X s2 (tBk (cn X) Φ G F0 y)) : PS X (.If cnd s1 s2 pos) (tS (cn X) Φ G F0 (.iff t x y)) := (ps_if hc ha hb).imp fun D σ H ⟨F, ρ, R, h, k⟩ => by
  simp only [exS] at k
  split at k
  · rename_i kb ρ1 et
    refine ⟨F, ρ, kb, ρ1, R, et, fun F' H' E => ?_⟩
    cases kb with
    | true =>
      simp only [if_true] at k ⊢
      exact ⟨F', ρ1, E.rel, h.step R E, k.le E.le⟩
    | false =>
      simp only [Bool.false_eq_true, if_false] at k ⊢
      exact ⟨F', ρ1, E.rel, h.step R E, k.le E.le⟩
  · exact k.elim
theorem ps_forX {tg iter : Expr} {body : List Stmt} {g : IG} {ii : II} {bd : IB} (hp : PassesOwn (model X.prog X.w) X.A X.env X.xe) (hc : X.calm = true) (hi : PI X tg iter (wI (cn X) Φ G ii)) (hg : PG X tg (tG (cn X) G g)) (hb : PSs X body (tBk (cn X) Φ G F0 bd))
    (hs : ∀ x, foldedSetIterable iter X.env x = pure x := by intro _; rfl) : PS X (.For tg iter body [] pos) (tS (cn X) Φ G F0 (.for g ii bd)) := (ps_for hp hc hi hg hb hs).imp fun D σ H ⟨F, ρ, R, h, k⟩ => by
  simp only [exS] at k
  split at k
  · exact k.elim
  rename_i nl
  split at k
  · rename_i items ρ1 ei
    refine ⟨F, ρ, items, ρ1, R, ei, fun J L F1 H1 E1 wk hL eL => ?_⟩
    have eL := eL (by simpa using nl)
    subst eL
    have nk : ∀ {H : Hp}, ∀ p ∈ ([] : List (Addr × HO)), H p.1 = some p.2 := fun _ h => nomatch h
    refine ⟨fun i m σ H => m = items.length - i ∧ i ≤ items.length ∧ ∃ Fi ρi, Rel (cn X) G Fi σ H ρi ∧ Hs G F0 Fi H ∧ Le F1 Fi ∧ Fin (cn X) G F0 Fi (forGo (fun x ρ => match asg G.ioS g x ρ with
      | some ρ2 => exB Φ G.ioS bd ρ2
      | none => .bad) (items.drop i) ρi) D, ⟨_, rfl, Nat.zero_le _, F1, ρ1, E1.rel, h.step R E1, Le.refl _, k.le E1.le⟩, ?_⟩
    rintro i m σi Hi ⟨hm, hi, Fi, ρi, Ri, hsi, li, go⟩
    by_cases hlt : i < items.length
    · refine .inr ⟨wk.go i Hi (li.trans Ri.sub) nk hlt, fun σ' H' => ∃ m', m' < m ∧ m' = items.length - (i + 1) ∧ i + 1 ≤ items.length ∧ _, fun σ' H' ⟨m', a1, a2⟩ => ⟨m', a1, a2⟩, ?_⟩
      intro xv H' hy
      obtain ⟨eH, y, ey, ry⟩ := wk.yld i Hi xv H' (li.trans Ri.sub) nk hy hlt
      subst eH
      have edrop : items.drop i = y :: items.drop (i + 1) := by
        rw [List.drop_eq_getElem_cons hlt]
        rw [List.getElem?_eq_getElem hlt] at ey
        rw [Option.some.inj ey]
      rw [edrop] at go
      simp only [forGo] at go
      cases ea : asg G.ioS g y ρi with
      | none => simp only [ea] at go; exact go.elim
      | some ρ2 =>
        simp only [ea] at go
        refine ⟨Fi, ρi, y, ρ2, Ri, Rp.le li _ _ ry, ea, fun σ2 R2 _ _ => ⟨Fi, ρ2, R2, hsi, ?_⟩⟩
        generalize exB Φ G.ioS bd ρ2 = o at go ⊢
        cases o with
        | nxt ρ3 => exact fun σ' F' H' R' h' l => ⟨_, by omega, rfl, hlt, F', ρ3, R', h', li.trans l, go.le l⟩
        | cnt ρ3 => exact fun σ' F' H' R' h' l => ⟨_, by omega, rfl, hlt, F', ρ3, R', h', li.trans l, go.le l⟩
        | brk ρ3 => exact go
        | ret d fr ρ3 => exact go
        | bad => exact go
    · refine .inl ⟨wk.stop i Hi (li.trans Ri.sub) nk (by omega), ?_⟩
      rw [List.drop_eq_nil_of_le (by omega)] at go
      simp only [forGo] at go
      exact go σi Fi Hi Ri hsi (Le.refl _)
  · exact k.elim
end
end L2.PL
end
section
set_option maxRecDepth 100000
/-! PL, part O: a def keeps its promise. -/
namespace L2.PL
open PySem PySem.Spec PyProof.Rows
def ioOf : Nat → EV → List V → List (Nat × Addr)
  | i, .own _ :: as, .ref a :: vs => (i, a) :: ioOf (i + 1) as vs
  | i, _ :: as, _ :: vs => ioOf (i + 1) as vs
  | _, _, _ => []
theorem ioOf_owns : ∀ {as : EV} {vs : List V} {k : Nat}, vs.length = as.length → (∀ (i : Nat) (d : D), as[i]? = some (.own d) → ∃ a, vs[i]? = some (V.ref a)) → (ioOf k as vs).map (·.1) = owns k as
  | [], vs, k, hl, _ => by
    have : vs = [] := List.length_eq_zero_iff.mp hl
    subst this
    rfl
  | s :: as, [], k, hl, _ => by simp at hl
  | s :: as, v :: vs, k, hl, h => by
    have ih := ioOf_owns (as := as) (vs := vs) (k := k + 1) (by simpa using hl) fun i d e => by simpa using h (i + 1) d (by simpa using e)
    cases s with
    | own d =>
      obtain ⟨a, e⟩ := h 0 d rfl
      simp at e
      subst e
      simp only [ioOf, owns, List.map_cons, ih]
    | un => simp only [ioOf, owns, ih]
    | val d => simp only [ioOf, owns, ih]
    | lck d => simp only [ioOf, owns, ih]
theorem ioOf_mem : ∀ {as : EV} {vs : List V} {k : Nat} {p : Nat × Addr}, p ∈ ioOf k as vs → ∃ i d, p.1 = k + i ∧ as[i]? = some (.own d) ∧ vs[i]? = some (V.ref p.2)
  | [], vs, k, p, h => by cases vs <;> simp [ioOf] at h
  | s :: as, [], k, p, h => by cases s <;> simp [ioOf] at h
  | s :: as, v :: vs, k, p, h => by
    have tail : p ∈ ioOf (k + 1) as vs → ∃ i d, p.1 = k + i ∧ (s :: as)[i]? = some (.own d) ∧ (v :: vs)[i]? = some (V.ref p.2) := fun h => by
      obtain ⟨i, d, e1, e2, e3⟩ := ioOf_mem h
      exact ⟨i + 1, d, by omega, by simpa using e2, by simpa using e3⟩
    cases s with
    | un => exact tail (by simpa only [ioOf] using h)
    | val d => exact tail (by simpa only [ioOf] using h)
    | lck d => exact tail (by simpa only [ioOf] using h)
    | own d =>
      cases v with
      | ref a =>
        simp only [ioOf, List.mem_cons] at h
        rcases h with h | h
        · subst h; exact ⟨0, d, rfl, rfl, rfl⟩
        · exact tail h
      | _ => exact tail (by simpa only [ioOf] using h)
theorem mem_ioOf : ∀ {as : EV} {vs : List V} {k i : Nat} {d : D} {a : Addr}, as[i]? = some (.own d) → vs[i]? = some (V.ref a) → (k + i, a) ∈ ioOf k as vs
  | [], vs, k, i, d, a, h, _ => by simp at h
  | s :: as, [], k, i, d, a, _, h => by simp at h
  | s :: as, v :: vs, k, i, d, a, h1, h2 => by
    cases i with
    | zero =>
      simp at h1 h2
      subst h1 h2
      simp only [ioOf, Nat.add_zero]
      exact List.mem_cons_self
    | succ i =>
      have ih := mem_ioOf (as := as) (vs := vs) (k := k + 1) (i := i) (by simpa using h1) (by simpa using h2)
      have e : k + 1 + i = k + (i + 1) := by omega
      rw [e] at ih
      cases s with
      | un => simpa only [ioOf] using ih
      | val d => simpa only [ioOf] using ih
      | lck d => simpa only [ioOf] using ih
      | own d =>
        cases v with
        | ref a => simp only [ioOf]; exact List.mem_cons_of_mem _ ih
        | _ => simpa only [ioOf] using ih
theorem outs_len : ∀ (as ρ : EV), (outsOf as ρ).length = as.length
  | [], _ => rfl
  | s :: as, [] => by cases s <;> simp [outsOf, outs_len as []]
  | s :: as, r :: rs => by cases s <;> simp [outsOf, outs_len as rs]
theorem outs_get : ∀ {as ρ : EV} {i : Nat} {s : Sl}, (outsOf as ρ)[i]? = some s → (∃ d, as[i]? = some (.own d) ∧ ρ[i]? = some s) ∨ (as[i]? = some s ∧ ∀ d, s ≠ .own d) ∨ s = .un
  | [], ρ, i, s, h => by simp [outsOf] at h
  | a :: as, [], i, s, h => by
    have e : outsOf (a :: as) [] = .un :: outsOf as [] := by cases a <;> rfl
    rw [e] at h
    cases i with
    | zero => simp at h; exact .inr (.inr h.symm)
    | succ i =>
      rcases outs_get (as := as) (ρ := []) (i := i) (by simpa using h) with ⟨d, q1, q2⟩ | ⟨q1, q2⟩ | q
      · simp at q2
      · exact .inr (.inl ⟨by simpa using q1, q2⟩)
      · exact .inr (.inr q)
  | a :: as, r :: rs, i, s, h => by
    have tail : (outsOf as rs)[i - 1]? = some s → 0 < i → (∃ d, (a :: as)[i]? = some (.own d) ∧ (r :: rs)[i]? = some s) ∨ ((a :: as)[i]? = some s ∧ ∀ d, s ≠ .own d) ∨ s = .un := fun h hi => by
      obtain ⟨j, rfl⟩ : ∃ j, i = j + 1 := ⟨i - 1, by omega⟩
      rcases outs_get (as := as) (ρ := rs) (i := j) (by simpa using h) with ⟨d, q1, q2⟩ | ⟨q1, q2⟩ | q
      · exact .inl ⟨d, by simpa using q1, by simpa using q2⟩
      · exact .inr (.inl ⟨by simpa using q1, q2⟩)
      · exact .inr (.inr q)
    cases a with
    | own d =>
      have e : outsOf (.own d :: as) (r :: rs) = r :: outsOf as rs := rfl
      rw [e] at h
      cases i with
      | zero => simp at h; subst h; exact .inl ⟨d, rfl, rfl⟩
      | succ i => exact tail (by simpa using h) (by omega)
    | val d =>
      have e : outsOf (.val d :: as) (r :: rs) = .val d :: outsOf as rs := rfl
      rw [e] at h
      cases i with
      | zero => simp at h; subst h; exact .inr (.inl ⟨rfl, fun _ z => nomatch z⟩)
      | succ i => exact tail (by simpa using h) (by omega)
    | lck d =>
      have e : outsOf (.lck d :: as) (r :: rs) = .lck d :: outsOf as rs := rfl
      rw [e] at h
      cases i with
      | zero => simp at h; subst h; exact .inr (.inl ⟨rfl, fun _ z => nomatch z⟩)
      | succ i => exact tail (by simpa using h) (by omega)
    | un =>
      have e : outsOf (.un :: as) (r :: rs) = .un :: outsOf as rs := rfl
      rw [e] at h
      cases i with
      | zero => simp at h; exact .inr (.inr h.symm)
      | succ i => exact tail (by simpa using h) (by omega)
section
variable {c : Cn} {F : Hp} {H : Hp} {as : EV} {vs : List V}
/-- the ghost of an entry -/
def ghOf (H : Hp) (as : EV) (vs : List V) : Gh := ⟨H, (ioOf 0 as vs).map (·.2), ioOf 0 as vs⟩
theorem exc_iff {a : Addr} : a ∈ (ghOf H as vs).exc ↔ Ow (vs.map some) as a := by
  constructor
  · intro h
    obtain ⟨p, hp, e⟩ := List.mem_map.mp h
    obtain ⟨i, d, e1, e2, e3⟩ := ioOf_mem hp
    exact ⟨i, d, e2, by rw [List.getElem?_map, e3, e]; rfl⟩
  · rintro ⟨i, d, e1, e2⟩
    rw [List.getElem?_map] at e2
    obtain ⟨v, e3, e4⟩ := Option.map_eq_some_iff.mp e2
    have e4 : v = V.ref a := Option.some.inj e4
    subst e4
    exact List.mem_map.mpr ⟨(0 + i, a), mem_ioOf e1 e3, rfl⟩
theorem entry {N : List Str} {ns : Nat} (R : Rel c G0 F (vs.map some) H as) (hN : N.length = ns) (hl : vs.length ≤ ns) :
    Rel c (ghOf H as vs) F (start N vs) H (as ++ List.replicate (ns - vs.length) .un) ∧ Hs (ghOf H as vs) F F H ∧ (ghOf H as vs).ioS = owns 0 as := by
  have la : vs.length = as.length := by have := R.len; rwa [List.length_map] at this
  have left : ∀ {i : Nat}, i < vs.length → (start N vs)[i]? = (vs.map some)[i]? := fun {i} h => by unfold start; rw [List.getElem?_append_left (by simpa using h)]
  have leftρ : ∀ {i : Nat}, i < vs.length → (as ++ List.replicate (ns - vs.length) Sl.un)[i]? = as[i]? := fun {i} h => List.getElem?_append_left (by omega)
  have right : ∀ {i : Nat} {s : Sl}, ¬ i < vs.length → (as ++ List.replicate (ns - vs.length) Sl.un)[i]? = some s → s = .un := fun {i s} h e => by
    rw [List.getElem?_append_right (by omega), List.getElem?_replicate] at e
    split at e
    · cases e; rfl
    · cases e
  have own' : ∀ {i : Nat} {d : D}, (as ++ List.replicate (ns - vs.length) Sl.un)[i]? = some (.own d) → i < vs.length ∧ as[i]? = some (.own d) := fun {i d} e => by
    by_cases h : i < vs.length
    · exact ⟨h, by rw [← leftρ h]; exact e⟩
    · cases right h e
  refine ⟨⟨R.sub, ?_, fun i s o e1 e2 => ?_, fun i j a d d' e1 e2 e3 e4 => ?_, fun a ⟨i, d, e1, e2⟩ => ?_, fun b o e _ => e, fun p hp => ?_⟩, ⟨Le.refl _, fun a h => .inl h, fun a h => h, fun a h => ?_⟩, ?_⟩
  · unfold start
    rw [List.length_append, List.length_append, List.length_map, List.length_replicate, List.length_replicate, la, hN]
  · by_cases h : i < vs.length
    · rw [leftρ h] at e1
      rw [left h] at e2
      exact R.sl i s o e1 e2
    · rw [right h e1]; exact True.intro
  · obtain ⟨h1, q1⟩ := own' e1
    obtain ⟨h2, q2⟩ := own' e2
    rw [left h1] at e3
    rw [left h2] at e4
    exact R.dis i j a d d' q1 q2 e3 e4
  · obtain ⟨h1, q1⟩ := own' e1
    rw [left h1] at e2
    exact .inr (exc_iff.mpr ⟨i, d, q1, e2⟩)
  · obtain ⟨i, d, e1, e2, e3⟩ := ioOf_mem hp
    have hi : i < vs.length := (List.getElem?_eq_some_iff.mp e3).1
    rw [e1, Nat.zero_add, left hi, List.getElem?_map, e3]
    rfl
  · obtain ⟨p, hp, e⟩ := List.mem_map.mp h
    exact ⟨p.1, by rw [← e]; exact hp⟩
  · exact ioOf_owns la fun i d e => by
      have hi : i < vs.length := by rw [la]; exact (List.getElem?_eq_some_iff.mp e).1
      obtain ⟨a, q, _⟩ := R.sl i _ _ e (by rw [List.getElem?_map, List.getElem?_eq_getElem hi]; rfl)
      have q := Option.some.inj q
      exact ⟨a, by rw [List.getElem?_eq_getElem hi, q]⟩
theorem leave {F' H' : Hp} {σ' : St} {ρ' : EV} (R : Rel c G0 F (vs.map some) H as) (R' : Rel c (ghOf H as vs) F' σ' H' ρ') (h : Hs (ghOf H as vs) F F' H') : Ext c G0 (vs.map some) F as H F' (outsOf as ρ') H' := by
  have la : vs.length = as.length := by have := R.len; rwa [List.length_map] at this
  have wasOwn : ∀ {i : Nat} {d : D}, (outsOf as ρ')[i]? = some (.own d) → ∃ d', as[i]? = some (.own d') := fun {i d} e => by
    rcases outs_get e with ⟨d', q1, _⟩ | ⟨_, q2⟩ | q
    · exact ⟨d', q1⟩
    · exact absurd rfl (q2 d)
    · cases q
  refine ⟨h.le, ⟨R'.sub, by rw [outs_len]; exact R.len, fun i s o e1 e2 => ?_, fun i j a d d' e1 e2 e3 e4 => ?_, fun _ _ => .inl rfl, fun _ _ z => (nomatch z), fun p hp => (nomatch hp)⟩, fun a o e n => R'.keep a o e fun z => n (exc_iff.mp z), fun a q => ?_, fun a ⟨i, d, e1, e2⟩ => ?_, fun a q => h.dm a q⟩
  · rcases outs_get e1 with ⟨d, q1, q2⟩ | ⟨q1, q2⟩ | q
    · obtain ⟨a, z1, _⟩ := R.sl i _ _ q1 e2
      subst z1
      have e3 : vs[i]? = some (V.ref a) := by
        rw [List.getElem?_map] at e2
        obtain ⟨v, w1, w2⟩ := Option.map_eq_some_iff.mp e2
        cases w2
        exact w1
      have hm : (0 + i, a) ∈ ioOf 0 as vs := mem_ioOf q1 e3
      have w := R'.io (0 + i, a) hm
      rw [Nat.zero_add] at w
      exact R'.sl i s _ q2 w
    · have z := R.sl i s o q1 e2
      cases s with
      | un => exact True.intro
      | own d => exact absurd rfl (q2 d)
      | val d => obtain ⟨v, z1, z2⟩ := z; exact ⟨v, z1, Rp.le h.le _ _ z2⟩
      | lck d =>
        obtain ⟨b, ob, u, z1, z2, z3, z4⟩ := z
        have no : b ∉ (ghOf H as vs).exc := fun w => ((exc_iff.mp w).at' R).2.elim fun d' hat => hat.not_frz z3 rfl
        refine ⟨b, ob, u, z1, ?_, R'.keep b _ z3 no, z4.le h.le (by rw [upd_same, upd_same])⟩
        cases hf : F' b with
        | none => rfl
        | some w =>
          rcases h.gr b (by rw [hf]; exact fun z => nomatch z) with w1 | w1 | w1
          · exact absurd z2 w1
          · have w1 : H b = none := w1
            rw [z3] at w1; cases w1
          · exact absurd w1 no
    · subst q; exact True.intro
  · obtain ⟨d1, w1⟩ := wasOwn e1
    obtain ⟨d2, w2⟩ := wasOwn e2
    exact R.dis i j a d1 d2 w1 w2 e3 e4
  · rcases h.gr a q with w | w | w
    · exact .inl w
    · exact .inr (.inl w)
    · exact .inr (.inr (exc_iff.mp w))
  · obtain ⟨d1, w1⟩ := wasOwn e1
    exact ⟨i, d1, w1, e2⟩
end
theorem _root_.L2.Room.units2 {k : Nat} {A : Around} (r : Room k A) : A.units + 128 < cLine := by have := r.un; omega
/-- THE RULE: a def whose body reads as its entry in the table keeps the promise -/
theorem def_ok {P : Program} {w : World} {K : PySem.W.Frag} {mg : Str → Option Value} {base : Heap} {x qual : Str} {params : Arguments} {body : List Stmt} {scope : Scope} {f : Addr} {fd : FuncData} {N ps : List Str} {T : List Df} {i n k : Nat} {df : Df}
    (Fd : FunD K x qual params body scope [] [] f fd) (S : FnScope N ps scope) (hT : T[i]? = some df) (hnp : df.np = ps.length) (hns : df.ns = N.length)
    (hb : ∀ (cdv : Value) (A : Around) (outer : List Env) (s : Shared) (H : Hp) (E : XK) (G : Gh) (F0 : Hp), Room k (A.deeper (envOfC qual scope s.heap.objs.size f cdv)) →
      PSs (cxOf CX0 P w K mg base N qual scope f cdv A outer s H E).nox body (tBk ⟨P, w, K⟩ (run T n) G F0 df.body)) :
    FnOk P w K mg base CX0 (k + 1) f fd ps (spR ⟨P, w, K⟩ (run T (n + 1)) i ps.length) := by
  refine Fd.ok S (fun vs H Q E h => h.1) fun cdv A outer s H vs Q E hr h => ?_
  obtain ⟨hl, F0, as, d, fr, outs, R, eΦ, ho, kk⟩ := h
  refine ⟨_, PSs.nox (hb cdv A outer s H E (ghOf H as vs) F0 hr), ?_⟩
  have hpl : ps.length ≤ N.length := by have := congrArg List.length S.pre; rw [List.length_take] at this; omega
  obtain ⟨R0, h0, io⟩ := entry (N := N) (ns := df.ns) R hns.symm (by rw [hl, hns]; exact hpl)
  simp only [run, hT] at eΦ
  split at eΦ
  · refine ⟨F0, _, R0, h0, ?_⟩
    rw [io, hl, ← hnp]
    generalize exB (run T n) (owns 0 as) df.body (as ++ List.replicate (df.ns - df.np) Sl.un) = o at eΦ ⊢
    cases o with
    | ret v' fr' ρ' =>
      cases eΦ
      exact fun v σ' F' H' R' h' l r => kk v F' H' (leave R R' h') r
    | nxt ρ' =>
      cases eΦ
      exact fun σ' F' H' R' h' l => kk .non F' H' (leave R R' h') (.fl rp_non)
    | brk _ => cases eΦ
    | cnt _ => cases eΦ
    | bad => cases eΦ
  · cases eΦ
/-- at depth 0 nothing is promised -/
theorem def_0 {P : Program} {w : World} {K : PySem.W.Frag} {mg : Str → Option Value} {base : Heap} {x qual : Str} {params : Arguments} {body : List Stmt} {scope : Scope} {f : Addr} {fd : FuncData} {N ps : List Str} {T : List Df} {i : Nat}
    (Fd : FunD K x qual params body scope [] [] f fd) (S : FnScope N ps scope) : FnOk P w K mg base CX0 1 f fd ps (spR ⟨P, w, K⟩ (run T 0) i ps.length) := by
  refine Fd.ok S (fun vs H Q E h => h.1) fun cdv A outer s H vs Q E hr h => ?_
  obtain ⟨_, F0, as, d, fr, outs, R, eΦ, _⟩ := h
  simp only [run] at eΦ
  cases eΦ
end L2.PL
end
section
set_option maxRecDepth 100000
/-! The defs of the program, as the small language reads them (printed by gen.py). -/
namespace L2.PL
open PySem
/-- worth_of(filled, mark): 0 filled, 1 mark -/
def df0 : Df := ⟨2, 2, (.cons (.iff (.e (.e (.cmp .ge (.pk 1) (.e (.cst (.int 0)))))) (.cons (.retv 1)
  .nil) .nil)
  (.cons (.ret (.idx (.pk 0) (.pk 1)))
  .nil))⟩
/-- fitted(filled, line, row): 0 filled, 1 line, 2 row, 3 found, 4 spot, 5 mark -/
def df1 : Df := ⟨3, 6, (.cons (.set 3 (.dc false [5] (.nm 5) (.it (.var 0)) .no (.var 5) (.idx (.pk 0) (.pk 5))))
  (.cons (.for (.nm 4) (.rng (.cons (.e (.bi .len (.pk 1))) .nil)) (.cons (.set 5 (.idx (.pk 1) (.pk 4)))
  (.cons (.iff (.e (.e (.cmp .ge (.pk 5) (.e (.cst (.int 0)))))) (.cons (.iff (.e (.e (.cmp .ne (.pk 5) (.e (.idx (.pk 2) (.pk 4)))))) (.cons (.ret (.cst .non))
  .nil) .nil)
  .nil) (.cons (.iff (.e (.e (.cmp .ne (.e (.mu .setdefault 3 (.cons (.e (.var 5)) (.cons (.e (.idx (.pk 2) (.pk 4))) .nil)))) (.e (.idx (.pk 2) (.pk 4)))))) (.cons (.ret (.cst .non))
  .nil) .nil)
  .nil))
  .nil)))
  (.cons (.retv 3)
  .nil)))⟩
/-- way_counts(tables, pattern): 0 tables, 1 pattern, 2 found, 3 counts, 4 filled, 5 name, 6 line, 7 longer, 8 row, 9 more, 10 mark -/
def df2 : Df := ⟨2, 11, (.cons (.set 2 (.lst (.cons (.e (.dic false .nil)) .nil)))
  (.cons (.for (.tp [5, 6]) (.it (.idx (.pk 1) (.e (.cst (.int 2))))) (.cons (.set 7 (.lst .nil))
  (.cons (.for (.nm 4) (.it (.var 2)) (.cons (.for (.nm 8) (.it (.idx (.e (.idx (.pk 0) (.pk 5))) (.e (.cst (.int 1))))) (.cons (.set 9 (.call 1 (.cons (.e (.var 4)) (.cons (.e (.var 6)) (.cons (.e (.var 8)) .nil)))))
  (.cons (.iff (.e (.e (.cmp .notn (.pk 9) (.e (.cst .non))))) (.cons (.ex (.mu .append 7 (.cons (.e (.var 9)) .nil)))
  .nil) .nil)
  .nil)))
  .nil))
  (.cons (.set 2 (.var 7))
  .nil))))
  (.cons (.set 3 (.dic true .nil))
  (.cons (.for (.nm 4) (.it (.var 2)) (.cons (.set 8 (.bi .tuple (.e (.lc [10] (.nm 10) (.it (.idx (.pk 1) (.e (.cst (.int 1))))) .no (.call 0 (.cons (.e (.var 4)) (.cons (.e (.var 10)) .nil)))))))
  (.cons (.setI 3 (.pk 8) (.bin .add (.e (.mt .get (.pk 3) (.cons (.e (.var 8)) (.cons (.e (.cst (.int 0))) .nil)))) (.e (.cst (.int 1)))))
  .nil)))
  (.cons (.retv 3)
  .nil)))))⟩
/-- exchange(first, second): 0 first, 1 second, 2 begun -/
def df3 : Df := ⟨2, 3, (.cons (.iff (.or (.e (.e (.cmp .ne (.e (.idx (.pk 0) (.e (.cst (.int 0))))) (.e (.idx (.pk 1) (.e (.cst (.int 0)))))))) (.e (.e (.cmp .ne (.e (.bi .len (.e (.idx (.pk 0) (.e (.cst (.int 2))))))) (.e (.bi .len (.e (.idx (.pk 1) (.e (.cst (.int 2))))))))))) (.cons (.ret (.cst .non))
  .nil) .nil)
  (.cons (.set 2 (.call 5 (.cons (.e (.dic false .nil)) (.cons (.e (.idx (.pk 0) (.e (.cst (.int 1))))) (.cons (.e (.idx (.pk 1) (.e (.cst (.int 1))))) .nil)))))
  (.cons (.iff (.e (.e (.cmp .isn (.pk 2) (.e (.cst .non))))) (.cons (.ret (.cst .non))
  .nil) .nil)
  (.cons (.ret (.call 4 (.cons (.e (.var 2)) (.cons (.e (.bi .list (.e (.idx (.pk 0) (.e (.cst (.int 2))))))) (.cons (.e (.bi .list (.e (.idx (.pk 1) (.e (.cst (.int 2))))))) .nil)))))
  .nil))))⟩
/-- led_exchange(found, ours, theirs): 0 found, 1 ours, 2 theirs, 3 at, 4 name, 5 line, 6 more, 7 told -/
def df4 : Df := ⟨3, 8, (.cons (.iff (.e (.e (.cmp .eq (.e (.bi .len (.pk 1))) (.e (.cst (.int 0)))))) (.cons (.retv 0)
  .nil) .nil)
  (.cons (.setT [4, 5] (.idx (.pk 1) (.e (.cst (.int 0)))))
  (.cons (.for (.nm 3) (.rng (.cons (.e (.bi .len (.pk 2))) .nil)) (.cons (.iff (.e (.e (.cmp .eq (.e (.idx (.e (.idx (.pk 2) (.pk 3))) (.e (.cst (.int 0))))) (.pk 4)))) (.cons (.set 6 (.call 5 (.cons (.e (.var 0)) (.cons (.e (.var 5)) (.cons (.e (.idx (.e (.idx (.pk 2) (.pk 3))) (.e (.cst (.int 1))))) .nil)))))
  (.cons (.iff (.e (.e (.cmp .notn (.pk 6) (.e (.cst .non))))) (.cons (.set 7 (.call 4 (.cons (.e (.var 6)) (.cons (.e (.sli (.pk 1) (.yes (.e (.cst (.int 1)))) .no)) (.cons (.e (.bin .add (.e (.sli (.pk 2) .no (.yes (.pk 3)))) (.e (.sli (.pk 2) (.yes (.e (.bin .add (.pk 3) (.e (.cst (.int 1)))))) .no)))) .nil)))))
  (.cons (.iff (.e (.e (.cmp .notn (.pk 7) (.e (.cst .non))))) (.cons (.retv 7)
  .nil) .nil)
  .nil)) .nil)
  .nil)) .nil)
  .nil))
  (.cons (.ret (.cst .non))
  .nil))))⟩
/-- matched(found, line, other): 0 found, 1 line, 2 other, 3 told, 4 taken, 5 spot, 6 mark, 7 one, 8 two -/
def df5 : Df := ⟨3, 9, (.cons (.set 3 (.dc false [6] (.nm 6) (.it (.var 0)) .no (.var 6) (.idx (.pk 0) (.pk 6))))
  (.cons (.setl 3 4 (.dc false [6] (.nm 6) (.itl 3) .no (.idx (.pk 3) (.pk 6)) (.cst (.bl true))))
  (.cons (.for (.nm 5) (.rng (.cons (.e (.bi .len (.pk 1))) .nil)) (.cons (.par 7 8 (.e (.idx (.pk 1) (.pk 5))) (.e (.idx (.pk 2) (.pk 5))))
  (.cons (.iff (.or (.e (.e (.cmp .ge (.pk 7) (.e (.cst (.int 0)))))) (.e (.e (.cmp .ge (.pk 8) (.e (.cst (.int 0))))))) (.cons (.iff (.e (.e (.cmp .ne (.pk 7) (.pk 8)))) (.cons (.ret (.cst .non))
  .nil) .nil)
  .nil) (.cons (.iff (.e (.e (.cmp .inn (.pk 7) (.pk 3)))) (.cons (.iff (.e (.e (.cmp .ne (.e (.idx (.pk 3) (.pk 7))) (.pk 8)))) (.cons (.ret (.cst .non))
  .nil) .nil)
  .nil) (.cons (.iff (.e (.e (.cmp .inn (.pk 8) (.pk 4)))) (.cons (.ret (.cst .non))
  .nil) (.cons (.setI 3 (.pk 7) (.var 8))
  (.cons (.setI 4 (.pk 8) (.cst (.bl true)))
  .nil)))
  .nil))
  .nil))
  .nil)))
  (.cons (.retv 3)
  .nil))))⟩
/-- are_one(first, second): 0 first, 1 second -/
def df6 : Df := ⟨2, 2, (.cons (.ret (.cmp .notn (.e (.call 3 (.cons (.e (.var 0)) (.cons (.e (.var 1)) .nil)))) (.e (.cst .non))))
  .nil)⟩
/-- is_exchange(first, second, paper): 0 first, 1 second, 2 paper, 3 told, 4 lines, 5 name, 6 line, 7 mark -/
def df7 : Df := ⟨3, 8, (.cons (.iff (.or (.e (.e (.cmp .ne (.e (.idx (.pk 0) (.e (.cst (.int 0))))) (.e (.idx (.pk 1) (.e (.cst (.int 0)))))))) (.e (.e (.cmp .ne (.e (.bi .len (.e (.idx (.pk 0) (.e (.cst (.int 2))))))) (.e (.bi .len (.e (.idx (.pk 1) (.e (.cst (.int 2))))))))))) (.cons (.ret (.cst (.bl false)))
  .nil) .nil)
  (.cons (.iff (.e (.e (.cmp .lt (.e (.bi .len (.e (.dc false [7] (.nm 7) (.it (.var 2)) .no (.idx (.pk 2) (.pk 7)) (.cst (.bl true)))))) (.e (.bi .len (.pk 2)))))) (.cons (.ret (.cst (.bl false)))
  .nil) .nil)
  (.cons (.for (.tp [5, 6]) (.it (.bin .add (.e (.bi .list (.e (.idx (.pk 0) (.e (.cst (.int 2))))))) (.e (.lst (.cons (.e (.tup (.cons (.e (.cst (.str (Str.ofString "")))) (.cons (.e (.idx (.pk 0) (.e (.cst (.int 1))))) .nil)))) .nil))))) (.cons (.iff (.e (.e (.cmp .gt (.e (.bi .len (.e (.lc [7] (.nm 7) (.it (.var 6)) (.yes (.and (.e (.e (.cmp .lt (.pk 7) (.e (.cst (.int 0)))))) (.e (.e (.cmp .ge (.e (.mt .get (.pk 2) (.cons (.e (.var 7)) (.cons (.e (.cst (.int 0))) .nil)))) (.e (.cst (.int 0)))))))) (.var 7))))) (.e (.cst (.int 0)))))) (.cons (.ret (.cst (.bl false)))
  .nil) .nil)
  .nil))
  (.cons (.set 3 (.bi .tuple (.e (.lc [7] (.nm 7) (.it (.idx (.pk 0) (.e (.cst (.int 1))))) .no (.ite (.e (.e (.cmp .ge (.pk 7) (.e (.cst (.int 0)))))) (.var 7) (.idx (.pk 2) (.pk 7)))))))
  (.cons (.set 4 (.bi .sorted (.e (.lc [5, 6] (.tp [5, 6]) (.it (.idx (.pk 0) (.e (.cst (.int 2))))) .no (.tup (.cons (.e (.var 5)) (.cons (.e (.bi .tuple (.e (.lc [7] (.nm 7) (.it (.var 6)) .no (.ite (.e (.e (.cmp .ge (.pk 7) (.e (.cst (.int 0)))))) (.var 7) (.idx (.pk 2) (.pk 7))))))) .nil)))))))
  (.cons (.ret (.andv (.cmp .eq (.pk 3) (.e (.idx (.pk 1) (.e (.cst (.int 1)))))) (.cmp .eq (.pk 4) (.e (.bi .sorted (.e (.bi .list (.e (.idx (.pk 1) (.e (.cst (.int 2))))))))))))
  .nil))))))⟩
/-- total_ways(tables, pattern): 0 tables, 1 pattern -/
def df8 : Df := ⟨2, 2, (.cons (.ret (.bi .svals (.e (.call 2 (.cons (.e (.var 0)) (.cons (.e (.var 1)) .nil))))))
  .nil)⟩
/-- _law_is_int(x): 0 x -/
def df9 : Df := ⟨1, 1, (.cons (.ret (.andv (.bi (.isi .int) (.pk 0)) (.notv (.e (.e (.bi (.isi .bool) (.pk 0)))))))
  .nil)⟩
/-- _law_same(told, due): 0 told, 1 due, 2 k -/
def df10 : Df := ⟨2, 3, (.cons (.iff (.or (.e (.e (.bi (.isi .bool) (.pk 1)))) (.e (.e (.bi (.isi .bool) (.pk 0))))) (.cons (.ret (.andv (.bi (.isi .bool) (.pk 1)) (.andv (.bi (.isi .bool) (.pk 0)) (.cmp .eq (.pk 0) (.pk 1)))))
  .nil) .nil)
  (.cons (.iff (.or (.e (.e (.cmp .isn (.pk 1) (.e (.cst .non))))) (.e (.e (.bi (.isi .int) (.pk 1))))) (.cons (.ret (.andv (.cmp .eq (.pk 0) (.pk 1)) (.orv (.cmp .isn (.pk 1) (.e (.cst .non))) (.bi (.isi .int) (.pk 0)))))
  .nil) .nil)
  (.cons (.iff (.e (.e (.bi (.isi .str) (.pk 1)))) (.cons (.ret (.andv (.bi (.isi .str) (.pk 0)) (.cmp .eq (.pk 0) (.pk 1))))
  .nil) .nil)
  (.cons (.iff (.or (.e (.e (.cmp .ne (.e (.bi (.isi .list) (.pk 1))) (.e (.bi (.isi .list) (.pk 0)))))) (.e (.e (.cmp .ne (.e (.bi (.isi .tuple) (.pk 1))) (.e (.bi (.isi .tuple) (.pk 0))))))) (.cons (.ret (.cst (.bl false)))
  .nil) .nil)
  (.cons (.iff (.e (.e (.cmp .ne (.e (.bi .len (.pk 0))) (.e (.bi .len (.pk 1)))))) (.cons (.ret (.cst (.bl false)))
  .nil) .nil)
  (.cons (.for (.nm 2) (.rng (.cons (.e (.bi .len (.pk 1))) .nil)) (.cons (.iff (.not (.e (.e (.call 10 (.cons (.e (.idx (.pk 0) (.pk 2))) (.cons (.e (.idx (.pk 1) (.pk 2))) .nil)))))) (.cons (.ret (.cst (.bl false)))
  .nil) .nil)
  .nil))
  (.cons (.ret (.cst (.bl true)))
  .nil)))))))⟩
/-- _law_number(script, k): 0 script, 1 k, 2 number -/
def df11 : Df := ⟨2, 3, (.cons (.set 2 (.bin .add (.e (.bin .mul (.e (.bi .sum (.pk 0))) (.e (.cst (.int 31))))) (.e (.bin .mul (.e (.cst (.int 1000003))) (.e (.bin .add (.pk 1) (.e (.cst (.int 1)))))))))
  (.cons (.iff (.e (.e (.cmp .lt (.pk 1) (.e (.bi .len (.pk 0)))))) (.cons (.set 2 (.idx (.pk 0) (.pk 1)))
  .nil) .nil)
  (.cons (.ret (.bi .abs (.pk 2)))
  .nil)))⟩
/-- _law_draws(script, k, count, many): 0 script, 1 k, 2 count, 3 many, 4 number, 5 found, 6 state, 7 at, 8 other -/
def df12 : Df := ⟨4, 9, (.cons (.set 4 (.call 11 (.cons (.e (.var 0)) (.cons (.e (.var 1)) .nil))))
  (.cons (.set 5 (.lst .nil))
  (.cons (.iff (.e (.e (.cmp .ge (.pk 4) (.e (.bin .pow (.e (.cst (.int 10))) (.e (.cst (.int 18)))))))) (.cons (.set 4 (.bin .sub (.pk 4) (.e (.bin .pow (.e (.cst (.int 10))) (.e (.cst (.int 18)))))))
  (.cons (.for (.nm 7) (.rng (.cons (.pk 2) .nil)) (.cons (.ex (.mu .append 5 (.cons (.e (.bin .mod (.pk 4) (.pk 3))) .nil)))
  (.cons (.set 4 (.bin .fdiv (.pk 4) (.pk 3)))
  .nil)))
  (.cons (.retv 5)
  .nil))) .nil)
  (.cons (.set 6 (.bin .add (.e (.bin .mod (.pk 4) (.e (.cst (.int 2147483647))))) (.e (.cst (.int 1)))))
  (.cons (.for (.nm 7) (.rng (.cons (.pk 2) .nil)) (.cons (.set 6 (.bin .mod (.e (.bin .add (.e (.bin .add (.e (.bin .mul (.pk 6) (.e (.cst (.int 48271))))) (.e (.bin .mul (.e (.cst (.int 11))) (.pk 7))))) (.e (.cst (.int 7))))) (.e (.cst (.int 2147483647)))))
  (.cons (.set 8 (.bin .mod (.e (.bin .add (.e (.bin .add (.e (.bin .mul (.pk 6) (.pk 6))) (.e (.bin .mul (.e (.cst (.int 69621))) (.pk 7))))) (.e (.cst (.int 5))))) (.e (.cst (.int 2147483629)))))
  (.cons (.ex (.mu .append 5 (.cons (.e (.bin .mod (.e (.bin .fdiv (.pk 8) (.e (.cst (.int 64))))) (.pk 3))) .nil)))
  .nil))))
  (.cons (.retv 5)
  .nil))))))⟩
/-- _law_pick(picks): 0 picks -/
def df13 : Df := ⟨1, 1, (.cons (.iff (.e (.e (.cmp .eq (.e (.bi .len (.pk 0))) (.e (.cst (.int 0)))))) (.cons (.ret (.cst (.int 0)))
  .nil) .nil)
  (.cons (.ret (.mu .pop 0 .nil))
  .nil))⟩
/-- _law_picks(script, k, count): 0 script, 1 k, 2 count, 3 picks -/
def df14 : Df := ⟨3, 4, (.cons (.set 3 (.call 12 (.cons (.e (.var 0)) (.cons (.e (.var 1)) (.cons (.e (.var 2)) (.cons (.e (.cst (.int 5040))) .nil))))))
  (.cons (.ex (.mu .reverse 3 .nil))
  (.cons (.retv 3)
  .nil)))⟩
/-- _law_rows(script, k, count, columns, worths): 0 script, 1 k, 2 count, 3 columns, 4 worths, 5 picks, 6 wide, 7 j, 8 i -/
def df15 : Df := ⟨5, 9, (.cons (.set 5 (.call 12 (.cons (.e (.var 0)) (.cons (.e (.var 1)) (.cons (.e (.bin .mul (.pk 2) (.e (.bi .len (.pk 3))))) (.cons (.e (.cst (.int 5040))) .nil))))))
  (.cons (.set 6 (.bi .len (.pk 3)))
  (.cons (.ret (.lc [7] (.nm 7) (.rng (.cons (.pk 2) .nil)) .no (.bi .tuple (.e (.lc [8] (.nm 8) (.rng (.cons (.pk 6) .nil)) .no (.bin .mod (.e (.idx (.pk 5) (.e (.bin .add (.e (.bin .mul (.pk 6) (.pk 7))) (.pk 8))))) (.pk 4)))))))
  .nil)))⟩
/-- _law_table(script, k, count, columns, worths): 0 script, 1 k, 2 count, 3 columns, 4 worths, 5 row -/
def df16 : Df := ⟨5, 6, (.cons (.ret (.tup (.cons (.e (.var 3)) (.cons (.e (.bi .tuple (.e (.bi .sorted (.e (.bi .list (.e (.bi (.dict true) (.e (.lc [5] (.nm 5) (.it (.call 15 (.cons (.e (.var 0)) (.cons (.e (.var 1)) (.cons (.e (.var 2)) (.cons (.e (.var 3)) (.cons (.e (.var 4)) .nil))))))) .no (.tup (.cons (.e (.var 5)) (.cons (.e (.cst (.int 0))) .nil))))))))))))) .nil))))
  .nil)⟩
/-- _law_once(rows): 0 rows, 1 row -/
def df17 : Df := ⟨1, 2, (.cons (.ret (.bi .list (.e (.bi (.dict false) (.e (.lc [1] (.nm 1) (.it (.var 0)) .no (.tup (.cons (.e (.var 1)) (.cons (.e (.cst (.int 0))) .nil)))))))))
  .nil)⟩
/-- _law_tables(script, k, schema, worths): 0 script, 1 k, 2 schema, 3 worths, 4 found, 5 j, 6 picks -/
def df18 : Df := ⟨4, 7, (.cons (.set 4 (.dic false .nil))
  (.cons (.for (.nm 5) (.rng (.cons (.e (.bi .len (.e (.idx (.pk 2) (.e (.cst (.int 0))))))) .nil)) (.cons (.set 6 (.call 12 (.cons (.e (.var 0)) (.cons (.e (.bin .add (.pk 1) (.pk 5))) (.cons (.e (.cst (.int 1))) (.cons (.e (.cst (.int 5040))) .nil))))))
  (.cons (.setI 4 (.e (.idx (.e (.idx (.e (.idx (.pk 2) (.e (.cst (.int 0))))) (.pk 5))) (.e (.cst (.int 0))))) (.call 16 (.cons (.e (.var 0)) (.cons (.e (.bin .add (.e (.bin .add (.pk 1) (.e (.cst (.int 5))))) (.pk 5))) (.cons (.e (.bin .mod (.e (.idx (.pk 6) (.e (.cst (.int 0))))) (.e (.cst (.int 6))))) (.cons (.e (.idx (.e (.idx (.e (.idx (.pk 2) (.e (.cst (.int 0))))) (.pk 5))) (.e (.cst (.int 1))))) (.cons (.e (.var 3)) .nil)))))))
  .nil)))
  (.cons (.retv 4)
  .nil)))⟩
/-- _law_fits(filled, line, row): 0 filled, 1 line, 2 row, 3 found, 4 j -/
def df19 : Df := ⟨3, 5, (.cons (.set 3 (.bi (.dict false) (.pk 0)))
  (.cons (.for (.nm 4) (.rng (.cons (.e (.bi .len (.pk 1))) .nil)) (.cons (.iff (.or (.and (.e (.e (.cmp .ge (.e (.idx (.pk 1) (.pk 4))) (.e (.cst (.int 0)))))) (.e (.e (.cmp .ne (.e (.idx (.pk 1) (.pk 4))) (.e (.idx (.pk 2) (.pk 4))))))) (.and (.e (.e (.cmp .lt (.e (.idx (.pk 1) (.pk 4))) (.e (.cst (.int 0)))))) (.e (.e (.cmp .ne (.e (.mt .get (.pk 3) (.cons (.e (.idx (.pk 1) (.pk 4))) (.cons (.e (.idx (.pk 2) (.pk 4))) .nil)))) (.e (.idx (.pk 2) (.pk 4)))))))) (.cons (.ret (.cst .non))
  .nil) .nil)
  (.cons (.iff (.e (.e (.cmp .lt (.e (.idx (.pk 1) (.pk 4))) (.e (.cst (.int 0)))))) (.cons (.setI 3 (.e (.idx (.pk 1) (.pk 4))) (.idx (.pk 2) (.pk 4)))
  .nil) .nil)
  .nil)))
  (.cons (.retv 3)
  .nil)))⟩
/-- _law_fillings(tables, pattern): 0 tables, 1 pattern, 2 found, 3 name, 4 line, 5 longer, 6 filled, 7 row, 8 more -/
def df20 : Df := ⟨2, 9, (.cons (.set 2 (.lst (.cons (.e (.dic false .nil)) .nil)))
  (.cons (.for (.tp [3, 4]) (.it (.idx (.pk 1) (.e (.cst (.int 2))))) (.cons (.set 5 (.lst .nil))
  (.cons (.for (.nm 6) (.it (.var 2)) (.cons (.for (.nm 7) (.it (.idx (.e (.idx (.pk 0) (.pk 3))) (.e (.cst (.int 1))))) (.cons (.set 8 (.call 19 (.cons (.e (.var 6)) (.cons (.e (.var 4)) (.cons (.e (.var 7)) .nil)))))
  (.cons (.iff (.e (.e (.cmp .notn (.pk 8) (.e (.cst .non))))) (.cons (.ex (.mu .append 5 (.cons (.e (.var 8)) .nil)))
  .nil) .nil)
  .nil)))
  .nil))
  (.cons (.set 2 (.var 5))
  .nil))))
  (.cons (.retv 2)
  .nil)))⟩
/-- _law_drawn(picks, schemes): 0 picks, 1 schemes, 2 lines, 3 k, 4 marks, 5 told, 6 name, 7 line, 8 column -/
def df21 : Df := ⟨2, 9, (.cons (.set 2 (.lst .nil))
  (.cons (.for (.nm 3) (.rng (.cons (.e (.bin .add (.e (.cst (.int 1))) (.e (.bin .mod (.e (.call 13 (.cons (.pk 0) .nil))) (.e (.cst (.int 4))))))) .nil)) (.cons (.set 6 (.idx (.e (.lst (.cons (.e (.cst (.str (Str.ofString "r")))) (.cons (.e (.cst (.str (Str.ofString "s")))) (.cons (.e (.cst (.str (Str.ofString "t")))) (.cons (.e (.cst (.str (Str.ofString "s")))) .nil)))))) (.e (.bin .mod (.e (.call 13 (.cons (.pk 0) .nil))) (.e (.cst (.int 4)))))))
  (.cons (.ex (.mu .append 2 (.cons (.e (.tup (.cons (.e (.var 6)) (.cons (.e (.bi .tuple (.e (.lc [8] (.nm 8) (.it (.idx (.pk 1) (.pk 6))) .no (.idx (.e (.lst (.cons (.e (.neg (.e (.cst (.int 1))))) (.cons (.e (.neg (.e (.cst (.int 2))))) (.cons (.e (.neg (.e (.cst (.int 3))))) (.cons (.e (.cst (.int 0))) (.cons (.e (.neg (.e (.cst (.int 2))))) (.cons (.e (.cst (.int 1))) .nil)))))))) (.e (.bin .mod (.e (.call 13 (.cons (.pk 0) .nil))) (.e (.cst (.int 6)))))))))) .nil)))) .nil)))
  .nil)))
  (.cons (.set 4 (.lst (.cons (.e (.cst (.int 0))) .nil)))
  (.cons (.for (.tp [6, 7]) (.it (.var 2)) (.cons (.set 4 (.bin .add (.pk 4) (.e (.bi .list (.pk 7)))))
  .nil))
  (.cons (.set 5 (.bi .tuple (.e (.lc [3] (.nm 3) (.rng (.cons (.e (.bin .mod (.e (.call 13 (.cons (.pk 0) .nil))) (.e (.cst (.int 3))))) .nil)) .no (.idx (.pk 4) (.e (.bin .mod (.e (.call 13 (.cons (.pk 0) .nil))) (.e (.bi .len (.pk 4))))))))))
  (.cons (.ret (.tup (.cons (.e (.sli (.e (.tup (.cons (.e (.cst (.str (Str.ofString "g")))) (.cons (.e (.cst (.str (Str.ofString "h")))) .nil)))) .no (.yes (.e (.bi .len (.pk 5)))))) (.cons (.e (.var 5)) (.cons (.e (.bi .tuple (.pk 2))) .nil)))))
  .nil))))))⟩
/-- _law_variables(pattern): 0 pattern, 1 found, 2 name, 3 line, 4 mark -/
def df22 : Df := ⟨1, 5, (.cons (.set 1 (.bi .list (.e (.idx (.pk 0) (.e (.cst (.int 1)))))))
  (.cons (.for (.tp [2, 3]) (.it (.idx (.pk 0) (.e (.cst (.int 2))))) (.cons (.set 1 (.bin .add (.pk 1) (.e (.bi .list (.pk 3)))))
  .nil))
  (.cons (.ret (.lc [4] (.nm 4) (.it (.call 17 (.cons (.e (.var 1)) .nil))) (.yes (.e (.e (.cmp .lt (.pk 4) (.e (.cst (.int 0))))))) (.var 4)))
  .nil)))⟩
/-- _law_put(paper, pattern): 0 paper, 1 pattern, 2 lines, 3 name, 4 line, 5 mark -/
def df23 : Df := ⟨2, 6, (.cons (.set 2 (.bi .tuple (.e (.lc [3, 4] (.tp [3, 4]) (.it (.idx (.pk 1) (.e (.cst (.int 2))))) .no (.tup (.cons (.e (.var 3)) (.cons (.e (.bi .tuple (.e (.lc [5] (.nm 5) (.it (.var 4)) .no (.mt .get (.pk 0) (.cons (.e (.var 5)) (.cons (.e (.var 5)) .nil))))))) .nil)))))))
  (.cons (.ret (.tup (.cons (.e (.idx (.pk 1) (.e (.cst (.int 0))))) (.cons (.e (.bi .tuple (.e (.lc [5] (.nm 5) (.it (.idx (.pk 1) (.e (.cst (.int 1))))) .no (.mt .get (.pk 0) (.cons (.e (.var 5)) (.cons (.e (.var 5)) .nil))))))) (.cons (.e (.var 2)) .nil)))))
  .nil))⟩
/-- _law_is_right(first, second, paper): 0 first, 1 second, 2 paper, 3 own, 4 made, 5 mark -/
def df24 : Df := ⟨3, 6, (.cons (.set 3 (.call 22 (.cons (.e (.var 0)) .nil)))
  (.cons (.iff (.or (.e (.e (.cmp .gt (.e (.bi .len (.e (.lc [5] (.nm 5) (.it (.var 3)) (.yes (.e (.e (.cmp .notin (.pk 5) (.pk 2))))) (.var 5))))) (.e (.cst (.int 0)))))) (.e (.e (.cmp .gt (.e (.bi .len (.e (.lc [5] (.nm 5) (.it (.var 3)) (.yes (.e (.e (.cmp .ge (.e (.idx (.pk 2) (.pk 5))) (.e (.cst (.int 0))))))) (.var 5))))) (.e (.cst (.int 0))))))) (.cons (.ret (.cst (.bl false)))
  .nil) .nil)
  (.cons (.iff (.or (.e (.e (.cmp .lt (.e (.bi .len (.e (.call 17 (.cons (.e (.bi .lvals (.pk 2))) .nil))))) (.e (.bi .len (.pk 2)))))) (.e (.e (.cmp .ne (.e (.idx (.pk 0) (.e (.cst (.int 0))))) (.e (.idx (.pk 1) (.e (.cst (.int 0))))))))) (.cons (.ret (.cst (.bl false)))
  .nil) .nil)
  (.cons (.set 4 (.call 23 (.cons (.e (.bi (.dict false) (.e (.lc [5] (.nm 5) (.it (.var 3)) .no (.tup (.cons (.e (.var 5)) (.cons (.e (.idx (.pk 2) (.pk 5))) .nil))))))) (.cons (.e (.var 0)) .nil))))
  (.cons (.ret (.andv (.cmp .eq (.e (.idx (.pk 4) (.e (.cst (.int 1))))) (.e (.idx (.pk 1) (.e (.cst (.int 1)))))) (.cmp .eq (.e (.bi .sorted (.e (.bi .list (.e (.idx (.pk 4) (.e (.cst (.int 2))))))))) (.e (.bi .sorted (.e (.bi .list (.e (.idx (.pk 1) (.e (.cst (.int 2))))))))))))
  .nil)))))⟩
/-- _law_exchanges(ours, theirs): 0 ours, 1 theirs, 2 found, 3 mark, 4 longer, 5 paper, 6 other -/
def df25 : Df := ⟨2, 7, (.cons (.set 2 (.lst (.cons (.e (.dic false .nil)) .nil)))
  (.cons (.for (.nm 3) (.it (.var 0)) (.cons (.set 4 (.lst .nil))
  (.cons (.for (.nm 5) (.it (.var 2)) (.cons (.for (.nm 6) (.it (.var 1)) (.cons (.iff (.e (.e (.cmp .notin (.pk 6) (.e (.bi .lvals (.pk 5)))))) (.cons (.ex (.mu .append 4 (.cons (.e (.bi (.dict false) (.e (.bin .add (.e (.bi .litems (.pk 5))) (.e (.lst (.cons (.e (.tup (.cons (.e (.var 3)) (.cons (.e (.var 6)) .nil)))) .nil))))))) .nil)))
  .nil) .nil)
  .nil))
  .nil))
  (.cons (.set 2 (.var 4))
  .nil))))
  (.cons (.retv 2)
  .nil)))⟩
/-- _law_pair_holds(first, second): 0 first, 1 second, 2 papers, 3 right, 4 told, 5 paper, 6 x -/
def df26 : Df := ⟨2, 7, (.cons (.set 2 (.call 25 (.cons (.e (.call 22 (.cons (.e (.var 0)) .nil))) (.cons (.e (.call 22 (.cons (.e (.var 1)) .nil))) .nil))))
  (.cons (.set 3 (.lc [5] (.nm 5) (.it (.var 2)) (.yes (.e (.e (.call 24 (.cons (.e (.var 0)) (.cons (.e (.var 1)) (.cons (.e (.var 5)) .nil))))))) (.var 5)))
  (.cons (.set 4 (.call 3 (.cons (.e (.var 0)) (.cons (.e (.var 1)) .nil))))
  (.cons (.iff (.or (.e (.e (.cmp .isn (.pk 4) (.e (.cst .non))))) (.e (.e (.cmp .eq (.e (.bi .len (.pk 3))) (.e (.cst (.int 0))))))) (.cons (.ret (.andv (.cmp .isn (.pk 4) (.e (.cst .non))) (.andv (.cmp .eq (.e (.bi .len (.pk 3))) (.e (.cst (.int 0)))) (.cmp .isb (.e (.call 6 (.cons (.e (.var 0)) (.cons (.e (.var 1)) .nil)))) (.e (.cst (.bl false)))))))
  .nil) .nil)
  (.cons (.iff (.or (.not (.e (.e (.bi (.isi .dict) (.pk 4))))) (.e (.e (.cmp .gt (.e (.bi .len (.e (.lc [6] (.nm 6) (.it (.bi .litems (.pk 4))) (.yes (.or (.not (.e (.e (.call 9 (.cons (.e (.idx (.pk 6) (.e (.cst (.int 0))))) .nil))))) (.not (.e (.e (.call 9 (.cons (.e (.idx (.pk 6) (.e (.cst (.int 1))))) .nil))))))) (.var 6))))) (.e (.cst (.int 0))))))) (.cons (.ret (.cst (.bl false)))
  .nil) .nil)
  (.cons (.ret (.andv (.call 24 (.cons (.e (.var 0)) (.cons (.e (.var 1)) (.cons (.e (.var 4)) .nil)))) (.cmp .isb (.e (.call 6 (.cons (.e (.var 0)) (.cons (.e (.var 1)) .nil)))) (.e (.cst (.bl true))))))
  .nil))))))⟩
/-- _law_bent(picks, paper): 0 picks, 1 paper, 2 found, 3 marks, 4 mark, 5 left, 6 other, 7 pair -/
def df27 : Df := ⟨2, 8, (.cons (.set 2 (.lst (.cons (.e (.var 1)) (.cons (.e (.dic false .nil)) (.cons (.e (.bi (.dict false) (.e (.bin .add (.e (.bi .litems (.pk 1))) (.e (.lst (.cons (.e (.tup (.cons (.e (.neg (.e (.cst (.int 40))))) (.cons (.e (.neg (.e (.cst (.int 41))))) .nil)))) .nil))))))) (.cons (.e (.bi (.dict false) (.e (.lc [4] (.nm 4) (.it (.var 1)) .no (.tup (.cons (.e (.var 4)) (.cons (.e (.cst (.int 0))) .nil))))))) .nil))))))
  (.cons (.set 3 (.bi .sorted (.e (.bi .list (.pk 1)))))
  (.cons (.for (.nm 4) (.it (.sli (.pk 3) .no (.yes (.e (.cst (.int 1)))))) (.cons (.ex (.mu .append 2 (.cons (.e (.bi (.dict false) (.e (.bin .add (.e (.bi .litems (.pk 1))) (.e (.lst (.cons (.e (.tup (.cons (.e (.neg (.e (.cst (.int 40))))) (.cons (.e (.idx (.pk 1) (.pk 4))) .nil)))) .nil))))))) .nil)))
  .nil))
  (.cons (.for (.nm 4) (.it (.sli (.pk 3) .no (.yes (.e (.cst (.int 2)))))) (.cons (.set 5 (.lc [7] (.nm 7) (.it (.bi .litems (.pk 1))) (.yes (.e (.e (.cmp .ne (.e (.idx (.pk 7) (.e (.cst (.int 0))))) (.pk 4))))) (.var 7)))
  (.cons (.for (.nm 6) (.it (.lst (.cons (.e (.bin .mod (.e (.call 13 (.cons (.pk 0) .nil))) (.e (.cst (.int 3))))) (.cons (.e (.bin .sub (.e (.neg (.e (.cst (.int 1))))) (.e (.bin .mod (.e (.call 13 (.cons (.pk 0) .nil))) (.e (.cst (.int 4))))))) (.cons (.e (.neg (.e (.cst (.int 50))))) .nil))))) (.cons (.ex (.mu .append 2 (.cons (.e (.bi (.dict false) (.e (.bin .add (.pk 5) (.e (.lst (.cons (.e (.tup (.cons (.e (.var 4)) (.cons (.e (.var 6)) .nil)))) .nil))))))) .nil)))
  .nil))
  (.cons (.ex (.mu .append 2 (.cons (.e (.bi (.dict false) (.pk 5))) .nil)))
  .nil))))
  (.cons (.retv 2)
  .nil)))))⟩
/-- _law_judged(picks, first, second, paper): 0 picks, 1 first, 2 second, 3 paper, 4 other, 5 handed -/
def df28 : Df := ⟨4, 6, (.cons (.for (.nm 4) (.it (.call 27 (.cons (.pk 0) (.cons (.e (.var 3)) .nil)))) (.cons (.set 5 (.bi (.dict false) (.pk 4)))
  (.cons (.iff (.or (.not (.e (.e (.call 10 (.cons (.e (.call 7 (.cons (.e (.var 1)) (.cons (.e (.var 2)) (.cons (.e (.var 5)) .nil))))) (.cons (.e (.call 24 (.cons (.e (.var 1)) (.cons (.e (.var 2)) (.cons (.e (.var 4)) .nil))))) .nil)))))) (.e (.e (.cmp .ne (.pk 5) (.pk 4))))) (.cons (.ret (.cst (.bl false)))
  .nil) .nil)
  .nil)))
  (.cons (.ret (.cst (.bl true)))
  .nil))⟩
/-- _law_counted(tables, pattern): 0 tables, 1 pattern, 2 counts, 3 filled, 4 row, 5 mark -/
def df29 : Df := ⟨2, 6, (.cons (.set 2 (.dic true .nil))
  (.cons (.for (.nm 3) (.it (.call 20 (.cons (.e (.var 0)) (.cons (.e (.var 1)) .nil)))) (.cons (.set 4 (.bi .tuple (.e (.lc [5] (.nm 5) (.it (.idx (.pk 1) (.e (.cst (.int 1))))) .no (.ite (.e (.e (.cmp .ge (.pk 5) (.e (.cst (.int 0)))))) (.var 5) (.idx (.pk 3) (.pk 5)))))))
  (.cons (.setI 2 (.pk 4) (.bin .add (.e (.mt .get (.pk 2) (.cons (.e (.var 4)) (.cons (.e (.cst (.int 0))) .nil)))) (.e (.cst (.int 1)))))
  .nil)))
  (.cons (.retv 2)
  .nil)))⟩
/-- _law_near(picks, pattern): 0 picks, 1 pattern, 2 mark, 3 j, 4 changed, 5 found, 6 columns, 7 told, 8 lines, 9 name, 10 line -/
def df30 : Df := ⟨2, 11, (.cons (.setT [6, 7, 8] (.var 1))
  (.cons (.setT [9, 10] (.idx (.pk 8) (.e (.cst (.int 0)))))
  (.cons (.set 2 (.idx (.e (.lst (.cons (.e (.cst (.int 0))) (.cons (.e (.cst (.int 1))) (.cons (.e (.neg (.e (.cst (.int 1))))) (.cons (.e (.neg (.e (.cst (.int 2))))) (.cons (.e (.neg (.e (.cst (.int 7))))) .nil))))))) (.e (.bin .mod (.e (.call 13 (.cons (.pk 0) .nil))) (.e (.cst (.int 5)))))))
  (.cons (.set 3 (.bin .mod (.e (.call 13 (.cons (.pk 0) .nil))) (.e (.bi .len (.pk 10)))))
  (.cons (.set 4 (.bin .add (.e (.tup (.cons (.e (.tup (.cons (.e (.var 9)) (.cons (.e (.bin .add (.e (.bin .add (.e (.sli (.pk 10) .no (.yes (.pk 3)))) (.e (.tup (.cons (.e (.var 2)) .nil))))) (.e (.sli (.pk 10) (.yes (.e (.bin .add (.pk 3) (.e (.cst (.int 1)))))) .no)))) .nil)))) .nil))) (.e (.sli (.pk 8) (.yes (.e (.cst (.int 1)))) .no))))
  (.cons (.set 5 (.lst (.cons (.e (.tup (.cons (.e (.var 6)) (.cons (.e (.var 7)) (.cons (.e (.var 4)) .nil))))) (.cons (.e (.tup (.cons (.e (.var 6)) (.cons (.e (.var 7)) (.cons (.e (.sli (.pk 8) (.yes (.e (.cst (.int 1)))) .no)) .nil))))) (.cons (.e (.tup (.cons (.e (.var 6)) (.cons (.e (.var 7)) (.cons (.e (.bin .add (.pk 8) (.e (.sli (.pk 8) .no (.yes (.e (.cst (.int 1)))))))) .nil))))) (.cons (.e (.tup (.cons (.e (.sli (.e (.tup (.cons (.e (.cst (.str (Str.ofString "y")))) (.cons (.e (.cst (.str (Str.ofString "z")))) .nil)))) .no (.yes (.e (.bi .len (.pk 6)))))) (.cons (.e (.var 7)) (.cons (.e (.var 8)) .nil))))) .nil))))))
  (.cons (.ret (.bin .add (.pk 5) (.e (.lst (.cons (.e (.tup (.cons (.e (.var 6)) (.cons (.e (.rev (.pk 7))) (.cons (.e (.var 8)) .nil))))) (.cons (.e (.tup (.cons (.e (.var 6)) (.cons (.e (.bi .tuple (.e (.lc [2] (.nm 2) (.it (.var 7)) .no (.cst (.int 0)))))) (.cons (.e (.var 8)) .nil))))) (.cons (.e (.tup (.cons (.e (.var 6)) (.cons (.e (.var 7)) (.cons (.e (.rev (.pk 8))) .nil))))) .nil)))))))
  .nil)))))))⟩
/-- law(script): 0 script, 1 picks, 2 schemes, 3 schema, 4 tables, 5 before, 6 turn, 7 first, 8 counts, 9 told, 10 ours, 11 spots, 12 paper, 13 second, 14 other, 15 name, 16 j, 17 row -/
def df31 : Df := ⟨1, 18, (.cons (.set 1 (.call 14 (.cons (.e (.var 0)) (.cons (.e (.cst (.int 0))) (.cons (.e (.cst (.int 140))) .nil)))))
  (.cons (.set 2 (.dic false (.cons (.e (.cst (.str (Str.ofString "r")))) (.cons (.e (.tup (.cons (.e (.cst (.str (Str.ofString "a")))) (.cons (.e (.cst (.str (Str.ofString "b")))) (.cons (.e (.cst (.str (Str.ofString "c")))) .nil))))) (.cons (.e (.cst (.str (Str.ofString "s")))) (.cons (.e (.tup (.cons (.e (.cst (.str (Str.ofString "c")))) (.cons (.e (.cst (.str (Str.ofString "d")))) .nil)))) (.cons (.e (.cst (.str (Str.ofString "t")))) (.cons (.e (.tup (.cons (.e (.cst (.str (Str.ofString "b")))) (.cons (.e (.cst (.str (Str.ofString "d")))) (.cons (.e (.cst (.str (Str.ofString "e")))) .nil))))) .nil))))))))
  (.cons (.set 3 (.tup (.cons (.e (.bi .tuple (.e (.lc [15] (.nm 15) (.it (.lst (.cons (.e (.cst (.str (Str.ofString "r")))) (.cons (.e (.cst (.str (Str.ofString "s")))) (.cons (.e (.cst (.str (Str.ofString "t")))) .nil))))) .no (.tup (.cons (.e (.var 15)) (.cons (.e (.idx (.pk 2) (.pk 15))) (.cons (.e (.tup .nil)) .nil)))))))) (.cons (.e (.tup .nil)) .nil))))
  (.cons (.set 4 (.call 18 (.cons (.e (.var 0)) (.cons (.e (.cst (.int 1))) (.cons (.e (.var 3)) (.cons (.e (.cst (.int 2))) .nil))))))
  (.cons (.set 5 (.bi .sorted (.e (.bi .litems (.pk 4)))))
  (.cons (.for (.nm 6) (.rng (.cons (.e (.cst (.int 5))) .nil)) (.cons (.set 7 (.call 21 (.cons (.pk 1) (.cons (.e (.var 2)) .nil))))
  (.cons (.set 8 (.call 29 (.cons (.e (.var 4)) (.cons (.e (.var 7)) .nil))))
  (.cons (.set 9 (.call 2 (.cons (.e (.var 4)) (.cons (.e (.var 7)) .nil))))
  (.cons (.iff (.or (.not (.e (.e (.bi (.isi .dict) (.pk 9))))) (.not (.e (.e (.call 10 (.cons (.e (.bi .sorted (.e (.bi .litems (.pk 9))))) (.cons (.e (.bi .sorted (.e (.bi .litems (.pk 8))))) .nil))))))) (.cons (.ret (.cst (.bl false)))
  .nil) .nil)
  (.cons (.setI 9 (.e (.tup .nil)) (.cst (.int 5)))
  (.cons (.iff (.e (.e (.cmp .ne (.e (.bi .sorted (.e (.bi .litems (.e (.call 2 (.cons (.e (.var 4)) (.cons (.e (.var 7)) .nil)))))))) (.e (.bi .sorted (.e (.bi .litems (.pk 8)))))))) (.cons (.ret (.cst (.bl false)))
  .nil) .nil)
  (.cons (.iff (.not (.e (.e (.call 10 (.cons (.e (.call 8 (.cons (.e (.var 4)) (.cons (.e (.var 7)) .nil)))) (.cons (.e (.bi .sum (.e (.lc [17] (.nm 17) (.it (.var 8)) .no (.idx (.pk 8) (.pk 17)))))) .nil)))))) (.cons (.ret (.cst (.bl false)))
  .nil) .nil)
  (.cons (.set 10 (.call 22 (.cons (.e (.var 7)) .nil)))
  (.cons (.set 11 (.idx (.e (.lst (.cons (.e (.lst (.cons (.e (.neg (.e (.cst (.int 1))))) (.cons (.e (.neg (.e (.cst (.int 2))))) (.cons (.e (.neg (.e (.cst (.int 3))))) .nil))))) (.cons (.e (.lst (.cons (.e (.neg (.e (.cst (.int 3))))) (.cons (.e (.neg (.e (.cst (.int 1))))) (.cons (.e (.neg (.e (.cst (.int 2))))) .nil))))) (.cons (.e (.lst (.cons (.e (.neg (.e (.cst (.int 20))))) (.cons (.e (.neg (.e (.cst (.int 5))))) (.cons (.e (.neg (.e (.cst (.int 1))))) .nil))))) .nil))))) (.e (.bin .mod (.e (.call 13 (.cons (.pk 1) .nil))) (.e (.cst (.int 3)))))))
  (.cons (.set 12 (.bi (.dict false) (.e (.lc [16] (.nm 16) (.rng (.cons (.e (.bi .len (.pk 10))) .nil)) .no (.tup (.cons (.e (.idx (.pk 10) (.pk 16))) (.cons (.e (.idx (.pk 11) (.pk 16))) .nil)))))))
  (.cons (.set 13 (.call 23 (.cons (.e (.var 12)) (.cons (.e (.var 7)) .nil))))
  (.cons (.set 13 (.tup (.cons (.e (.idx (.pk 13) (.e (.cst (.int 0))))) (.cons (.e (.idx (.pk 13) (.e (.cst (.int 1))))) (.cons (.e (.rev (.e (.idx (.pk 13) (.e (.cst (.int 2))))))) .nil)))))
  (.cons (.for (.nm 14) (.it (.bin .add (.e (.bin .add (.e (.lst (.cons (.e (.var 13)) (.cons (.e (.call 21 (.cons (.pk 1) (.cons (.e (.var 2)) .nil)))) .nil)))) (.e (.call 30 (.cons (.pk 1) (.cons (.e (.var 7)) .nil)))))) (.e (.call 30 (.cons (.pk 1) (.cons (.e (.var 13)) .nil)))))) (.cons (.iff (.or (.not (.e (.e (.call 26 (.cons (.e (.var 7)) (.cons (.e (.var 14)) .nil)))))) (.not (.e (.e (.call 28 (.cons (.pk 1) (.cons (.e (.var 7)) (.cons (.e (.var 14)) (.cons (.e (.var 12)) .nil))))))))) (.cons (.ret (.cst (.bl false)))
  .nil) .nil)
  .nil))
  .nil))))))))))))))
  (.cons (.ret (.cmp .eq (.e (.bi .sorted (.e (.bi .litems (.pk 4))))) (.pk 5)))
  .nil)))))))⟩
def T : List Df := [df0, df1, df2, df3, df4, df5, df6, df7, df8, df9, df10, df11, df12, df13, df14, df15, df16, df17, df18, df19, df20, df21, df22, df23, df24, df25, df26, df27, df28, df29, df30, df31]
end L2.PL
end
section
set_option maxRecDepth 100000
set_option maxHeartbeats 0
/-! The bodies read so (printed by gen.py). -/
namespace L2.PL
open PySem PySem.Spec PyProof.Rows L2
def top (i : Nat) : Stmt := PySem.Challenge.pw_columnlaws_k59_ways_and_exchanges.main.body.getD i (.Pass ⟨0, 0, 0, 0⟩)
abbrev FnP (K : PySem.W.Frag) (x : Str) (st : Stmt) (f : Addr) (fd : FuncData) : Prop := FunD K x x (defArgs st) (defBody st) (defScope st) [] [] f fd
abbrev s0 : Stmt := top 1
abbrev N0 : List Str := ["filled", "mark"]
abbrev p0 : List Str := ["filled", "mark"]
theorem sc0 : FnScope N0 p0 (defScope s0) := ⟨rfl, rfl, rfl, by decide +kernel, rfl, by decide +kernel, by decide +kernel⟩
theorem bd0 {K : PySem.W.Frag} {f : Addr} {fd : FuncData} (F : FnP K "worth_of" s0 f fd) : Binds K fd p0 [] := F.bindsN fun _ _ _ _ _ _ us hl => match us, hl with | [_, _], _ => rfl
abbrev s1 : Stmt := top 2
abbrev N1 : List Str := ["filled", "line", "row", "found", "spot", "mark"]
abbrev p1 : List Str := ["filled", "line", "row"]
theorem sc1 : FnScope N1 p1 (defScope s1) := ⟨rfl, rfl, rfl, by decide +kernel, rfl, by decide +kernel, by decide +kernel⟩
theorem bd1 {K : PySem.W.Frag} {f : Addr} {fd : FuncData} (F : FnP K "fitted" s1 f fd) : Binds K fd p1 [] := F.bindsN fun _ _ _ _ _ _ us hl => match us, hl with | [_, _, _], _ => rfl
abbrev s2 : Stmt := top 4
abbrev N2 : List Str := ["tables", "pattern", "found", "counts", "filled", "name", "line", "longer", "row", "more", "mark"]
abbrev p2 : List Str := ["tables", "pattern"]
theorem sc2 : FnScope N2 p2 (defScope s2) := ⟨rfl, rfl, rfl, by decide +kernel, rfl, by decide +kernel, by decide +kernel⟩
theorem bd2 {K : PySem.W.Frag} {f : Addr} {fd : FuncData} (F : FnP K "way_counts" s2 f fd) : Binds K fd p2 [] := F.bindsN fun _ _ _ _ _ _ us hl => match us, hl with | [_, _], _ => rfl
abbrev s3 : Stmt := top 5
abbrev N3 : List Str := ["first", "second", "begun"]
abbrev p3 : List Str := ["first", "second"]
theorem sc3 : FnScope N3 p3 (defScope s3) := ⟨rfl, rfl, rfl, by decide +kernel, rfl, by decide +kernel, by decide +kernel⟩
theorem bd3 {K : PySem.W.Frag} {f : Addr} {fd : FuncData} (F : FnP K "exchange" s3 f fd) : Binds K fd p3 [] := F.bindsN fun _ _ _ _ _ _ us hl => match us, hl with | [_, _], _ => rfl
abbrev s4 : Stmt := top 6
abbrev N4 : List Str := ["found", "ours", "theirs", "at", "name", "line", "more", "told"]
abbrev p4 : List Str := ["found", "ours", "theirs"]
theorem sc4 : FnScope N4 p4 (defScope s4) := ⟨rfl, rfl, rfl, by decide +kernel, rfl, by decide +kernel, by decide +kernel⟩
theorem bd4 {K : PySem.W.Frag} {f : Addr} {fd : FuncData} (F : FnP K "led_exchange" s4 f fd) : Binds K fd p4 [] := F.bindsN fun _ _ _ _ _ _ us hl => match us, hl with | [_, _, _], _ => rfl
abbrev s5 : Stmt := top 7
abbrev N5 : List Str := ["found", "line", "other", "told", "taken", "spot", "mark", "one", "two"]
abbrev p5 : List Str := ["found", "line", "other"]
theorem sc5 : FnScope N5 p5 (defScope s5) := ⟨rfl, rfl, rfl, by decide +kernel, rfl, by decide +kernel, by decide +kernel⟩
theorem bd5 {K : PySem.W.Frag} {f : Addr} {fd : FuncData} (F : FnP K "matched" s5 f fd) : Binds K fd p5 [] := F.bindsN fun _ _ _ _ _ _ us hl => match us, hl with | [_, _, _], _ => rfl
abbrev s6 : Stmt := top 8
abbrev N6 : List Str := ["first", "second"]
abbrev p6 : List Str := ["first", "second"]
theorem sc6 : FnScope N6 p6 (defScope s6) := ⟨rfl, rfl, rfl, by decide +kernel, rfl, by decide +kernel, by decide +kernel⟩
theorem bd6 {K : PySem.W.Frag} {f : Addr} {fd : FuncData} (F : FnP K "are_one" s6 f fd) : Binds K fd p6 [] := F.bindsN fun _ _ _ _ _ _ us hl => match us, hl with | [_, _], _ => rfl
abbrev s7 : Stmt := top 9
abbrev N7 : List Str := ["first", "second", "paper", "told", "lines", "name", "line", "mark"]
abbrev p7 : List Str := ["first", "second", "paper"]
theorem sc7 : FnScope N7 p7 (defScope s7) := ⟨rfl, rfl, rfl, by decide +kernel, rfl, by decide +kernel, by decide +kernel⟩
theorem bd7 {K : PySem.W.Frag} {f : Addr} {fd : FuncData} (F : FnP K "is_exchange" s7 f fd) : Binds K fd p7 [] := F.bindsN fun _ _ _ _ _ _ us hl => match us, hl with | [_, _, _], _ => rfl
abbrev s8 : Stmt := top 10
abbrev N8 : List Str := ["tables", "pattern"]
abbrev p8 : List Str := ["tables", "pattern"]
theorem sc8 : FnScope N8 p8 (defScope s8) := ⟨rfl, rfl, rfl, by decide +kernel, rfl, by decide +kernel, by decide +kernel⟩
theorem bd8 {K : PySem.W.Frag} {f : Addr} {fd : FuncData} (F : FnP K "total_ways" s8 f fd) : Binds K fd p8 [] := F.bindsN fun _ _ _ _ _ _ us hl => match us, hl with | [_, _], _ => rfl
abbrev s9 : Stmt := top 12
abbrev N9 : List Str := ["x"]
abbrev p9 : List Str := ["x"]
theorem sc9 : FnScope N9 p9 (defScope s9) := ⟨rfl, rfl, rfl, by decide +kernel, rfl, by decide +kernel, by decide +kernel⟩
theorem bd9 {K : PySem.W.Frag} {f : Addr} {fd : FuncData} (F : FnP K "_law_is_int" s9 f fd) : Binds K fd p9 [] := F.bindsN fun _ _ _ _ _ _ us hl => match us, hl with | [_], _ => rfl
abbrev s10 : Stmt := top 13
abbrev N10 : List Str := ["told", "due", "k"]
abbrev p10 : List Str := ["told", "due"]
theorem sc10 : FnScope N10 p10 (defScope s10) := ⟨rfl, rfl, rfl, by decide +kernel, rfl, by decide +kernel, by decide +kernel⟩
theorem bd10 {K : PySem.W.Frag} {f : Addr} {fd : FuncData} (F : FnP K "_law_same" s10 f fd) : Binds K fd p10 [] := F.bindsN fun _ _ _ _ _ _ us hl => match us, hl with | [_, _], _ => rfl
abbrev s11 : Stmt := top 14
abbrev N11 : List Str := ["script", "k", "number"]
abbrev p11 : List Str := ["script", "k"]
theorem sc11 : FnScope N11 p11 (defScope s11) := ⟨rfl, rfl, rfl, by decide +kernel, rfl, by decide +kernel, by decide +kernel⟩
theorem bd11 {K : PySem.W.Frag} {f : Addr} {fd : FuncData} (F : FnP K "_law_number" s11 f fd) : Binds K fd p11 [] := F.bindsN fun _ _ _ _ _ _ us hl => match us, hl with | [_, _], _ => rfl
abbrev s12 : Stmt := top 15
abbrev N12 : List Str := ["script", "k", "count", "many", "number", "found", "state", "at", "other"]
abbrev p12 : List Str := ["script", "k", "count", "many"]
theorem sc12 : FnScope N12 p12 (defScope s12) := ⟨rfl, rfl, rfl, by decide +kernel, rfl, by decide +kernel, by decide +kernel⟩
theorem bd12 {K : PySem.W.Frag} {f : Addr} {fd : FuncData} (F : FnP K "_law_draws" s12 f fd) : Binds K fd p12 [] := F.bindsN fun _ _ _ _ _ _ us hl => match us, hl with | [_, _, _, _], _ => rfl
abbrev s13 : Stmt := top 16
abbrev N13 : List Str := ["picks"]
abbrev p13 : List Str := ["picks"]
theorem sc13 : FnScope N13 p13 (defScope s13) := ⟨rfl, rfl, rfl, by decide +kernel, rfl, by decide +kernel, by decide +kernel⟩
theorem bd13 {K : PySem.W.Frag} {f : Addr} {fd : FuncData} (F : FnP K "_law_pick" s13 f fd) : Binds K fd p13 [] := F.bindsN fun _ _ _ _ _ _ us hl => match us, hl with | [_], _ => rfl
abbrev s14 : Stmt := top 17
abbrev N14 : List Str := ["script", "k", "count", "picks"]
abbrev p14 : List Str := ["script", "k", "count"]
theorem sc14 : FnScope N14 p14 (defScope s14) := ⟨rfl, rfl, rfl, by decide +kernel, rfl, by decide +kernel, by decide +kernel⟩
theorem bd14 {K : PySem.W.Frag} {f : Addr} {fd : FuncData} (F : FnP K "_law_picks" s14 f fd) : Binds K fd p14 [] := F.bindsN fun _ _ _ _ _ _ us hl => match us, hl with | [_, _, _], _ => rfl
abbrev s15 : Stmt := top 18
abbrev N15 : List Str := ["script", "k", "count", "columns", "worths", "picks", "wide", "j", "i"]
abbrev p15 : List Str := ["script", "k", "count", "columns", "worths"]
theorem sc15 : FnScope N15 p15 (defScope s15) := ⟨rfl, rfl, rfl, by decide +kernel, rfl, by decide +kernel, by decide +kernel⟩
theorem bd15 {K : PySem.W.Frag} {f : Addr} {fd : FuncData} (F : FnP K "_law_rows" s15 f fd) : Binds K fd p15 [] := F.bindsN fun _ _ _ _ _ _ us hl => match us, hl with | [_, _, _, _, _], _ => rfl
abbrev s16 : Stmt := top 19
abbrev N16 : List Str := ["script", "k", "count", "columns", "worths", "row"]
abbrev p16 : List Str := ["script", "k", "count", "columns", "worths"]
theorem sc16 : FnScope N16 p16 (defScope s16) := ⟨rfl, rfl, rfl, by decide +kernel, rfl, by decide +kernel, by decide +kernel⟩
theorem bd16 {K : PySem.W.Frag} {f : Addr} {fd : FuncData} (F : FnP K "_law_table" s16 f fd) : Binds K fd p16 [] := F.bindsN fun _ _ _ _ _ _ us hl => match us, hl with | [_, _, _, _, _], _ => rfl
abbrev s17 : Stmt := top 20
abbrev N17 : List Str := ["rows", "row"]
abbrev p17 : List Str := ["rows"]
theorem sc17 : FnScope N17 p17 (defScope s17) := ⟨rfl, rfl, rfl, by decide +kernel, rfl, by decide +kernel, by decide +kernel⟩
theorem bd17 {K : PySem.W.Frag} {f : Addr} {fd : FuncData} (F : FnP K "_law_once" s17 f fd) : Binds K fd p17 [] := F.bindsN fun _ _ _ _ _ _ us hl => match us, hl with | [_], _ => rfl
abbrev s18 : Stmt := top 21
abbrev N18 : List Str := ["script", "k", "schema", "worths", "found", "j", "picks"]
abbrev p18 : List Str := ["script", "k", "schema", "worths"]
theorem sc18 : FnScope N18 p18 (defScope s18) := ⟨rfl, rfl, rfl, by decide +kernel, rfl, by decide +kernel, by decide +kernel⟩
theorem bd18 {K : PySem.W.Frag} {f : Addr} {fd : FuncData} (F : FnP K "_law_tables" s18 f fd) : Binds K fd p18 [] := F.bindsN fun _ _ _ _ _ _ us hl => match us, hl with | [_, _, _, _], _ => rfl
abbrev s19 : Stmt := top 22
abbrev N19 : List Str := ["filled", "line", "row", "found", "j"]
abbrev p19 : List Str := ["filled", "line", "row"]
theorem sc19 : FnScope N19 p19 (defScope s19) := ⟨rfl, rfl, rfl, by decide +kernel, rfl, by decide +kernel, by decide +kernel⟩
theorem bd19 {K : PySem.W.Frag} {f : Addr} {fd : FuncData} (F : FnP K "_law_fits" s19 f fd) : Binds K fd p19 [] := F.bindsN fun _ _ _ _ _ _ us hl => match us, hl with | [_, _, _], _ => rfl
abbrev s20 : Stmt := top 23
abbrev N20 : List Str := ["tables", "pattern", "found", "name", "line", "longer", "filled", "row", "more"]
abbrev p20 : List Str := ["tables", "pattern"]
theorem sc20 : FnScope N20 p20 (defScope s20) := ⟨rfl, rfl, rfl, by decide +kernel, rfl, by decide +kernel, by decide +kernel⟩
theorem bd20 {K : PySem.W.Frag} {f : Addr} {fd : FuncData} (F : FnP K "_law_fillings" s20 f fd) : Binds K fd p20 [] := F.bindsN fun _ _ _ _ _ _ us hl => match us, hl with | [_, _], _ => rfl
abbrev s21 : Stmt := top 24
abbrev N21 : List Str := ["picks", "schemes", "lines", "k", "marks", "told", "name", "line", "column"]
abbrev p21 : List Str := ["picks", "schemes"]
theorem sc21 : FnScope N21 p21 (defScope s21) := ⟨rfl, rfl, rfl, by decide +kernel, rfl, by decide +kernel, by decide +kernel⟩
theorem bd21 {K : PySem.W.Frag} {f : Addr} {fd : FuncData} (F : FnP K "_law_drawn" s21 f fd) : Binds K fd p21 [] := F.bindsN fun _ _ _ _ _ _ us hl => match us, hl with | [_, _], _ => rfl
abbrev s22 : Stmt := top 25
abbrev N22 : List Str := ["pattern", "found", "name", "line", "mark"]
abbrev p22 : List Str := ["pattern"]
theorem sc22 : FnScope N22 p22 (defScope s22) := ⟨rfl, rfl, rfl, by decide +kernel, rfl, by decide +kernel, by decide +kernel⟩
theorem bd22 {K : PySem.W.Frag} {f : Addr} {fd : FuncData} (F : FnP K "_law_variables" s22 f fd) : Binds K fd p22 [] := F.bindsN fun _ _ _ _ _ _ us hl => match us, hl with | [_], _ => rfl
abbrev s23 : Stmt := top 26
abbrev N23 : List Str := ["paper", "pattern", "lines", "name", "line", "mark"]
abbrev p23 : List Str := ["paper", "pattern"]
theorem sc23 : FnScope N23 p23 (defScope s23) := ⟨rfl, rfl, rfl, by decide +kernel, rfl, by decide +kernel, by decide +kernel⟩
theorem bd23 {K : PySem.W.Frag} {f : Addr} {fd : FuncData} (F : FnP K "_law_put" s23 f fd) : Binds K fd p23 [] := F.bindsN fun _ _ _ _ _ _ us hl => match us, hl with | [_, _], _ => rfl
abbrev s24 : Stmt := top 27
abbrev N24 : List Str := ["first", "second", "paper", "own", "made", "mark"]
abbrev p24 : List Str := ["first", "second", "paper"]
theorem sc24 : FnScope N24 p24 (defScope s24) := ⟨rfl, rfl, rfl, by decide +kernel, rfl, by decide +kernel, by decide +kernel⟩
theorem bd24 {K : PySem.W.Frag} {f : Addr} {fd : FuncData} (F : FnP K "_law_is_right" s24 f fd) : Binds K fd p24 [] := F.bindsN fun _ _ _ _ _ _ us hl => match us, hl with | [_, _, _], _ => rfl
abbrev s25 : Stmt := top 28
abbrev N25 : List Str := ["ours", "theirs", "found", "mark", "longer", "paper", "other"]
abbrev p25 : List Str := ["ours", "theirs"]
theorem sc25 : FnScope N25 p25 (defScope s25) := ⟨rfl, rfl, rfl, by decide +kernel, rfl, by decide +kernel, by decide +kernel⟩
theorem bd25 {K : PySem.W.Frag} {f : Addr} {fd : FuncData} (F : FnP K "_law_exchanges" s25 f fd) : Binds K fd p25 [] := F.bindsN fun _ _ _ _ _ _ us hl => match us, hl with | [_, _], _ => rfl
abbrev s26 : Stmt := top 29
abbrev N26 : List Str := ["first", "second", "papers", "right", "told", "paper", "x"]
abbrev p26 : List Str := ["first", "second"]
theorem sc26 : FnScope N26 p26 (defScope s26) := ⟨rfl, rfl, rfl, by decide +kernel, rfl, by decide +kernel, by decide +kernel⟩
theorem bd26 {K : PySem.W.Frag} {f : Addr} {fd : FuncData} (F : FnP K "_law_pair_holds" s26 f fd) : Binds K fd p26 [] := F.bindsN fun _ _ _ _ _ _ us hl => match us, hl with | [_, _], _ => rfl
abbrev s27 : Stmt := top 30
abbrev N27 : List Str := ["picks", "paper", "found", "marks", "mark", "left", "other", "pair"]
abbrev p27 : List Str := ["picks", "paper"]
theorem sc27 : FnScope N27 p27 (defScope s27) := ⟨rfl, rfl, rfl, by decide +kernel, rfl, by decide +kernel, by decide +kernel⟩
theorem bd27 {K : PySem.W.Frag} {f : Addr} {fd : FuncData} (F : FnP K "_law_bent" s27 f fd) : Binds K fd p27 [] := F.bindsN fun _ _ _ _ _ _ us hl => match us, hl with | [_, _], _ => rfl
abbrev s28 : Stmt := top 31
abbrev N28 : List Str := ["picks", "first", "second", "paper", "other", "handed"]
abbrev p28 : List Str := ["picks", "first", "second", "paper"]
theorem sc28 : FnScope N28 p28 (defScope s28) := ⟨rfl, rfl, rfl, by decide +kernel, rfl, by decide +kernel, by decide +kernel⟩
theorem bd28 {K : PySem.W.Frag} {f : Addr} {fd : FuncData} (F : FnP K "_law_judged" s28 f fd) : Binds K fd p28 [] := F.bindsN fun _ _ _ _ _ _ us hl => match us, hl with | [_, _, _, _], _ => rfl
abbrev s29 : Stmt := top 32
abbrev N29 : List Str := ["tables", "pattern", "counts", "filled", "row", "mark"]
abbrev p29 : List Str := ["tables", "pattern"]
theorem sc29 : FnScope N29 p29 (defScope s29) := ⟨rfl, rfl, rfl, by decide +kernel, rfl, by decide +kernel, by decide +kernel⟩
theorem bd29 {K : PySem.W.Frag} {f : Addr} {fd : FuncData} (F : FnP K "_law_counted" s29 f fd) : Binds K fd p29 [] := F.bindsN fun _ _ _ _ _ _ us hl => match us, hl with | [_, _], _ => rfl
abbrev s30 : Stmt := top 33
abbrev N30 : List Str := ["picks", "pattern", "mark", "j", "changed", "found", "columns", "told", "lines", "name", "line"]
abbrev p30 : List Str := ["picks", "pattern"]
theorem sc30 : FnScope N30 p30 (defScope s30) := ⟨rfl, rfl, rfl, by decide +kernel, rfl, by decide +kernel, by decide +kernel⟩
theorem bd30 {K : PySem.W.Frag} {f : Addr} {fd : FuncData} (F : FnP K "_law_near" s30 f fd) : Binds K fd p30 [] := F.bindsN fun _ _ _ _ _ _ us hl => match us, hl with | [_, _], _ => rfl
abbrev s31 : Stmt := top 34
abbrev N31 : List Str := ["script", "picks", "schemes", "schema", "tables", "before", "turn", "first", "counts", "told", "ours", "spots", "paper", "second", "other", "name", "j", "row"]
abbrev p31 : List Str := ["script"]
theorem sc31 : FnScope N31 p31 (defScope s31) := ⟨rfl, rfl, rfl, by decide +kernel, rfl, by decide +kernel, by decide +kernel⟩
theorem bd31 {K : PySem.W.Frag} {f : Addr} {fd : FuncData} (F : FnP K "law" s31 f fd) : Binds K fd p31 [] := F.bindsN fun _ _ _ _ _ _ us hl => match us, hl with | [_], _ => rfl
theorem bt_abs : bootBuiltins (Str.ofString "abs") = some (.builtin "abs") := by decide +kernel
theorem bt_bool : bootBuiltins (Str.ofString "bool") = some (.type "bool") := by decide +kernel
theorem bt_dict : bootBuiltins (Str.ofString "dict") = some (.type "dict") := by decide +kernel
theorem bt_int : bootBuiltins (Str.ofString "int") = some (.type "int") := by decide +kernel
theorem bt_isinstance : bootBuiltins (Str.ofString "isinstance") = some (.builtin "isinstance") := by decide +kernel
theorem bt_len : bootBuiltins (Str.ofString "len") = some (.builtin "len") := by decide +kernel
theorem bt_list : bootBuiltins (Str.ofString "list") = some (.type "list") := by decide +kernel
theorem bt_range : bootBuiltins (Str.ofString "range") = some (.type "range") := by decide +kernel
theorem bt_sorted : bootBuiltins (Str.ofString "sorted") = some (.builtin "sorted") := by decide +kernel
theorem bt_str : bootBuiltins (Str.ofString "str") = some (.type "str") := by decide +kernel
theorem bt_sum : bootBuiltins (Str.ofString "sum") = some (.builtin "sum") := by decide +kernel
theorem bt_tuple : bootBuiltins (Str.ofString "tuple") = some (.type "tuple") := by decide +kernel
structure Fx (K : PySem.W.Frag) (mg : Str → Option Value) (f : Nat → Addr) (fd : Nat → FuncData) : Prop where
  F0 : FnP K "worth_of" s0 (f 0) (fd 0)
  m0 : mg (Str.ofString "worth_of") = some (.ref (f 0))
  F1 : FnP K "fitted" s1 (f 1) (fd 1)
  m1 : mg (Str.ofString "fitted") = some (.ref (f 1))
  F2 : FnP K "way_counts" s2 (f 2) (fd 2)
  m2 : mg (Str.ofString "way_counts") = some (.ref (f 2))
  F3 : FnP K "exchange" s3 (f 3) (fd 3)
  m3 : mg (Str.ofString "exchange") = some (.ref (f 3))
  F4 : FnP K "led_exchange" s4 (f 4) (fd 4)
  m4 : mg (Str.ofString "led_exchange") = some (.ref (f 4))
  F5 : FnP K "matched" s5 (f 5) (fd 5)
  m5 : mg (Str.ofString "matched") = some (.ref (f 5))
  F6 : FnP K "are_one" s6 (f 6) (fd 6)
  m6 : mg (Str.ofString "are_one") = some (.ref (f 6))
  F7 : FnP K "is_exchange" s7 (f 7) (fd 7)
  m7 : mg (Str.ofString "is_exchange") = some (.ref (f 7))
  F8 : FnP K "total_ways" s8 (f 8) (fd 8)
  m8 : mg (Str.ofString "total_ways") = some (.ref (f 8))
  F9 : FnP K "_law_is_int" s9 (f 9) (fd 9)
  m9 : mg (Str.ofString "_law_is_int") = some (.ref (f 9))
  F10 : FnP K "_law_same" s10 (f 10) (fd 10)
  m10 : mg (Str.ofString "_law_same") = some (.ref (f 10))
  F11 : FnP K "_law_number" s11 (f 11) (fd 11)
  m11 : mg (Str.ofString "_law_number") = some (.ref (f 11))
  F12 : FnP K "_law_draws" s12 (f 12) (fd 12)
  m12 : mg (Str.ofString "_law_draws") = some (.ref (f 12))
  F13 : FnP K "_law_pick" s13 (f 13) (fd 13)
  m13 : mg (Str.ofString "_law_pick") = some (.ref (f 13))
  F14 : FnP K "_law_picks" s14 (f 14) (fd 14)
  m14 : mg (Str.ofString "_law_picks") = some (.ref (f 14))
  F15 : FnP K "_law_rows" s15 (f 15) (fd 15)
  m15 : mg (Str.ofString "_law_rows") = some (.ref (f 15))
  F16 : FnP K "_law_table" s16 (f 16) (fd 16)
  m16 : mg (Str.ofString "_law_table") = some (.ref (f 16))
  F17 : FnP K "_law_once" s17 (f 17) (fd 17)
  m17 : mg (Str.ofString "_law_once") = some (.ref (f 17))
  F18 : FnP K "_law_tables" s18 (f 18) (fd 18)
  m18 : mg (Str.ofString "_law_tables") = some (.ref (f 18))
  F19 : FnP K "_law_fits" s19 (f 19) (fd 19)
  m19 : mg (Str.ofString "_law_fits") = some (.ref (f 19))
  F20 : FnP K "_law_fillings" s20 (f 20) (fd 20)
  m20 : mg (Str.ofString "_law_fillings") = some (.ref (f 20))
  F21 : FnP K "_law_drawn" s21 (f 21) (fd 21)
  m21 : mg (Str.ofString "_law_drawn") = some (.ref (f 21))
  F22 : FnP K "_law_variables" s22 (f 22) (fd 22)
  m22 : mg (Str.ofString "_law_variables") = some (.ref (f 22))
  F23 : FnP K "_law_put" s23 (f 23) (fd 23)
  m23 : mg (Str.ofString "_law_put") = some (.ref (f 23))
  F24 : FnP K "_law_is_right" s24 (f 24) (fd 24)
  m24 : mg (Str.ofString "_law_is_right") = some (.ref (f 24))
  F25 : FnP K "_law_exchanges" s25 (f 25) (fd 25)
  m25 : mg (Str.ofString "_law_exchanges") = some (.ref (f 25))
  F26 : FnP K "_law_pair_holds" s26 (f 26) (fd 26)
  m26 : mg (Str.ofString "_law_pair_holds") = some (.ref (f 26))
  F27 : FnP K "_law_bent" s27 (f 27) (fd 27)
  m27 : mg (Str.ofString "_law_bent") = some (.ref (f 27))
  F28 : FnP K "_law_judged" s28 (f 28) (fd 28)
  m28 : mg (Str.ofString "_law_judged") = some (.ref (f 28))
  F29 : FnP K "_law_counted" s29 (f 29) (fd 29)
  m29 : mg (Str.ofString "_law_counted") = some (.ref (f 29))
  F30 : FnP K "_law_near" s30 (f 30) (fd 30)
  m30 : mg (Str.ofString "_law_near") = some (.ref (f 30))
  F31 : FnP K "law" s31 (f 31) (fd 31)
  m31 : mg (Str.ofString "law") = some (.ref (f 31))
  b_abs : mg (Str.ofString "abs") = none
  b_bool : mg (Str.ofString "bool") = none
  b_dict : mg (Str.ofString "dict") = none
  b_int : mg (Str.ofString "int") = none
  b_isinstance : mg (Str.ofString "isinstance") = none
  b_len : mg (Str.ofString "len") = none
  b_list : mg (Str.ofString "list") = none
  b_range : mg (Str.ofString "range") = none
  b_sorted : mg (Str.ofString "sorted") = none
  b_str : mg (Str.ofString "str") = none
  b_sum : mg (Str.ofString "sum") = none
  b_tuple : mg (Str.ofString "tuple") = none
structure Oks (P : Program) (w : World) (K : PySem.W.Frag) (mg : Str → Option Value) (base : Heap) (f : Nat → Addr) (fd : Nat → FuncData) (n : Nat) : Prop where
  o0 : FnOk P w K mg base CX0 (n + 1) (f 0) (fd 0) p0 (spR ⟨P, w, K⟩ (run T n) 0 2)
  o1 : FnOk P w K mg base CX0 (n + 1) (f 1) (fd 1) p1 (spR ⟨P, w, K⟩ (run T n) 1 3)
  o2 : FnOk P w K mg base CX0 (n + 1) (f 2) (fd 2) p2 (spR ⟨P, w, K⟩ (run T n) 2 2)
  o3 : FnOk P w K mg base CX0 (n + 1) (f 3) (fd 3) p3 (spR ⟨P, w, K⟩ (run T n) 3 2)
  o4 : FnOk P w K mg base CX0 (n + 1) (f 4) (fd 4) p4 (spR ⟨P, w, K⟩ (run T n) 4 3)
  o5 : FnOk P w K mg base CX0 (n + 1) (f 5) (fd 5) p5 (spR ⟨P, w, K⟩ (run T n) 5 3)
  o6 : FnOk P w K mg base CX0 (n + 1) (f 6) (fd 6) p6 (spR ⟨P, w, K⟩ (run T n) 6 2)
  o7 : FnOk P w K mg base CX0 (n + 1) (f 7) (fd 7) p7 (spR ⟨P, w, K⟩ (run T n) 7 3)
  o8 : FnOk P w K mg base CX0 (n + 1) (f 8) (fd 8) p8 (spR ⟨P, w, K⟩ (run T n) 8 2)
  o9 : FnOk P w K mg base CX0 (n + 1) (f 9) (fd 9) p9 (spR ⟨P, w, K⟩ (run T n) 9 1)
  o10 : FnOk P w K mg base CX0 (n + 1) (f 10) (fd 10) p10 (spR ⟨P, w, K⟩ (run T n) 10 2)
  o11 : FnOk P w K mg base CX0 (n + 1) (f 11) (fd 11) p11 (spR ⟨P, w, K⟩ (run T n) 11 2)
  o12 : FnOk P w K mg base CX0 (n + 1) (f 12) (fd 12) p12 (spR ⟨P, w, K⟩ (run T n) 12 4)
  o13 : FnOk P w K mg base CX0 (n + 1) (f 13) (fd 13) p13 (spR ⟨P, w, K⟩ (run T n) 13 1)
  o14 : FnOk P w K mg base CX0 (n + 1) (f 14) (fd 14) p14 (spR ⟨P, w, K⟩ (run T n) 14 3)
  o15 : FnOk P w K mg base CX0 (n + 1) (f 15) (fd 15) p15 (spR ⟨P, w, K⟩ (run T n) 15 5)
  o16 : FnOk P w K mg base CX0 (n + 1) (f 16) (fd 16) p16 (spR ⟨P, w, K⟩ (run T n) 16 5)
  o17 : FnOk P w K mg base CX0 (n + 1) (f 17) (fd 17) p17 (spR ⟨P, w, K⟩ (run T n) 17 1)
  o18 : FnOk P w K mg base CX0 (n + 1) (f 18) (fd 18) p18 (spR ⟨P, w, K⟩ (run T n) 18 4)
  o19 : FnOk P w K mg base CX0 (n + 1) (f 19) (fd 19) p19 (spR ⟨P, w, K⟩ (run T n) 19 3)
  o20 : FnOk P w K mg base CX0 (n + 1) (f 20) (fd 20) p20 (spR ⟨P, w, K⟩ (run T n) 20 2)
  o21 : FnOk P w K mg base CX0 (n + 1) (f 21) (fd 21) p21 (spR ⟨P, w, K⟩ (run T n) 21 2)
  o22 : FnOk P w K mg base CX0 (n + 1) (f 22) (fd 22) p22 (spR ⟨P, w, K⟩ (run T n) 22 1)
  o23 : FnOk P w K mg base CX0 (n + 1) (f 23) (fd 23) p23 (spR ⟨P, w, K⟩ (run T n) 23 2)
  o24 : FnOk P w K mg base CX0 (n + 1) (f 24) (fd 24) p24 (spR ⟨P, w, K⟩ (run T n) 24 3)
  o25 : FnOk P w K mg base CX0 (n + 1) (f 25) (fd 25) p25 (spR ⟨P, w, K⟩ (run T n) 25 2)
  o26 : FnOk P w K mg base CX0 (n + 1) (f 26) (fd 26) p26 (spR ⟨P, w, K⟩ (run T n) 26 2)
  o27 : FnOk P w K mg base CX0 (n + 1) (f 27) (fd 27) p27 (spR ⟨P, w, K⟩ (run T n) 27 2)
  o28 : FnOk P w K mg base CX0 (n + 1) (f 28) (fd 28) p28 (spR ⟨P, w, K⟩ (run T n) 28 4)
  o29 : FnOk P w K mg base CX0 (n + 1) (f 29) (fd 29) p29 (spR ⟨P, w, K⟩ (run T n) 29 2)
  o30 : FnOk P w K mg base CX0 (n + 1) (f 30) (fd 30) p30 (spR ⟨P, w, K⟩ (run T n) 30 2)
  o31 : FnOk P w K mg base CX0 (n + 1) (f 31) (fd 31) p31 (spR ⟨P, w, K⟩ (run T n) 31 1)
section
variable {P : Program} {w : World} {K : PySem.W.Frag} {mg : Str → Option Value} {base : Heap} {f : Nat → Addr} {fd : Nat → FuncData} {n : Nat}
theorem wk0 (A : Fx K mg f fd) (O : Oks P w K mg base f fd n) : FnOk P w K mg base CX0 (n + 2) (f 0) (fd 0) p0 (spR ⟨P, w, K⟩ (run T (n + 1)) 0 2) :=
  def_ok (df := df0) A.F0 sc0 rfl rfl rfl fun cdv Ar outer s H E G F0 hr =>
  have hu := hr.units
  have hu2 := hr.units2
  (pss_co (ps_ifX (pt_cmpX .ge hu (po_pk 1 rfl (.inl rfl)) (po_e px_int) rfl) (pss_co (ps_retvX 1 rfl (.inl rfl))
  pss_no) pss_no)
  (pss_co (ps_retX (px_idx hu (po_pk 0 rfl (.inl rfl)) (po_pk 1 rfl (.inl rfl)) (fun _ _ => rfl)))
  pss_no))
theorem wk1 (A : Fx K mg f fd) (O : Oks P w K mg base f fd n) : FnOk P w K mg base CX0 (n + 2) (f 1) (fd 1) p1 (spR ⟨P, w, K⟩ (run T (n + 1)) 1 3) :=
  def_ok (df := df1) A.F1 sc1 rfl rfl rfl fun cdv Ar outer s H E G F0 hr =>
  have hu := hr.units
  have hu2 := hr.units2
  (pss_co (ps_setDcX 3 (own := [("mark", 5)]) rfl sc1.nd rfl rfl (sw_dc rfl rfl rfl (by decide +kernel)) (pi_it (px_var 0 rfl (.inr (.inl rfl)))) (blkOk_by (N := N1) (sc := (defScope s1)) (own := [("mark", 5)]) (by decide +kernel)) (fun _ _ _ _ _ => (pg_nm (i := 5) sc1.nd rfl (.inl rfl) (.inr rfl))) (fun _ _ _ _ _ => pts_no) (fun _ _ _ _ _ => (px_var 5 rfl (.inl rfl))) (fun _ _ _ _ _ => (px_idx hu (po_pk 0 rfl (.inr (.inl rfl))) (po_pk 5 rfl (.inl rfl)) (fun _ _ => rfl))))
  (pss_co (ps_forX PassesOwn.never rfl (pi_rng1 (by rfl) A.b_range (pos_cons (po_e (px_biB .len (cr_len hu) (by rfl) A.b_len bt_len (po_pk 1 rfl (.inl rfl)))) pos_nil) rfl) (pg_nm (i := 4) sc1.nd rfl (.inl rfl) (.inl rfl)) (pss_co (ps_setX 5 sc1.nd rfl (.inl rfl) (.inl rfl) (px_idx hu (po_pk 1 rfl (.inl rfl)) (po_pk 4 rfl (.inl rfl)) (fun _ _ => rfl)))
  (pss_co (ps_ifX (pt_cmpX .ge hu (po_pk 5 rfl (.inl rfl)) (po_e px_int) rfl) (pss_co (ps_ifX (pt_cmpX .ne hu (po_pk 5 rfl (.inl rfl)) (po_e (px_idx hu (po_pk 2 rfl (.inl rfl)) (po_pk 4 rfl (.inl rfl)) (fun _ _ => rfl))) rfl) (pss_co (ps_retX px_non)
  pss_no) pss_no)
  pss_no) (pss_co (ps_ifX (pt_cmpX .ne hu (po_e (px_setdefault 3 hu rfl (.inl rfl) (pos_cons (po_e (px_var 5 rfl (.inl rfl))) (pos_cons (po_e (px_idx hu (po_pk 2 rfl (.inl rfl)) (po_pk 4 rfl (.inl rfl)) (fun _ _ => rfl))) pos_nil)))) (po_e (px_idx hu (po_pk 2 rfl (.inl rfl)) (po_pk 4 rfl (.inl rfl)) (fun _ _ => rfl))) rfl) (pss_co (ps_retX px_non)
  pss_no) pss_no)
  pss_no))
  pss_no)))
  (pss_co (ps_retvX 3 rfl (.inl rfl))
  pss_no)))
theorem wk2 (A : Fx K mg f fd) (O : Oks P w K mg base f fd n) : FnOk P w K mg base CX0 (n + 2) (f 2) (fd 2) p2 (spR ⟨P, w, K⟩ (run T (n + 1)) 2 2) :=
  def_ok (df := df2) A.F2 sc2 rfl rfl rfl fun cdv Ar outer s H E G F0 hr =>
  have hu := hr.units
  have hu2 := hr.units2
  (pss_co (ps_setX 2 sc2.nd rfl (.inl rfl) (.inl rfl) (px_lst (pos_cons (po_e (px_dic0 false)) pos_nil)))
  (pss_co (ps_forX PassesOwn.never rfl (pi_it (px_idx hu (po_pk 1 rfl (.inl rfl)) (po_e px_int) (fun _ _ => rfl))) (pg_tp rfl (pgs_nm (i := 5) sc2.nd rfl (.inl rfl) (.inl rfl) (pgs_nm (i := 6) sc2.nd rfl (.inl rfl) (.inl rfl) pgs_no))) (pss_co (ps_setX 7 sc2.nd rfl (.inl rfl) (.inl rfl) (px_lst pos_nil))
  (pss_co (ps_forX PassesOwn.never rfl (pi_it (px_var 2 rfl (.inl rfl))) (pg_nm (i := 4) sc2.nd rfl (.inr rfl) (.inl rfl)) (pss_co (ps_forX PassesOwn.never rfl (pi_it (px_idx hu (po_e (px_idx hu (po_pk 0 rfl (.inl rfl)) (po_pk 5 rfl (.inl rfl)) (fun _ _ => rfl))) (po_e px_int) (fun _ _ => rfl))) (pg_nm (i := 8) sc2.nd rfl (.inl rfl) (.inl rfl)) (pss_co (ps_setX 9 sc2.nd rfl (.inl rfl) (.inl rfl) (px_call O.o1 hr (by rfl) A.m1 A.F1.kp (bd1 A.F1) pass0 (pos_cons (po_e (px_var 4 rfl (.inr (.inl rfl)))) (pos_cons (po_e (px_var 6 rfl (.inl rfl))) (pos_cons (po_e (px_var 8 rfl (.inl rfl))) pos_nil))) rfl))
  (pss_co (ps_ifX (pt_cmpX .notn hu (po_pk 9 rfl (.inl rfl)) (po_e px_non) rfl) (pss_co (ps_exX (px_append 7 rfl (.inl rfl) (pos_cons (po_e (px_var 9 rfl (.inl rfl))) pos_nil)))
  pss_no) pss_no)
  pss_no)))
  pss_no))
  (pss_co (ps_setX 2 sc2.nd rfl (.inl rfl) (.inl rfl) (px_var 7 rfl (.inl rfl)))
  pss_no))))
  (pss_co (ps_setX 3 sc2.nd rfl (.inl rfl) (.inl rfl) (px_dic0 true))
  (pss_co (ps_forX PassesOwn.never rfl (pi_it (px_var 2 rfl (.inl rfl))) (pg_nm (i := 4) sc2.nd rfl (.inr rfl) (.inl rfl)) (pss_co (ps_setX 8 sc2.nd rfl (.inl rfl) (.inl rfl) (px_biT .tuple cr_tuple (by rfl) A.b_tuple bt_tuple (po_e (px_lc (own := [("mark", 10)]) rfl sc2.nd (pi_it (px_idx hu (po_pk 1 rfl (.inl rfl)) (po_e px_int) (fun _ _ => rfl))) (blkOk_by (N := N2) (sc := (defScope s2)) (own := [("mark", 10)]) (by decide +kernel)) (fun _ _ _ _ _ => (pg_nm (i := 10) sc2.nd rfl (.inl rfl) (.inr rfl))) (fun _ _ _ _ _ => pts_no) (fun _ _ _ _ _ => (px_call O.o0 hr (by rfl) A.m0 A.F0.kp (bd0 A.F0) pass0 (pos_cons (po_e (px_var 4 rfl (.inr (.inl rfl)))) (pos_cons (po_e (px_var 10 rfl (.inl rfl))) pos_nil)) rfl))))))
  (pss_co (ps_setIX 3 hu rfl (.inl rfl) (po_pk 8 rfl (.inl rfl)) (px_bin .add (po_e (px_get hu (po_pk 3 rfl (.inl rfl)) (pos_cons (po_e (px_var 8 rfl (.inl rfl))) (pos_cons (po_e px_int) pos_nil)))) (po_e px_int)))
  pss_no)))
  (pss_co (ps_retvX 3 rfl (.inl rfl))
  pss_no)))))
theorem wk3 (A : Fx K mg f fd) (O : Oks P w K mg base f fd n) : FnOk P w K mg base CX0 (n + 2) (f 3) (fd 3) p3 (spR ⟨P, w, K⟩ (run T (n + 1)) 3 2) :=
  def_ok (df := df3) A.F3 sc3 rfl rfl rfl fun cdv Ar outer s H E G F0 hr =>
  have hu := hr.units
  have hu2 := hr.units2
  (pss_co (ps_ifX (PW.pt (pw_orX (pt_cmpX .ne hu (po_e (px_idx hu (po_pk 0 rfl (.inl rfl)) (po_e px_int) (fun _ _ => rfl))) (po_e (px_idx hu (po_pk 1 rfl (.inl rfl)) (po_e px_int) (fun _ _ => rfl))) rfl) (pw_or1X (pt_cmpX .ne hu (po_e (px_biB .len (cr_len hu) (by rfl) A.b_len bt_len (po_e (px_idx hu (po_pk 0 rfl (.inl rfl)) (po_e px_int) (fun _ _ => rfl))))) (po_e (px_biB .len (cr_len hu) (by rfl) A.b_len bt_len (po_e (px_idx hu (po_pk 1 rfl (.inl rfl)) (po_e px_int) (fun _ _ => rfl))))) rfl)))) (pss_co (ps_retX px_non)
  pss_no) pss_no)
  (pss_co (ps_setX 2 sc3.nd rfl (.inl rfl) (.inl rfl) (px_call O.o5 hr (by rfl) A.m5 A.F5.kp (bd5 A.F5) pass0 (pos_cons (po_e (px_dic0 false)) (pos_cons (po_e (px_idx hu (po_pk 0 rfl (.inl rfl)) (po_e px_int) (fun _ _ => rfl))) (pos_cons (po_e (px_idx hu (po_pk 1 rfl (.inl rfl)) (po_e px_int) (fun _ _ => rfl))) pos_nil))) rfl))
  (pss_co (ps_ifX (pt_cmpX .isn hu (po_pk 2 rfl (.inl rfl)) (po_e px_non) rfl) (pss_co (ps_retX px_non)
  pss_no) pss_no)
  (pss_co (ps_retX (px_call O.o4 hr (by rfl) A.m4 A.F4.kp (bd4 A.F4) pass0 (pos_cons (po_e (px_var 2 rfl (.inl rfl))) (pos_cons (po_e (px_biT .list (cr_list rfl) (by rfl) A.b_list bt_list (po_e (px_idx hu (po_pk 0 rfl (.inl rfl)) (po_e px_int) (fun _ _ => rfl))))) (pos_cons (po_e (px_biT .list (cr_list rfl) (by rfl) A.b_list bt_list (po_e (px_idx hu (po_pk 1 rfl (.inl rfl)) (po_e px_int) (fun _ _ => rfl))))) pos_nil))) rfl))
  pss_no))))
theorem wk4 (A : Fx K mg f fd) (O : Oks P w K mg base f fd n) : FnOk P w K mg base CX0 (n + 2) (f 4) (fd 4) p4 (spR ⟨P, w, K⟩ (run T (n + 1)) 4 3) :=
  def_ok (df := df4) A.F4 sc4 rfl rfl rfl fun cdv Ar outer s H E G F0 hr =>
  have hu := hr.units
  have hu2 := hr.units2
  (pss_co (ps_ifX (pt_cmpX .eq hu (po_e (px_biB .len (cr_len hu) (by rfl) A.b_len bt_len (po_pk 1 rfl (.inl rfl)))) (po_e px_int) rfl) (pss_co (ps_retvX 0 rfl (.inl rfl))
  pss_no) pss_no)
  (pss_co (ps_setTX (px_idx hu (po_pk 1 rfl (.inl rfl)) (po_e px_int) (fun _ _ => rfl)) (pg_tp rfl (pgs_nm (i := 4) sc4.nd rfl (.inl rfl) (.inl rfl) (pgs_nm (i := 5) sc4.nd rfl (.inl rfl) (.inl rfl) pgs_no))))
  (pss_co (ps_forX PassesOwn.never rfl (pi_rng1 (by rfl) A.b_range (pos_cons (po_e (px_biB .len (cr_len hu) (by rfl) A.b_len bt_len (po_pk 2 rfl (.inl rfl)))) pos_nil) rfl) (pg_nm (i := 3) sc4.nd rfl (.inl rfl) (.inl rfl)) (pss_co (ps_ifX (pt_cmpX .eq hu (po_e (px_idx hu (po_e (px_idx hu (po_pk 2 rfl (.inl rfl)) (po_pk 3 rfl (.inl rfl)) (fun _ _ => rfl))) (po_e px_int) (fun _ _ => rfl))) (po_pk 4 rfl (.inl rfl)) rfl) (pss_co (ps_setX 6 sc4.nd rfl (.inl rfl) (.inl rfl) (px_call O.o5 hr (by rfl) A.m5 A.F5.kp (bd5 A.F5) pass0 (pos_cons (po_e (px_var 0 rfl (.inl rfl))) (pos_cons (po_e (px_var 5 rfl (.inl rfl))) (pos_cons (po_e (px_idx hu (po_e (px_idx hu (po_pk 2 rfl (.inl rfl)) (po_pk 3 rfl (.inl rfl)) (fun _ _ => rfl))) (po_e px_int) (fun _ _ => rfl))) pos_nil))) rfl))
  (pss_co (ps_ifX (pt_cmpX .notn hu (po_pk 6 rfl (.inl rfl)) (po_e px_non) rfl) (pss_co (ps_setX 7 sc4.nd rfl (.inl rfl) (.inl rfl) (px_call O.o4 hr (by rfl) A.m4 A.F4.kp (bd4 A.F4) pass0 (pos_cons (po_e (px_var 6 rfl (.inl rfl))) (pos_cons (po_e (px_sli (po_pk 1 rfl (.inl rfl)) (pp_yes (po_e px_int)) pp_no)) (pos_cons (po_e (px_bin .add (po_e (px_sli (po_pk 2 rfl (.inl rfl)) pp_no (pp_yes (po_pk 3 rfl (.inl rfl))))) (po_e (px_sli (po_pk 2 rfl (.inl rfl)) (pp_yes (po_e (px_bin .add (po_pk 3 rfl (.inl rfl)) (po_e px_int)))) pp_no)))) pos_nil))) rfl))
  (pss_co (ps_ifX (pt_cmpX .notn hu (po_pk 7 rfl (.inl rfl)) (po_e px_non) rfl) (pss_co (ps_retvX 7 rfl (.inl rfl))
  pss_no) pss_no)
  pss_no)) pss_no)
  pss_no)) pss_no)
  pss_no))
  (pss_co (ps_retX px_non)
  pss_no))))
theorem wk5 (A : Fx K mg f fd) (O : Oks P w K mg base f fd n) : FnOk P w K mg base CX0 (n + 2) (f 5) (fd 5) p5 (spR ⟨P, w, K⟩ (run T (n + 1)) 5 3) :=
  def_ok (df := df5) A.F5 sc5 rfl rfl rfl fun cdv Ar outer s H E G F0 hr =>
  have hu := hr.units
  have hu2 := hr.units2
  (pss_co (ps_setX 3 sc5.nd rfl (.inr rfl) (.inl rfl) (px_dc (own := [("mark", 6)]) rfl sc5.nd (pi_it (px_var 0 rfl (.inr (.inl rfl)))) (blkOk_by (N := N5) (sc := (defScope s5)) (own := [("mark", 6)]) (by decide +kernel)) (fun _ _ _ _ _ => (pg_nm (i := 6) sc5.nd rfl (.inl rfl) (.inr rfl))) (fun _ _ _ _ _ => pts_no) (fun _ _ _ _ _ => (px_var 6 rfl (.inl rfl))) (fun _ _ _ _ _ => (px_idx hu (po_pk 0 rfl (.inr (.inl rfl))) (po_pk 6 rfl (.inl rfl)) (fun _ _ => rfl)))))
  (pss_co (ps_setDcL 3 4 (own := [("mark", 6)]) rfl sc5.nd rfl rfl (sw_dc rfl rfl rfl (by decide +kernel)) (pi_itl 3 rfl (.inr (.inl rfl))) (blkOk_by (N := N5) (sc := (defScope s5)) (own := [("mark", 6)]) (by decide +kernel)) (fun _ _ _ _ _ => (pg_nm (i := 6) sc5.nd rfl (.inl rfl) (.inr rfl))) (fun _ _ _ _ _ => pts_no) (fun _ _ _ _ _ => (px_idx hu (po_pk 3 rfl (.inr (.inl rfl))) (po_pk 6 rfl (.inl rfl)) (fun _ _ => rfl))) (fun _ _ _ _ _ => px_bl))
  (pss_co (ps_forX PassesOwn.never rfl (pi_rng1 (by rfl) A.b_range (pos_cons (po_e (px_biB .len (cr_len hu) (by rfl) A.b_len bt_len (po_pk 1 rfl (.inl rfl)))) pos_nil) rfl) (pg_nm (i := 5) sc5.nd rfl (.inl rfl) (.inl rfl)) (pss_co (ps_parX 7 8 rfl sc5.nd rfl rfl (by decide) rfl rfl (pos_cons (po_e (px_idx hu (po_pk 1 rfl (.inl rfl)) (po_pk 5 rfl (.inl rfl)) (fun _ _ => rfl))) (pos_cons (po_e (px_idx hu (po_pk 2 rfl (.inl rfl)) (po_pk 5 rfl (.inl rfl)) (fun _ _ => rfl))) pos_nil)) rfl)
  (pss_co (ps_ifX (PW.pt (pw_orX (pt_cmpX .ge hu (po_pk 7 rfl (.inl rfl)) (po_e px_int) rfl) (pw_or1X (pt_cmpX .ge hu (po_pk 8 rfl (.inl rfl)) (po_e px_int) rfl)))) (pss_co (ps_ifX (pt_cmpX .ne hu (po_pk 7 rfl (.inl rfl)) (po_pk 8 rfl (.inl rfl)) rfl) (pss_co (ps_retX px_non)
  pss_no) pss_no)
  pss_no) (pss_co (ps_ifX (pt_cmpX .inn hu (po_pk 7 rfl (.inl rfl)) (po_pk 3 rfl (.inr (.inl rfl))) rfl) (pss_co (ps_ifX (pt_cmpX .ne hu (po_e (px_idx hu (po_pk 3 rfl (.inr (.inl rfl))) (po_pk 7 rfl (.inl rfl)) (fun _ _ => rfl))) (po_pk 8 rfl (.inl rfl)) rfl) (pss_co (ps_retX px_non)
  pss_no) pss_no)
  pss_no) (pss_co (ps_ifX (pt_cmpX .inn hu (po_pk 8 rfl (.inl rfl)) (po_pk 4 rfl (.inl rfl)) rfl) (pss_co (ps_retX px_non)
  pss_no) (pss_co (ps_setIX 3 hu rfl (.inr (.inl rfl)) (po_pk 7 rfl (.inl rfl)) (px_var 8 rfl (.inl rfl)))
  (pss_co (ps_setIX 4 hu rfl (.inl rfl) (po_pk 8 rfl (.inl rfl)) px_bl)
  pss_no)))
  pss_no))
  pss_no))
  pss_no)))
  (pss_co (ps_retvX 3 rfl (.inr (.inl rfl)))
  pss_no))))
theorem wk6 (A : Fx K mg f fd) (O : Oks P w K mg base f fd n) : FnOk P w K mg base CX0 (n + 2) (f 6) (fd 6) p6 (spR ⟨P, w, K⟩ (run T (n + 1)) 6 2) :=
  def_ok (df := df6) A.F6 sc6 rfl rfl rfl fun cdv Ar outer s H E G F0 hr =>
  have hu := hr.units
  have hu2 := hr.units2
  (pss_co (ps_retX (px_cmp .notn hu (po_e (px_call O.o3 hr (by rfl) A.m3 A.F3.kp (bd3 A.F3) pass0 (pos_cons (po_e (px_var 0 rfl (.inl rfl))) (pos_cons (po_e (px_var 1 rfl (.inl rfl))) pos_nil)) rfl)) (po_e px_non) rfl))
  pss_no)
theorem wk7 (A : Fx K mg f fd) (O : Oks P w K mg base f fd n) : FnOk P w K mg base CX0 (n + 2) (f 7) (fd 7) p7 (spR ⟨P, w, K⟩ (run T (n + 1)) 7 3) :=
  def_ok (df := df7) A.F7 sc7 rfl rfl rfl fun cdv Ar outer s H E G F0 hr =>
  have hu := hr.units
  have hu2 := hr.units2
  (pss_co (ps_ifX (PW.pt (pw_orX (pt_cmpX .ne hu (po_e (px_idx hu (po_pk 0 rfl (.inl rfl)) (po_e px_int) (fun _ _ => rfl))) (po_e (px_idx hu (po_pk 1 rfl (.inl rfl)) (po_e px_int) (fun _ _ => rfl))) rfl) (pw_or1X (pt_cmpX .ne hu (po_e (px_biB .len (cr_len hu) (by rfl) A.b_len bt_len (po_e (px_idx hu (po_pk 0 rfl (.inl rfl)) (po_e px_int) (fun _ _ => rfl))))) (po_e (px_biB .len (cr_len hu) (by rfl) A.b_len bt_len (po_e (px_idx hu (po_pk 1 rfl (.inl rfl)) (po_e px_int) (fun _ _ => rfl))))) rfl)))) (pss_co (ps_retX px_bl)
  pss_no) pss_no)
  (pss_co (ps_ifX (pt_cmpX .lt hu (po_e (px_biB .len (cr_len hu) (by rfl) A.b_len bt_len (po_e (px_dc (own := [("mark", 7)]) rfl sc7.nd (pi_it (px_var 2 rfl (.inr (.inl rfl)))) (blkOk_by (N := N7) (sc := (defScope s7)) (own := [("mark", 7)]) (by decide +kernel)) (fun _ _ _ _ _ => (pg_nm (i := 7) sc7.nd rfl (.inl rfl) (.inr rfl))) (fun _ _ _ _ _ => pts_no) (fun _ _ _ _ _ => (px_idx hu (po_pk 2 rfl (.inr (.inl rfl))) (po_pk 7 rfl (.inl rfl)) (fun _ _ => rfl))) (fun _ _ _ _ _ => px_bl))))) (po_e (px_biB .len (cr_len hu) (by rfl) A.b_len bt_len (po_pk 2 rfl (.inr (.inl rfl))))) rfl) (pss_co (ps_retX px_bl)
  pss_no) pss_no)
  (pss_co (ps_forX PassesOwn.never rfl (pi_it (px_bin .add (po_e (px_biT .list (cr_list rfl) (by rfl) A.b_list bt_list (po_e (px_idx hu (po_pk 0 rfl (.inl rfl)) (po_e px_int) (fun _ _ => rfl))))) (po_e (px_lst (pos_cons (po_e (px_tup (pos_cons (po_e px_str) (pos_cons (po_e (px_idx hu (po_pk 0 rfl (.inl rfl)) (po_e px_int) (fun _ _ => rfl))) pos_nil)))) pos_nil))))) (pg_tp rfl (pgs_nm (i := 5) sc7.nd rfl (.inl rfl) (.inl rfl) (pgs_nm (i := 6) sc7.nd rfl (.inl rfl) (.inl rfl) pgs_no))) (pss_co (ps_ifX (pt_cmpX .gt hu (po_e (px_biB .len (cr_len hu) (by rfl) A.b_len bt_len (po_e (px_lc (own := [("mark", 7)]) rfl sc7.nd (pi_it (px_var 6 rfl (.inl rfl))) (blkOk_by (N := N7) (sc := (defScope s7)) (own := [("mark", 7)]) (by decide +kernel)) (fun _ _ _ _ _ => (pg_nm (i := 7) sc7.nd rfl (.inl rfl) (.inr rfl))) (fun _ _ _ _ _ => (pts_yes (PW.pt (pw_andX (pt_cmpX .lt hu (po_pk 7 rfl (.inl rfl)) (po_e px_int) rfl) (pw_and1X (pt_cmpX .ge hu (po_e (px_get hu (po_pk 2 rfl (.inr (.inl rfl))) (pos_cons (po_e (px_var 7 rfl (.inl rfl))) (pos_cons (po_e px_int) pos_nil)))) (po_e px_int) rfl)))))) (fun _ _ _ _ _ => (px_var 7 rfl (.inl rfl))))))) (po_e px_int) rfl) (pss_co (ps_retX px_bl)
  pss_no) pss_no)
  pss_no))
  (pss_co (ps_setX 3 sc7.nd rfl (.inl rfl) (.inl rfl) (px_biT .tuple cr_tuple (by rfl) A.b_tuple bt_tuple (po_e (px_lc (own := [("mark", 7)]) rfl sc7.nd (pi_it (px_idx hu (po_pk 0 rfl (.inl rfl)) (po_e px_int) (fun _ _ => rfl))) (blkOk_by (N := N7) (sc := (defScope s7)) (own := [("mark", 7)]) (by decide +kernel)) (fun _ _ _ _ _ => (pg_nm (i := 7) sc7.nd rfl (.inl rfl) (.inr rfl))) (fun _ _ _ _ _ => pts_no) (fun _ _ _ _ _ => (px_ite (pt_cmpX .ge hu (po_pk 7 rfl (.inl rfl)) (po_e px_int) rfl) (px_var 7 rfl (.inl rfl)) (px_idx hu (po_pk 2 rfl (.inr (.inl rfl))) (po_pk 7 rfl (.inl rfl)) (fun _ _ => rfl))))))))
  (pss_co (ps_setX 4 sc7.nd rfl (.inl rfl) (.inl rfl) (px_biB .sorted (cr_sortedD hu2) (by rfl) A.b_sorted bt_sorted (po_e (px_lc (own := [("name", 5), ("line", 6)]) rfl sc7.nd (pi_it (px_idx hu (po_pk 0 rfl (.inl rfl)) (po_e px_int) (fun _ _ => rfl))) (blkOk_by (N := N7) (sc := (defScope s7)) (own := [("name", 5), ("line", 6)]) (by decide +kernel)) (fun _ _ _ _ _ => (pg_tp rfl (pgs_nm (i := 5) sc7.nd rfl (.inl rfl) (.inr rfl) (pgs_nm (i := 6) sc7.nd rfl (.inl rfl) (.inr rfl) pgs_no)))) (fun _ _ _ _ _ => pts_no) (fun _ _ _ _ _ => (px_tup (pos_cons (po_e (px_var 5 rfl (.inl rfl))) (pos_cons (po_e (px_biT .tuple cr_tuple (by rfl) A.b_tuple bt_tuple (po_e (px_lc (own := [("mark", 7)]) rfl sc7.nd (pi_it (px_var 6 rfl (.inl rfl))) (blkOk_by (N := N7) (sc := (relS ⟨.function, [(Str.ofString ".0", .local), (Str.ofString "name", .local), (Str.ofString "line", .local), (Str.ofString "tuple", .globalImplicit), (Str.ofString "paper", .free)], false, false, []⟩ (defScope s7))) (own := [("mark", 7)]) (by decide +kernel)) (fun _ _ _ _ _ => (pg_nm (i := 7) sc7.nd rfl (.inl rfl) (.inr rfl))) (fun _ _ _ _ _ => pts_no) (fun _ _ _ _ _ => (px_ite (pt_cmpX .ge hu (po_pk 7 rfl (.inl rfl)) (po_e px_int) rfl) (px_var 7 rfl (.inl rfl)) (px_idx hu (po_pk 2 rfl (.inr (.inl rfl))) (po_pk 7 rfl (.inl rfl)) (fun _ _ => rfl)))))))) pos_nil))))))))
  (pss_co (ps_retX (px_and (px_cmp .eq hu (po_pk 3 rfl (.inl rfl)) (po_e (px_idx hu (po_pk 1 rfl (.inl rfl)) (po_e px_int) (fun _ _ => rfl))) rfl) (px_one (px_cmp .eq hu (po_pk 4 rfl (.inl rfl)) (po_e (px_biB .sorted (cr_sortedD hu2) (by rfl) A.b_sorted bt_sorted (po_e (px_biT .list (cr_list rfl) (by rfl) A.b_list bt_list (po_e (px_idx hu (po_pk 1 rfl (.inl rfl)) (po_e px_int) (fun _ _ => rfl))))))) rfl))))
  pss_no))))))
theorem wk8 (A : Fx K mg f fd) (O : Oks P w K mg base f fd n) : FnOk P w K mg base CX0 (n + 2) (f 8) (fd 8) p8 (spR ⟨P, w, K⟩ (run T (n + 1)) 8 2) :=
  def_ok (df := df8) A.F8 sc8 rfl rfl rfl fun cdv Ar outer s H E G F0 hr =>
  have hu := hr.units
  have hu2 := hr.units2
  (pss_co (ps_retX (px_svals rfl (by rfl) A.b_sum bt_sum (po_e (px_call O.o2 hr (by rfl) A.m2 A.F2.kp (bd2 A.F2) pass0 (pos_cons (po_e (px_var 0 rfl (.inl rfl))) (pos_cons (po_e (px_var 1 rfl (.inl rfl))) pos_nil)) rfl))))
  pss_no)
theorem wk9 (A : Fx K mg f fd) (O : Oks P w K mg base f fd n) : FnOk P w K mg base CX0 (n + 2) (f 9) (fd 9) p9 (spR ⟨P, w, K⟩ (run T (n + 1)) 9 1) :=
  def_ok (df := df9) A.F9 sc9 rfl rfl rfl fun cdv Ar outer s H E G F0 hr =>
  have hu := hr.units
  have hu2 := hr.units2
  (pss_co (ps_retX (px_and (px_isi .int (by rfl) A.b_isinstance bt_isinstance (by rfl) A.b_int bt_int (po_pk 0 rfl (.inl rfl))) (px_one (px_not hu (po_e (px_isi .bool (by rfl) A.b_isinstance bt_isinstance (by rfl) A.b_bool bt_bool (po_pk 0 rfl (.inl rfl))))))))
  pss_no)
theorem wk10 (A : Fx K mg f fd) (O : Oks P w K mg base f fd n) : FnOk P w K mg base CX0 (n + 2) (f 10) (fd 10) p10 (spR ⟨P, w, K⟩ (run T (n + 1)) 10 2) :=
  def_ok (df := df10) A.F10 sc10 rfl rfl rfl fun cdv Ar outer s H E G F0 hr =>
  have hu := hr.units
  have hu2 := hr.units2
  (pss_co (ps_ifX (PW.pt (pw_orX (pt_of hu (po_e (px_isi .bool (by rfl) A.b_isinstance bt_isinstance (by rfl) A.b_bool bt_bool (po_pk 1 rfl (.inl rfl))))) (pw_or1X (pt_of hu (po_e (px_isi .bool (by rfl) A.b_isinstance bt_isinstance (by rfl) A.b_bool bt_bool (po_pk 0 rfl (.inl rfl)))))))) (pss_co (ps_retX (px_and (px_isi .bool (by rfl) A.b_isinstance bt_isinstance (by rfl) A.b_bool bt_bool (po_pk 1 rfl (.inl rfl))) (px_and (px_isi .bool (by rfl) A.b_isinstance bt_isinstance (by rfl) A.b_bool bt_bool (po_pk 0 rfl (.inl rfl))) (px_one (px_cmp .eq hu (po_pk 0 rfl (.inl rfl)) (po_pk 1 rfl (.inl rfl)) rfl)))))
  pss_no) pss_no)
  (pss_co (ps_ifX (PW.pt (pw_orX (pt_cmpX .isn hu (po_pk 1 rfl (.inl rfl)) (po_e px_non) rfl) (pw_or1X (pt_of hu (po_e (px_isi .int (by rfl) A.b_isinstance bt_isinstance (by rfl) A.b_int bt_int (po_pk 1 rfl (.inl rfl)))))))) (pss_co (ps_retX (px_and (px_cmp .eq hu (po_pk 0 rfl (.inl rfl)) (po_pk 1 rfl (.inl rfl)) rfl) (px_one (px_or (px_cmp .isn hu (po_pk 1 rfl (.inl rfl)) (po_e px_non) rfl) (px_one (px_isi .int (by rfl) A.b_isinstance bt_isinstance (by rfl) A.b_int bt_int (po_pk 0 rfl (.inl rfl))))))))
  pss_no) pss_no)
  (pss_co (ps_ifX (pt_of hu (po_e (px_isi .str (by rfl) A.b_isinstance bt_isinstance (by rfl) A.b_str bt_str (po_pk 1 rfl (.inl rfl))))) (pss_co (ps_retX (px_and (px_isi .str (by rfl) A.b_isinstance bt_isinstance (by rfl) A.b_str bt_str (po_pk 0 rfl (.inl rfl))) (px_one (px_cmp .eq hu (po_pk 0 rfl (.inl rfl)) (po_pk 1 rfl (.inl rfl)) rfl))))
  pss_no) pss_no)
  (pss_co (ps_ifX (PW.pt (pw_orX (pt_cmpX .ne hu (po_e (px_isi .list (by rfl) A.b_isinstance bt_isinstance (by rfl) A.b_list bt_list (po_pk 1 rfl (.inl rfl)))) (po_e (px_isi .list (by rfl) A.b_isinstance bt_isinstance (by rfl) A.b_list bt_list (po_pk 0 rfl (.inl rfl)))) rfl) (pw_or1X (pt_cmpX .ne hu (po_e (px_isi .tuple (by rfl) A.b_isinstance bt_isinstance (by rfl) A.b_tuple bt_tuple (po_pk 1 rfl (.inl rfl)))) (po_e (px_isi .tuple (by rfl) A.b_isinstance bt_isinstance (by rfl) A.b_tuple bt_tuple (po_pk 0 rfl (.inl rfl)))) rfl)))) (pss_co (ps_retX px_bl)
  pss_no) pss_no)
  (pss_co (ps_ifX (pt_cmpX .ne hu (po_e (px_biB .len (cr_len hu) (by rfl) A.b_len bt_len (po_pk 0 rfl (.inl rfl)))) (po_e (px_biB .len (cr_len hu) (by rfl) A.b_len bt_len (po_pk 1 rfl (.inl rfl)))) rfl) (pss_co (ps_retX px_bl)
  pss_no) pss_no)
  (pss_co (ps_forX PassesOwn.never rfl (pi_rng1 (by rfl) A.b_range (pos_cons (po_e (px_biB .len (cr_len hu) (by rfl) A.b_len bt_len (po_pk 1 rfl (.inl rfl)))) pos_nil) rfl) (pg_nm (i := 2) sc10.nd rfl (.inl rfl) (.inl rfl)) (pss_co (ps_ifX (pt_notX (pt_of hu (po_e (px_call O.o10 hr (by rfl) A.m10 A.F10.kp (bd10 A.F10) pass0 (pos_cons (po_e (px_idx hu (po_pk 0 rfl (.inl rfl)) (po_pk 2 rfl (.inl rfl)) (fun _ _ => rfl))) (pos_cons (po_e (px_idx hu (po_pk 1 rfl (.inl rfl)) (po_pk 2 rfl (.inl rfl)) (fun _ _ => rfl))) pos_nil)) rfl)))) (pss_co (ps_retX px_bl)
  pss_no) pss_no)
  pss_no))
  (pss_co (ps_retX px_bl)
  pss_no)))))))
theorem wk11 (A : Fx K mg f fd) (O : Oks P w K mg base f fd n) : FnOk P w K mg base CX0 (n + 2) (f 11) (fd 11) p11 (spR ⟨P, w, K⟩ (run T (n + 1)) 11 2) :=
  def_ok (df := df11) A.F11 sc11 rfl rfl rfl fun cdv Ar outer s H E G F0 hr =>
  have hu := hr.units
  have hu2 := hr.units2
  (pss_co (ps_setX 2 sc11.nd rfl (.inl rfl) (.inl rfl) (px_bin .add (po_e (px_bin .mul (po_e (px_biB .sum (cr_sumD rfl) (by rfl) A.b_sum bt_sum (po_pk 0 rfl (.inl rfl)))) (po_e px_int))) (po_e (px_bin .mul (po_e px_int) (po_e (px_bin .add (po_pk 1 rfl (.inl rfl)) (po_e px_int)))))))
  (pss_co (ps_ifX (pt_cmpX .lt hu (po_pk 1 rfl (.inl rfl)) (po_e (px_biB .len (cr_len hu) (by rfl) A.b_len bt_len (po_pk 0 rfl (.inl rfl)))) rfl) (pss_co (ps_setX 2 sc11.nd rfl (.inl rfl) (.inl rfl) (px_idx hu (po_pk 0 rfl (.inl rfl)) (po_pk 1 rfl (.inl rfl)) (fun _ _ => rfl)))
  pss_no) pss_no)
  (pss_co (ps_retX (px_biB .abs cr_abs (by rfl) A.b_abs bt_abs (po_pk 2 rfl (.inl rfl))))
  pss_no)))
theorem wk12 (A : Fx K mg f fd) (O : Oks P w K mg base f fd n) : FnOk P w K mg base CX0 (n + 2) (f 12) (fd 12) p12 (spR ⟨P, w, K⟩ (run T (n + 1)) 12 4) :=
  def_ok (df := df12) A.F12 sc12 rfl rfl rfl fun cdv Ar outer s H E G F0 hr =>
  have hu := hr.units
  have hu2 := hr.units2
  (pss_co (ps_setX 4 sc12.nd rfl (.inl rfl) (.inl rfl) (px_call O.o11 hr (by rfl) A.m11 A.F11.kp (bd11 A.F11) pass0 (pos_cons (po_e (px_var 0 rfl (.inl rfl))) (pos_cons (po_e (px_var 1 rfl (.inl rfl))) pos_nil)) rfl))
  (pss_co (ps_setX 5 sc12.nd rfl (.inl rfl) (.inl rfl) (px_lst pos_nil))
  (pss_co (ps_ifX (pt_cmpX .ge hu (po_pk 4 rfl (.inl rfl)) (po_e (px_bin .pow (po_e px_int) (po_e px_int))) rfl) (pss_co (ps_setX 4 sc12.nd rfl (.inl rfl) (.inl rfl) (px_bin .sub (po_pk 4 rfl (.inl rfl)) (po_e (px_bin .pow (po_e px_int) (po_e px_int)))))
  (pss_co (ps_forX PassesOwn.never rfl (pi_rng1 (by rfl) A.b_range (pos_cons (po_pk 2 rfl (.inl rfl)) pos_nil) rfl) (pg_nm (i := 7) sc12.nd rfl (.inl rfl) (.inl rfl)) (pss_co (ps_exX (px_append 5 rfl (.inl rfl) (pos_cons (po_e (px_bin .mod (po_pk 4 rfl (.inl rfl)) (po_pk 3 rfl (.inl rfl)))) pos_nil)))
  (pss_co (ps_setX 4 sc12.nd rfl (.inl rfl) (.inl rfl) (px_bin .fdiv (po_pk 4 rfl (.inl rfl)) (po_pk 3 rfl (.inl rfl))))
  pss_no)))
  (pss_co (ps_retvX 5 rfl (.inl rfl))
  pss_no))) pss_no)
  (pss_co (ps_setX 6 sc12.nd rfl (.inl rfl) (.inl rfl) (px_bin .add (po_e (px_bin .mod (po_pk 4 rfl (.inl rfl)) (po_e px_int))) (po_e px_int)))
  (pss_co (ps_forX PassesOwn.never rfl (pi_rng1 (by rfl) A.b_range (pos_cons (po_pk 2 rfl (.inl rfl)) pos_nil) rfl) (pg_nm (i := 7) sc12.nd rfl (.inl rfl) (.inl rfl)) (pss_co (ps_setX 6 sc12.nd rfl (.inl rfl) (.inl rfl) (px_bin .mod (po_e (px_bin .add (po_e (px_bin .add (po_e (px_bin .mul (po_pk 6 rfl (.inl rfl)) (po_e px_int))) (po_e (px_bin .mul (po_e px_int) (po_pk 7 rfl (.inl rfl)))))) (po_e px_int))) (po_e px_int)))
  (pss_co (ps_setX 8 sc12.nd rfl (.inl rfl) (.inl rfl) (px_bin .mod (po_e (px_bin .add (po_e (px_bin .add (po_e (px_bin .mul (po_pk 6 rfl (.inl rfl)) (po_pk 6 rfl (.inl rfl)))) (po_e (px_bin .mul (po_e px_int) (po_pk 7 rfl (.inl rfl)))))) (po_e px_int))) (po_e px_int)))
  (pss_co (ps_exX (px_append 5 rfl (.inl rfl) (pos_cons (po_e (px_bin .mod (po_e (px_bin .fdiv (po_pk 8 rfl (.inl rfl)) (po_e px_int))) (po_pk 3 rfl (.inl rfl)))) pos_nil)))
  pss_no))))
  (pss_co (ps_retvX 5 rfl (.inl rfl))
  pss_no))))))
theorem wk13 (A : Fx K mg f fd) (O : Oks P w K mg base f fd n) : FnOk P w K mg base CX0 (n + 2) (f 13) (fd 13) p13 (spR ⟨P, w, K⟩ (run T (n + 1)) 13 1) :=
  def_ok (df := df13) A.F13 sc13 rfl rfl rfl fun cdv Ar outer s H E G F0 hr =>
  have hu := hr.units
  have hu2 := hr.units2
  (pss_co (ps_ifX (pt_cmpX .eq hu (po_e (px_biB .len (cr_len hu) (by rfl) A.b_len bt_len (po_pk 0 rfl (.inl rfl)))) (po_e px_int) rfl) (pss_co (ps_retX px_int)
  pss_no) pss_no)
  (pss_co (ps_retX (px_pop 0 rfl (.inl rfl)))
  pss_no))
theorem wk14 (A : Fx K mg f fd) (O : Oks P w K mg base f fd n) : FnOk P w K mg base CX0 (n + 2) (f 14) (fd 14) p14 (spR ⟨P, w, K⟩ (run T (n + 1)) 14 3) :=
  def_ok (df := df14) A.F14 sc14 rfl rfl rfl fun cdv Ar outer s H E G F0 hr =>
  have hu := hr.units
  have hu2 := hr.units2
  (pss_co (ps_setX 3 sc14.nd rfl (.inl rfl) (.inl rfl) (px_call O.o12 hr (by rfl) A.m12 A.F12.kp (bd12 A.F12) pass0 (pos_cons (po_e (px_var 0 rfl (.inl rfl))) (pos_cons (po_e (px_var 1 rfl (.inl rfl))) (pos_cons (po_e (px_var 2 rfl (.inl rfl))) (pos_cons (po_e px_int) pos_nil)))) rfl))
  (pss_co (ps_exX (px_reverse 3 rfl (.inl rfl)))
  (pss_co (ps_retvX 3 rfl (.inl rfl))
  pss_no)))
theorem wk15 (A : Fx K mg f fd) (O : Oks P w K mg base f fd n) : FnOk P w K mg base CX0 (n + 2) (f 15) (fd 15) p15 (spR ⟨P, w, K⟩ (run T (n + 1)) 15 5) :=
  def_ok (df := df15) A.F15 sc15 rfl rfl rfl fun cdv Ar outer s H E G F0 hr =>
  have hu := hr.units
  have hu2 := hr.units2
  (pss_co (ps_setX 5 sc15.nd rfl (.inr rfl) (.inl rfl) (px_call O.o12 hr (by rfl) A.m12 A.F12.kp (bd12 A.F12) pass0 (pos_cons (po_e (px_var 0 rfl (.inl rfl))) (pos_cons (po_e (px_var 1 rfl (.inl rfl))) (pos_cons (po_e (px_bin .mul (po_pk 2 rfl (.inl rfl)) (po_e (px_biB .len (cr_len hu) (by rfl) A.b_len bt_len (po_pk 3 rfl (.inl rfl)))))) (pos_cons (po_e px_int) pos_nil)))) rfl))
  (pss_co (ps_setX 6 sc15.nd rfl (.inr rfl) (.inl rfl) (px_biB .len (cr_len hu) (by rfl) A.b_len bt_len (po_pk 3 rfl (.inl rfl))))
  (pss_co (ps_retX (px_lc (own := [("j", 7)]) rfl sc15.nd (pi_rng1 (by rfl) A.b_range (pos_cons (po_pk 2 rfl (.inl rfl)) pos_nil) rfl) (blkOk_by (N := N15) (sc := (defScope s15)) (own := [("j", 7)]) (by decide +kernel)) (fun _ _ _ _ _ => (pg_nm (i := 7) sc15.nd rfl (.inr rfl) (.inl rfl))) (fun _ _ _ _ _ => pts_no) (fun _ _ _ _ _ => (px_biT .tuple cr_tuple (by rfl) A.b_tuple bt_tuple (po_e (px_lc (own := [("i", 8)]) rfl sc15.nd (pi_rng1 (by rfl) A.b_range (pos_cons (po_pk 6 rfl (.inr (.inl rfl))) pos_nil) rfl) (blkOk_by (N := N15) (sc := (relS ⟨.function, [(Str.ofString ".0", .local), (Str.ofString "j", .cell), (Str.ofString "tuple", .globalImplicit), (Str.ofString "range", .globalImplicit), (Str.ofString "picks", .free), (Str.ofString "wide", .free), (Str.ofString "worths", .free)], false, false, []⟩ (defScope s15))) (own := [("i", 8)]) (by decide +kernel)) (fun _ _ _ _ _ => (pg_nm (i := 8) sc15.nd rfl (.inl rfl) (.inr rfl))) (fun _ _ _ _ _ => pts_no) (fun _ _ _ _ _ => (px_bin .mod (po_e (px_idx hu (po_pk 5 rfl (.inr (.inl rfl))) (po_e (px_bin .add (po_e (px_bin .mul (po_pk 6 rfl (.inr (.inl rfl))) (po_pk 7 rfl (.inr (.inl rfl))))) (po_pk 8 rfl (.inl rfl)))) (fun _ _ => rfl))) (po_pk 4 rfl (.inr (.inl rfl)))))))))))
  pss_no)))
theorem wk16 (A : Fx K mg f fd) (O : Oks P w K mg base f fd n) : FnOk P w K mg base CX0 (n + 2) (f 16) (fd 16) p16 (spR ⟨P, w, K⟩ (run T (n + 1)) 16 5) :=
  def_ok (df := df16) A.F16 sc16 rfl rfl rfl fun cdv Ar outer s H E G F0 hr =>
  have hu := hr.units
  have hu2 := hr.units2
  (pss_co (ps_retX (px_tup (pos_cons (po_e (px_var 3 rfl (.inl rfl))) (pos_cons (po_e (px_biT .tuple cr_tuple (by rfl) A.b_tuple bt_tuple (po_e (px_biB .sorted (cr_sortedD hu2) (by rfl) A.b_sorted bt_sorted (po_e (px_biT .list (cr_list rfl) (by rfl) A.b_list bt_list (po_e (px_biT (.dict true) (cr_dictD true hu rfl) (by rfl) A.b_dict bt_dict (po_e (px_lc (own := [("row", 5)]) rfl sc16.nd (pi_it (px_call O.o15 hr (by rfl) A.m15 A.F15.kp (bd15 A.F15) pass0 (pos_cons (po_e (px_var 0 rfl (.inl rfl))) (pos_cons (po_e (px_var 1 rfl (.inl rfl))) (pos_cons (po_e (px_var 2 rfl (.inl rfl))) (pos_cons (po_e (px_var 3 rfl (.inl rfl))) (pos_cons (po_e (px_var 4 rfl (.inl rfl))) pos_nil))))) rfl)) (blkOk_by (N := N16) (sc := (defScope s16)) (own := [("row", 5)]) (by decide +kernel)) (fun _ _ _ _ _ => (pg_nm (i := 5) sc16.nd rfl (.inl rfl) (.inr rfl))) (fun _ _ _ _ _ => pts_no) (fun _ _ _ _ _ => (px_tup (pos_cons (po_e (px_var 5 rfl (.inl rfl))) (pos_cons (po_e px_int) pos_nil)))))))))))))) pos_nil))))
  pss_no)
theorem wk17 (A : Fx K mg f fd) (O : Oks P w K mg base f fd n) : FnOk P w K mg base CX0 (n + 2) (f 17) (fd 17) p17 (spR ⟨P, w, K⟩ (run T (n + 1)) 17 1) :=
  def_ok (df := df17) A.F17 sc17 rfl rfl rfl fun cdv Ar outer s H E G F0 hr =>
  have hu := hr.units
  have hu2 := hr.units2
  (pss_co (ps_retX (px_biT .list (cr_list rfl) (by rfl) A.b_list bt_list (po_e (px_biT (.dict false) (cr_dictD false hu rfl) (by rfl) A.b_dict bt_dict (po_e (px_lc (own := [("row", 1)]) rfl sc17.nd (pi_it (px_var 0 rfl (.inl rfl))) (blkOk_by (N := N17) (sc := (defScope s17)) (own := [("row", 1)]) (by decide +kernel)) (fun _ _ _ _ _ => (pg_nm (i := 1) sc17.nd rfl (.inl rfl) (.inr rfl))) (fun _ _ _ _ _ => pts_no) (fun _ _ _ _ _ => (px_tup (pos_cons (po_e (px_var 1 rfl (.inl rfl))) (pos_cons (po_e px_int) pos_nil))))))))))
  pss_no)
theorem wk18 (A : Fx K mg f fd) (O : Oks P w K mg base f fd n) : FnOk P w K mg base CX0 (n + 2) (f 18) (fd 18) p18 (spR ⟨P, w, K⟩ (run T (n + 1)) 18 4) :=
  def_ok (df := df18) A.F18 sc18 rfl rfl rfl fun cdv Ar outer s H E G F0 hr =>
  have hu := hr.units
  have hu2 := hr.units2
  (pss_co (ps_setX 4 sc18.nd rfl (.inl rfl) (.inl rfl) (px_dic0 false))
  (pss_co (ps_forX PassesOwn.never rfl (pi_rng1 (by rfl) A.b_range (pos_cons (po_e (px_biB .len (cr_len hu) (by rfl) A.b_len bt_len (po_e (px_idx hu (po_pk 2 rfl (.inl rfl)) (po_e px_int) (fun _ _ => rfl))))) pos_nil) rfl) (pg_nm (i := 5) sc18.nd rfl (.inl rfl) (.inl rfl)) (pss_co (ps_setX 6 sc18.nd rfl (.inl rfl) (.inl rfl) (px_call O.o12 hr (by rfl) A.m12 A.F12.kp (bd12 A.F12) pass0 (pos_cons (po_e (px_var 0 rfl (.inl rfl))) (pos_cons (po_e (px_bin .add (po_pk 1 rfl (.inl rfl)) (po_pk 5 rfl (.inl rfl)))) (pos_cons (po_e px_int) (pos_cons (po_e px_int) pos_nil)))) rfl))
  (pss_co (ps_setIX 4 hu rfl (.inl rfl) (po_e (px_idx hu (po_e (px_idx hu (po_e (px_idx hu (po_pk 2 rfl (.inl rfl)) (po_e px_int) (fun _ _ => rfl))) (po_pk 5 rfl (.inl rfl)) (fun _ _ => rfl))) (po_e px_int) (fun _ _ => rfl))) (px_call O.o16 hr (by rfl) A.m16 A.F16.kp (bd16 A.F16) pass0 (pos_cons (po_e (px_var 0 rfl (.inl rfl))) (pos_cons (po_e (px_bin .add (po_e (px_bin .add (po_pk 1 rfl (.inl rfl)) (po_e px_int))) (po_pk 5 rfl (.inl rfl)))) (pos_cons (po_e (px_bin .mod (po_e (px_idx hu (po_pk 6 rfl (.inl rfl)) (po_e px_int) (fun _ _ => rfl))) (po_e px_int))) (pos_cons (po_e (px_idx hu (po_e (px_idx hu (po_e (px_idx hu (po_pk 2 rfl (.inl rfl)) (po_e px_int) (fun _ _ => rfl))) (po_pk 5 rfl (.inl rfl)) (fun _ _ => rfl))) (po_e px_int) (fun _ _ => rfl))) (pos_cons (po_e (px_var 3 rfl (.inl rfl))) pos_nil))))) rfl))
  pss_no)))
  (pss_co (ps_retvX 4 rfl (.inl rfl))
  pss_no)))
theorem wk19 (A : Fx K mg f fd) (O : Oks P w K mg base f fd n) : FnOk P w K mg base CX0 (n + 2) (f 19) (fd 19) p19 (spR ⟨P, w, K⟩ (run T (n + 1)) 19 3) :=
  def_ok (df := df19) A.F19 sc19 rfl rfl rfl fun cdv Ar outer s H E G F0 hr =>
  have hu := hr.units
  have hu2 := hr.units2
  (pss_co (ps_setX 3 sc19.nd rfl (.inl rfl) (.inl rfl) (px_biT (.dict false) (cr_dictD false hu rfl) (by rfl) A.b_dict bt_dict (po_pk 0 rfl (.inl rfl))))
  (pss_co (ps_forX PassesOwn.never rfl (pi_rng1 (by rfl) A.b_range (pos_cons (po_e (px_biB .len (cr_len hu) (by rfl) A.b_len bt_len (po_pk 1 rfl (.inl rfl)))) pos_nil) rfl) (pg_nm (i := 4) sc19.nd rfl (.inl rfl) (.inl rfl)) (pss_co (ps_ifX (PW.pt (pw_orX (PW.pt (pw_andX (pt_cmpX .ge hu (po_e (px_idx hu (po_pk 1 rfl (.inl rfl)) (po_pk 4 rfl (.inl rfl)) (fun _ _ => rfl))) (po_e px_int) rfl) (pw_and1X (pt_cmpX .ne hu (po_e (px_idx hu (po_pk 1 rfl (.inl rfl)) (po_pk 4 rfl (.inl rfl)) (fun _ _ => rfl))) (po_e (px_idx hu (po_pk 2 rfl (.inl rfl)) (po_pk 4 rfl (.inl rfl)) (fun _ _ => rfl))) rfl)))) (pw_or1X (PW.pt (pw_andX (pt_cmpX .lt hu (po_e (px_idx hu (po_pk 1 rfl (.inl rfl)) (po_pk 4 rfl (.inl rfl)) (fun _ _ => rfl))) (po_e px_int) rfl) (pw_and1X (pt_cmpX .ne hu (po_e (px_get hu (po_pk 3 rfl (.inl rfl)) (pos_cons (po_e (px_idx hu (po_pk 1 rfl (.inl rfl)) (po_pk 4 rfl (.inl rfl)) (fun _ _ => rfl))) (pos_cons (po_e (px_idx hu (po_pk 2 rfl (.inl rfl)) (po_pk 4 rfl (.inl rfl)) (fun _ _ => rfl))) pos_nil)))) (po_e (px_idx hu (po_pk 2 rfl (.inl rfl)) (po_pk 4 rfl (.inl rfl)) (fun _ _ => rfl))) rfl))))))) (pss_co (ps_retX px_non)
  pss_no) pss_no)
  (pss_co (ps_ifX (pt_cmpX .lt hu (po_e (px_idx hu (po_pk 1 rfl (.inl rfl)) (po_pk 4 rfl (.inl rfl)) (fun _ _ => rfl))) (po_e px_int) rfl) (pss_co (ps_setIX 3 hu rfl (.inl rfl) (po_e (px_idx hu (po_pk 1 rfl (.inl rfl)) (po_pk 4 rfl (.inl rfl)) (fun _ _ => rfl))) (px_idx hu (po_pk 2 rfl (.inl rfl)) (po_pk 4 rfl (.inl rfl)) (fun _ _ => rfl)))
  pss_no) pss_no)
  pss_no)))
  (pss_co (ps_retvX 3 rfl (.inl rfl))
  pss_no)))
theorem wk20 (A : Fx K mg f fd) (O : Oks P w K mg base f fd n) : FnOk P w K mg base CX0 (n + 2) (f 20) (fd 20) p20 (spR ⟨P, w, K⟩ (run T (n + 1)) 20 2) :=
  def_ok (df := df20) A.F20 sc20 rfl rfl rfl fun cdv Ar outer s H E G F0 hr =>
  have hu := hr.units
  have hu2 := hr.units2
  (pss_co (ps_setX 2 sc20.nd rfl (.inl rfl) (.inl rfl) (px_lst (pos_cons (po_e (px_dic0 false)) pos_nil)))
  (pss_co (ps_forX PassesOwn.never rfl (pi_it (px_idx hu (po_pk 1 rfl (.inl rfl)) (po_e px_int) (fun _ _ => rfl))) (pg_tp rfl (pgs_nm (i := 3) sc20.nd rfl (.inl rfl) (.inl rfl) (pgs_nm (i := 4) sc20.nd rfl (.inl rfl) (.inl rfl) pgs_no))) (pss_co (ps_setX 5 sc20.nd rfl (.inl rfl) (.inl rfl) (px_lst pos_nil))
  (pss_co (ps_forX PassesOwn.never rfl (pi_it (px_var 2 rfl (.inl rfl))) (pg_nm (i := 6) sc20.nd rfl (.inl rfl) (.inl rfl)) (pss_co (ps_forX PassesOwn.never rfl (pi_it (px_idx hu (po_e (px_idx hu (po_pk 0 rfl (.inl rfl)) (po_pk 3 rfl (.inl rfl)) (fun _ _ => rfl))) (po_e px_int) (fun _ _ => rfl))) (pg_nm (i := 7) sc20.nd rfl (.inl rfl) (.inl rfl)) (pss_co (ps_setX 8 sc20.nd rfl (.inl rfl) (.inl rfl) (px_call O.o19 hr (by rfl) A.m19 A.F19.kp (bd19 A.F19) pass0 (pos_cons (po_e (px_var 6 rfl (.inl rfl))) (pos_cons (po_e (px_var 4 rfl (.inl rfl))) (pos_cons (po_e (px_var 7 rfl (.inl rfl))) pos_nil))) rfl))
  (pss_co (ps_ifX (pt_cmpX .notn hu (po_pk 8 rfl (.inl rfl)) (po_e px_non) rfl) (pss_co (ps_exX (px_append 5 rfl (.inl rfl) (pos_cons (po_e (px_var 8 rfl (.inl rfl))) pos_nil)))
  pss_no) pss_no)
  pss_no)))
  pss_no))
  (pss_co (ps_setX 2 sc20.nd rfl (.inl rfl) (.inl rfl) (px_var 5 rfl (.inl rfl)))
  pss_no))))
  (pss_co (ps_retvX 2 rfl (.inl rfl))
  pss_no)))
theorem wk21 (A : Fx K mg f fd) (O : Oks P w K mg base f fd n) : FnOk P w K mg base CX0 (n + 2) (f 21) (fd 21) p21 (spR ⟨P, w, K⟩ (run T (n + 1)) 21 2) :=
  def_ok (df := df21) A.F21 sc21 rfl rfl rfl fun cdv Ar outer s H E G F0 hr =>
  have hu := hr.units
  have hu2 := hr.units2
  (pss_co (ps_setX 2 sc21.nd rfl (.inl rfl) (.inl rfl) (px_lst pos_nil))
  (pss_co (ps_forX PassesOwn.never rfl (pi_rng1 (by rfl) A.b_range (pos_cons (po_e (px_bin .add (po_e px_int) (po_e (px_bin .mod (po_e (px_call O.o13 hr (by rfl) A.m13 A.F13.kp (bd13 A.F13) pass0 (pos_cons (po_pk 0 rfl (.inr (.inl rfl))) pos_nil) rfl)) (po_e px_int))))) pos_nil) rfl) (pg_nm (i := 3) sc21.nd rfl (.inl rfl) (.inl rfl)) (pss_co (ps_setX 6 sc21.nd rfl (.inl rfl) (.inl rfl) (px_idx hu (po_e (px_lst (pos_cons (po_e px_str) (pos_cons (po_e px_str) (pos_cons (po_e px_str) (pos_cons (po_e px_str) pos_nil)))))) (po_e (px_bin .mod (po_e (px_call O.o13 hr (by rfl) A.m13 A.F13.kp (bd13 A.F13) pass0 (pos_cons (po_pk 0 rfl (.inr (.inl rfl))) pos_nil) rfl)) (po_e px_int))) (fun _ _ => rfl)))
  (pss_co (ps_exX (px_append 2 rfl (.inl rfl) (pos_cons (po_e (px_tup (pos_cons (po_e (px_var 6 rfl (.inl rfl))) (pos_cons (po_e (px_biT .tuple cr_tuple (by rfl) A.b_tuple bt_tuple (po_e (px_lc (own := [("column", 8)]) rfl sc21.nd (pi_it (px_idx hu (po_pk 1 rfl (.inl rfl)) (po_pk 6 rfl (.inl rfl)) (fun _ _ => rfl))) (blkOk_by (N := N21) (sc := (defScope s21)) (own := [("column", 8)]) (by decide +kernel)) (fun _ _ _ _ _ => (pg_nm (i := 8) sc21.nd rfl (.inl rfl) (.inr rfl))) (fun _ _ _ _ _ => pts_no) (fun _ _ _ _ _ => (px_idx hu (po_e (px_lst (pos_cons (po_e (px_neg (po_e px_int))) (pos_cons (po_e (px_neg (po_e px_int))) (pos_cons (po_e (px_neg (po_e px_int))) (pos_cons (po_e px_int) (pos_cons (po_e (px_neg (po_e px_int))) (pos_cons (po_e px_int) pos_nil)))))))) (po_e (px_bin .mod (po_e (px_call O.o13 hr (by rfl) A.m13 A.F13.kp (bd13 A.F13) pass0 (pos_cons (po_pk 0 rfl (.inr (.inl rfl))) pos_nil) rfl)) (po_e px_int))) (fun _ _ => rfl))))))) pos_nil)))) pos_nil)))
  pss_no)))
  (pss_co (ps_setX 4 sc21.nd rfl (.inr rfl) (.inl rfl) (px_lst (pos_cons (po_e px_int) pos_nil)))
  (pss_co (ps_forX PassesOwn.never rfl (pi_it (px_var 2 rfl (.inl rfl))) (pg_tp rfl (pgs_nm (i := 6) sc21.nd rfl (.inl rfl) (.inl rfl) (pgs_nm (i := 7) sc21.nd rfl (.inl rfl) (.inl rfl) pgs_no))) (pss_co (ps_setX 4 sc21.nd rfl (.inr rfl) (.inl rfl) (px_bin .add (po_pk 4 rfl (.inr (.inl rfl))) (po_e (px_biT .list (cr_list rfl) (by rfl) A.b_list bt_list (po_pk 7 rfl (.inl rfl))))))
  pss_no))
  (pss_co (ps_setX 5 sc21.nd rfl (.inl rfl) (.inl rfl) (px_biT .tuple cr_tuple (by rfl) A.b_tuple bt_tuple (po_e (px_lc (own := [("k", 3)]) rfl sc21.nd (pi_rng1 (by rfl) A.b_range (pos_cons (po_e (px_bin .mod (po_e (px_call O.o13 hr (by rfl) A.m13 A.F13.kp (bd13 A.F13) pass0 (pos_cons (po_pk 0 rfl (.inr (.inl rfl))) pos_nil) rfl)) (po_e px_int))) pos_nil) rfl) (blkOk_by (N := N21) (sc := (defScope s21)) (own := [("k", 3)]) (by decide +kernel)) (fun _ _ _ _ _ => (pg_nm (i := 3) sc21.nd rfl (.inl rfl) (.inr rfl))) (fun _ _ _ _ _ => pts_no) (fun _ _ _ _ _ => (px_idx hu (po_pk 4 rfl (.inr (.inl rfl))) (po_e (px_bin .mod (po_e (px_call O.o13 hr (by rfl) A.m13 A.F13.kp (bd13 A.F13) pass0 (pos_cons (po_pk 0 rfl (.inr (.inl rfl))) pos_nil) rfl)) (po_e (px_biB .len (cr_len hu) (by rfl) A.b_len bt_len (po_pk 4 rfl (.inr (.inl rfl))))))) (fun _ _ => rfl)))))))
  (pss_co (ps_retX (px_tup (pos_cons (po_e (px_sli (po_e (px_tup (pos_cons (po_e px_str) (pos_cons (po_e px_str) pos_nil)))) pp_no (pp_yes (po_e (px_biB .len (cr_len hu) (by rfl) A.b_len bt_len (po_pk 5 rfl (.inl rfl))))))) (pos_cons (po_e (px_var 5 rfl (.inl rfl))) (pos_cons (po_e (px_biT .tuple cr_tuple (by rfl) A.b_tuple bt_tuple (po_pk 2 rfl (.inl rfl)))) pos_nil)))))
  pss_no))))))
theorem wk22 (A : Fx K mg f fd) (O : Oks P w K mg base f fd n) : FnOk P w K mg base CX0 (n + 2) (f 22) (fd 22) p22 (spR ⟨P, w, K⟩ (run T (n + 1)) 22 1) :=
  def_ok (df := df22) A.F22 sc22 rfl rfl rfl fun cdv Ar outer s H E G F0 hr =>
  have hu := hr.units
  have hu2 := hr.units2
  (pss_co (ps_setX 1 sc22.nd rfl (.inl rfl) (.inl rfl) (px_biT .list (cr_list rfl) (by rfl) A.b_list bt_list (po_e (px_idx hu (po_pk 0 rfl (.inl rfl)) (po_e px_int) (fun _ _ => rfl)))))
  (pss_co (ps_forX PassesOwn.never rfl (pi_it (px_idx hu (po_pk 0 rfl (.inl rfl)) (po_e px_int) (fun _ _ => rfl))) (pg_tp rfl (pgs_nm (i := 2) sc22.nd rfl (.inl rfl) (.inl rfl) (pgs_nm (i := 3) sc22.nd rfl (.inl rfl) (.inl rfl) pgs_no))) (pss_co (ps_setX 1 sc22.nd rfl (.inl rfl) (.inl rfl) (px_bin .add (po_pk 1 rfl (.inl rfl)) (po_e (px_biT .list (cr_list rfl) (by rfl) A.b_list bt_list (po_pk 3 rfl (.inl rfl))))))
  pss_no))
  (pss_co (ps_retX (px_lc (own := [("mark", 4)]) rfl sc22.nd (pi_it (px_call O.o17 hr (by rfl) A.m17 A.F17.kp (bd17 A.F17) pass0 (pos_cons (po_e (px_var 1 rfl (.inl rfl))) pos_nil) rfl)) (blkOk_by (N := N22) (sc := (defScope s22)) (own := [("mark", 4)]) (by decide +kernel)) (fun _ _ _ _ _ => (pg_nm (i := 4) sc22.nd rfl (.inl rfl) (.inr rfl))) (fun _ _ _ _ _ => (pts_yes (pt_cmpX .lt hu (po_pk 4 rfl (.inl rfl)) (po_e px_int) rfl))) (fun _ _ _ _ _ => (px_var 4 rfl (.inl rfl)))))
  pss_no)))
theorem wk23 (A : Fx K mg f fd) (O : Oks P w K mg base f fd n) : FnOk P w K mg base CX0 (n + 2) (f 23) (fd 23) p23 (spR ⟨P, w, K⟩ (run T (n + 1)) 23 2) :=
  def_ok (df := df23) A.F23 sc23 rfl rfl rfl fun cdv Ar outer s H E G F0 hr =>
  have hu := hr.units
  have hu2 := hr.units2
  (pss_co (ps_setX 2 sc23.nd rfl (.inl rfl) (.inl rfl) (px_biT .tuple cr_tuple (by rfl) A.b_tuple bt_tuple (po_e (px_lc (own := [("name", 3), ("line", 4)]) rfl sc23.nd (pi_it (px_idx hu (po_pk 1 rfl (.inl rfl)) (po_e px_int) (fun _ _ => rfl))) (blkOk_by (N := N23) (sc := (defScope s23)) (own := [("name", 3), ("line", 4)]) (by decide +kernel)) (fun _ _ _ _ _ => (pg_tp rfl (pgs_nm (i := 3) sc23.nd rfl (.inl rfl) (.inr rfl) (pgs_nm (i := 4) sc23.nd rfl (.inl rfl) (.inr rfl) pgs_no)))) (fun _ _ _ _ _ => pts_no) (fun _ _ _ _ _ => (px_tup (pos_cons (po_e (px_var 3 rfl (.inl rfl))) (pos_cons (po_e (px_biT .tuple cr_tuple (by rfl) A.b_tuple bt_tuple (po_e (px_lc (own := [("mark", 5)]) rfl sc23.nd (pi_it (px_var 4 rfl (.inl rfl))) (blkOk_by (N := N23) (sc := (relS ⟨.function, [(Str.ofString ".0", .local), (Str.ofString "name", .local), (Str.ofString "line", .local), (Str.ofString "tuple", .globalImplicit), (Str.ofString "paper", .free)], false, false, []⟩ (defScope s23))) (own := [("mark", 5)]) (by decide +kernel)) (fun _ _ _ _ _ => (pg_nm (i := 5) sc23.nd rfl (.inl rfl) (.inr rfl))) (fun _ _ _ _ _ => pts_no) (fun _ _ _ _ _ => (px_get hu (po_pk 0 rfl (.inr (.inl rfl))) (pos_cons (po_e (px_var 5 rfl (.inl rfl))) (pos_cons (po_e (px_var 5 rfl (.inl rfl))) pos_nil)))))))) pos_nil))))))))
  (pss_co (ps_retX (px_tup (pos_cons (po_e (px_idx hu (po_pk 1 rfl (.inl rfl)) (po_e px_int) (fun _ _ => rfl))) (pos_cons (po_e (px_biT .tuple cr_tuple (by rfl) A.b_tuple bt_tuple (po_e (px_lc (own := [("mark", 5)]) rfl sc23.nd (pi_it (px_idx hu (po_pk 1 rfl (.inl rfl)) (po_e px_int) (fun _ _ => rfl))) (blkOk_by (N := N23) (sc := (defScope s23)) (own := [("mark", 5)]) (by decide +kernel)) (fun _ _ _ _ _ => (pg_nm (i := 5) sc23.nd rfl (.inl rfl) (.inr rfl))) (fun _ _ _ _ _ => pts_no) (fun _ _ _ _ _ => (px_get hu (po_pk 0 rfl (.inr (.inl rfl))) (pos_cons (po_e (px_var 5 rfl (.inl rfl))) (pos_cons (po_e (px_var 5 rfl (.inl rfl))) pos_nil)))))))) (pos_cons (po_e (px_var 2 rfl (.inl rfl))) pos_nil)))))
  pss_no))
theorem wk24 (A : Fx K mg f fd) (O : Oks P w K mg base f fd n) : FnOk P w K mg base CX0 (n + 2) (f 24) (fd 24) p24 (spR ⟨P, w, K⟩ (run T (n + 1)) 24 3) :=
  def_ok (df := df24) A.F24 sc24 rfl rfl rfl fun cdv Ar outer s H E G F0 hr =>
  have hu := hr.units
  have hu2 := hr.units2
  (pss_co (ps_setX 3 sc24.nd rfl (.inl rfl) (.inl rfl) (px_call O.o22 hr (by rfl) A.m22 A.F22.kp (bd22 A.F22) pass0 (pos_cons (po_e (px_var 0 rfl (.inl rfl))) pos_nil) rfl))
  (pss_co (ps_ifX (PW.pt (pw_orX (pt_cmpX .gt hu (po_e (px_biB .len (cr_len hu) (by rfl) A.b_len bt_len (po_e (px_lc (own := [("mark", 5)]) rfl sc24.nd (pi_it (px_var 3 rfl (.inl rfl))) (blkOk_by (N := N24) (sc := (defScope s24)) (own := [("mark", 5)]) (by decide +kernel)) (fun _ _ _ _ _ => (pg_nm (i := 5) sc24.nd rfl (.inl rfl) (.inr rfl))) (fun _ _ _ _ _ => (pts_yes (pt_cmpX .notin hu (po_pk 5 rfl (.inl rfl)) (po_pk 2 rfl (.inr (.inl rfl))) rfl))) (fun _ _ _ _ _ => (px_var 5 rfl (.inl rfl))))))) (po_e px_int) rfl) (pw_or1X (pt_cmpX .gt hu (po_e (px_biB .len (cr_len hu) (by rfl) A.b_len bt_len (po_e (px_lc (own := [("mark", 5)]) rfl sc24.nd (pi_it (px_var 3 rfl (.inl rfl))) (blkOk_by (N := N24) (sc := (defScope s24)) (own := [("mark", 5)]) (by decide +kernel)) (fun _ _ _ _ _ => (pg_nm (i := 5) sc24.nd rfl (.inl rfl) (.inr rfl))) (fun _ _ _ _ _ => (pts_yes (pt_cmpX .ge hu (po_e (px_idx hu (po_pk 2 rfl (.inr (.inl rfl))) (po_pk 5 rfl (.inl rfl)) (fun _ _ => rfl))) (po_e px_int) rfl))) (fun _ _ _ _ _ => (px_var 5 rfl (.inl rfl))))))) (po_e px_int) rfl)))) (pss_co (ps_retX px_bl)
  pss_no) pss_no)
  (pss_co (ps_ifX (PW.pt (pw_orX (pt_cmpX .lt hu (po_e (px_biB .len (cr_len hu) (by rfl) A.b_len bt_len (po_e (px_call O.o17 hr (by rfl) A.m17 A.F17.kp (bd17 A.F17) pass0 (pos_cons (po_e (px_lvals rfl (by rfl) A.b_list bt_list (po_pk 2 rfl (.inr (.inl rfl))))) pos_nil) rfl)))) (po_e (px_biB .len (cr_len hu) (by rfl) A.b_len bt_len (po_pk 2 rfl (.inr (.inl rfl))))) rfl) (pw_or1X (pt_cmpX .ne hu (po_e (px_idx hu (po_pk 0 rfl (.inl rfl)) (po_e px_int) (fun _ _ => rfl))) (po_e (px_idx hu (po_pk 1 rfl (.inl rfl)) (po_e px_int) (fun _ _ => rfl))) rfl)))) (pss_co (ps_retX px_bl)
  pss_no) pss_no)
  (pss_co (ps_setX 4 sc24.nd rfl (.inl rfl) (.inl rfl) (px_call O.o23 hr (by rfl) A.m23 A.F23.kp (bd23 A.F23) pass0 (pos_cons (po_e (px_biT (.dict false) (cr_dictD false hu rfl) (by rfl) A.b_dict bt_dict (po_e (px_lc (own := [("mark", 5)]) rfl sc24.nd (pi_it (px_var 3 rfl (.inl rfl))) (blkOk_by (N := N24) (sc := (defScope s24)) (own := [("mark", 5)]) (by decide +kernel)) (fun _ _ _ _ _ => (pg_nm (i := 5) sc24.nd rfl (.inl rfl) (.inr rfl))) (fun _ _ _ _ _ => pts_no) (fun _ _ _ _ _ => (px_tup (pos_cons (po_e (px_var 5 rfl (.inl rfl))) (pos_cons (po_e (px_idx hu (po_pk 2 rfl (.inr (.inl rfl))) (po_pk 5 rfl (.inl rfl)) (fun _ _ => rfl))) pos_nil)))))))) (pos_cons (po_e (px_var 0 rfl (.inl rfl))) pos_nil)) rfl))
  (pss_co (ps_retX (px_and (px_cmp .eq hu (po_e (px_idx hu (po_pk 4 rfl (.inl rfl)) (po_e px_int) (fun _ _ => rfl))) (po_e (px_idx hu (po_pk 1 rfl (.inl rfl)) (po_e px_int) (fun _ _ => rfl))) rfl) (px_one (px_cmp .eq hu (po_e (px_biB .sorted (cr_sortedD hu2) (by rfl) A.b_sorted bt_sorted (po_e (px_biT .list (cr_list rfl) (by rfl) A.b_list bt_list (po_e (px_idx hu (po_pk 4 rfl (.inl rfl)) (po_e px_int) (fun _ _ => rfl))))))) (po_e (px_biB .sorted (cr_sortedD hu2) (by rfl) A.b_sorted bt_sorted (po_e (px_biT .list (cr_list rfl) (by rfl) A.b_list bt_list (po_e (px_idx hu (po_pk 1 rfl (.inl rfl)) (po_e px_int) (fun _ _ => rfl))))))) rfl))))
  pss_no)))))
theorem wk25 (A : Fx K mg f fd) (O : Oks P w K mg base f fd n) : FnOk P w K mg base CX0 (n + 2) (f 25) (fd 25) p25 (spR ⟨P, w, K⟩ (run T (n + 1)) 25 2) :=
  def_ok (df := df25) A.F25 sc25 rfl rfl rfl fun cdv Ar outer s H E G F0 hr =>
  have hu := hr.units
  have hu2 := hr.units2
  (pss_co (ps_setX 2 sc25.nd rfl (.inl rfl) (.inl rfl) (px_lst (pos_cons (po_e (px_dic0 false)) pos_nil)))
  (pss_co (ps_forX PassesOwn.never rfl (pi_it (px_var 0 rfl (.inl rfl))) (pg_nm (i := 3) sc25.nd rfl (.inl rfl) (.inl rfl)) (pss_co (ps_setX 4 sc25.nd rfl (.inl rfl) (.inl rfl) (px_lst pos_nil))
  (pss_co (ps_forX PassesOwn.never rfl (pi_it (px_var 2 rfl (.inl rfl))) (pg_nm (i := 5) sc25.nd rfl (.inl rfl) (.inl rfl)) (pss_co (ps_forX PassesOwn.never rfl (pi_it (px_var 1 rfl (.inl rfl))) (pg_nm (i := 6) sc25.nd rfl (.inl rfl) (.inl rfl)) (pss_co (ps_ifX (pt_cmpX .notin hu (po_pk 6 rfl (.inl rfl)) (po_e (px_lvals rfl (by rfl) A.b_list bt_list (po_pk 5 rfl (.inl rfl)))) rfl) (pss_co (ps_exX (px_append 4 rfl (.inl rfl) (pos_cons (po_e (px_biT (.dict false) (cr_dictD false hu rfl) (by rfl) A.b_dict bt_dict (po_e (px_bin .add (po_e (px_litems rfl (by rfl) A.b_list bt_list (po_pk 5 rfl (.inl rfl)))) (po_e (px_lst (pos_cons (po_e (px_tup (pos_cons (po_e (px_var 3 rfl (.inl rfl))) (pos_cons (po_e (px_var 6 rfl (.inl rfl))) pos_nil)))) pos_nil))))))) pos_nil)))
  pss_no) pss_no)
  pss_no))
  pss_no))
  (pss_co (ps_setX 2 sc25.nd rfl (.inl rfl) (.inl rfl) (px_var 4 rfl (.inl rfl)))
  pss_no))))
  (pss_co (ps_retvX 2 rfl (.inl rfl))
  pss_no)))
theorem wk26 (A : Fx K mg f fd) (O : Oks P w K mg base f fd n) : FnOk P w K mg base CX0 (n + 2) (f 26) (fd 26) p26 (spR ⟨P, w, K⟩ (run T (n + 1)) 26 2) :=
  def_ok (df := df26) A.F26 sc26 rfl rfl rfl fun cdv Ar outer s H E G F0 hr =>
  have hu := hr.units
  have hu2 := hr.units2
  (pss_co (ps_setX 2 sc26.nd rfl (.inl rfl) (.inl rfl) (px_call O.o25 hr (by rfl) A.m25 A.F25.kp (bd25 A.F25) pass0 (pos_cons (po_e (px_call O.o22 hr (by rfl) A.m22 A.F22.kp (bd22 A.F22) pass0 (pos_cons (po_e (px_var 0 rfl (.inr (.inl rfl)))) pos_nil) rfl)) (pos_cons (po_e (px_call O.o22 hr (by rfl) A.m22 A.F22.kp (bd22 A.F22) pass0 (pos_cons (po_e (px_var 1 rfl (.inr (.inl rfl)))) pos_nil) rfl)) pos_nil)) rfl))
  (pss_co (ps_setLcX 3 (own := [("paper", 5)]) rfl sc26.nd rfl rfl (sw_true rfl rfl rfl (by decide +kernel)) (pi_it (px_var 2 rfl (.inl rfl))) (blkOk_by (N := N26) (sc := (defScope s26)) (own := [("paper", 5)]) (by decide +kernel)) (fun _ _ _ _ _ => (pg_nm (i := 5) sc26.nd rfl (.inl rfl) (.inr rfl))) (fun _ _ _ _ _ => (pts_yes (pt_of hu (po_e (px_call O.o24 hr (by rfl) A.m24 A.F24.kp (bd24 A.F24) pass0 (pos_cons (po_e (px_var 0 rfl (.inr (.inl rfl)))) (pos_cons (po_e (px_var 1 rfl (.inr (.inl rfl)))) (pos_cons (po_e (px_var 5 rfl (.inl rfl))) pos_nil))) rfl))))) (fun _ _ _ _ _ => (px_var 5 rfl (.inl rfl))))
  (pss_co (ps_setX 4 sc26.nd rfl (.inl rfl) (.inl rfl) (px_call O.o3 hr (by rfl) A.m3 A.F3.kp (bd3 A.F3) pass0 (pos_cons (po_e (px_var 0 rfl (.inr (.inl rfl)))) (pos_cons (po_e (px_var 1 rfl (.inr (.inl rfl)))) pos_nil)) rfl))
  (pss_co (ps_ifX (PW.pt (pw_orX (pt_cmpX .isn hu (po_pk 4 rfl (.inl rfl)) (po_e px_non) rfl) (pw_or1X (pt_cmpX .eq hu (po_e (px_biB .len (cr_len hu) (by rfl) A.b_len bt_len (po_pk 3 rfl (.inl rfl)))) (po_e px_int) rfl)))) (pss_co (ps_retX (px_and (px_cmp .isn hu (po_pk 4 rfl (.inl rfl)) (po_e px_non) rfl) (px_and (px_cmp .eq hu (po_e (px_biB .len (cr_len hu) (by rfl) A.b_len bt_len (po_pk 3 rfl (.inl rfl)))) (po_e px_int) rfl) (px_one (px_cmp .isb hu (po_e (px_call O.o6 hr (by rfl) A.m6 A.F6.kp (bd6 A.F6) pass0 (pos_cons (po_e (px_var 0 rfl (.inr (.inl rfl)))) (pos_cons (po_e (px_var 1 rfl (.inr (.inl rfl)))) pos_nil)) rfl)) (po_e px_bl) rfl)))))
  pss_no) pss_no)
  (pss_co (ps_ifX (PW.pt (pw_orX (pt_notX (pt_of hu (po_e (px_isi .dict (by rfl) A.b_isinstance bt_isinstance (by rfl) A.b_dict bt_dict (po_pk 4 rfl (.inl rfl)))))) (pw_or1X (pt_cmpX .gt hu (po_e (px_biB .len (cr_len hu) (by rfl) A.b_len bt_len (po_e (px_lc (own := [("x", 6)]) rfl sc26.nd (pi_it (px_litems rfl (by rfl) A.b_list bt_list (po_pk 4 rfl (.inl rfl)))) (blkOk_by (N := N26) (sc := (defScope s26)) (own := [("x", 6)]) (by decide +kernel)) (fun _ _ _ _ _ => (pg_nm (i := 6) sc26.nd rfl (.inl rfl) (.inr rfl))) (fun _ _ _ _ _ => (pts_yes (PW.pt (pw_orX (pt_notX (pt_of hu (po_e (px_call O.o9 hr (by rfl) A.m9 A.F9.kp (bd9 A.F9) pass0 (pos_cons (po_e (px_idx hu (po_pk 6 rfl (.inl rfl)) (po_e px_int) (fun _ _ => rfl))) pos_nil) rfl)))) (pw_or1X (pt_notX (pt_of hu (po_e (px_call O.o9 hr (by rfl) A.m9 A.F9.kp (bd9 A.F9) pass0 (pos_cons (po_e (px_idx hu (po_pk 6 rfl (.inl rfl)) (po_e px_int) (fun _ _ => rfl))) pos_nil) rfl))))))))) (fun _ _ _ _ _ => (px_var 6 rfl (.inl rfl))))))) (po_e px_int) rfl)))) (pss_co (ps_retX px_bl)
  pss_no) pss_no)
  (pss_co (ps_retX (px_and (px_call O.o24 hr (by rfl) A.m24 A.F24.kp (bd24 A.F24) pass0 (pos_cons (po_e (px_var 0 rfl (.inr (.inl rfl)))) (pos_cons (po_e (px_var 1 rfl (.inr (.inl rfl)))) (pos_cons (po_e (px_var 4 rfl (.inl rfl))) pos_nil))) rfl) (px_one (px_cmp .isb hu (po_e (px_call O.o6 hr (by rfl) A.m6 A.F6.kp (bd6 A.F6) pass0 (pos_cons (po_e (px_var 0 rfl (.inr (.inl rfl)))) (pos_cons (po_e (px_var 1 rfl (.inr (.inl rfl)))) pos_nil)) rfl)) (po_e px_bl) rfl))))
  pss_no))))))
theorem wk27 (A : Fx K mg f fd) (O : Oks P w K mg base f fd n) : FnOk P w K mg base CX0 (n + 2) (f 27) (fd 27) p27 (spR ⟨P, w, K⟩ (run T (n + 1)) 27 2) :=
  def_ok (df := df27) A.F27 sc27 rfl rfl rfl fun cdv Ar outer s H E G F0 hr =>
  have hu := hr.units
  have hu2 := hr.units2
  (pss_co (ps_setX 2 sc27.nd rfl (.inl rfl) (.inl rfl) (px_lst (pos_cons (po_e (px_var 1 rfl (.inl rfl))) (pos_cons (po_e (px_dic0 false)) (pos_cons (po_e (px_biT (.dict false) (cr_dictD false hu rfl) (by rfl) A.b_dict bt_dict (po_e (px_bin .add (po_e (px_litems rfl (by rfl) A.b_list bt_list (po_pk 1 rfl (.inl rfl)))) (po_e (px_lst (pos_cons (po_e (px_tup (pos_cons (po_e (px_neg (po_e px_int))) (pos_cons (po_e (px_neg (po_e px_int))) pos_nil)))) pos_nil))))))) (pos_cons (po_e (px_biT (.dict false) (cr_dictD false hu rfl) (by rfl) A.b_dict bt_dict (po_e (px_lc (own := [("mark", 4)]) rfl sc27.nd (pi_it (px_var 1 rfl (.inl rfl))) (blkOk_by (N := N27) (sc := (defScope s27)) (own := [("mark", 4)]) (by decide +kernel)) (fun _ _ _ _ _ => (pg_nm (i := 4) sc27.nd rfl (.inl rfl) (.inr rfl))) (fun _ _ _ _ _ => pts_no) (fun _ _ _ _ _ => (px_tup (pos_cons (po_e (px_var 4 rfl (.inl rfl))) (pos_cons (po_e px_int) pos_nil)))))))) pos_nil))))))
  (pss_co (ps_setX 3 sc27.nd rfl (.inl rfl) (.inl rfl) (px_biB .sorted (cr_sortedD hu2) (by rfl) A.b_sorted bt_sorted (po_e (px_biT .list (cr_list rfl) (by rfl) A.b_list bt_list (po_pk 1 rfl (.inl rfl))))))
  (pss_co (ps_forX PassesOwn.never rfl (pi_it (px_sli (po_pk 3 rfl (.inl rfl)) pp_no (pp_yes (po_e px_int)))) (pg_nm (i := 4) sc27.nd rfl (.inr rfl) (.inl rfl)) (pss_co (ps_exX (px_append 2 rfl (.inl rfl) (pos_cons (po_e (px_biT (.dict false) (cr_dictD false hu rfl) (by rfl) A.b_dict bt_dict (po_e (px_bin .add (po_e (px_litems rfl (by rfl) A.b_list bt_list (po_pk 1 rfl (.inl rfl)))) (po_e (px_lst (pos_cons (po_e (px_tup (pos_cons (po_e (px_neg (po_e px_int))) (pos_cons (po_e (px_idx hu (po_pk 1 rfl (.inl rfl)) (po_pk 4 rfl (.inr (.inl rfl))) (fun _ _ => rfl))) pos_nil)))) pos_nil))))))) pos_nil)))
  pss_no))
  (pss_co (ps_forX PassesOwn.never rfl (pi_it (px_sli (po_pk 3 rfl (.inl rfl)) pp_no (pp_yes (po_e px_int)))) (pg_nm (i := 4) sc27.nd rfl (.inr rfl) (.inl rfl)) (pss_co (ps_setLcX 5 (own := [("pair", 7)]) rfl sc27.nd rfl rfl (sw_true rfl rfl rfl (by decide +kernel)) (pi_it (px_litems rfl (by rfl) A.b_list bt_list (po_pk 1 rfl (.inl rfl)))) (blkOk_by (N := N27) (sc := (defScope s27)) (own := [("pair", 7)]) (by decide +kernel)) (fun _ _ _ _ _ => (pg_nm (i := 7) sc27.nd rfl (.inl rfl) (.inr rfl))) (fun _ _ _ _ _ => (pts_yes (pt_cmpX .ne hu (po_e (px_idx hu (po_pk 7 rfl (.inl rfl)) (po_e px_int) (fun _ _ => rfl))) (po_pk 4 rfl (.inr (.inl rfl))) rfl))) (fun _ _ _ _ _ => (px_var 7 rfl (.inl rfl))))
  (pss_co (ps_forX PassesOwn.never rfl (pi_it (px_lst (pos_cons (po_e (px_bin .mod (po_e (px_call O.o13 hr (by rfl) A.m13 A.F13.kp (bd13 A.F13) pass0 (pos_cons (po_pk 0 rfl (.inl rfl)) pos_nil) rfl)) (po_e px_int))) (pos_cons (po_e (px_bin .sub (po_e (px_neg (po_e px_int))) (po_e (px_bin .mod (po_e (px_call O.o13 hr (by rfl) A.m13 A.F13.kp (bd13 A.F13) pass0 (pos_cons (po_pk 0 rfl (.inl rfl)) pos_nil) rfl)) (po_e px_int))))) (pos_cons (po_e (px_neg (po_e px_int))) pos_nil))))) (pg_nm (i := 6) sc27.nd rfl (.inl rfl) (.inl rfl)) (pss_co (ps_exX (px_append 2 rfl (.inl rfl) (pos_cons (po_e (px_biT (.dict false) (cr_dictD false hu rfl) (by rfl) A.b_dict bt_dict (po_e (px_bin .add (po_pk 5 rfl (.inl rfl)) (po_e (px_lst (pos_cons (po_e (px_tup (pos_cons (po_e (px_var 4 rfl (.inr (.inl rfl)))) (pos_cons (po_e (px_var 6 rfl (.inl rfl))) pos_nil)))) pos_nil))))))) pos_nil)))
  pss_no))
  (pss_co (ps_exX (px_append 2 rfl (.inl rfl) (pos_cons (po_e (px_biT (.dict false) (cr_dictD false hu rfl) (by rfl) A.b_dict bt_dict (po_pk 5 rfl (.inl rfl)))) pos_nil)))
  pss_no))))
  (pss_co (ps_retvX 2 rfl (.inl rfl))
  pss_no)))))
theorem wk28 (A : Fx K mg f fd) (O : Oks P w K mg base f fd n) : FnOk P w K mg base CX0 (n + 2) (f 28) (fd 28) p28 (spR ⟨P, w, K⟩ (run T (n + 1)) 28 4) :=
  def_ok (df := df28) A.F28 sc28 rfl rfl rfl fun cdv Ar outer s H E G F0 hr =>
  have hu := hr.units
  have hu2 := hr.units2
  (pss_co (ps_forX PassesOwn.never rfl (pi_it (px_call O.o27 hr (by rfl) A.m27 A.F27.kp (bd27 A.F27) pass0 (pos_cons (po_pk 0 rfl (.inl rfl)) (pos_cons (po_e (px_var 3 rfl (.inl rfl))) pos_nil)) rfl)) (pg_nm (i := 4) sc28.nd rfl (.inl rfl) (.inl rfl)) (pss_co (ps_setX 5 sc28.nd rfl (.inl rfl) (.inl rfl) (px_biT (.dict false) (cr_dictD false hu rfl) (by rfl) A.b_dict bt_dict (po_pk 4 rfl (.inl rfl))))
  (pss_co (ps_ifX (PW.pt (pw_orX (pt_notX (pt_of hu (po_e (px_call O.o10 hr (by rfl) A.m10 A.F10.kp (bd10 A.F10) pass0 (pos_cons (po_e (px_call O.o7 hr (by rfl) A.m7 A.F7.kp (bd7 A.F7) pass0 (pos_cons (po_e (px_var 1 rfl (.inl rfl))) (pos_cons (po_e (px_var 2 rfl (.inl rfl))) (pos_cons (po_e (px_var 5 rfl (.inl rfl))) pos_nil))) rfl)) (pos_cons (po_e (px_call O.o24 hr (by rfl) A.m24 A.F24.kp (bd24 A.F24) pass0 (pos_cons (po_e (px_var 1 rfl (.inl rfl))) (pos_cons (po_e (px_var 2 rfl (.inl rfl))) (pos_cons (po_e (px_var 4 rfl (.inl rfl))) pos_nil))) rfl)) pos_nil)) rfl)))) (pw_or1X (pt_cmpX .ne hu (po_pk 5 rfl (.inl rfl)) (po_pk 4 rfl (.inl rfl)) rfl)))) (pss_co (ps_retX px_bl)
  pss_no) pss_no)
  pss_no)))
  (pss_co (ps_retX px_bl)
  pss_no))
theorem wk29 (A : Fx K mg f fd) (O : Oks P w K mg base f fd n) : FnOk P w K mg base CX0 (n + 2) (f 29) (fd 29) p29 (spR ⟨P, w, K⟩ (run T (n + 1)) 29 2) :=
  def_ok (df := df29) A.F29 sc29 rfl rfl rfl fun cdv Ar outer s H E G F0 hr =>
  have hu := hr.units
  have hu2 := hr.units2
  (pss_co (ps_setX 2 sc29.nd rfl (.inl rfl) (.inl rfl) (px_dic0 true))
  (pss_co (ps_forX PassesOwn.never rfl (pi_it (px_call O.o20 hr (by rfl) A.m20 A.F20.kp (bd20 A.F20) pass0 (pos_cons (po_e (px_var 0 rfl (.inl rfl))) (pos_cons (po_e (px_var 1 rfl (.inl rfl))) pos_nil)) rfl)) (pg_nm (i := 3) sc29.nd rfl (.inr rfl) (.inl rfl)) (pss_co (ps_setX 4 sc29.nd rfl (.inl rfl) (.inl rfl) (px_biT .tuple cr_tuple (by rfl) A.b_tuple bt_tuple (po_e (px_lc (own := [("mark", 5)]) rfl sc29.nd (pi_it (px_idx hu (po_pk 1 rfl (.inl rfl)) (po_e px_int) (fun _ _ => rfl))) (blkOk_by (N := N29) (sc := (defScope s29)) (own := [("mark", 5)]) (by decide +kernel)) (fun _ _ _ _ _ => (pg_nm (i := 5) sc29.nd rfl (.inl rfl) (.inr rfl))) (fun _ _ _ _ _ => pts_no) (fun _ _ _ _ _ => (px_ite (pt_cmpX .ge hu (po_pk 5 rfl (.inl rfl)) (po_e px_int) rfl) (px_var 5 rfl (.inl rfl)) (px_idx hu (po_pk 3 rfl (.inr (.inl rfl))) (po_pk 5 rfl (.inl rfl)) (fun _ _ => rfl))))))))
  (pss_co (ps_setIX 2 hu rfl (.inl rfl) (po_pk 4 rfl (.inl rfl)) (px_bin .add (po_e (px_get hu (po_pk 2 rfl (.inl rfl)) (pos_cons (po_e (px_var 4 rfl (.inl rfl))) (pos_cons (po_e px_int) pos_nil)))) (po_e px_int)))
  pss_no)))
  (pss_co (ps_retvX 2 rfl (.inl rfl))
  pss_no)))
theorem wk30 (A : Fx K mg f fd) (O : Oks P w K mg base f fd n) : FnOk P w K mg base CX0 (n + 2) (f 30) (fd 30) p30 (spR ⟨P, w, K⟩ (run T (n + 1)) 30 2) :=
  def_ok (df := df30) A.F30 sc30 rfl rfl rfl fun cdv Ar outer s H E G F0 hr =>
  have hu := hr.units
  have hu2 := hr.units2
  (pss_co (ps_setTX (px_var 1 rfl (.inl rfl)) (pg_tp rfl (pgs_nm (i := 6) sc30.nd rfl (.inl rfl) (.inl rfl) (pgs_nm (i := 7) sc30.nd rfl (.inl rfl) (.inl rfl) (pgs_nm (i := 8) sc30.nd rfl (.inl rfl) (.inl rfl) pgs_no)))))
  (pss_co (ps_setTX (px_idx hu (po_pk 8 rfl (.inl rfl)) (po_e px_int) (fun _ _ => rfl)) (pg_tp rfl (pgs_nm (i := 9) sc30.nd rfl (.inl rfl) (.inl rfl) (pgs_nm (i := 10) sc30.nd rfl (.inl rfl) (.inl rfl) pgs_no))))
  (pss_co (ps_setX 2 sc30.nd rfl (.inl rfl) (.inl rfl) (px_idx hu (po_e (px_lst (pos_cons (po_e px_int) (pos_cons (po_e px_int) (pos_cons (po_e (px_neg (po_e px_int))) (pos_cons (po_e (px_neg (po_e px_int))) (pos_cons (po_e (px_neg (po_e px_int))) pos_nil))))))) (po_e (px_bin .mod (po_e (px_call O.o13 hr (by rfl) A.m13 A.F13.kp (bd13 A.F13) pass0 (pos_cons (po_pk 0 rfl (.inl rfl)) pos_nil) rfl)) (po_e px_int))) (fun _ _ => rfl)))
  (pss_co (ps_setX 3 sc30.nd rfl (.inl rfl) (.inl rfl) (px_bin .mod (po_e (px_call O.o13 hr (by rfl) A.m13 A.F13.kp (bd13 A.F13) pass0 (pos_cons (po_pk 0 rfl (.inl rfl)) pos_nil) rfl)) (po_e (px_biB .len (cr_len hu) (by rfl) A.b_len bt_len (po_pk 10 rfl (.inl rfl))))))
  (pss_co (ps_setX 4 sc30.nd rfl (.inl rfl) (.inl rfl) (px_bin .add (po_e (px_tup (pos_cons (po_e (px_tup (pos_cons (po_e (px_var 9 rfl (.inl rfl))) (pos_cons (po_e (px_bin .add (po_e (px_bin .add (po_e (px_sli (po_pk 10 rfl (.inl rfl)) pp_no (pp_yes (po_pk 3 rfl (.inl rfl))))) (po_e (px_tup (pos_cons (po_e (px_var 2 rfl (.inl rfl))) pos_nil))))) (po_e (px_sli (po_pk 10 rfl (.inl rfl)) (pp_yes (po_e (px_bin .add (po_pk 3 rfl (.inl rfl)) (po_e px_int)))) pp_no)))) pos_nil)))) pos_nil))) (po_e (px_sli (po_pk 8 rfl (.inl rfl)) (pp_yes (po_e px_int)) pp_no))))
  (pss_co (ps_setX 5 sc30.nd rfl (.inl rfl) (.inl rfl) (px_lst (pos_cons (po_e (px_tup (pos_cons (po_e (px_var 6 rfl (.inl rfl))) (pos_cons (po_e (px_var 7 rfl (.inl rfl))) (pos_cons (po_e (px_var 4 rfl (.inl rfl))) pos_nil))))) (pos_cons (po_e (px_tup (pos_cons (po_e (px_var 6 rfl (.inl rfl))) (pos_cons (po_e (px_var 7 rfl (.inl rfl))) (pos_cons (po_e (px_sli (po_pk 8 rfl (.inl rfl)) (pp_yes (po_e px_int)) pp_no)) pos_nil))))) (pos_cons (po_e (px_tup (pos_cons (po_e (px_var 6 rfl (.inl rfl))) (pos_cons (po_e (px_var 7 rfl (.inl rfl))) (pos_cons (po_e (px_bin .add (po_pk 8 rfl (.inl rfl)) (po_e (px_sli (po_pk 8 rfl (.inl rfl)) pp_no (pp_yes (po_e px_int)))))) pos_nil))))) (pos_cons (po_e (px_tup (pos_cons (po_e (px_sli (po_e (px_tup (pos_cons (po_e px_str) (pos_cons (po_e px_str) pos_nil)))) pp_no (pp_yes (po_e (px_biB .len (cr_len hu) (by rfl) A.b_len bt_len (po_pk 6 rfl (.inl rfl))))))) (pos_cons (po_e (px_var 7 rfl (.inl rfl))) (pos_cons (po_e (px_var 8 rfl (.inl rfl))) pos_nil))))) pos_nil))))))
  (pss_co (ps_retX (px_bin .add (po_pk 5 rfl (.inl rfl)) (po_e (px_lst (pos_cons (po_e (px_tup (pos_cons (po_e (px_var 6 rfl (.inl rfl))) (pos_cons (po_e (px_rev (po_pk 7 rfl (.inl rfl)))) (pos_cons (po_e (px_var 8 rfl (.inl rfl))) pos_nil))))) (pos_cons (po_e (px_tup (pos_cons (po_e (px_var 6 rfl (.inl rfl))) (pos_cons (po_e (px_biT .tuple cr_tuple (by rfl) A.b_tuple bt_tuple (po_e (px_lc (own := [("mark", 2)]) rfl sc30.nd (pi_it (px_var 7 rfl (.inl rfl))) (blkOk_by (N := N30) (sc := (defScope s30)) (own := [("mark", 2)]) (by decide +kernel)) (fun _ _ _ _ _ => (pg_nm (i := 2) sc30.nd rfl (.inl rfl) (.inr rfl))) (fun _ _ _ _ _ => pts_no) (fun _ _ _ _ _ => px_int))))) (pos_cons (po_e (px_var 8 rfl (.inl rfl))) pos_nil))))) (pos_cons (po_e (px_tup (pos_cons (po_e (px_var 6 rfl (.inl rfl))) (pos_cons (po_e (px_var 7 rfl (.inl rfl))) (pos_cons (po_e (px_rev (po_pk 8 rfl (.inl rfl)))) pos_nil))))) pos_nil)))))))
  pss_no)))))))
theorem wk31 (A : Fx K mg f fd) (O : Oks P w K mg base f fd n) : FnOk P w K mg base CX0 (n + 2) (f 31) (fd 31) p31 (spR ⟨P, w, K⟩ (run T (n + 1)) 31 1) :=
  def_ok (df := df31) A.F31 sc31 rfl rfl rfl fun cdv Ar outer s H E G F0 hr =>
  have hu := hr.units
  have hu2 := hr.units2
  (pss_co (ps_setX 1 sc31.nd rfl (.inl rfl) (.inl rfl) (px_call O.o14 hr (by rfl) A.m14 A.F14.kp (bd14 A.F14) pass0 (pos_cons (po_e (px_var 0 rfl (.inl rfl))) (pos_cons (po_e px_int) (pos_cons (po_e px_int) pos_nil))) rfl))
  (pss_co (ps_setX 2 sc31.nd rfl (.inr rfl) (.inl rfl) (px_disp (pd_cons (po_e px_str) (po_e (px_tup (pos_cons (po_e px_str) (pos_cons (po_e px_str) (pos_cons (po_e px_str) pos_nil))))) (pd_cons (po_e px_str) (po_e (px_tup (pos_cons (po_e px_str) (pos_cons (po_e px_str) pos_nil)))) (pd_cons (po_e px_str) (po_e (px_tup (pos_cons (po_e px_str) (pos_cons (po_e px_str) (pos_cons (po_e px_str) pos_nil))))) pd_nil))) rfl rfl (fun z => nomatch z) (by decide)))
  (pss_co (ps_setX 3 sc31.nd rfl (.inl rfl) (.inl rfl) (px_tup (pos_cons (po_e (px_biT .tuple cr_tuple (by rfl) A.b_tuple bt_tuple (po_e (px_lc (own := [("name", 15)]) rfl sc31.nd (pi_it (px_lst (pos_cons (po_e px_str) (pos_cons (po_e px_str) (pos_cons (po_e px_str) pos_nil))))) (blkOk_by (N := N31) (sc := (defScope s31)) (own := [("name", 15)]) (by decide +kernel)) (fun _ _ _ _ _ => (pg_nm (i := 15) sc31.nd rfl (.inl rfl) (.inr rfl))) (fun _ _ _ _ _ => pts_no) (fun _ _ _ _ _ => (px_tup (pos_cons (po_e (px_var 15 rfl (.inl rfl))) (pos_cons (po_e (px_idx hu (po_pk 2 rfl (.inr (.inl rfl))) (po_pk 15 rfl (.inl rfl)) (fun _ _ => rfl))) (pos_cons (po_e (px_tup pos_nil)) pos_nil))))))))) (pos_cons (po_e (px_tup pos_nil)) pos_nil))))
  (pss_co (ps_setX 4 sc31.nd rfl (.inl rfl) (.inl rfl) (px_call O.o18 hr (by rfl) A.m18 A.F18.kp (bd18 A.F18) pass0 (pos_cons (po_e (px_var 0 rfl (.inl rfl))) (pos_cons (po_e px_int) (pos_cons (po_e (px_var 3 rfl (.inl rfl))) (pos_cons (po_e px_int) pos_nil)))) rfl))
  (pss_co (ps_setX 5 sc31.nd rfl (.inl rfl) (.inl rfl) (px_biB .sorted (cr_sortedD hu2) (by rfl) A.b_sorted bt_sorted (po_e (px_litems rfl (by rfl) A.b_list bt_list (po_pk 4 rfl (.inl rfl))))))
  (pss_co (ps_forX PassesOwn.never rfl (pi_rng1 (by rfl) A.b_range (pos_cons (po_e px_int) pos_nil) rfl) (pg_nm (i := 6) sc31.nd rfl (.inl rfl) (.inl rfl)) (pss_co (ps_setX 7 sc31.nd rfl (.inl rfl) (.inl rfl) (px_call O.o21 hr (by rfl) A.m21 A.F21.kp (bd21 A.F21) pass0 (pos_cons (po_pk 1 rfl (.inl rfl)) (pos_cons (po_e (px_var 2 rfl (.inr (.inl rfl)))) pos_nil)) rfl))
  (pss_co (ps_setX 8 sc31.nd rfl (.inr rfl) (.inl rfl) (px_call O.o29 hr (by rfl) A.m29 A.F29.kp (bd29 A.F29) pass0 (pos_cons (po_e (px_var 4 rfl (.inl rfl))) (pos_cons (po_e (px_var 7 rfl (.inl rfl))) pos_nil)) rfl))
  (pss_co (ps_setX 9 sc31.nd rfl (.inl rfl) (.inl rfl) (px_call O.o2 hr (by rfl) A.m2 A.F2.kp (bd2 A.F2) pass0 (pos_cons (po_e (px_var 4 rfl (.inl rfl))) (pos_cons (po_e (px_var 7 rfl (.inl rfl))) pos_nil)) rfl))
  (pss_co (ps_ifX (PW.pt (pw_orX (pt_notX (pt_of hu (po_e (px_isi .dict (by rfl) A.b_isinstance bt_isinstance (by rfl) A.b_dict bt_dict (po_pk 9 rfl (.inl rfl)))))) (pw_or1X (pt_notX (pt_of hu (po_e (px_call O.o10 hr (by rfl) A.m10 A.F10.kp (bd10 A.F10) pass0 (pos_cons (po_e (px_biB .sorted (cr_sortedD hu2) (by rfl) A.b_sorted bt_sorted (po_e (px_litems rfl (by rfl) A.b_list bt_list (po_pk 9 rfl (.inl rfl)))))) (pos_cons (po_e (px_biB .sorted (cr_sortedD hu2) (by rfl) A.b_sorted bt_sorted (po_e (px_litems rfl (by rfl) A.b_list bt_list (po_pk 8 rfl (.inr (.inl rfl))))))) pos_nil)) rfl))))))) (pss_co (ps_retX px_bl)
  pss_no) pss_no)
  (pss_co (ps_setIX 9 hu rfl (.inl rfl) (po_e (px_tup pos_nil)) px_int)
  (pss_co (ps_ifX (pt_cmpX .ne hu (po_e (px_biB .sorted (cr_sortedD hu2) (by rfl) A.b_sorted bt_sorted (po_e (px_litems rfl (by rfl) A.b_list bt_list (po_e (px_call O.o2 hr (by rfl) A.m2 A.F2.kp (bd2 A.F2) pass0 (pos_cons (po_e (px_var 4 rfl (.inl rfl))) (pos_cons (po_e (px_var 7 rfl (.inl rfl))) pos_nil)) rfl)))))) (po_e (px_biB .sorted (cr_sortedD hu2) (by rfl) A.b_sorted bt_sorted (po_e (px_litems rfl (by rfl) A.b_list bt_list (po_pk 8 rfl (.inr (.inl rfl))))))) rfl) (pss_co (ps_retX px_bl)
  pss_no) pss_no)
  (pss_co (ps_ifX (pt_notX (pt_of hu (po_e (px_call O.o10 hr (by rfl) A.m10 A.F10.kp (bd10 A.F10) pass0 (pos_cons (po_e (px_call O.o8 hr (by rfl) A.m8 A.F8.kp (bd8 A.F8) pass0 (pos_cons (po_e (px_var 4 rfl (.inl rfl))) (pos_cons (po_e (px_var 7 rfl (.inl rfl))) pos_nil)) rfl)) (pos_cons (po_e (px_biB .sum (cr_sumD rfl) (by rfl) A.b_sum bt_sum (po_e (px_lc (own := [("row", 17)]) rfl sc31.nd (pi_it (px_var 8 rfl (.inr (.inl rfl)))) (blkOk_by (N := N31) (sc := (defScope s31)) (own := [("row", 17)]) (by decide +kernel)) (fun _ _ _ _ _ => (pg_nm (i := 17) sc31.nd rfl (.inl rfl) (.inr rfl))) (fun _ _ _ _ _ => pts_no) (fun _ _ _ _ _ => (px_idx hu (po_pk 8 rfl (.inr (.inl rfl))) (po_pk 17 rfl (.inl rfl)) (fun _ _ => rfl))))))) pos_nil)) rfl)))) (pss_co (ps_retX px_bl)
  pss_no) pss_no)
  (pss_co (ps_setX 10 sc31.nd rfl (.inr rfl) (.inl rfl) (px_call O.o22 hr (by rfl) A.m22 A.F22.kp (bd22 A.F22) pass0 (pos_cons (po_e (px_var 7 rfl (.inl rfl))) pos_nil) rfl))
  (pss_co (ps_setX 11 sc31.nd rfl (.inr rfl) (.inl rfl) (px_idx hu (po_e (px_lst (pos_cons (po_e (px_lst (pos_cons (po_e (px_neg (po_e px_int))) (pos_cons (po_e (px_neg (po_e px_int))) (pos_cons (po_e (px_neg (po_e px_int))) pos_nil))))) (pos_cons (po_e (px_lst (pos_cons (po_e (px_neg (po_e px_int))) (pos_cons (po_e (px_neg (po_e px_int))) (pos_cons (po_e (px_neg (po_e px_int))) pos_nil))))) (pos_cons (po_e (px_lst (pos_cons (po_e (px_neg (po_e px_int))) (pos_cons (po_e (px_neg (po_e px_int))) (pos_cons (po_e (px_neg (po_e px_int))) pos_nil))))) pos_nil))))) (po_e (px_bin .mod (po_e (px_call O.o13 hr (by rfl) A.m13 A.F13.kp (bd13 A.F13) pass0 (pos_cons (po_pk 1 rfl (.inl rfl)) pos_nil) rfl)) (po_e px_int))) (fun _ _ => rfl)))
  (pss_co (ps_setX 12 sc31.nd rfl (.inl rfl) (.inl rfl) (px_biT (.dict false) (cr_dictD false hu rfl) (by rfl) A.b_dict bt_dict (po_e (px_lc (own := [("j", 16)]) rfl sc31.nd (pi_rng1 (by rfl) A.b_range (pos_cons (po_e (px_biB .len (cr_len hu) (by rfl) A.b_len bt_len (po_pk 10 rfl (.inr (.inl rfl))))) pos_nil) rfl) (blkOk_by (N := N31) (sc := (defScope s31)) (own := [("j", 16)]) (by decide +kernel)) (fun _ _ _ _ _ => (pg_nm (i := 16) sc31.nd rfl (.inl rfl) (.inr rfl))) (fun _ _ _ _ _ => pts_no) (fun _ _ _ _ _ => (px_tup (pos_cons (po_e (px_idx hu (po_pk 10 rfl (.inr (.inl rfl))) (po_pk 16 rfl (.inl rfl)) (fun _ _ => rfl))) (pos_cons (po_e (px_idx hu (po_pk 11 rfl (.inr (.inl rfl))) (po_pk 16 rfl (.inl rfl)) (fun _ _ => rfl))) pos_nil))))))))
  (pss_co (ps_setX 13 sc31.nd rfl (.inl rfl) (.inl rfl) (px_call O.o23 hr (by rfl) A.m23 A.F23.kp (bd23 A.F23) pass0 (pos_cons (po_e (px_var 12 rfl (.inl rfl))) (pos_cons (po_e (px_var 7 rfl (.inl rfl))) pos_nil)) rfl))
  (pss_co (ps_setX 13 sc31.nd rfl (.inl rfl) (.inl rfl) (px_tup (pos_cons (po_e (px_idx hu (po_pk 13 rfl (.inl rfl)) (po_e px_int) (fun _ _ => rfl))) (pos_cons (po_e (px_idx hu (po_pk 13 rfl (.inl rfl)) (po_e px_int) (fun _ _ => rfl))) (pos_cons (po_e (px_rev (po_e (px_idx hu (po_pk 13 rfl (.inl rfl)) (po_e px_int) (fun _ _ => rfl))))) pos_nil)))))
  (pss_co (ps_forX PassesOwn.never rfl (pi_it (px_bin .add (po_e (px_bin .add (po_e (px_lst (pos_cons (po_e (px_var 13 rfl (.inl rfl))) (pos_cons (po_e (px_call O.o21 hr (by rfl) A.m21 A.F21.kp (bd21 A.F21) pass0 (pos_cons (po_pk 1 rfl (.inl rfl)) (pos_cons (po_e (px_var 2 rfl (.inr (.inl rfl)))) pos_nil)) rfl)) pos_nil)))) (po_e (px_call O.o30 hr (by rfl) A.m30 A.F30.kp (bd30 A.F30) pass0 (pos_cons (po_pk 1 rfl (.inl rfl)) (pos_cons (po_e (px_var 7 rfl (.inl rfl))) pos_nil)) rfl)))) (po_e (px_call O.o30 hr (by rfl) A.m30 A.F30.kp (bd30 A.F30) pass0 (pos_cons (po_pk 1 rfl (.inl rfl)) (pos_cons (po_e (px_var 13 rfl (.inl rfl))) pos_nil)) rfl)))) (pg_nm (i := 14) sc31.nd rfl (.inl rfl) (.inl rfl)) (pss_co (ps_ifX (PW.pt (pw_orX (pt_notX (pt_of hu (po_e (px_call O.o26 hr (by rfl) A.m26 A.F26.kp (bd26 A.F26) pass0 (pos_cons (po_e (px_var 7 rfl (.inl rfl))) (pos_cons (po_e (px_var 14 rfl (.inl rfl))) pos_nil)) rfl)))) (pw_or1X (pt_notX (pt_of hu (po_e (px_call O.o28 hr (by rfl) A.m28 A.F28.kp (bd28 A.F28) pass0 (pos_cons (po_pk 1 rfl (.inl rfl)) (pos_cons (po_e (px_var 7 rfl (.inl rfl))) (pos_cons (po_e (px_var 14 rfl (.inl rfl))) (pos_cons (po_e (px_var 12 rfl (.inl rfl))) pos_nil)))) rfl))))))) (pss_co (ps_retX px_bl)
  pss_no) pss_no)
  pss_no))
  pss_no))))))))))))))
  (pss_co (ps_retX (px_cmp .eq hu (po_e (px_biB .sorted (cr_sortedD hu2) (by rfl) A.b_sorted bt_sorted (po_e (px_litems rfl (by rfl) A.b_list bt_list (po_pk 4 rfl (.inl rfl)))))) (po_pk 5 rfl (.inl rfl)) rfl))
  pss_no)))))))
theorem oks (A : Fx K mg f fd) : ∀ n, Oks P w K mg base f fd n
  | 0 => ⟨def_0 A.F0 sc0, def_0 A.F1 sc1, def_0 A.F2 sc2, def_0 A.F3 sc3, def_0 A.F4 sc4, def_0 A.F5 sc5, def_0 A.F6 sc6, def_0 A.F7 sc7, def_0 A.F8 sc8, def_0 A.F9 sc9, def_0 A.F10 sc10, def_0 A.F11 sc11, def_0 A.F12 sc12, def_0 A.F13 sc13, def_0 A.F14 sc14, def_0 A.F15 sc15, def_0 A.F16 sc16, def_0 A.F17 sc17, def_0 A.F18 sc18, def_0 A.F19 sc19, def_0 A.F20 sc20, def_0 A.F21 sc21, def_0 A.F22 sc22, def_0 A.F23 sc23, def_0 A.F24 sc24, def_0 A.F25 sc25, def_0 A.F26 sc26, def_0 A.F27 sc27, def_0 A.F28 sc28, def_0 A.F29 sc29, def_0 A.F30 sc30, def_0 A.F31 sc31⟩
  | n + 1 => have O := oks A n; ⟨wk0 A O, wk1 A O, wk2 A O, wk3 A O, wk4 A O, wk5 A O, wk6 A O, wk7 A O, wk8 A O, wk9 A O, wk10 A O, wk11 A O, wk12 A O, wk13 A O, wk14 A O, wk15 A O, wk16 A O, wk17 A O, wk18 A O, wk19 A O, wk20 A O, wk21 A O, wk22 A O, wk23 A O, wk24 A O, wk25 A O, wk26 A O, wk27 A O, wk28 A O, wk29 A O, wk30 A O, wk31 A O⟩
end
end L2.PL
end
section
set_option maxRecDepth 100000
set_option maxHeartbeats 0
/-! The head: the boot, the facts of each def, the law from the plain one (printed by head.py). -/
namespace L2.PL
open PySem PySem.Spec PyProof.Rows L2
def dd0 : He.DefD := ⟨("worth_of", none), "worth_of", "worth_of", defArgs s0, defBody s0, defScope s0, [], []⟩
def dd1 : He.DefD := ⟨("fitted", none), "fitted", "fitted", defArgs s1, defBody s1, defScope s1, [], []⟩
def dd2 : He.DefD := ⟨("way_counts", none), "way_counts", "way_counts", defArgs s2, defBody s2, defScope s2, [], []⟩
def dd3 : He.DefD := ⟨("exchange", none), "exchange", "exchange", defArgs s3, defBody s3, defScope s3, [], []⟩
def dd4 : He.DefD := ⟨("led_exchange", none), "led_exchange", "led_exchange", defArgs s4, defBody s4, defScope s4, [], []⟩
def dd5 : He.DefD := ⟨("matched", none), "matched", "matched", defArgs s5, defBody s5, defScope s5, [], []⟩
def dd6 : He.DefD := ⟨("are_one", none), "are_one", "are_one", defArgs s6, defBody s6, defScope s6, [], []⟩
def dd7 : He.DefD := ⟨("is_exchange", none), "is_exchange", "is_exchange", defArgs s7, defBody s7, defScope s7, [], []⟩
def dd8 : He.DefD := ⟨("total_ways", none), "total_ways", "total_ways", defArgs s8, defBody s8, defScope s8, [], []⟩
def dd9 : He.DefD := ⟨("_law_is_int", none), "_law_is_int", "_law_is_int", defArgs s9, defBody s9, defScope s9, [], []⟩
def dd10 : He.DefD := ⟨("_law_same", none), "_law_same", "_law_same", defArgs s10, defBody s10, defScope s10, [], []⟩
def dd11 : He.DefD := ⟨("_law_number", none), "_law_number", "_law_number", defArgs s11, defBody s11, defScope s11, [], []⟩
def dd12 : He.DefD := ⟨("_law_draws", none), "_law_draws", "_law_draws", defArgs s12, defBody s12, defScope s12, [], []⟩
def dd13 : He.DefD := ⟨("_law_pick", none), "_law_pick", "_law_pick", defArgs s13, defBody s13, defScope s13, [], []⟩
def dd14 : He.DefD := ⟨("_law_picks", none), "_law_picks", "_law_picks", defArgs s14, defBody s14, defScope s14, [], []⟩
def dd15 : He.DefD := ⟨("_law_rows", none), "_law_rows", "_law_rows", defArgs s15, defBody s15, defScope s15, [], []⟩
def dd16 : He.DefD := ⟨("_law_table", none), "_law_table", "_law_table", defArgs s16, defBody s16, defScope s16, [], []⟩
def dd17 : He.DefD := ⟨("_law_once", none), "_law_once", "_law_once", defArgs s17, defBody s17, defScope s17, [], []⟩
def dd18 : He.DefD := ⟨("_law_tables", none), "_law_tables", "_law_tables", defArgs s18, defBody s18, defScope s18, [], []⟩
def dd19 : He.DefD := ⟨("_law_fits", none), "_law_fits", "_law_fits", defArgs s19, defBody s19, defScope s19, [], []⟩
def dd20 : He.DefD := ⟨("_law_fillings", none), "_law_fillings", "_law_fillings", defArgs s20, defBody s20, defScope s20, [], []⟩
def dd21 : He.DefD := ⟨("_law_drawn", none), "_law_drawn", "_law_drawn", defArgs s21, defBody s21, defScope s21, [], []⟩
def dd22 : He.DefD := ⟨("_law_variables", none), "_law_variables", "_law_variables", defArgs s22, defBody s22, defScope s22, [], []⟩
def dd23 : He.DefD := ⟨("_law_put", none), "_law_put", "_law_put", defArgs s23, defBody s23, defScope s23, [], []⟩
def dd24 : He.DefD := ⟨("_law_is_right", none), "_law_is_right", "_law_is_right", defArgs s24, defBody s24, defScope s24, [], []⟩
def dd25 : He.DefD := ⟨("_law_exchanges", none), "_law_exchanges", "_law_exchanges", defArgs s25, defBody s25, defScope s25, [], []⟩
def dd26 : He.DefD := ⟨("_law_pair_holds", none), "_law_pair_holds", "_law_pair_holds", defArgs s26, defBody s26, defScope s26, [], []⟩
def dd27 : He.DefD := ⟨("_law_bent", none), "_law_bent", "_law_bent", defArgs s27, defBody s27, defScope s27, [], []⟩
def dd28 : He.DefD := ⟨("_law_judged", none), "_law_judged", "_law_judged", defArgs s28, defBody s28, defScope s28, [], []⟩
def dd29 : He.DefD := ⟨("_law_counted", none), "_law_counted", "_law_counted", defArgs s29, defBody s29, defScope s29, [], []⟩
def dd30 : He.DefD := ⟨("_law_near", none), "_law_near", "_law_near", defArgs s30, defBody s30, defScope s30, [], []⟩
def dd31 : He.DefD := ⟨("law", none), "law", "law", defArgs s31, defBody s31, defScope s31, [], []⟩
def fnL : List He.DefD := [dd0, dd1, dd2, dd3, dd4, dd5, dd6, dd7, dd8, dd9, dd10, dd11, dd12, dd13, dd14, dd15, dd16, dd17, dd18, dd19, dd20, dd21, dd22, dd23, dd24, dd25, dd26, dd27, dd28, dd29, dd30, dd31]
def faL : List He.Fa := [.glo "worth_of", .glo "fitted", .glo "way_counts", .glo "exchange", .glo "led_exchange", .glo "matched", .glo "are_one", .glo "is_exchange", .glo "total_ways", .glo "_law_is_int", .glo "_law_same", .glo "_law_number", .glo "_law_draws", .glo "_law_pick", .glo "_law_picks", .glo "_law_rows", .glo "_law_table", .glo "_law_once", .glo "_law_tables", .glo "_law_fits", .glo "_law_fillings", .glo "_law_drawn", .glo "_law_variables", .glo "_law_put", .glo "_law_is_right", .glo "_law_exchanges", .glo "_law_pair_holds", .glo "_law_bent", .glo "_law_judged", .glo "_law_counted", .glo "_law_near", .glo "law", .free "abs", .free "bool", .free "dict", .free "int", .free "isinstance", .free "len", .free "list", .free "range", .free "sorted", .free "str", .free "sum", .free "tuple"]
abbrev RR : PySem.W.OpenRow := PySem.W.OpenLaw.row PySem.Challenge.rw_columnlaws_k59_ways_and_exchanges
abbrev hk : PySem.W.Hook := He.hookD 4 faL fnL
def ob (s : PySem.W.SharedT) : He.AlD := He.obsDG 4 faL fnL (HandSHeadRun.getT s)
theorem ob_eq (s : PySem.W.SharedT) : ob s = hk.obs s.abs := He.obsDG_eq (HandSHeadRun.getT_eq s)
abbrev loose : List Str := ["worth_of", "fitted", "way_counts", "exchange", "led_exchange", "matched", "are_one", "is_exchange", "total_ways", "_law_is_int", "_law_same", "_law_number", "_law_draws", "_law_pick", "_law_picks", "_law_rows", "_law_table", "_law_once", "_law_tables", "_law_fits", "_law_fillings", "_law_drawn", "_law_variables", "_law_put", "_law_is_right", "_law_exchanges", "_law_pair_holds", "_law_bent", "_law_judged", "_law_counted", "_law_near"]
theorem hrun (w : World) : HandSHeadRun.RunEq RR (PySem.W.view RR.prog [34]) hk ob 4000 loose w := by
  intro os
  kernel_rfl
theorem run_outsH {T : List Df} {n f : Nat} {as : EV} {d : D} {fr : Bool} {outs : EV} (h : run T n f as = some (d, fr, outs)) : outs.length = as.length := by
  cases n with
  | zero => simp [run] at h
  | succ n =>
    simp only [run] at h
    split at h
    · split at h
      · split at h
        · cases h; exact outs_len ..
        · cases h; exact outs_len ..
        · cases h
      · cases h
    · cases h
def adrF (H : Hp) (a : Addr) : Hp := fun b => if b = a then H b else none
theorem rps_ints {c : Cn} {F : Hp} : ∀ ns : List Int, Rps c F (ns.map D.int) (ns.map V.int)
  | [] => Rps.nil
  | n :: ns => Rps.cons (rp_int n) (rps_ints ns)
theorem law_sp {c : Cn} {T : List Df} {n f : Nat} {fr : Bool} {outs : EV} {H : Hp} {a : Addr} {ns : List Int} {E : XK} (hS : SqL c.K H a (ns.map V.int)) (h : run T n f [.val (.lst (ns.map D.int))] = some (.bl true, fr, outs)) :
    spR c (run T n) f 1 [.ref a] H (fun v _ => v = .bl true) E := by
  refine ⟨rfl, adrF H a, _, _, fr, outs, ⟨fun b o e => ?_, rfl, fun i s o e1 e2 => ?_, fun i j b d d' e1 => ?_, fun _ _ => .inl rfl, fun _ _ z => (nomatch z), fun p hp => (nomatch hp)⟩, h, run_outsH h, fun v F' H' _ r => res_bl r⟩
  · unfold adrF at e
    split at e
    · exact e
    · cases e
  · cases i with
    | zero =>
      simp at e1 e2
      subst e1 e2
      refine ⟨_, rfl, ?_⟩
      rw [Rp]
      refine ⟨a, ns.map V.int, rfl, ?_, rps_ints ns⟩
      rcases hS with z | z
      · refine .inl ?_
        rcases z with z | ⟨ob, z⟩
        · exact .inl (by unfold adrF; rw [if_pos rfl]; exact z)
        · exact .inr ⟨ob, by unfold adrF; rw [if_pos rfl]; exact z⟩
      · exact .inr z
    | succ i => simp at e1
  · cases i with
    | zero => simp at e1
    | succ i => simp at e1
theorem facts {P : Program} {w : World} {K : PySem.W.Frag} {h : Heap} {mg : Str → Option Value} {f : Addr} (X : K.In h) (G : h.Ns mainGlobals mg) (hfa : mg ("law" : Str) = some (.ref f)) (c : He.SaysD faL fnL K) :
    ∃ fd : FuncData, (∀ (s : Shared) (v : Value), BindsTo s fd ⟨[v], []⟩ [("script", v)]) ∧ ∀ base : Heap, K.In base → base.Ns mainGlobals mg → FnOk P w K mg base CX0 41 f fd ["script"] (spR ⟨P, w, K⟩ (run T 40) 31 1) := by
  obtain ⟨fd0, F0⟩ := c.def_ 0 (d := dd0) rfl
  obtain ⟨fd1, F1⟩ := c.def_ 1 (d := dd1) rfl
  obtain ⟨fd2, F2⟩ := c.def_ 2 (d := dd2) rfl
  obtain ⟨fd3, F3⟩ := c.def_ 3 (d := dd3) rfl
  obtain ⟨fd4, F4⟩ := c.def_ 4 (d := dd4) rfl
  obtain ⟨fd5, F5⟩ := c.def_ 5 (d := dd5) rfl
  obtain ⟨fd6, F6⟩ := c.def_ 6 (d := dd6) rfl
  obtain ⟨fd7, F7⟩ := c.def_ 7 (d := dd7) rfl
  obtain ⟨fd8, F8⟩ := c.def_ 8 (d := dd8) rfl
  obtain ⟨fd9, F9⟩ := c.def_ 9 (d := dd9) rfl
  obtain ⟨fd10, F10⟩ := c.def_ 10 (d := dd10) rfl
  obtain ⟨fd11, F11⟩ := c.def_ 11 (d := dd11) rfl
  obtain ⟨fd12, F12⟩ := c.def_ 12 (d := dd12) rfl
  obtain ⟨fd13, F13⟩ := c.def_ 13 (d := dd13) rfl
  obtain ⟨fd14, F14⟩ := c.def_ 14 (d := dd14) rfl
  obtain ⟨fd15, F15⟩ := c.def_ 15 (d := dd15) rfl
  obtain ⟨fd16, F16⟩ := c.def_ 16 (d := dd16) rfl
  obtain ⟨fd17, F17⟩ := c.def_ 17 (d := dd17) rfl
  obtain ⟨fd18, F18⟩ := c.def_ 18 (d := dd18) rfl
  obtain ⟨fd19, F19⟩ := c.def_ 19 (d := dd19) rfl
  obtain ⟨fd20, F20⟩ := c.def_ 20 (d := dd20) rfl
  obtain ⟨fd21, F21⟩ := c.def_ 21 (d := dd21) rfl
  obtain ⟨fd22, F22⟩ := c.def_ 22 (d := dd22) rfl
  obtain ⟨fd23, F23⟩ := c.def_ 23 (d := dd23) rfl
  obtain ⟨fd24, F24⟩ := c.def_ 24 (d := dd24) rfl
  obtain ⟨fd25, F25⟩ := c.def_ 25 (d := dd25) rfl
  obtain ⟨fd26, F26⟩ := c.def_ 26 (d := dd26) rfl
  obtain ⟨fd27, F27⟩ := c.def_ 27 (d := dd27) rfl
  obtain ⟨fd28, F28⟩ := c.def_ 28 (d := dd28) rfl
  obtain ⟨fd29, F29⟩ := c.def_ 29 (d := dd29) rfl
  obtain ⟨fd30, F30⟩ := c.def_ 30 (d := dd30) rfl
  obtain ⟨fd31, F31⟩ := c.def_ 31 (d := dd31) rfl
  have e := hfa.symm.trans (He.glo_ok X G (c.fact 31 (f := .glo "law") rfl))
  cases e
  have b := FunD.bindsA (ps := ["script"]) F31 fun _ _ _ _ _ _ us hl => match us, hl with | [_], _ => rfl
  have A : Fx K mg (fun i => match i with | 0 => (He.fAd K ("worth_of", none)) | 1 => (He.fAd K ("fitted", none)) | 2 => (He.fAd K ("way_counts", none)) | 3 => (He.fAd K ("exchange", none)) | 4 => (He.fAd K ("led_exchange", none)) | 5 => (He.fAd K ("matched", none)) | 6 => (He.fAd K ("are_one", none)) | 7 => (He.fAd K ("is_exchange", none)) | 8 => (He.fAd K ("total_ways", none)) | 9 => (He.fAd K ("_law_is_int", none)) | 10 => (He.fAd K ("_law_same", none)) | 11 => (He.fAd K ("_law_number", none)) | 12 => (He.fAd K ("_law_draws", none)) | 13 => (He.fAd K ("_law_pick", none)) | 14 => (He.fAd K ("_law_picks", none)) | 15 => (He.fAd K ("_law_rows", none)) | 16 => (He.fAd K ("_law_table", none)) | 17 => (He.fAd K ("_law_once", none)) | 18 => (He.fAd K ("_law_tables", none)) | 19 => (He.fAd K ("_law_fits", none)) | 20 => (He.fAd K ("_law_fillings", none)) | 21 => (He.fAd K ("_law_drawn", none)) | 22 => (He.fAd K ("_law_variables", none)) | 23 => (He.fAd K ("_law_put", none)) | 24 => (He.fAd K ("_law_is_right", none)) | 25 => (He.fAd K ("_law_exchanges", none)) | 26 => (He.fAd K ("_law_pair_holds", none)) | 27 => (He.fAd K ("_law_bent", none)) | 28 => (He.fAd K ("_law_judged", none)) | 29 => (He.fAd K ("_law_counted", none)) | 30 => (He.fAd K ("_law_near", none)) | 31 => (He.fAd K ("law", none)) | _ => 0) (fun i => match i with | 0 => fd0 | 1 => fd1 | 2 => fd2 | 3 => fd3 | 4 => fd4 | 5 => fd5 | 6 => fd6 | 7 => fd7 | 8 => fd8 | 9 => fd9 | 10 => fd10 | 11 => fd11 | 12 => fd12 | 13 => fd13 | 14 => fd14 | 15 => fd15 | 16 => fd16 | 17 => fd17 | 18 => fd18 | 19 => fd19 | 20 => fd20 | 21 => fd21 | 22 => fd22 | 23 => fd23 | 24 => fd24 | 25 => fd25 | 26 => fd26 | 27 => fd27 | 28 => fd28 | 29 => fd29 | 30 => fd30 | 31 => fd31 | _ => fd0) := ⟨F0,
    He.glo_ok X G (c.fact 0 (f := .glo "worth_of") rfl),
    F1,
    He.glo_ok X G (c.fact 1 (f := .glo "fitted") rfl),
    F2,
    He.glo_ok X G (c.fact 2 (f := .glo "way_counts") rfl),
    F3,
    He.glo_ok X G (c.fact 3 (f := .glo "exchange") rfl),
    F4,
    He.glo_ok X G (c.fact 4 (f := .glo "led_exchange") rfl),
    F5,
    He.glo_ok X G (c.fact 5 (f := .glo "matched") rfl),
    F6,
    He.glo_ok X G (c.fact 6 (f := .glo "are_one") rfl),
    F7,
    He.glo_ok X G (c.fact 7 (f := .glo "is_exchange") rfl),
    F8,
    He.glo_ok X G (c.fact 8 (f := .glo "total_ways") rfl),
    F9,
    He.glo_ok X G (c.fact 9 (f := .glo "_law_is_int") rfl),
    F10,
    He.glo_ok X G (c.fact 10 (f := .glo "_law_same") rfl),
    F11,
    He.glo_ok X G (c.fact 11 (f := .glo "_law_number") rfl),
    F12,
    He.glo_ok X G (c.fact 12 (f := .glo "_law_draws") rfl),
    F13,
    He.glo_ok X G (c.fact 13 (f := .glo "_law_pick") rfl),
    F14,
    He.glo_ok X G (c.fact 14 (f := .glo "_law_picks") rfl),
    F15,
    He.glo_ok X G (c.fact 15 (f := .glo "_law_rows") rfl),
    F16,
    He.glo_ok X G (c.fact 16 (f := .glo "_law_table") rfl),
    F17,
    He.glo_ok X G (c.fact 17 (f := .glo "_law_once") rfl),
    F18,
    He.glo_ok X G (c.fact 18 (f := .glo "_law_tables") rfl),
    F19,
    He.glo_ok X G (c.fact 19 (f := .glo "_law_fits") rfl),
    F20,
    He.glo_ok X G (c.fact 20 (f := .glo "_law_fillings") rfl),
    F21,
    He.glo_ok X G (c.fact 21 (f := .glo "_law_drawn") rfl),
    F22,
    He.glo_ok X G (c.fact 22 (f := .glo "_law_variables") rfl),
    F23,
    He.glo_ok X G (c.fact 23 (f := .glo "_law_put") rfl),
    F24,
    He.glo_ok X G (c.fact 24 (f := .glo "_law_is_right") rfl),
    F25,
    He.glo_ok X G (c.fact 25 (f := .glo "_law_exchanges") rfl),
    F26,
    He.glo_ok X G (c.fact 26 (f := .glo "_law_pair_holds") rfl),
    F27,
    He.glo_ok X G (c.fact 27 (f := .glo "_law_bent") rfl),
    F28,
    He.glo_ok X G (c.fact 28 (f := .glo "_law_judged") rfl),
    F29,
    He.glo_ok X G (c.fact 29 (f := .glo "_law_counted") rfl),
    F30,
    He.glo_ok X G (c.fact 30 (f := .glo "_law_near") rfl),
    F31,
    He.glo_ok X G (c.fact 31 (f := .glo "law") rfl),
    He.free_ok X G (c.fact 32 (f := .free "abs") rfl),
    He.free_ok X G (c.fact 33 (f := .free "bool") rfl),
    He.free_ok X G (c.fact 34 (f := .free "dict") rfl),
    He.free_ok X G (c.fact 35 (f := .free "int") rfl),
    He.free_ok X G (c.fact 36 (f := .free "isinstance") rfl),
    He.free_ok X G (c.fact 37 (f := .free "len") rfl),
    He.free_ok X G (c.fact 38 (f := .free "list") rfl),
    He.free_ok X G (c.fact 39 (f := .free "range") rfl),
    He.free_ok X G (c.fact 40 (f := .free "sorted") rfl),
    He.free_ok X G (c.fact 41 (f := .free "str") rfl),
    He.free_ok X G (c.fact 42 (f := .free "sum") rfl),
    He.free_ok X G (c.fact 43 (f := .free "tuple") rfl)⟩
  exact ⟨fd31, fun s v => b s [v] rfl, fun base _ _ => (oks A 40).o31⟩
end L2.PL
open PySem PySem.W PySem.Calls PyProof.Rows
theorem L2.PL.holds (hl : ∀ ns : List Int, ns.length ≤ 63 → ∃ fr outs, L2.PL.run L2.PL.T 40 31 [.val (.lst (ns.map L2.PL.D.int))] = some (.bl true, fr, outs)) : PySem.Challenge.rw_columnlaws_k59_ways_and_exchanges.Holds := by
  w_on; o_law
  refine HandSHeadRun.head_any (r := OpenLaw.row PySem.Challenge.rw_columnlaws_k59_ways_and_exchanges) (q := view (OpenLaw.row PySem.Challenge.rw_columnlaws_k59_ways_and_exchanges).prog [34]) (H := L2.PL.hk) (ob := L2.PL.ob) (M := 4000) (loose := L2.PL.loose) (d := HandSHeadRun.topDef (OpenLaw.row PySem.Challenge.rw_columnlaws_k59_ways_and_exchanges).prog 34) (kwd := []) L2.PL.ob_eq
    (by kernel_rfl) (fun s => by kernel_rfl) L2.PL.hrun (by kernel_rfl) (by kernel_rfl) (by kernel_rfl) (by rfl) (by first | assumption | decide +kernel) (by decide +kernel) ⟨rfl, rfl, rfl, rfl, rfl, by decide +kernel⟩ ?hw ?hc
  case hw => w_witness2
  case hc =>
    refine L2.walk_ofE (l := PySem.Challenge.rw_columnlaws_k59_ways_and_exchanges) (n := 63) (k := 41) (x := "script") (CX := L2.CX0) rfl (by decide) (by kernel_rfl) ⟨rfl, by decide, by decide⟩ ?F (fun _ _ _ _ z => z)
    intro w mg fa h Y G hmg0
    obtain ⟨K, KX, c⟩ := Y
    have hmg : mg ("law" : PySem.Str) = some (.ref fa) := by
      have e : (HandSHeadRun.topDef (OpenLaw.row PySem.Challenge.rw_columnlaws_k59_ways_and_exchanges).prog 34).name = ("law" : PySem.Str) := by kernel_rfl
      rw [← e]
      exact hmg0
    obtain ⟨fd, hb, hF⟩ := L2.PL.facts (P := (PySem.Challenge.rw_columnlaws_k59_ways_and_exchanges).prog) (w := w) KX G hmg c
    refine ⟨K, fd, _, KX, hb, fun H a ns hlen _ hS => ?_, hF⟩
    obtain ⟨fr, outs, e⟩ := hl ns hlen
    exact L2.PL.law_sp (c := ⟨(PySem.Challenge.rw_columnlaws_k59_ways_and_exchanges).prog, w, K⟩) hS e
end
section
set_option maxRecDepth 100000
/-! k59, part A: tools to evaluate. -/
namespace L2.PL
open PySem
abbrev RV := Option (D × Bool × EV)
/-- how a def ends -/
def fin (as : EV) : Out → RV
  | .ret v fr ρ => some (v, fr, outsOf as ρ)
  | .nxt ρ => some (.non, false, outsOf as ρ)
  | _ => none
theorem run_at {T : List Df} {n f : Nat} {as : EV} {d : Df} (h : T[f]? = some d) (hl : as.length = d.np) : run T (n + 1) f as = fin as (exB (run T n) (owns 0 as) d.body (as ++ List.replicate (d.ns - d.np) .un)) := by
  show (match T[f]? with | some d => if as.length = d.np then _ else none | none => none) = _
  rw [h]
  simp only
  rw [if_pos hl]
  generalize exB (run T n) (owns 0 as) d.body (as ++ List.replicate (d.ns - d.np) .un) = o
  cases o <;> rfl
/-- what a call answers, whatever becomes of the slots -/
def Ans (r : RV) (d : D) (fr : Bool) : Prop := ∃ o, r = some (d, fr, o)
/-! ### loops -/
theorem lcGo_fm {turn : D → EV → Option (Option D × EV)} {ρ : EV} (g : D → Option D) : ∀ (xs : List D) (acc : List D), (∀ x ∈ xs, turn x ρ = some (g x, ρ)) → acc.length + xs.length ≤ bigN → lcGo turn xs ρ acc = some (acc ++ xs.filterMap g, ρ)
  | [], acc, _, _ => by simp [lcGo]
  | x :: xs, acc, h, hl => by
    rw [List.length_cons] at hl
    simp only [lcGo, h x List.mem_cons_self]
    cases e : g x with
    | none =>
      simp only
      rw [lcGo_fm g xs acc (fun y hy => h y (List.mem_cons_of_mem _ hy)) (by omega), List.filterMap_cons, e]
    | some d =>
      simp only
      rw [if_pos (by omega), lcGo_fm g xs (acc ++ [d]) (fun y hy => h y (List.mem_cons_of_mem _ hy)) (by rw [List.length_append, List.length_singleton]; omega), List.filterMap_cons, e, List.append_assoc]
      rfl
theorem lcGo_map {turn : D → EV → Option (Option D × EV)} {ρ : EV} (f : D → D) {xs : List D} (h : ∀ x ∈ xs, turn x ρ = some (some (f x), ρ)) (hl : xs.length ≤ bigN) : lcGo turn xs ρ [] = some (xs.map f, ρ) := by
  rw [lcGo_fm (fun x => some (f x)) xs [] h (by simpa using hl), List.nil_append, List.filterMap_eq_map']
/-- over what was encoded -/
theorem lcGo_enc {α : Type} {turn : D → EV → Option (Option D × EV)} {ρ : EV} (enc : α → D) (g : α → Option D) (xs : List α) (h : ∀ x ∈ xs, turn (enc x) ρ = some (g x, ρ)) (hl : xs.length ≤ bigN) : lcGo turn (xs.map enc) ρ [] = some (xs.filterMap g, ρ) := by
  have key : ∀ (xs : List α) (acc : List D), (∀ x ∈ xs, turn (enc x) ρ = some (g x, ρ)) → acc.length + xs.length ≤ bigN → lcGo turn (xs.map enc) ρ acc = some (acc ++ xs.filterMap g, ρ) := by
    intro xs
    induction xs with
    | nil => intro acc _ _; simp [lcGo]
    | cons x xs ih =>
      intro acc h hl
      rw [List.length_cons] at hl
      simp only [List.map_cons, lcGo, h x List.mem_cons_self]
      cases e : g x with
      | none =>
        simp only
        rw [ih acc (fun y hy => h y (List.mem_cons_of_mem _ hy)) (by omega), List.filterMap_cons, e]
      | some d =>
        simp only
        rw [if_pos (by omega), ih (acc ++ [d]) (fun y hy => h y (List.mem_cons_of_mem _ hy)) (by rw [List.length_append, List.length_singleton]; omega), List.filterMap_cons, e, List.append_assoc]
        rfl
  simpa using key xs [] h (by simpa using hl)
theorem lcGo_encM {α : Type} {turn : D → EV → Option (Option D × EV)} {ρ : EV} (enc : α → D) (f : α → D) (xs : List α) (h : ∀ x ∈ xs, turn (enc x) ρ = some (some (f x), ρ)) (hl : xs.length ≤ bigN) : lcGo turn (xs.map enc) ρ [] = some (xs.map f, ρ) := by
  rw [lcGo_enc enc (fun x => some (f x)) xs h hl, List.filterMap_eq_map']
/-- a loop that goes through, or hands back -/
theorem forGo_inv {body : D → EV → Out} (P : List D → EV → Prop) (C : List D → D → D → Bool → EV → Prop) : ∀ (xs pre : List D) (ρ : EV), P pre ρ →
    (∀ pre x ρ, P pre ρ → x ∈ xs → (∃ ρ', body x ρ = .nxt ρ' ∧ P (pre ++ [x]) ρ') ∨ ∃ d fr ρ', body x ρ = .ret d fr ρ' ∧ C pre x d fr ρ') →
    (∃ ρ', forGo body xs ρ = .nxt ρ' ∧ P (pre ++ xs) ρ') ∨ ∃ pre' x d fr ρ', forGo body xs ρ = .ret d fr ρ' ∧ C pre' x d fr ρ'
  | [], pre, ρ, h, _ => .inl ⟨ρ, rfl, by rw [List.append_nil]; exact h⟩
  | x :: xs, pre, ρ, h, hb => by
    rcases hb pre x ρ h List.mem_cons_self with ⟨ρ', e, q⟩ | ⟨d, fr, ρ', e, q⟩
    · rcases forGo_inv P C xs (pre ++ [x]) ρ' q (fun pre y ρ hp hy => hb pre y ρ hp (List.mem_cons_of_mem _ hy)) with ⟨ρ2, e2, q2⟩ | ⟨p2, y, d, fr, ρ2, e2, q2⟩
      · exact .inl ⟨ρ2, by simp only [forGo, e]; exact e2, by rw [List.append_assoc] at q2; exact q2⟩
      · exact .inr ⟨p2, y, d, fr, ρ2, by simp only [forGo, e]; exact e2, q2⟩
    · exact .inr ⟨pre, x, d, fr, ρ', by simp only [forGo, e], q⟩
/-- a loop that goes through, over what was encoded: the state by what is left -/
theorem forGo_enc {α : Type} {body : D → EV → Out} (enc : α → D) (P : List α → EV → Prop) : ∀ (xs : List α) (ρ : EV), P xs ρ → (∀ x xs ρ, P (x :: xs) ρ → ∃ ρ', body (enc x) ρ = .nxt ρ' ∧ P xs ρ') → ∃ ρ', forGo body (xs.map enc) ρ = .nxt ρ' ∧ P [] ρ'
  | [], ρ, h, _ => ⟨ρ, rfl, h⟩
  | x :: xs, ρ, h, hb => by
    obtain ⟨ρ', e, q⟩ := hb x xs ρ h
    obtain ⟨ρ2, e2, q2⟩ := forGo_enc enc P xs ρ' q hb
    exact ⟨ρ2, by simp only [List.map_cons, forGo, e]; exact e2, q2⟩
/-- .. or that hands back -/
theorem forGo_enc2 {α : Type} {body : D → EV → Out} (enc : α → D) (P : List α → EV → Prop) (C : D → Bool → EV → Prop) : ∀ (xs : List α) (ρ : EV), P xs ρ → (∀ x xs ρ, P (x :: xs) ρ → (∃ ρ', body (enc x) ρ = .nxt ρ' ∧ P xs ρ') ∨ ∃ d fr ρ', body (enc x) ρ = .ret d fr ρ' ∧ C d fr ρ') →
    (∃ ρ', forGo body (xs.map enc) ρ = .nxt ρ' ∧ P [] ρ') ∨ ∃ d fr ρ', forGo body (xs.map enc) ρ = .ret d fr ρ' ∧ C d fr ρ'
  | [], ρ, h, _ => .inl ⟨ρ, rfl, h⟩
  | x :: xs, ρ, h, hb => by
    rcases hb x xs ρ h with ⟨ρ', e, q⟩ | ⟨d, fr, ρ', e, q⟩
    · rcases forGo_enc2 enc P C xs ρ' q hb with ⟨ρ2, e2, q2⟩ | ⟨d, fr, ρ2, e2, q2⟩
      · exact .inl ⟨ρ2, by simp only [List.map_cons, forGo, e]; exact e2, q2⟩
      · exact .inr ⟨d, fr, ρ2, by simp only [List.map_cons, forGo, e]; exact e2, q2⟩
    · exact .inr ⟨d, fr, ρ', by simp only [List.map_cons, forGo, e], q⟩
theorem range_cons (lo n : Nat) : rangeD (lo : Int) (n + 1) = .int lo :: rangeD ((lo + 1 : Nat) : Int) n := by
  unfold rangeD
  rw [List.range_succ_eq_map, List.map_cons, List.map_map]
  congr 1
  simp
  intro a _
  omega
/-- over a range, from k on -/
theorem forGo_rng {body : D → EV → Out} (n : Nat) (P : Nat → EV → Prop) (C : D → Bool → EV → Prop) (hb : ∀ k ρ, k < n → P k ρ → (∃ ρ', body (.int k) ρ = .nxt ρ' ∧ P (k + 1) ρ') ∨ ∃ d fr ρ', body (.int k) ρ = .ret d fr ρ' ∧ C d fr ρ') :
    ∀ (m k : Nat) (ρ : EV), k + m = n → P k ρ → (∃ ρ', forGo body (rangeD (k : Int) m) ρ = .nxt ρ' ∧ P n ρ') ∨ ∃ d fr ρ', forGo body (rangeD (k : Int) m) ρ = .ret d fr ρ' ∧ C d fr ρ'
  | 0, k, ρ, e, h => by
    have : k = n := by omega
    subst this
    exact .inl ⟨ρ, rfl, h⟩
  | m + 1, k, ρ, e, h => by
    rw [range_cons]
    rcases hb k ρ (by omega) h with ⟨ρ', e1, q⟩ | ⟨d, fr, ρ', e1, q⟩
    · rcases forGo_rng n P C hb m (k + 1) ρ' (by omega) q with ⟨ρ2, e2, q2⟩ | ⟨d, fr, ρ2, e2, q2⟩
      · exact .inl ⟨ρ2, by simp only [forGo, e1]; exact e2, q2⟩
      · exact .inr ⟨d, fr, ρ2, by simp only [forGo, e1]; exact e2, q2⟩
    · exact .inr ⟨d, fr, ρ', by simp only [forGo, e1], q⟩
theorem forGo_rng0 {body : D → EV → Out} {n : Nat} {ρ : EV} (P : Nat → EV → Prop) (C : D → Bool → EV → Prop) (h : P 0 ρ) (hb : ∀ k ρ, k < n → P k ρ → (∃ ρ', body (.int k) ρ = .nxt ρ' ∧ P (k + 1) ρ') ∨ ∃ d fr ρ', body (.int k) ρ = .ret d fr ρ' ∧ C d fr ρ') :
    (∃ ρ', forGo body (rangeD 0 n) ρ = .nxt ρ' ∧ P n ρ') ∨ ∃ d fr ρ', forGo body (rangeD 0 n) ρ = .ret d fr ρ' ∧ C d fr ρ' := forGo_rng n P C hb n 0 ρ (by omega) h
/-! ### data -/
abbrev KV' := List (Int × Int)
def dI (kv : KV') : List (NestedKey × D) := kv.map fun p => (.num p.1, .int p.2)
abbrev tI (l : List Int) : D := .tup (l.map .int)
theorem look_dI (m : Int) : ∀ kv : KV', look (dI kv) (.num m) = (kv.lookup m).map .int
  | [] => rfl
  | (a, b) :: kv => by
    have ih := look_dI m kv
    unfold look dI at *
    by_cases e : a = m
    · subst e; simp [List.lookup]
    · have e' : (m == a) = false := by simp; exact fun z => e z.symm
      simp [List.lookup, e, e'] at ih ⊢
      exact ih
/-- in its place, or at the end -/
def putI (kv : KV') (k v : Int) : KV' := if (kv.lookup k).isSome then kv.map fun p => if p.1 = k then (p.1, v) else p else kv ++ [(k, v)]
theorem put_dI (kv : KV') (k v : Int) : put (dI kv) (.num k) (.int v) = dI (putI kv k v) := by
  unfold put putI
  rw [look_dI]
  cases h : (kv.lookup k) with
  | none => simp [dI]
  | some w =>
    simp only [Option.map_some, Option.isSome_some, if_true, dI, List.map_map]
    apply List.map_congr_left
    intro p _
    simp only [Function.comp, NestedKey.num.injEq]
    split <;> rfl
theorem lookup_none {kv : KV'} {k : Int} : kv.lookup k = none ↔ k ∉ kv.map (·.1) := by
  induction kv with
  | nil => simp
  | cons p kv ih =>
    by_cases e : k = p.1
    · subst e; simp [List.lookup]
    · have : (k == p.1) = false := by simp [e]
      simp [List.lookup, this, ih, e]
theorem putI_new {kv : KV'} {k v : Int} (h : k ∉ kv.map (·.1)) : putI kv k v = kv ++ [(k, v)] := by
  unfold putI
  rw [lookup_none.mpr h]
  rfl
theorem lookup_mem {kv : KV'} {k v : Int} (h : kv.lookup k = some v) : (k, v) ∈ kv := by
  induction kv with
  | nil => simp at h
  | cons p kv ih =>
    by_cases e : k = p.1
    · subst e
      simp [List.lookup] at h
      subst h
      exact List.mem_cons_self
    · have : (k == p.1) = false := by simp [e]
      simp [List.lookup, this] at h
      exact List.mem_cons_of_mem _ (ih h)
theorem mem_lookup {kv : KV'} {k v : Int} (n : (kv.map (·.1)).Nodup) (h : (k, v) ∈ kv) : kv.lookup k = some v := by
  induction kv with
  | nil => simp at h
  | cons p kv ih =>
    rw [List.map_cons, List.nodup_cons] at n
    rcases List.mem_cons.mp h with z | z
    · subst z; simp [List.lookup]
    · have e : k ≠ p.1 := fun e => n.1 (by rw [← e]; exact List.mem_map.mpr ⟨(k, v), z, rfl⟩)
      have : (k == p.1) = false := by simp [e]
      simp [List.lookup, this]
      exact ih n.2 z
/-- a dict made anew, entry by entry, is itself -/
theorem dcGo_copy {turn : D → EV → Option (Option (NestedKey × D) × EV)} {ρ : EV} : ∀ (kv acc : KV'), (∀ p ∈ kv, turn (.int p.1) ρ = some (some (.num p.1, .int p.2), ρ)) → ((acc ++ kv).map (·.1)).Nodup → (acc ++ kv).length ≤ bigN →
    dcGo turn (kv.map fun p => .int p.1) ρ (dI acc) = some (dI (acc ++ kv), ρ)
  | [], acc, _, _, _ => by simp [dcGo]
  | p :: kv, acc, h, n, hl => by
    have hp : p.1 ∉ acc.map (·.1) := fun z => by
      rw [List.map_append, List.nodup_append] at n
      exact n.2.2 _ z _ (by simp) rfl
    simp only [List.map_cons, dcGo, h p List.mem_cons_self]
    rw [if_pos (by simp [dI] at hl ⊢; omega), put_dI, putI_new hp]
    have := dcGo_copy (turn := turn) (ρ := ρ) kv (acc ++ [p]) (fun q hq => h q (List.mem_cons_of_mem _ hq)) (by rw [List.append_assoc]; exact n) (by rw [List.append_assoc]; exact hl)
    rw [List.append_assoc] at this
    exact this
theorem keys_dI (kv : KV') : (dI kv).map (fun p => toD p.1) = kv.map fun p => D.int p.1 := by simp [dI, toD, Function.comp]
theorem atI_nat (xs : List D) (k : Nat) : atI xs (k : Int) = xs[k]? := by
  unfold atI
  by_cases h : k < xs.length
  · have : ixN xs.length (k : Int) = some k := by unfold ixN; simp [h]
    rw [this]; rfl
  · have : ixN xs.length (k : Int) = none := by unfold ixN; simp; omega
    rw [this, List.getElem?_eq_none (by omega)]; rfl
end L2.PL
end
section
set_option maxRecDepth 100000
/-! k59, part C: rules to step through a reading. -/
namespace L2.PL
open PySem
section
variable {Φ : Fn} {io : List Nat} {as : EV} {ρ ρ1 ρ2 : EV} {s : IS} {b b1 b2 : IB} {d d0 : D} {fr fr0 : Bool} {x y : IE} {i : Nat}
def lcTurn (Φ : Fn) (io : List Nat) (vs : List Nat) (g : IG) (c : IC) (x : IE) : D → EV → Option (Option D × EV) := fun y ρ => match asg io g y ρ with
  | some ρ2 => match evC Φ io c ρ2 with
    | some (true, ρ3) => match evE Φ io x ρ3 with
      | some (d, _, ρ4) => some (some d, wipeE ρ4 vs)
      | none => none
    | some (false, ρ3) => some (none, wipeE ρ3 vs)
    | none => none
  | none => none
def dcTurn (Φ : Fn) (io : List Nat) (t : Bool) (vs : List Nat) (g : IG) (c : IC) (k v : IE) : D → EV → Option (Option (NestedKey × D) × EV) := fun y ρ => match asg io g y ρ with
  | some ρ2 => match evC Φ io c ρ2 with
    | some (true, ρ3) => match evE Φ io k ρ3 with
      | some (kd, _, ρ4) => match evE Φ io v ρ4 with
        | some (d, _, ρ5) => match keyOf kd with
          | some kk => if keyOkB t kk then some (some (kk, d), wipeE ρ5 vs) else none
          | none => none
        | none => none
      | none => none
    | some (false, ρ3) => some (none, wipeE ρ3 vs)
    | none => none
  | none => none
def forTurn (Φ : Fn) (io : List Nat) (g : IG) (b : IB) : D → EV → Out := fun x ρ => match asg io g x ρ with
  | some ρ2 => exB Φ io b ρ2
  | none => .bad
theorem ev_lc {vs : List Nat} {g : IG} {it : II} {c : IC} {items ds : List D} {ρ' : EV} (hi : evI Φ io it ρ = some (items, ρ1)) (hc : ((tgts g).all vs.contains && vs.all (fun i => decide (i < ρ1.length) && !io.contains i)) = true)
    (hl : lcGo (lcTurn Φ io vs g c x) items (wipeE ρ1 vs) [] = some (ds, ρ')) : evE Φ io (.lc vs g it c x) ρ = some (.lst ds, true, unwipe ρ1 vs ρ') := by
  rw [evE, hi]
  simp only
  rw [if_pos hc]
  generalize hg : lcGo _ items (wipeE ρ1 vs) [] = r
  have e : r = some (ds, ρ') := hg.symm.trans hl
  subst e
  rfl
theorem ev_dc {t : Bool} {vs : List Nat} {g : IG} {it : II} {c : IC} {items : List D} {ps : List (NestedKey × D)} {k : IE} {ρ' : EV} (hi : evI Φ io it ρ = some (items, ρ1)) (hc : ((tgts g).all vs.contains && vs.all (fun i => decide (i < ρ1.length) && !io.contains i)) = true)
    (hl : dcGo (dcTurn Φ io t vs g c k x) items (wipeE ρ1 vs) [] = some (ps, ρ')) : evE Φ io (.dc t vs g it c k x) ρ = some (.dic t ps, true, unwipe ρ1 vs ρ') := by
  rw [evE, hi]
  simp only
  rw [if_pos hc]
  generalize hg : dcGo _ items (wipeE ρ1 vs) [] = r
  have e : r = some (ps, ρ') := hg.symm.trans hl
  subst e
  rfl
theorem ex_for {g : IG} {it : II} {items : List D} (hi : evI Φ io it ρ = some (items, ρ1)) (hL : it.isL = false) : exS Φ io (.for g it b) ρ = forGo (forTurn Φ io g b) items ρ1 := by
  rw [exS, if_neg (by rw [hL]; decide), hi]
  rfl
theorem ev_it {xs : List D} (h : evE Φ io x ρ = some (d, fr, ρ1)) (hi : itemsD d = some xs) : evI Φ io (.it x) ρ = some (xs, ρ1) := by
  rw [evI, h]
  simp only [hi, Option.map_some]
/-- what the rest of a body comes to -/
def Go (Φ : Fn) (io : List Nat) (b : IB) (ρ : EV) (P : Out → Prop) : Prop := P (exB Φ io b ρ)
section
variable {P : Out → Prop}
theorem Go.nil (h : P (.nxt ρ)) : Go Φ io .nil ρ P := by unfold Go; rw [exB]; exact h
theorem Go.nxt (ρ1 : EV) (h : exS Φ io s ρ = .nxt ρ1) (k : Go Φ io b ρ1 P) : Go Φ io (.cons s b) ρ P := by
  unfold Go at *
  rw [exB, h]
  exact k
theorem Go.ret (h : exS Φ io s ρ = .ret d fr ρ1) (k : P (.ret d fr ρ1)) : Go Φ io (.cons s b) ρ P := by
  unfold Go
  rw [exB, h]
  exact k
theorem Go.set (h : evE Φ io x ρ = some (d0, fr0, ρ1)) (ho : okTo ρ1 io i = true) (k : Go Φ io b (ρ1.set i (mkSl fr0 d0)) P) : Go Φ io (.cons (.set i x) b) ρ P :=
  Go.nxt _ (by rw [exS, h]; simp only; rw [if_pos ho]) k
theorem Go.setl {j : Nat} {d' dd : D} (e0 : ρ[i]? = some (.own dd)) (h : evE Φ io x ρ = some (d0, fr0, ρ1)) (e1 : ρ1[i]? = some (.lck d')) (hc : (okTo ρ1 io j && i != j && (ρ1.set i .un).all noLck) = true) (k : Go Φ io b ((ρ1.set j (mkSl fr0 d0)).set i (.own d')) P) : Go Φ io (.cons (.setl i j x) b) ρ P :=
  Go.nxt _ (by rw [exS, e0]; simp only; rw [h]; simp only; rw [e1]; simp only; rw [if_pos hc]) k
theorem Go.ex (h : evE Φ io x ρ = some (d0, fr0, ρ1)) (k : Go Φ io b ρ1 P) : Go Φ io (.cons (.ex x) b) ρ P := Go.nxt ρ1 (by rw [exS, h]) k
/-- a suite, then the rest -/
def Kn (Φ : Fn) (io : List Nat) (b : IB) (P : Out → Prop) : Out → Prop
  | .nxt ρ1 => Go Φ io b ρ1 P
  | .ret d fr ρ => P (.ret d fr ρ)
  | .brk ρ => P (.brk ρ)
  | .cnt ρ => P (.cnt ρ)
  | .bad => P .bad
theorem Kn.nxt (h : Go Φ io b ρ P) : Kn Φ io b P (.nxt ρ) := h
theorem Kn.ret (h : P (.ret d fr ρ)) : Kn Φ io b P (.ret d fr ρ) := h
theorem Go.suite {o : Out} (h : exS Φ io s ρ = o) (k : Kn Φ io b P o) : Go Φ io (.cons s b) ρ P := by
  unfold Go
  rw [exB, h]
  cases o <;> exact k
theorem Go.iff {t : IT} {k : Bool} (h : evT Φ io t ρ = some (k, ρ1)) (hb : Go Φ io (if k then b1 else b2) ρ1 (Kn Φ io b P)) : Go Φ io (.cons (.iff t b1 b2) b) ρ P := by
  refine Go.suite (o := exB Φ io (if k then b1 else b2) ρ1) ?_ hb
  rw [exS, h]
  cases k <;> rfl
theorem Go.ifF {t : IT} (h : evT Φ io t ρ = some (false, ρ1)) (k : Go Φ io b ρ1 P) : Go Φ io (.cons (.iff t b1 .nil) b) ρ P := Go.iff h (Go.nil k)
/-- if t: return e -/
theorem Go.ifR {t : IT} (h : evT Φ io t ρ = some (true, ρ1)) (e : evE Φ io x ρ1 = some (d, fr, ρ2)) (k : P (.ret d fr ρ2)) : Go Φ io (.cons (.iff t (.cons (.ret x) .nil) b2) b) ρ P :=
  Go.ret (by rw [exS, h]; simp only [if_true]; rw [exB, exS, e]) k
theorem Go.retE (e : evE Φ io x ρ = some (d, fr, ρ1)) (k : P (.ret d fr ρ1)) : Go Φ io (.cons (.ret x) b) ρ P := Go.ret (by rw [exS, e]) k
theorem Go.retv (e : ρ[i]? = some (.val d)) (k : P (.ret d false ρ)) : Go Φ io (.cons (.retv i) b) ρ P := Go.ret (by rw [exS, e]) k
theorem Go.retO (e : ρ[i]? = some (.own d)) (h : (!io.contains i && io.all (fun j => isOwn ρ[j]?)) = true) (k : P (.ret d true (ρ.set i .un))) : Go Φ io (.cons (.retv i) b) ρ P := Go.ret (by rw [exS, e]; simp only; rw [if_pos h]) k
theorem Go.for2 {g : IG} {it : II} {items : List D} (hi : evI Φ io it ρ = some (items, ρ1)) (hL : it.isL = false) (h : (∃ ρ', forGo (forTurn Φ io g b1) items ρ1 = .nxt ρ' ∧ Go Φ io b ρ' P) ∨ ∃ d' fr' ρ', forGo (forTurn Φ io g b1) items ρ1 = .ret d' fr' ρ' ∧ P (.ret d' fr' ρ')) : Go Φ io (.cons (.for g it b1) b) ρ P := by
  rcases h with ⟨ρ', e, k⟩ | ⟨d', fr', ρ', e, k⟩
  · exact Go.nxt ρ' (by rw [ex_for hi hL, e]) k
  · exact Go.ret (by rw [ex_for hi hL, e]) k
/-- a turn: the target takes the item, the body runs -/
theorem turn_of {g : IG} {y : D} {Q : Out → Prop} (h : asg io g y ρ = some ρ1) (k : Go Φ io b ρ1 Q) : Q (forTurn Φ io g b y ρ) := by
  unfold forTurn
  rw [h]
  exact k
/-- what a turn is to come to -/
def Trn (N : EV → Prop) (P : Out → Prop) (o : Out) : Prop := (∃ ρ', o = .nxt ρ' ∧ N ρ') ∨ ∃ d fr ρ', o = .ret d fr ρ' ∧ P (.ret d fr ρ')
theorem Trn.nx {N : EV → Prop} (h : N ρ) : Trn N P (.nxt ρ) := .inl ⟨ρ, rfl, h⟩
theorem Trn.rt {N : EV → Prop} (h : P (.ret d fr ρ)) : Trn N P (.ret d fr ρ) := .inr ⟨d, fr, ρ, rfl, h⟩
theorem Go.rng {g : IG} {it : II} (n : Nat) (N : Nat → EV → Prop) (hi : evI Φ io it ρ = some (rangeD 0 n, ρ1)) (hL : it.isL = false) (h0 : N 0 ρ1)
    (step : ∀ (k : Nat) (ρ : EV), k < n → N k ρ → Trn (N (k + 1)) P (forTurn Φ io g b1 (.int k) ρ)) (done : ∀ ρ', N n ρ' → Go Φ io b ρ' P) : Go Φ io (.cons (.for g it b1) b) ρ P := by
  refine Go.for2 hi hL ?_
  rcases forGo_rng0 (body := forTurn Φ io g b1) (n := n) N (fun d' fr' ρ' => P (.ret d' fr' ρ')) h0 (fun k ρ hk hp => step k ρ hk hp) with ⟨ρ', e, q⟩ | ⟨d', fr', ρ', e, q⟩
  · exact .inl ⟨ρ', e, done ρ' q⟩
  · exact .inr ⟨d', fr', ρ', e, q⟩
theorem Go.each {α : Type} {g : IG} {it : II} (enc : α → D) (xs : List α) (N : List α → EV → Prop) (hi : evI Φ io it ρ = some (xs.map enc, ρ1)) (hL : it.isL = false) (h0 : N xs ρ1)
    (step : ∀ (x : α) (xs : List α) (ρ : EV), N (x :: xs) ρ → Trn (N xs) P (forTurn Φ io g b1 (enc x) ρ)) (done : ∀ ρ', N [] ρ' → Go Φ io b ρ' P) : Go Φ io (.cons (.for g it b1) b) ρ P := by
  refine Go.for2 hi hL ?_
  rcases forGo_enc2 (body := forTurn Φ io g b1) enc N (fun d' fr' ρ' => P (.ret d' fr' ρ')) xs ρ1 h0 (fun x xs ρ hp => step x xs ρ hp) with ⟨ρ', e, q⟩ | ⟨d', fr', ρ', e, q⟩
  · exact .inl ⟨ρ', e, done ρ' q⟩
  · exact .inr ⟨d', fr', ρ', e, q⟩
end
theorem ans_ret : Ans (fin as (.ret d fr ρ)) d fr := ⟨_, rfl⟩
theorem run_outs {T : List Df} {n f : Nat} {as : EV} {d : D} {fr : Bool} {outs : EV} (h : run T n f as = some (d, fr, outs)) : outs.length = as.length := by
  cases n with
  | zero => simp [run] at h
  | succ n =>
    simp only [run] at h
    split at h
    · split at h
      · split at h
        · cases h; exact outs_len ..
        · cases h; exact outs_len ..
        · cases h
      · cases h
    · cases h
theorem Go.run {T : List Df} {n f : Nat} {as : EV} {df : Df} (h : T[f]? = some df) (hl : as.length = df.np) (k : Go (run T n) (owns 0 as) df.body (as ++ List.replicate (df.ns - df.np) .un) fun o => Ans (fin as o) d fr) : Ans (L2.PL.run T (n + 1) f as) d fr := by
  rw [run_at h hl]
  exact k
/-- .. new or not -/
def AnsE (r : RV) (d : D) : Prop := ∃ fr, Ans r d fr
theorem ansE_ret : AnsE (fin as (.ret d fr ρ)) d := ⟨_, _, rfl⟩
theorem Go.runE {T : List Df} {n f : Nat} {as : EV} {df : Df} (h : T[f]? = some df) (hl : as.length = df.np) (k : Go (L2.PL.run T n) (owns 0 as) df.body (as ++ List.replicate (df.ns - df.np) .un) fun o => AnsE (fin as o) d) : AnsE (L2.PL.run T (n + 1) f as) d := by
  unfold AnsE
  rw [run_at h hl]
  exact k
theorem lent_dn (ρ : EV) : ∀ ds : List D, lent ρ (ds.map .dn) = []
  | [] => rfl
  | d :: ds => by simp [lent, lent_dn ρ ds]
theorem args_dn (ρ : EV) : ∀ ds : List D, argsOf ρ (ds.map .dn) = some (ds.map .val)
  | [] => rfl
  | d :: ds => by simp [argsOf, argOf, args_dn ρ ds]
theorem back_dn (ρ0 : EV) : ∀ (ds : List D) (outs ρ : EV), back ρ0 (ds.map .dn) outs ρ = ρ
  | [], _, _ => rfl
  | d :: ds, [], _ => rfl
  | d :: ds, _ :: outs, ρ => by simp [back, back_dn ρ0 ds]
/-- a call whose arguments are all handed over as values -/
theorem ev_call {T : List Df} {n f : Nat} {es : IOs} {ds : List D} (ha : evOs (L2.PL.run T n) io es ρ = some (ds.map .dn, ρ1)) (h : Ans (L2.PL.run T n f (ds.map .val)) d fr) : evE (L2.PL.run T n) io (.call f es) ρ = some (d, fr, ρ1) := by
  obtain ⟨o, e⟩ := h
  have lo := run_outs e
  rw [evE, ha]
  simp only
  rw [lent_dn, if_pos List.nodup_nil, args_dn]
  simp only
  rw [e]
  simp only
  rw [if_pos lo, back_dn]
end
end L2.PL
end
section
set_option maxRecDepth 100000
set_option maxHeartbeats 1000000
/-! k59, part B: fillings. -/
namespace L2.PL
open PySem
def fitGo : KV' → List Int → List Int → Option KV'
  | kv, m :: ms, r :: rs => if 0 ≤ m then (if m = r then fitGo kv ms rs else none) else match kv.lookup m with
    | some v => if v = r then fitGo kv ms rs else none
    | none => fitGo (kv ++ [(m, r)]) ms rs
  | kv, _, _ => some kv
theorem r_worth (n : Nat) (kv : KV') (m v : Int) (h : m < 0 → kv.lookup m = some v) : Ans (run T (n + 1) 0 [.val (.dic false (dI kv)), .val (.int m)]) (.int (if 0 ≤ m then m else v)) false := by
  refine Go.run (df := df0) rfl rfl ?_
  by_cases hm : 0 ≤ m
  · simp [Go, Ans, fin, df0, owns, exB, exS, evT, evO, evE, rsv, Sl.get, cmpD, truD, List.replicate, hm]
  · simp [Go, Ans, fin, df0, owns, exB, exS, evT, evO, evE, rsv, Sl.get, cmpD, truD, List.replicate, hm, idxD, keyOf, keyOkB, look_dI, h (by omega)]
theorem nodup_snoc {kv : KV'} {k v : Int} (n : (kv.map (·.1)).Nodup) (h : kv.lookup k = none) : ((kv ++ [(k, v)]).map (·.1)).Nodup := by
  rw [List.map_append, List.nodup_append]
  refine ⟨n, by simp, fun a ha b hb e => ?_⟩
  simp at hb
  subst hb e
  exact lookup_none.mp h ha
/-- what a matched filling is handed back as -/
def optD (o : Option KV') : D := match o with | some kv => .dic false (dI kv) | none => .non
def optF (o : Option KV') : Bool := o.isSome
theorem getI {l : List Int} {k : Nat} (h : k < l.length) : atI (l.map D.int) (k : Int) = some (.int (l[k]'h)) := by
  rw [atI_nat, List.getElem?_map, List.getElem?_eq_getElem h]
  rfl
theorem rng_ok {l : List Int} (h : l.length ≤ 1000) : rngOk (l.length : Int) = true := by
  unfold rngOk
  rw [Bool.and_eq_true, decide_eq_true_eq, decide_eq_true_eq]
  omega
theorem r_fitted (n : Nat) (kv : KV') (line row : List Int) (hl : line.length = row.length) (nd : (kv.map (·.1)).Nodup) (hz : kv.length + line.length ≤ 1000) :
    Ans (run T (n + 1) 1 [.val (.dic false (dI kv)), .val (tI line), .val (tI row)]) (optD (fitGo kv line row)) (optF (fitGo kv line row)) := by
  refine Go.run (df := df1) rfl rfl ?_
  refine Go.set (ev_dc (ρ1 := [.val (.dic false (dI kv)), .val (tI line), .val (tI row), .un, .un, .un]) (items := kv.map fun p => D.int p.1) (ps := dI kv) (by simp [evI, evE, frz1, itemsD, df1, keys_dI]) rfl
    (dcGo_copy (ρ := [.val (.dic false (dI kv)), .val (tI line), .val (tI row), .un, .un, .un]) kv [] (fun p hp => ?_) nd (by show _ ≤ 16777216; rw [List.nil_append]; omega))) rfl ?_
  · have e := mem_lookup nd hp
    simp [dcTurn, asg, okTo, evC, evE, evO, frz1, rsv, Sl.get, idxD, keyOf, keyOkB, look_dI, e, wipeE, owns]
  refine Go.rng (ρ1 := [.val (.dic false (dI kv)), .val (tI line), .val (tI row), .own (.dic false (dI kv)), .un, .un]) line.length (fun k ρ => ∃ (cur : KV') (s4 s5 : Sl), ρ = [.val (.dic false (dI kv)), .val (tI line), .val (tI row), .own (.dic false (dI cur)), s4, s5] ∧ fitGo cur (line.drop k) (row.drop k) = fitGo kv line row ∧ (cur.map (·.1)).Nodup ∧ cur.length ≤ kv.length + k) ?_ rfl ⟨kv, .un, .un, rfl, rfl, nd, by omega⟩ ?_ ?_
  · have z : rngOk (line.length : Int) = true := rng_ok (by omega)
    simp [evI, evOs, evO, evE, rsv, rsvs, Sl.get, biD, rngD, z, unwipe, mkSl, isCont]
  · rintro k ρ hk ⟨cur, s4, s5, rfl, hf, hnd, hcl⟩
    have hk2 : k < row.length := by omega
    have e1 := getI hk
    have e2 := getI hk2
    have d1 : line.drop k = line[k] :: line.drop (k + 1) := List.drop_eq_getElem_cons hk
    have d2 : row.drop k = row[k] :: row.drop (k + 1) := List.drop_eq_getElem_cons hk2
    rw [d1, d2, fitGo] at hf
    generalize line[k] = m at *
    generalize row[k] = r at *
    have hz2 : (dI cur).length < 16777216 := by simp [dI]; omega
    by_cases hm : 0 ≤ m
    · rw [if_pos hm] at hf
      by_cases hr : m = r
      · subst hr
        rw [if_pos rfl] at hf
        refine .inl ⟨[.val (.dic false (dI kv)), .val (tI line), .val (tI row), .own (.dic false (dI cur)), .val (.int k), .val (.int m)], ?_, cur, _, _, rfl, hf, hnd, by omega⟩
        simp [forTurn, asg, okTo, exB, exS, evT, evE, evO, rsv, Sl.get, idxD, e1, e2, cmpD, eqD, truD, hm, mkSl, isCont, owns, frz1, optD, optF]
      · rw [if_neg hr] at hf
        refine .inr ⟨_, _, [.val (.dic false (dI kv)), .val (tI line), .val (tI row), .own (.dic false (dI cur)), .val (.int k), .val (.int m)], ?_, by rw [← hf]; exact ans_ret⟩
        simp [forTurn, asg, okTo, exB, exS, evT, evE, evO, rsv, Sl.get, idxD, e1, e2, cmpD, eqD, truD, hm, hr, mkSl, isCont, owns, frz1, optD, optF]
    · rw [if_neg hm] at hf
      cases hv : cur.lookup m with
      | some v =>
        rw [hv] at hf
        simp only at hf
        by_cases hr : v = r
        · subst hr
          rw [if_pos rfl] at hf
          refine .inl ⟨[.val (.dic false (dI kv)), .val (tI line), .val (tI row), .own (.dic false (dI cur)), .val (.int k), .val (.int m)], ?_, cur, _, _, rfl, hf, hnd, by omega⟩
          simp [forTurn, asg, okTo, exB, exS, evT, evE, evO, evOs, dns, muTy, muD, keyOf, keyOkB, hz2, look_dI, hv, rsv, Sl.get, idxD, e1, e2, cmpD, eqD, truD, hm, mkSl, isCont, owns, frz1, optD, optF]
        · rw [if_neg hr] at hf
          refine .inr ⟨_, _, [.val (.dic false (dI kv)), .val (tI line), .val (tI row), .own (.dic false (dI cur)), .val (.int k), .val (.int m)], ?_, by rw [← hf]; exact ans_ret⟩
          simp [forTurn, asg, okTo, exB, exS, evT, evE, evO, evOs, dns, muTy, muD, keyOf, keyOkB, hz2, look_dI, hv, hr, rsv, Sl.get, idxD, e1, e2, cmpD, eqD, truD, hm, mkSl, isCont, owns, frz1, optD, optF]
      | none =>
        rw [hv] at hf
        simp only at hf
        have hp := putI_new (v := r) (lookup_none.mp hv)
        refine .inl ⟨[.val (.dic false (dI kv)), .val (tI line), .val (tI row), .own (.dic false (dI (cur ++ [(m, r)]))), .val (.int k), .val (.int m)], ?_, cur ++ [(m, r)], _, _, rfl, hf, nodup_snoc hnd hv, by rw [List.length_append]; simp; omega⟩
        simp [forTurn, asg, okTo, exB, exS, evT, evE, evO, evOs, dns, muTy, muD, keyOf, keyOkB, hz2, look_dI, hv, put_dI, hp, rsv, Sl.get, idxD, e1, e2, cmpD, eqD, truD, hm, mkSl, isCont, owns, frz1, optD, optF]
  · rintro ρ' ⟨cur, s4, s5, rfl, hf, _, _⟩
    rw [List.drop_length, hl, List.drop_length] at hf
    simp only [fitGo] at hf
    rw [← hf]
    exact Go.retO rfl rfl ans_ret
end L2.PL
end
section
set_option maxRecDepth 100000
set_option maxHeartbeats 1000000
/-! k59, part D: fillings by the law. -/
namespace L2.PL
open PySem
theorem putI_same {kv : KV'} {k v : Int} (n : (kv.map (·.1)).Nodup) (h : kv.lookup k = some v) : putI kv k v = kv := by
  unfold putI
  rw [h]
  simp only [Option.isSome_some, if_true]
  conv => rhs; rw [← List.map_id kv]
  apply List.map_congr_left
  intro p hp
  by_cases e : p.1 = k
  · rw [if_pos e]
    have := mem_lookup n hp
    rw [e, h] at this
    cases this
    rfl
  · rw [if_neg e]; rfl
theorem r_fits (n : Nat) (kv : KV') (line row : List Int) (hl : line.length = row.length) (nd : (kv.map (·.1)).Nodup) (hz : kv.length + line.length ≤ 1000) :
    Ans (run T (n + 1) 19 [.val (.dic false (dI kv)), .val (tI line), .val (tI row)]) (optD (fitGo kv line row)) (optF (fitGo kv line row)) := by
  refine Go.run (df := df19) rfl rfl ?_
  refine Go.set (ρ1 := [.val (.dic false (dI kv)), .val (tI line), .val (tI row), .un, .un]) (d0 := .dic false (dI kv)) (fr0 := true) (by simp [fin, owns, forTurn, lcTurn, dcTurn, asg, asgs, okTo, exB, exS, evT, evE, evO, evOs, evP, evI, evC, dns, rsv, rsvs, Sl.get, frz1, idxD, sliD, cmpD, eqD, inD, isNon, truD, binD, negD, biD, mtD, muTy, muD, setD, keyOf, keysOf, keyOkB, dicPairs, mkSl, isCont, wipeE, unwipe, itemsD, rngD, isTy, noLck, isOwn, mulOk, df19]) rfl ?_
  refine Go.rng (ρ1 := [.val (.dic false (dI kv)), .val (tI line), .val (tI row), .own (.dic false (dI kv)), .un]) line.length (fun k ρ => ∃ (cur : KV') (s4 : Sl), ρ = [.val (.dic false (dI kv)), .val (tI line), .val (tI row), .own (.dic false (dI cur)), s4] ∧ fitGo cur (line.drop k) (row.drop k) = fitGo kv line row ∧ (cur.map (·.1)).Nodup ∧ cur.length ≤ kv.length + k) ?_ rfl ⟨kv, .un, rfl, rfl, nd, by omega⟩ ?_ ?_
  · have z : rngOk (line.length : Int) = true := rng_ok (by omega)
    simp [fin, owns, forTurn, lcTurn, dcTurn, asg, asgs, okTo, exB, exS, evT, evE, evO, evOs, evP, evI, evC, dns, rsv, rsvs, Sl.get, frz1, idxD, sliD, cmpD, eqD, inD, isNon, truD, binD, negD, biD, mtD, muTy, muD, setD, keyOf, keysOf, keyOkB, dicPairs, mkSl, isCont, wipeE, unwipe, itemsD, rngD, isTy, noLck, isOwn, mulOk, z]
  · rintro k ρ hk ⟨cur, s4, rfl, hf, hnd, hcl⟩
    have hk2 : k < row.length := by omega
    have e1 := getI hk
    have e2 := getI hk2
    have d1 : line.drop k = line[k] :: line.drop (k + 1) := List.drop_eq_getElem_cons hk
    have d2 : row.drop k = row[k] :: row.drop (k + 1) := List.drop_eq_getElem_cons hk2
    rw [d1, d2, fitGo] at hf
    generalize line[k] = m at *
    generalize row[k] = r at *
    have hz2 : (dI cur).length < 16777216 := by simp [dI]; omega
    by_cases hm : 0 ≤ m
    · have hm2 : ¬ m < 0 := by omega
      rw [if_pos hm] at hf
      by_cases hr : m = r
      · subst hr
        rw [if_pos rfl] at hf
        refine .inl ⟨[.val (.dic false (dI kv)), .val (tI line), .val (tI row), .own (.dic false (dI cur)), .val (.int k)], ?_, cur, _, rfl, hf, hnd, by omega⟩
        simp [fin, owns, forTurn, lcTurn, dcTurn, asg, asgs, okTo, exB, exS, evT, evE, evO, evOs, evP, evI, evC, dns, rsv, rsvs, Sl.get, frz1, idxD, sliD, cmpD, eqD, inD, isNon, truD, binD, negD, biD, mtD, muTy, muD, setD, keyOf, keysOf, keyOkB, dicPairs, mkSl, isCont, wipeE, unwipe, itemsD, rngD, isTy, noLck, isOwn, mulOk, e1, e2, hm, hm2]
      · rw [if_neg hr] at hf
        refine .inr ⟨_, _, [.val (.dic false (dI kv)), .val (tI line), .val (tI row), .own (.dic false (dI cur)), .val (.int k)], ?_, by rw [← hf]; exact ans_ret⟩
        simp [fin, owns, forTurn, lcTurn, dcTurn, asg, asgs, okTo, exB, exS, evT, evE, evO, evOs, evP, evI, evC, dns, rsv, rsvs, Sl.get, frz1, idxD, sliD, cmpD, eqD, inD, isNon, truD, binD, negD, biD, mtD, muTy, muD, setD, keyOf, keysOf, keyOkB, dicPairs, mkSl, isCont, wipeE, unwipe, itemsD, rngD, isTy, noLck, isOwn, mulOk, e1, e2, hm, hm2, hr, optD, optF]
    · have hm2 : m < 0 := by omega
      rw [if_neg hm] at hf
      cases hv : cur.lookup m with
      | some v =>
        rw [hv] at hf
        simp only at hf
        by_cases hr : v = r
        · subst hr
          rw [if_pos rfl] at hf
          refine .inl ⟨[.val (.dic false (dI kv)), .val (tI line), .val (tI row), .own (.dic false (dI cur)), .val (.int k)], ?_, cur, _, rfl, hf, hnd, by omega⟩
          simp [fin, owns, forTurn, lcTurn, dcTurn, asg, asgs, okTo, exB, exS, evT, evE, evO, evOs, evP, evI, evC, dns, rsv, rsvs, Sl.get, frz1, idxD, sliD, cmpD, eqD, inD, isNon, truD, binD, negD, biD, mtD, muTy, muD, setD, keyOf, keysOf, keyOkB, dicPairs, mkSl, isCont, wipeE, unwipe, itemsD, rngD, isTy, noLck, isOwn, mulOk, e1, e2, hm, hm2, look_dI, hv, hz2, put_dI, putI_same hnd hv]
        · rw [if_neg hr] at hf
          refine .inr ⟨_, _, [.val (.dic false (dI kv)), .val (tI line), .val (tI row), .own (.dic false (dI cur)), .val (.int k)], ?_, by rw [← hf]; exact ans_ret⟩
          simp [fin, owns, forTurn, lcTurn, dcTurn, asg, asgs, okTo, exB, exS, evT, evE, evO, evOs, evP, evI, evC, dns, rsv, rsvs, Sl.get, frz1, idxD, sliD, cmpD, eqD, inD, isNon, truD, binD, negD, biD, mtD, muTy, muD, setD, keyOf, keysOf, keyOkB, dicPairs, mkSl, isCont, wipeE, unwipe, itemsD, rngD, isTy, noLck, isOwn, mulOk, e1, e2, hm, hm2, look_dI, hv, hr, optD, optF]
      | none =>
        rw [hv] at hf
        simp only at hf
        have hp := putI_new (v := r) (lookup_none.mp hv)
        refine .inl ⟨[.val (.dic false (dI kv)), .val (tI line), .val (tI row), .own (.dic false (dI (cur ++ [(m, r)]))), .val (.int k)], ?_, (cur ++ [(m, r)]), _, rfl, hf, nodup_snoc hnd hv, by rw [List.length_append]; simp; omega⟩
        simp [fin, owns, forTurn, lcTurn, dcTurn, asg, asgs, okTo, exB, exS, evT, evE, evO, evOs, evP, evI, evC, dns, rsv, rsvs, Sl.get, frz1, idxD, sliD, cmpD, eqD, inD, isNon, truD, binD, negD, biD, mtD, muTy, muD, setD, keyOf, keysOf, keyOkB, dicPairs, mkSl, isCont, wipeE, unwipe, itemsD, rngD, isTy, noLck, isOwn, mulOk, e1, e2, hm, hm2, look_dI, hv, hz2, put_dI, hp]
  · rintro ρ' ⟨cur, s4, rfl, hf, _, _⟩
    rw [List.drop_length, hl, List.drop_length] at hf
    simp only [fitGo] at hf
    rw [← hf]
    exact Go.retO rfl rfl ans_ret
end L2.PL
end
section
set_option maxRecDepth 100000
set_option maxHeartbeats 2000000
/-! k59, part E: all fillings. -/
namespace L2.PL
open PySem
abbrev Ln := Str × List Int
abbrev lineD (p : Ln) : D := .tup [.str p.1, tI p.2]
structure Pat where
  cols : List Str
  told : List Int
  lines : List Ln
abbrev patD (p : Pat) : D := .tup [.tup (p.cols.map .str), tI p.told, .tup (p.lines.map lineD)]
abbrev fD (f : KV') : D := .dic false (dI f)
/-- the rows of the tables that a pattern asks of -/
structure TabOk (kvs : List (NestedKey × D)) (rw : Str → List (List Int)) (lines : List Ln) : Prop where
  few : lines.length ≤ 6
  look : ∀ p ∈ lines, ∃ cols, look kvs (.text p.1) = some (.tup [cols, .tup ((rw p.1).map tI)])
  rows : ∀ p ∈ lines, (rw p.1).length ≤ 5 ∧ ∀ r ∈ rw p.1, p.2.length = r.length
  wide : ∀ p ∈ lines, p.2.length ≤ 3
def stepF (rw : Str → List (List Int)) (fs : List KV') (p : Ln) : List KV' := fs.flatMap fun f => (rw p.1).filterMap fun r => fitGo f p.2 r
def fills (rw : Str → List (List Int)) (lines : List Ln) (fs : List KV') : List KV' := lines.foldl (stepF rw) fs
theorem fit_ok : ∀ {ms rs : List Int} {kv kv' : KV'}, (kv.map (·.1)).Nodup → fitGo kv ms rs = some kv' → (kv'.map (·.1)).Nodup ∧ kv'.length ≤ kv.length + ms.length
  | [], rs, kv, kv', n, e => by simp only [fitGo] at e; cases e; exact ⟨n, by simp⟩
  | m :: ms, [], kv, kv', n, e => by simp only [fitGo] at e; cases e; exact ⟨n, by simp⟩
  | m :: ms, r :: rs, kv, kv', n, e => by
    rw [fitGo] at e
    rw [List.length_cons]
    split at e
    · split at e
      · obtain ⟨h1, h2⟩ := fit_ok n e; exact ⟨h1, by omega⟩
      · cases e
    · split at e
      · split at e
        · obtain ⟨h1, h2⟩ := fit_ok n e; exact ⟨h1, by omega⟩
        · cases e
      · rename_i hv
        obtain ⟨h1, h2⟩ := fit_ok (nodup_snoc n hv) e
        rw [List.length_append, List.length_singleton] at h2
        exact ⟨h1, by omega⟩
/-- all fillings on the way are dicts of a few entries -/
def FOk (k : Nat) (fs : List KV') : Prop := ∀ f ∈ fs, (f.map (·.1)).Nodup ∧ f.length ≤ k
theorem step_ok {rw : Str → List (List Int)} {fs : List KV'} {p : Ln} {k : Nat} (h : FOk k fs) (hw : p.2.length ≤ 3) : FOk (k + 3) (stepF rw fs p) := fun f hf => by
  unfold stepF at hf
  obtain ⟨g, hg, hf⟩ := List.mem_flatMap.mp hf
  obtain ⟨r, _, e⟩ := List.mem_filterMap.mp hf
  obtain ⟨h1, h2⟩ := h g hg
  obtain ⟨h3, h4⟩ := fit_ok h1 e
  exact ⟨h3, by omega⟩
theorem flat_len {α β : Type} (g : α → List β) (c : Nat) : ∀ xs : List α, (∀ x ∈ xs, (g x).length ≤ c) → (xs.flatMap g).length ≤ xs.length * c
  | [], _ => by simp
  | x :: xs, h => by
    have := flat_len g c xs fun y hy => h y (List.mem_cons_of_mem _ hy)
    have := h x List.mem_cons_self
    rw [List.flatMap_cons, List.length_append, List.length_cons, Nat.succ_mul]
    omega
theorem step_len {rw : Str → List (List Int)} {fs : List KV'} {p : Ln} (h : (rw p.1).length ≤ 5) : (stepF rw fs p).length ≤ fs.length * 5 :=
  flat_len _ 5 fs fun f _ => Nat.le_trans (List.length_filterMap_le _ _) h
/-- a slot that holds a list, handed over or not -/
def Hold (s : Sl) (d : D) : Prop := s = .own d ∨ s = .val d
theorem opt_sl (o : Option KV') : mkSl (optF o) (optD o) = match o with | some kv => .own (fD kv) | none => .val .non := by cases o <;> rfl
section
variable {n : Nat} {kvs : List (NestedKey × D)} {rw : Str → List (List Int)}
/-- one line, by the law -/
theorem t_fill (P : Out → Prop) (pd : D) (io : List Nat) (hio : io = []) (p : Ln) (fs : List KV') (k : Nat) (hk : k ≤ 100) (hF : FOk k fs) (hl : fs.length ≤ 20000) (cols : D) (elook : look kvs (.text p.1) = some (.tup [cols, .tup ((rw p.1).map tI)])) (hr : (rw p.1).length ≤ 5) (hr2 : ∀ r ∈ rw p.1, p.2.length = r.length) (hw : p.2.length ≤ 3)
    (s2 s3 s4 s5 s6 s7 s8 : Sl) (h2 : Hold s2 (.lst (fs.map fD))) :
    Trn (fun ρ => ∃ s2 s3 s4 s5 s6 s7 s8, ρ = [.val (.dic false kvs), .val pd, s2, s3, s4, s5, s6, s7, s8] ∧ s2 = .val (.lst ((stepF rw fs p).map fD))) P
      (forTurn (run T (n + 1)) io (.tp [3, 4]) (.cons (.set 5 (.lst .nil))
  (.cons (.for (.nm 6) (.it (.var 2)) (.cons (.for (.nm 7) (.it (.idx (.e (.idx (.pk 0) (.pk 3))) (.e (.cst (.int 1))))) (.cons (.set 8 (.call 19 (.cons (.e (.var 6)) (.cons (.e (.var 4)) (.cons (.e (.var 7)) .nil)))))
  (.cons (.iff (.e (.e (.cmp .notn (.pk 8) (.e (.cst .non))))) (.cons (.ex (.mu .append 5 (.cons (.e (.var 8)) .nil)))
  .nil) .nil)
  .nil)))
  .nil))
  (.cons (.set 2 (.var 5))
  .nil))) (lineD p) [.val (.dic false kvs), .val pd, s2, s3, s4, s5, s6, s7, s8]) := by
  subst hio
  refine turn_of (ρ1 := [.val (.dic false kvs), .val pd, s2, .val (.str p.1), .val (tI p.2), s5, s6, s7, s8]) (by simp [fin, owns, forTurn, lcTurn, dcTurn, asg, asgs, okTo, exB, exS, evT, evE, evO, evOs, evP, evI, evC, dns, rsv, rsvs, Sl.get, frz1, idxD, sliD, cmpD, eqD, inD, isNon, truD, binD, negD, biD, mtD, muTy, muD, setD, keyOf, keysOf, keyOkB, dicPairs, mkSl, isCont, wipeE, unwipe, itemsD, rngD, isTy, noLck, isOwn, mulOk]) ?_
  refine Go.set (ρ1 := [.val (.dic false kvs), .val pd, s2, .val (.str p.1), .val (tI p.2), s5, s6, s7, s8]) (d0 := .lst []) (fr0 := true) (by simp [fin, owns, forTurn, lcTurn, dcTurn, asg, asgs, okTo, exB, exS, evT, evE, evO, evOs, evP, evI, evC, dns, rsv, rsvs, Sl.get, frz1, idxD, sliD, cmpD, eqD, inD, isNon, truD, binD, negD, biD, mtD, muTy, muD, setD, keyOf, keysOf, keyOkB, dicPairs, mkSl, isCont, wipeE, unwipe, itemsD, rngD, isTy, noLck, isOwn, mulOk]) (by rfl) ?_
  refine Go.each (ρ1 := [.val (.dic false kvs), .val pd, .val (.lst (fs.map fD)), .val (.str p.1), .val (tI p.2), .own (.lst []), s6, s7, s8]) fD fs
    (fun rest ρ => ∃ (acc : List KV') (s6 s7 s8 : Sl), ρ = [.val (.dic false kvs), .val pd, .val (.lst (fs.map fD)), .val (.str p.1), .val (tI p.2), .own (.lst (acc.map fD)), s6, s7, s8] ∧ acc ++ stepF rw rest p = stepF rw fs p ∧ FOk k rest ∧ acc.length + rest.length * 5 ≤ 200000) ?_ rfl
    ⟨[], s6, s7, s8, rfl, rfl, hF, by simp; omega⟩ ?_ ?_
  · rcases h2 with rfl | rfl <;> simp [fin, owns, forTurn, lcTurn, dcTurn, asg, asgs, okTo, exB, exS, evT, evE, evO, evOs, evP, evI, evC, dns, rsv, rsvs, Sl.get, frz1, idxD, sliD, cmpD, eqD, inD, isNon, truD, binD, negD, biD, mtD, muTy, muD, setD, keyOf, keysOf, keyOkB, dicPairs, mkSl, isCont, wipeE, unwipe, itemsD, rngD, isTy, noLck, isOwn, mulOk]
  · rintro f rest ρ ⟨acc, s6, s7, s8, rfl, he, hR, hn⟩
    rw [List.length_cons, Nat.succ_mul] at hn
    have hf := hR f List.mem_cons_self
    refine turn_of (ρ1 := [.val (.dic false kvs), .val pd, .val (.lst (fs.map fD)), .val (.str p.1), .val (tI p.2), .own (.lst (acc.map fD)), .val (fD f), s7, s8]) (by simp [fin, owns, forTurn, lcTurn, dcTurn, asg, asgs, okTo, exB, exS, evT, evE, evO, evOs, evP, evI, evC, dns, rsv, rsvs, Sl.get, frz1, idxD, sliD, cmpD, eqD, inD, isNon, truD, binD, negD, biD, mtD, muTy, muD, setD, keyOf, keysOf, keyOkB, dicPairs, mkSl, isCont, wipeE, unwipe, itemsD, rngD, isTy, noLck, isOwn, mulOk]) ?_
    refine Go.each (ρ1 := [.val (.dic false kvs), .val pd, .val (.lst (fs.map fD)), .val (.str p.1), .val (tI p.2), .own (.lst (acc.map fD)), .val (fD f), s7, s8]) tI (rw p.1)
      (fun rs ρ => ∃ (ac : List KV') (s7 s8 : Sl), ρ = [.val (.dic false kvs), .val pd, .val (.lst (fs.map fD)), .val (.str p.1), .val (tI p.2), .own (.lst (ac.map fD)), .val (fD f), s7, s8] ∧ ac ++ rs.filterMap (fun r => fitGo f p.2 r) = acc ++ (rw p.1).filterMap (fun r => fitGo f p.2 r) ∧ (∀ r ∈ rs, p.2.length = r.length) ∧ ac.length + rs.length ≤ acc.length + 5) ?_ rfl
      ⟨acc, s7, s8, rfl, rfl, hr2, by omega⟩ ?_ ?_
    · simp [fin, owns, forTurn, lcTurn, dcTurn, asg, asgs, okTo, exB, exS, evT, evE, evO, evOs, evP, evI, evC, dns, rsv, rsvs, Sl.get, frz1, idxD, sliD, cmpD, eqD, inD, isNon, truD, binD, negD, biD, mtD, muTy, muD, setD, keyOf, keysOf, keyOkB, dicPairs, mkSl, isCont, wipeE, unwipe, itemsD, rngD, isTy, noLck, isOwn, mulOk, elook, L2.atI, L2.ixN]
    · rintro r rs ρ ⟨ac, s7, s8, rfl, he2, hr3, hn2⟩
      rw [List.length_cons] at hn2
      have hrl := hr3 r List.mem_cons_self
      have hcall := r_fits n f p.2 r hrl hf.1 (by omega)
      refine turn_of (ρ1 := [.val (.dic false kvs), .val pd, .val (.lst (fs.map fD)), .val (.str p.1), .val (tI p.2), .own (.lst (ac.map fD)), .val (fD f), .val (tI r), s8]) (by simp [fin, owns, forTurn, lcTurn, dcTurn, asg, asgs, okTo, exB, exS, evT, evE, evO, evOs, evP, evI, evC, dns, rsv, rsvs, Sl.get, frz1, idxD, sliD, cmpD, eqD, inD, isNon, truD, binD, negD, biD, mtD, muTy, muD, setD, keyOf, keysOf, keyOkB, dicPairs, mkSl, isCont, wipeE, unwipe, itemsD, rngD, isTy, noLck, isOwn, mulOk]) ?_
      refine Go.set (ρ1 := [.val (.dic false kvs), .val pd, .val (.lst (fs.map fD)), .val (.str p.1), .val (tI p.2), .own (.lst (ac.map fD)), .val (fD f), .val (tI r), s8]) (ev_call (ds := [fD f, tI p.2, tI r]) (by simp [fin, owns, forTurn, lcTurn, dcTurn, asg, asgs, okTo, exB, exS, evT, evE, evO, evOs, evP, evI, evC, dns, rsv, rsvs, Sl.get, frz1, idxD, sliD, cmpD, eqD, inD, isNon, truD, binD, negD, biD, mtD, muTy, muD, setD, keyOf, keysOf, keyOkB, dicPairs, mkSl, isCont, wipeE, unwipe, itemsD, rngD, isTy, noLck, isOwn, mulOk]) hcall) (by rfl) ?_
      rw [opt_sl]
      have hz : ac.length < 16777216 := by omega
      cases eo : fitGo f p.2 r with
      | none =>
        refine Go.ifF (ρ1 := [.val (.dic false kvs), .val pd, .val (.lst (fs.map fD)), .val (.str p.1), .val (tI p.2), .own (.lst (ac.map fD)), .val (fD f), .val (tI r), .val .non]) (by simp [fin, owns, forTurn, lcTurn, dcTurn, asg, asgs, okTo, exB, exS, evT, evE, evO, evOs, evP, evI, evC, dns, rsv, rsvs, Sl.get, frz1, idxD, sliD, cmpD, eqD, inD, isNon, truD, binD, negD, biD, mtD, muTy, muD, setD, keyOf, keysOf, keyOkB, dicPairs, mkSl, isCont, wipeE, unwipe, itemsD, rngD, isTy, noLck, isOwn, mulOk]) ?_
        rw [List.filterMap_cons, eo] at he2
        exact Go.nil (Trn.nx ⟨ac, _, _, rfl, he2, fun r hr => hr3 r (List.mem_cons_of_mem _ hr), by omega⟩)
      | some kv' =>
        refine Go.nxt [.val (.dic false kvs), .val pd, .val (.lst (fs.map fD)), .val (.str p.1), .val (tI p.2), .own (.lst ((ac ++ [kv']).map fD)), .val (fD f), .val (tI r), .val (fD kv')] (by simp [fin, owns, forTurn, lcTurn, dcTurn, asg, asgs, okTo, exB, exS, evT, evE, evO, evOs, evP, evI, evC, dns, rsv, rsvs, Sl.get, frz1, idxD, sliD, cmpD, eqD, inD, isNon, truD, binD, negD, biD, mtD, muTy, muD, setD, keyOf, keysOf, keyOkB, dicPairs, mkSl, isCont, wipeE, unwipe, itemsD, rngD, isTy, noLck, isOwn, mulOk, hz]) ?_
        rw [List.filterMap_cons, eo] at he2
        exact Go.nil (Trn.nx ⟨ac ++ [kv'], _, _, rfl, by rw [List.append_assoc]; exact he2, fun r hr => hr3 r (List.mem_cons_of_mem _ hr), by rw [List.length_append]; simp; omega⟩)
    · rintro ρ ⟨ac, s7, s8, rfl, he2, _, hn2⟩
      rw [List.filterMap_nil, List.append_nil] at he2
      refine Go.nil (Trn.nx ⟨ac, _, _, _, rfl, ?_, fun g hg => hR g (List.mem_cons_of_mem _ hg), ?_⟩)
      · rw [he2, List.append_assoc, ← he]
        rfl
      · have : ac.length ≤ acc.length + 5 := by simpa using hn2
        omega
  · rintro ρ ⟨acc, s6, s7, s8, rfl, he, _, _⟩
    rw [show stepF rw [] p = [] from rfl, List.append_nil] at he
    subst he
    refine Go.set (ρ1 := [.val (.dic false kvs), .val pd, .val (.lst (fs.map fD)), .val (.str p.1), .val (tI p.2), .val (.lst ((stepF rw fs p).map fD)), s6, s7, s8]) (d0 := .lst ((stepF rw fs p).map fD)) (fr0 := false) (by simp [fin, owns, forTurn, lcTurn, dcTurn, asg, asgs, okTo, exB, exS, evT, evE, evO, evOs, evP, evI, evC, dns, rsv, rsvs, Sl.get, frz1, idxD, sliD, cmpD, eqD, inD, isNon, truD, binD, negD, biD, mtD, muTy, muD, setD, keyOf, keysOf, keyOkB, dicPairs, mkSl, isCont, wipeE, unwipe, itemsD, rngD, isTy, noLck, isOwn, mulOk]) (by rfl) ?_
    exact Go.nil (Trn.nx ⟨_, _, _, _, _, _, _, rfl, rfl⟩)
end
end L2.PL
end
section
set_option maxRecDepth 100000
set_option maxHeartbeats 2000000
/-! k59, part F: fillings, by way_counts. -/
namespace L2.PL
open PySem
section
variable {n : Nat} {kvs : List (NestedKey × D)} {rw : Str → List (List Int)}
/-- one line, by way_counts -/
theorem t_ways (P : Out → Prop) (pd : D) (io : List Nat) (hio : io = []) (p : Ln) (fs : List KV') (k : Nat) (hk : k ≤ 100) (hF : FOk k fs) (hl : fs.length ≤ 20000) (cols : D) (elook : look kvs (.text p.1) = some (.tup [cols, .tup ((rw p.1).map tI)])) (hr : (rw p.1).length ≤ 5) (hr2 : ∀ r ∈ rw p.1, p.2.length = r.length) (hw : p.2.length ≤ 3)
    (s2 s3 s4 s5 s6 s7 s8 sC sM : Sl) (h2 : Hold s2 (.lst (fs.map fD))) :
    Trn (fun ρ => ∃ s2 s3 s4 s5 s6 s7 s8, ρ = [.val (.dic false kvs), .val pd, s2, sC, s6, s3, s4, s5, s7, s8, sM] ∧ s2 = .val (.lst ((stepF rw fs p).map fD))) P
      (forTurn (run T (n + 1)) io (.tp [5, 6]) (.cons (.set 7 (.lst .nil))
  (.cons (.for (.nm 4) (.it (.var 2)) (.cons (.for (.nm 8) (.it (.idx (.e (.idx (.pk 0) (.pk 5))) (.e (.cst (.int 1))))) (.cons (.set 9 (.call 1 (.cons (.e (.var 4)) (.cons (.e (.var 6)) (.cons (.e (.var 8)) .nil)))))
  (.cons (.iff (.e (.e (.cmp .notn (.pk 9) (.e (.cst .non))))) (.cons (.ex (.mu .append 7 (.cons (.e (.var 9)) .nil)))
  .nil) .nil)
  .nil)))
  .nil))
  (.cons (.set 2 (.var 7))
  .nil))) (lineD p) [.val (.dic false kvs), .val pd, s2, sC, s6, s3, s4, s5, s7, s8, sM]) := by
  subst hio
  refine turn_of (ρ1 := [.val (.dic false kvs), .val pd, s2, sC, s6, .val (.str p.1), .val (tI p.2), s5, s7, s8, sM]) (by simp [fin, owns, forTurn, lcTurn, dcTurn, asg, asgs, okTo, exB, exS, evT, evE, evO, evOs, evP, evI, evC, dns, rsv, rsvs, Sl.get, frz1, idxD, sliD, cmpD, eqD, inD, isNon, truD, binD, negD, biD, mtD, muTy, muD, setD, keyOf, keysOf, keyOkB, dicPairs, mkSl, isCont, wipeE, unwipe, itemsD, rngD, isTy, noLck, isOwn, mulOk]) ?_
  refine Go.set (ρ1 := [.val (.dic false kvs), .val pd, s2, sC, s6, .val (.str p.1), .val (tI p.2), s5, s7, s8, sM]) (d0 := .lst []) (fr0 := true) (by simp [fin, owns, forTurn, lcTurn, dcTurn, asg, asgs, okTo, exB, exS, evT, evE, evO, evOs, evP, evI, evC, dns, rsv, rsvs, Sl.get, frz1, idxD, sliD, cmpD, eqD, inD, isNon, truD, binD, negD, biD, mtD, muTy, muD, setD, keyOf, keysOf, keyOkB, dicPairs, mkSl, isCont, wipeE, unwipe, itemsD, rngD, isTy, noLck, isOwn, mulOk]) (by rfl) ?_
  refine Go.each (ρ1 := [.val (.dic false kvs), .val pd, .val (.lst (fs.map fD)), sC, s6, .val (.str p.1), .val (tI p.2), .own (.lst []), s7, s8, sM]) fD fs
    (fun rest ρ => ∃ (acc : List KV') (s6 s7 s8 : Sl), ρ = [.val (.dic false kvs), .val pd, .val (.lst (fs.map fD)), sC, s6, .val (.str p.1), .val (tI p.2), .own (.lst (acc.map fD)), s7, s8, sM] ∧ acc ++ stepF rw rest p = stepF rw fs p ∧ FOk k rest ∧ acc.length + rest.length * 5 ≤ 200000) ?_ rfl
    ⟨[], s6, s7, s8, rfl, rfl, hF, by simp; omega⟩ ?_ ?_
  · rcases h2 with rfl | rfl <;> simp [fin, owns, forTurn, lcTurn, dcTurn, asg, asgs, okTo, exB, exS, evT, evE, evO, evOs, evP, evI, evC, dns, rsv, rsvs, Sl.get, frz1, idxD, sliD, cmpD, eqD, inD, isNon, truD, binD, negD, biD, mtD, muTy, muD, setD, keyOf, keysOf, keyOkB, dicPairs, mkSl, isCont, wipeE, unwipe, itemsD, rngD, isTy, noLck, isOwn, mulOk]
  · rintro f rest ρ ⟨acc, s6, s7, s8, rfl, he, hR, hn⟩
    rw [List.length_cons, Nat.succ_mul] at hn
    have hf := hR f List.mem_cons_self
    refine turn_of (ρ1 := [.val (.dic false kvs), .val pd, .val (.lst (fs.map fD)), sC, .val (fD f), .val (.str p.1), .val (tI p.2), .own (.lst (acc.map fD)), s7, s8, sM]) (by simp [fin, owns, forTurn, lcTurn, dcTurn, asg, asgs, okTo, exB, exS, evT, evE, evO, evOs, evP, evI, evC, dns, rsv, rsvs, Sl.get, frz1, idxD, sliD, cmpD, eqD, inD, isNon, truD, binD, negD, biD, mtD, muTy, muD, setD, keyOf, keysOf, keyOkB, dicPairs, mkSl, isCont, wipeE, unwipe, itemsD, rngD, isTy, noLck, isOwn, mulOk]) ?_
    refine Go.each (ρ1 := [.val (.dic false kvs), .val pd, .val (.lst (fs.map fD)), sC, .val (fD f), .val (.str p.1), .val (tI p.2), .own (.lst (acc.map fD)), s7, s8, sM]) tI (rw p.1)
      (fun rs ρ => ∃ (ac : List KV') (s7 s8 : Sl), ρ = [.val (.dic false kvs), .val pd, .val (.lst (fs.map fD)), sC, .val (fD f), .val (.str p.1), .val (tI p.2), .own (.lst (ac.map fD)), s7, s8, sM] ∧ ac ++ rs.filterMap (fun r => fitGo f p.2 r) = acc ++ (rw p.1).filterMap (fun r => fitGo f p.2 r) ∧ (∀ r ∈ rs, p.2.length = r.length) ∧ ac.length + rs.length ≤ acc.length + 5) ?_ rfl
      ⟨acc, s7, s8, rfl, rfl, hr2, by omega⟩ ?_ ?_
    · simp [fin, owns, forTurn, lcTurn, dcTurn, asg, asgs, okTo, exB, exS, evT, evE, evO, evOs, evP, evI, evC, dns, rsv, rsvs, Sl.get, frz1, idxD, sliD, cmpD, eqD, inD, isNon, truD, binD, negD, biD, mtD, muTy, muD, setD, keyOf, keysOf, keyOkB, dicPairs, mkSl, isCont, wipeE, unwipe, itemsD, rngD, isTy, noLck, isOwn, mulOk, elook, L2.atI, L2.ixN]
    · rintro r rs ρ ⟨ac, s7, s8, rfl, he2, hr3, hn2⟩
      rw [List.length_cons] at hn2
      have hrl := hr3 r List.mem_cons_self
      have hcall := r_fitted n f p.2 r hrl hf.1 (by omega)
      refine turn_of (ρ1 := [.val (.dic false kvs), .val pd, .val (.lst (fs.map fD)), sC, .val (fD f), .val (.str p.1), .val (tI p.2), .own (.lst (ac.map fD)), .val (tI r), s8, sM]) (by simp [fin, owns, forTurn, lcTurn, dcTurn, asg, asgs, okTo, exB, exS, evT, evE, evO, evOs, evP, evI, evC, dns, rsv, rsvs, Sl.get, frz1, idxD, sliD, cmpD, eqD, inD, isNon, truD, binD, negD, biD, mtD, muTy, muD, setD, keyOf, keysOf, keyOkB, dicPairs, mkSl, isCont, wipeE, unwipe, itemsD, rngD, isTy, noLck, isOwn, mulOk]) ?_
      refine Go.set (ρ1 := [.val (.dic false kvs), .val pd, .val (.lst (fs.map fD)), sC, .val (fD f), .val (.str p.1), .val (tI p.2), .own (.lst (ac.map fD)), .val (tI r), s8, sM]) (ev_call (ds := [fD f, tI p.2, tI r]) (by simp [fin, owns, forTurn, lcTurn, dcTurn, asg, asgs, okTo, exB, exS, evT, evE, evO, evOs, evP, evI, evC, dns, rsv, rsvs, Sl.get, frz1, idxD, sliD, cmpD, eqD, inD, isNon, truD, binD, negD, biD, mtD, muTy, muD, setD, keyOf, keysOf, keyOkB, dicPairs, mkSl, isCont, wipeE, unwipe, itemsD, rngD, isTy, noLck, isOwn, mulOk]) hcall) (by rfl) ?_
      rw [opt_sl]
      have hz : ac.length < 16777216 := by omega
      cases eo : fitGo f p.2 r with
      | none =>
        refine Go.ifF (ρ1 := [.val (.dic false kvs), .val pd, .val (.lst (fs.map fD)), sC, .val (fD f), .val (.str p.1), .val (tI p.2), .own (.lst (ac.map fD)), .val (tI r), .val .non, sM]) (by simp [fin, owns, forTurn, lcTurn, dcTurn, asg, asgs, okTo, exB, exS, evT, evE, evO, evOs, evP, evI, evC, dns, rsv, rsvs, Sl.get, frz1, idxD, sliD, cmpD, eqD, inD, isNon, truD, binD, negD, biD, mtD, muTy, muD, setD, keyOf, keysOf, keyOkB, dicPairs, mkSl, isCont, wipeE, unwipe, itemsD, rngD, isTy, noLck, isOwn, mulOk]) ?_
        rw [List.filterMap_cons, eo] at he2
        exact Go.nil (Trn.nx ⟨ac, _, _, rfl, he2, fun r hr => hr3 r (List.mem_cons_of_mem _ hr), by omega⟩)
      | some kv' =>
        refine Go.nxt [.val (.dic false kvs), .val pd, .val (.lst (fs.map fD)), sC, .val (fD f), .val (.str p.1), .val (tI p.2), .own (.lst ((ac ++ [kv']).map fD)), .val (tI r), .val (fD kv'), sM] (by simp [fin, owns, forTurn, lcTurn, dcTurn, asg, asgs, okTo, exB, exS, evT, evE, evO, evOs, evP, evI, evC, dns, rsv, rsvs, Sl.get, frz1, idxD, sliD, cmpD, eqD, inD, isNon, truD, binD, negD, biD, mtD, muTy, muD, setD, keyOf, keysOf, keyOkB, dicPairs, mkSl, isCont, wipeE, unwipe, itemsD, rngD, isTy, noLck, isOwn, mulOk, hz]) ?_
        rw [List.filterMap_cons, eo] at he2
        exact Go.nil (Trn.nx ⟨ac ++ [kv'], _, _, rfl, by rw [List.append_assoc]; exact he2, fun r hr => hr3 r (List.mem_cons_of_mem _ hr), by rw [List.length_append]; simp; omega⟩)
    · rintro ρ ⟨ac, s7, s8, rfl, he2, _, hn2⟩
      rw [List.filterMap_nil, List.append_nil] at he2
      refine Go.nil (Trn.nx ⟨ac, _, _, _, rfl, ?_, fun g hg => hR g (List.mem_cons_of_mem _ hg), ?_⟩)
      · rw [he2, List.append_assoc, ← he]
        rfl
      · have : ac.length ≤ acc.length + 5 := by simpa using hn2
        omega
  · rintro ρ ⟨acc, s6, s7, s8, rfl, he, _, _⟩
    rw [show stepF rw [] p = [] from rfl, List.append_nil] at he
    subst he
    refine Go.set (ρ1 := [.val (.dic false kvs), .val pd, .val (.lst (fs.map fD)), sC, s6, .val (.str p.1), .val (tI p.2), .val (.lst ((stepF rw fs p).map fD)), s7, s8, sM]) (d0 := .lst ((stepF rw fs p).map fD)) (fr0 := false) (by simp [fin, owns, forTurn, lcTurn, dcTurn, asg, asgs, okTo, exB, exS, evT, evE, evO, evOs, evP, evI, evC, dns, rsv, rsvs, Sl.get, frz1, idxD, sliD, cmpD, eqD, inD, isNon, truD, binD, negD, biD, mtD, muTy, muD, setD, keyOf, keysOf, keyOkB, dicPairs, mkSl, isCont, wipeE, unwipe, itemsD, rngD, isTy, noLck, isOwn, mulOk]) (by rfl) ?_
    exact Go.nil (Trn.nx ⟨_, _, _, _, _, _, _, rfl, rfl⟩)
end
end L2.PL
end
section
set_option maxRecDepth 100000
set_option maxHeartbeats 2000000
/-! k59, part G: counts. -/
namespace L2.PL
open PySem
section
variable {n : Nat} {kvs : List (NestedKey × D)} {rw : Str → List (List Int)}
theorem TabOk.tail {p : Ln} {ls : List Ln} (h : TabOk kvs rw (p :: ls)) : TabOk kvs rw ls := ⟨by have := h.few; simp at this; omega, fun q hq => h.look q (List.mem_cons_of_mem _ hq), fun q hq => h.rows q (List.mem_cons_of_mem _ hq), fun q hq => h.wide q (List.mem_cons_of_mem _ hq)⟩
theorem pow5 {k : Nat} (h : k ≤ 6) : 5 ^ k ≤ 15625 := by
  have : k = 0 ∨ k = 1 ∨ k = 2 ∨ k = 3 ∨ k = 4 ∨ k = 5 ∨ k = 6 := by omega
  rcases this with rfl | rfl | rfl | rfl | rfl | rfl | rfl <;> decide
theorem fills_ok : ∀ {ls : List Ln} {fs : List KV'} {k m : Nat}, TabOk kvs rw ls → FOk k fs → fs.length ≤ m → FOk (k + 3 * ls.length) (fills rw ls fs) ∧ (fills rw ls fs).length ≤ m * 5 ^ ls.length
  | [], fs, k, m, _, h, hl => ⟨by simpa [fills] using h, by simpa [fills] using hl⟩
  | p :: ls, fs, k, m, t, h, hl => by
    have h1 := step_ok (rw := rw) h (t.wide p List.mem_cons_self)
    have h2 := step_len (fs := fs) (t.rows p List.mem_cons_self).1
    obtain ⟨q1, q2⟩ := fills_ok (m := m * 5) t.tail h1 (Nat.le_trans h2 (Nat.mul_le_mul_right 5 hl))
    refine ⟨?_, ?_⟩
    · have e : k + 3 * (p :: ls).length = k + 3 + 3 * ls.length := by rw [List.length_cons]; omega
      rw [e]; exact q1
    · have e : m * 5 ^ (p :: ls).length = m * 5 * 5 ^ ls.length := by rw [List.length_cons, Nat.pow_succ]; rw [Nat.mul_assoc, Nat.mul_comm (5 ^ ls.length) 5]
      rw [e]; exact q2
/-- all fillings from nothing -/
abbrev allF (rw : Str → List (List Int)) (ls : List Ln) : List KV' := fills rw ls [[]]
theorem allF_ok {ls : List Ln} (t : TabOk kvs rw ls) : FOk 18 (allF rw ls) ∧ (allF rw ls).length ≤ 15625 := by
  obtain ⟨h1, h2⟩ := fills_ok (fs := [[]]) (k := 0) (m := 1) t (fun f hf => by rw [List.mem_singleton] at hf; subst hf; exact ⟨List.nodup_nil, Nat.le_refl _⟩) (by simp)
  have h3 := pow5 t.few
  have h4 := t.few
  exact ⟨fun f hf => ⟨(h1 f hf).1, by have := (h1 f hf).2; omega⟩, by rw [Nat.one_mul] at h2; exact Nat.le_trans h2 h3⟩
theorem bign (k : Nat) (h : k ≤ 10000000) : k ≤ bigN := by show k ≤ 16777216; omega
/-- the lines in turn: T is one line's turn -/
theorem t_lines {P : Out → Prop} {turn : D → EV → Out} (N : List KV' → EV → Prop) (step : ∀ (p : Ln) (fs : List KV') (k : Nat) (ρ : EV), k ≤ 100 → FOk k fs → fs.length ≤ 20000 → (∃ cols, look kvs (.text p.1) = some (.tup [cols, .tup ((rw p.1).map tI)])) → (rw p.1).length ≤ 5 → (∀ r ∈ rw p.1, p.2.length = r.length) → p.2.length ≤ 3 → N fs ρ → Trn (N (stepF rw fs p)) P (turn (lineD p) ρ))
    {ls : List Ln} (t : TabOk kvs rw ls) : ∀ (p : Ln) (rest : List Ln) (ρ : EV), (∃ (pre : List Ln) (fs : List KV'), ls = pre ++ p :: rest ∧ fs = allF rw pre ∧ N fs ρ) → Trn (fun ρ => ∃ (pre : List Ln) (fs : List KV'), ls = pre ++ rest ∧ fs = allF rw pre ∧ N fs ρ) P (turn (lineD p) ρ) := by
  rintro p rest ρ ⟨pre, fs, e, rfl, h⟩
  have hm : p ∈ ls := by rw [e]; simp
  have tp : TabOk kvs rw pre := ⟨by have := t.few; rw [e] at this; simp at this; omega, fun q hq => t.look q (by rw [e]; simp [hq]), fun q hq => t.rows q (by rw [e]; simp [hq]), fun q hq => t.wide q (by rw [e]; simp [hq])⟩
  obtain ⟨h1, h2⟩ := allF_ok tp
  rcases step p _ 18 ρ (by omega) h1 (by omega) (t.look p hm) (t.rows p hm).1 (t.rows p hm).2 (t.wide p hm) h with ⟨ρ', e1, q⟩ | q
  · refine .inl ⟨ρ', e1, pre ++ [p], _, by rw [e]; simp, ?_, q⟩
    simp [allF, fills]
  · exact .inr q
theorem r_fillings (pt : Pat) (t : TabOk kvs rw pt.lines) : AnsE (run T (n + 2) 20 [.val (.dic false kvs), .val (patD pt)]) (.lst ((allF rw pt.lines).map fD)) := by
  refine Go.runE (df := df20) rfl rfl ?_
  refine Go.set (ρ1 := [.val (.dic false kvs), .val (patD pt), .un, .un, .un, .un, .un, .un, .un]) (d0 := .lst [fD []]) (fr0 := true) (by simp [fin, owns, forTurn, lcTurn, dcTurn, asg, asgs, okTo, exB, exS, evT, evE, evO, evOs, evP, evI, evC, dns, rsv, rsvs, Sl.get, frz1, idxD, sliD, cmpD, eqD, inD, isNon, truD, binD, negD, biD, mtD, muTy, muD, setD, keyOf, keysOf, keyOkB, dicPairs, mkSl, isCont, wipeE, unwipe, itemsD, rngD, isTy, noLck, isOwn, mulOk, df20, dI, mrg, bign]) (by rfl) ?_
  refine Go.each (ρ1 := [.val (.dic false kvs), .val (patD pt), .own (.lst [fD []]), .un, .un, .un, .un, .un, .un]) lineD pt.lines
    (fun rest ρ => ∃ (pre : List Ln) (fs : List KV'), pt.lines = pre ++ rest ∧ fs = allF rw pre ∧ ∃ s2 s3 s4 s5 s6 s7 s8, ρ = [.val (.dic false kvs), .val (patD pt), s2, s3, s4, s5, s6, s7, s8] ∧ Hold s2 (.lst (fs.map fD))) (by simp [fin, owns, forTurn, lcTurn, dcTurn, asg, asgs, okTo, exB, exS, evT, evE, evO, evOs, evP, evI, evC, dns, rsv, rsvs, Sl.get, frz1, idxD, sliD, cmpD, eqD, inD, isNon, truD, binD, negD, biD, mtD, muTy, muD, setD, keyOf, keysOf, keyOkB, dicPairs, mkSl, isCont, wipeE, unwipe, itemsD, rngD, isTy, noLck, isOwn, mulOk, L2.atI, L2.ixN]) rfl
    ⟨[], _, rfl, rfl, _, _, _, _, _, _, _, rfl, .inl rfl⟩ ?_ ?_
  · refine t_lines (fun fs ρ => ∃ s2 s3 s4 s5 s6 s7 s8, ρ = [.val (.dic false kvs), .val (patD pt), s2, s3, s4, s5, s6, s7, s8] ∧ Hold s2 (.lst (fs.map fD))) ?_ t
    rintro p fs k ρ hk hF hl ⟨cols, el⟩ hr hr2 hw ⟨s2, s3, s4, s5, s6, s7, s8, rfl, h2⟩
    rcases t_fill (n := n) (fun o => AnsE (fin [.val (.dic false kvs), .val (patD pt)] o) (.lst ((allF rw pt.lines).map fD))) (patD pt) _ rfl p fs k hk hF hl cols el hr hr2 hw s2 s3 s4 s5 s6 s7 s8 h2 with ⟨ρ', e, s2', q3, q4, q5, q6, q7, q8, e2, e3⟩ | q
    · exact .inl ⟨ρ', e, s2', q3, q4, q5, q6, q7, q8, e2, .inr e3⟩
    · exact .inr q
  · rintro ρ ⟨pre, fs, e, rfl, s2, s3, s4, s5, s6, s7, s8, rfl, h2⟩
    rw [List.append_nil] at e
    subst e
    rcases h2 with rfl | rfl
    · exact Go.retO rfl rfl ansE_ret
    · exact Go.retv rfl ansE_ret
end
end L2.PL
end
section
set_option maxRecDepth 100000
set_option maxHeartbeats 2000000
/-! k59, part I: counts. -/
namespace L2.PL
open PySem
abbrev CV := List (List Int × Int)
def tk (l : List Int) : NestedKey := .tup (l.map .num)
def dC (cs : CV) : List (NestedKey × D) := cs.map fun p => (tk p.1, .int p.2)
theorem keysOf_ints : ∀ l : List Int, keysOf (l.map D.int) = some (l.map .num)
  | [] => rfl
  | x :: l => by simp [keysOf, keyOf, keysOf_ints l]
theorem keyOf_tI (l : List Int) : keyOf (tI l) = some (tk l) := by simp [keyOf, keysOf_ints, tk]
theorem depth_nums : ∀ l : List Int, NestedKey.depthAll (l.map .num) ≤ 1
  | [] => by simp [NestedKey.depthAll]
  | x :: l => by
    have := depth_nums l
    simp [NestedKey.depthAll, NestedKey.depth]
    omega
theorem ok_tk (l : List Int) : keyOkB true (tk l) = true := by
  have := depth_nums l
  simp [keyOkB, tk, NestedKey.depth]
  omega
theorem nums_inj : ∀ {a b : List Int}, a.map NestedKey.num = b.map NestedKey.num → a = b
  | [], [], _ => rfl
  | [], _ :: _, h => by simp at h
  | _ :: _, [], h => by simp at h
  | x :: a, y :: b, h => by
    simp at h
    rw [h.1, nums_inj h.2]
theorem tk_inj {a b : List Int} (h : tk a = tk b) : a = b := by
  unfold tk at h
  have h := NestedKey.tup.inj h
  exact nums_inj h
def lookC (cs : CV) (k : List Int) : Option Int := (cs.find? fun p => decide (p.1 = k)).map (·.2)
theorem look_dC (k : List Int) : ∀ cs : CV, look (dC cs) (tk k) = (lookC cs k).map .int
  | [] => rfl
  | (a, b) :: cs => by
    have ih := look_dC k cs
    unfold look dC lookC at *
    by_cases e : a = k
    · subst e; simp
    · have e' : ¬ tk a = tk k := fun z => e (tk_inj z)
      simp [e, e'] at ih ⊢
      exact ih
def putC (cs : CV) (k : List Int) (v : Int) : CV := if (lookC cs k).isSome then cs.map fun p => if p.1 = k then (p.1, v) else p else cs ++ [(k, v)]
theorem put_dC (cs : CV) (k : List Int) (v : Int) : put (dC cs) (tk k) (.int v) = dC (putC cs k v) := by
  unfold put putC
  rw [look_dC]
  cases h : (lookC cs k) with
  | none => simp [dC]
  | some w =>
    simp only [Option.map_some, Option.isSome_some, if_true, dC, List.map_map]
    apply List.map_congr_left
    intro p _
    simp only [Function.comp]
    by_cases e : p.1 = k
    · subst e; simp
    · have e' : ¬ tk p.1 = tk k := fun z => e (tk_inj z)
      simp [e, e']
def bump (cs : CV) (k : List Int) : CV := putC cs k ((lookC cs k).getD 0 + 1)
theorem bump_len (cs : CV) (k : List Int) : (bump cs k).length ≤ cs.length + 1 := by
  unfold bump putC
  split
  · rw [List.length_map]; omega
  · rw [List.length_append, List.length_singleton]; exact Nat.le_refl _
def rowOf (f : KV') (told : List Int) : List Int := told.map fun m => if 0 ≤ m then m else (f.lookup m).getD 0
def counts (fs : List KV') (told : List Int) : CV := (fs.map fun f => rowOf f told).foldl bump []
/-- the told marks are bound by every filling -/
def Bnd (fs : List KV') (told : List Int) : Prop := ∀ f ∈ fs, ∀ m ∈ told, m < 0 → (f.lookup m).isSome = true
section
variable {n : Nat} {kvs : List (NestedKey × D)} {rw : Str → List (List Int)}
theorem bound_val {f : KV'} {told : List Int} (h : ∀ m ∈ told, m < 0 → (f.lookup m).isSome = true) {m : Int} (hm : m ∈ told) (h0 : m < 0) : f.lookup m = some ((f.lookup m).getD 0) := by
  have := h m hm h0
  cases e : f.lookup m with
  | none => rw [e] at this; cases this
  | some v => rfl
theorem r_ways (pt : Pat) (t : TabOk kvs rw pt.lines) (hb : Bnd (allF rw pt.lines) pt.told) (ht : pt.told.length ≤ 1000) : Ans (run T (n + 2) 2 [.val (.dic false kvs), .val (patD pt)]) (.dic true (dC (counts (allF rw pt.lines) pt.told))) true := by
  refine Go.run (df := df2) rfl rfl ?_
  refine Go.set (ρ1 := [.val (.dic false kvs), .val (patD pt), .un, .un, .un, .un, .un, .un, .un, .un, .un]) (d0 := .lst [fD []]) (fr0 := true) (by simp [fin, owns, forTurn, lcTurn, dcTurn, asg, asgs, okTo, exB, exS, evT, evE, evO, evOs, evP, evI, evC, dns, rsv, rsvs, Sl.get, frz1, idxD, sliD, cmpD, eqD, inD, isNon, truD, binD, negD, biD, mtD, muTy, muD, setD, keyOf, keysOf, keyOkB, dicPairs, mkSl, isCont, wipeE, unwipe, itemsD, rngD, isTy, noLck, isOwn, mulOk, df2, dI, mrg, bign]) (by rfl) ?_
  refine Go.each (ρ1 := [.val (.dic false kvs), .val (patD pt), .own (.lst [fD []]), .un, .un, .un, .un, .un, .un, .un, .un]) lineD pt.lines
    (fun rest ρ => ∃ (pre : List Ln) (fs : List KV'), pt.lines = pre ++ rest ∧ fs = allF rw pre ∧ ∃ s2 sC s3 s4 s5 s6 s7 s8 sM, ρ = [.val (.dic false kvs), .val (patD pt), s2, sC, s3, s4, s5, s6, s7, s8, sM] ∧ Hold s2 (.lst (fs.map fD))) (by simp [fin, owns, forTurn, lcTurn, dcTurn, asg, asgs, okTo, exB, exS, evT, evE, evO, evOs, evP, evI, evC, dns, rsv, rsvs, Sl.get, frz1, idxD, sliD, cmpD, eqD, inD, isNon, truD, binD, negD, biD, mtD, muTy, muD, setD, keyOf, keysOf, keyOkB, dicPairs, mkSl, isCont, wipeE, unwipe, itemsD, rngD, isTy, noLck, isOwn, mulOk, L2.atI, L2.ixN]) rfl
    ⟨[], _, rfl, rfl, _, _, _, _, _, _, _, _, _, rfl, .inl rfl⟩ ?_ ?_
  · refine t_lines (fun fs ρ => ∃ s2 sC s3 s4 s5 s6 s7 s8 sM, ρ = [.val (.dic false kvs), .val (patD pt), s2, sC, s3, s4, s5, s6, s7, s8, sM] ∧ Hold s2 (.lst (fs.map fD))) ?_ t
    rintro p fs k ρ hk hF hl ⟨cols, el⟩ hr hr2 hw ⟨s2, sC, s3, s4, s5, s6, s7, s8, sM, rfl, h2⟩
    rcases t_ways (n := n) (fun o => Ans (fin [.val (.dic false kvs), .val (patD pt)] o) (.dic true (dC (counts (allF rw pt.lines) pt.told))) true) (patD pt) _ rfl p fs k hk hF hl cols el hr hr2 hw s2 s4 s5 s6 s3 s7 s8 sC sM h2 with ⟨ρ', e, s2', q3, q4, q5, q6, q7, q8, e2, e3⟩ | q
    · exact .inl ⟨ρ', e, s2', _, _, _, _, _, _, _, _, e2, .inr e3⟩
    · exact .inr q
  · rintro ρ ⟨pre, fs, e, rfl, s2, sC, s3, s4, s5, s6, s7, s8, sM, rfl, h2⟩
    rw [List.append_nil] at e
    subst e
    obtain ⟨ok, len⟩ := allF_ok t
    refine Go.set (ρ1 := [.val (.dic false kvs), .val (patD pt), s2, sC, s3, s4, s5, s6, s7, s8, sM]) (d0 := .dic true []) (fr0 := true) (by simp [fin, owns, forTurn, lcTurn, dcTurn, asg, asgs, okTo, exB, exS, evT, evE, evO, evOs, evP, evI, evC, dns, rsv, rsvs, Sl.get, frz1, idxD, sliD, cmpD, eqD, inD, isNon, truD, binD, negD, biD, mtD, muTy, muD, setD, keyOf, keysOf, keyOkB, dicPairs, mkSl, isCont, wipeE, unwipe, itemsD, rngD, isTy, noLck, isOwn, mulOk, mrg]) (by rfl) ?_
    refine Go.each (ρ1 := [.val (.dic false kvs), .val (patD pt), .val (.lst ((allF rw pt.lines).map fD)), .own (.dic true []), s3, s4, s5, s6, s7, s8, sM]) fD (allF rw pt.lines)
      (fun rest ρ => ∃ (cs : CV) (s3 s4 s5 s6 s7 s8 sM : Sl), ρ = [.val (.dic false kvs), .val (patD pt), .val (.lst ((allF rw pt.lines).map fD)), .own (.dic true (dC cs)), s3, s4, s5, s6, s7, s8, sM] ∧ (rest.map fun f => rowOf f pt.told).foldl bump cs = counts (allF rw pt.lines) pt.told ∧ Bnd rest pt.told ∧ cs.length + rest.length ≤ 15625) ?_ rfl
      ⟨[], s3, s4, s5, s6, s7, s8, sM, rfl, rfl, hb, by simpa using len⟩ ?_ ?_
    · rcases h2 with rfl | rfl <;> simp [fin, owns, forTurn, lcTurn, dcTurn, asg, asgs, okTo, exB, exS, evT, evE, evO, evOs, evP, evI, evC, dns, rsv, rsvs, Sl.get, frz1, idxD, sliD, cmpD, eqD, inD, isNon, truD, binD, negD, biD, mtD, muTy, muD, setD, keyOf, keysOf, keyOkB, dicPairs, mkSl, isCont, wipeE, unwipe, itemsD, rngD, isTy, noLck, isOwn, mulOk]
    · rintro f rest ρ ⟨cs, s3, s4, s5, s6, s7, s8, sM, rfl, he, hB, hn⟩
      rw [List.length_cons] at hn
      have hf := hB f List.mem_cons_self
      refine turn_of (ρ1 := [.val (.dic false kvs), .val (patD pt), .val (.lst ((allF rw pt.lines).map fD)), .own (.dic true (dC cs)), .val (fD f), s4, s5, s6, s7, s8, sM]) (by simp [fin, owns, forTurn, lcTurn, dcTurn, asg, asgs, okTo, exB, exS, evT, evE, evO, evOs, evP, evI, evC, dns, rsv, rsvs, Sl.get, frz1, idxD, sliD, cmpD, eqD, inD, isNon, truD, binD, negD, biD, mtD, muTy, muD, setD, keyOf, keysOf, keyOkB, dicPairs, mkSl, isCont, wipeE, unwipe, itemsD, rngD, isTy, noLck, isOwn, mulOk]) ?_
      have hlc : evE (run T (n + 1)) (owns 0 [.val (.dic false kvs), .val (patD pt)]) (.lc [10] (.nm 10) (.it (.idx (.pk 1) (.e (.cst (.int 1))))) .no (.call 0 (.cons (.e (.var 4)) (.cons (.e (.var 10)) .nil)))) [.val (.dic false kvs), .val (patD pt), .val (.lst ((allF rw pt.lines).map fD)), .own (.dic true (dC cs)), .val (fD f), s4, s5, s6, s7, s8, sM]
          = some (.lst ((rowOf f pt.told).map .int), true, [.val (.dic false kvs), .val (patD pt), .val (.lst ((allF rw pt.lines).map fD)), .own (.dic true (dC cs)), .val (fD f), s4, s5, s6, s7, s8, sM]) := by
        have e1 := lcGo_encM (turn := lcTurn (run T (n + 1)) (owns 0 [.val (.dic false kvs), .val (patD pt)]) [10] (.nm 10) .no (.call 0 (.cons (.e (.var 4)) (.cons (.e (.var 10)) .nil)))) (ρ := [.val (.dic false kvs), .val (patD pt), .val (.lst ((allF rw pt.lines).map fD)), .own (.dic true (dC cs)), .val (fD f), s4, s5, s6, s7, s8, .un])
          D.int (fun m => .int (if 0 ≤ m then m else (f.lookup m).getD 0)) pt.told (fun m hm => by
            have hc := ev_call (io := []) (es := .cons (.e (.var 4)) (.cons (.e (.var 10)) .nil)) (ρ := [.val (.dic false kvs), .val (patD pt), .val (.lst ((allF rw pt.lines).map fD)), .own (.dic true (dC cs)), .val (fD f), s4, s5, s6, s7, s8, .val (.int m)]) (ρ1 := [.val (.dic false kvs), .val (patD pt), .val (.lst ((allF rw pt.lines).map fD)), .own (.dic true (dC cs)), .val (fD f), s4, s5, s6, s7, s8, .val (.int m)])
              (ds := [fD f, .int m]) (by simp [fin, owns, forTurn, lcTurn, dcTurn, asg, asgs, okTo, exB, exS, evT, evE, evO, evOs, evP, evI, evC, dns, rsv, rsvs, Sl.get, frz1, idxD, sliD, cmpD, eqD, inD, isNon, truD, binD, negD, biD, mtD, muTy, muD, setD, keyOf, keysOf, keyOkB, dicPairs, mkSl, isCont, wipeE, unwipe, itemsD, rngD, isTy, noLck, isOwn, mulOk]) (r_worth n f m _ fun h0 => bound_val hf hm h0)
            unfold lcTurn
            simp only [asg, okTo, owns]
            simp [hc, evC, wipeE]) (bign _ (by omega))
        have e2 := ev_lc (it := .it (.idx (.pk 1) (.e (.cst (.int 1))))) (ρ := [.val (.dic false kvs), .val (patD pt), .val (.lst ((allF rw pt.lines).map fD)), .own (.dic true (dC cs)), .val (fD f), s4, s5, s6, s7, s8, sM]) (ρ1 := [.val (.dic false kvs), .val (patD pt), .val (.lst ((allF rw pt.lines).map fD)), .own (.dic true (dC cs)), .val (fD f), s4, s5, s6, s7, s8, sM]) (by simp [fin, owns, forTurn, lcTurn, dcTurn, asg, asgs, okTo, exB, exS, evT, evE, evO, evOs, evP, evI, evC, dns, rsv, rsvs, Sl.get, frz1, idxD, sliD, cmpD, eqD, inD, isNon, truD, binD, negD, biD, mtD, muTy, muD, setD, keyOf, keysOf, keyOkB, dicPairs, mkSl, isCont, wipeE, unwipe, itemsD, rngD, isTy, noLck, isOwn, mulOk, L2.atI, L2.ixN]) (by rfl) e1
        rw [e2]
        simp [rowOf, unwipe, Function.comp]
      refine Go.set (ρ1 := [.val (.dic false kvs), .val (patD pt), .val (.lst ((allF rw pt.lines).map fD)), .own (.dic true (dC cs)), .val (fD f), s4, s5, s6, s7, s8, sM]) (d0 := tI (rowOf f pt.told)) (fr0 := true) ?_ (by rfl) ?_
      · rw [evE, evO, hlc]
        simp [rsv, biD]
      · have hz : (dC cs).length < 16777216 := by simp [dC]; omega
        have kk := keyOf_tI (rowOf f pt.told)
        have ok := ok_tk (rowOf f pt.told)
        refine Go.nxt [.val (.dic false kvs), .val (patD pt), .val (.lst ((allF rw pt.lines).map fD)), .own (.dic true (dC (bump cs (rowOf f pt.told)))), .val (fD f), s4, s5, s6, .val (tI (rowOf f pt.told)), s8, sM] ?_ ?_
        · have hgd : ((Option.map D.int (lookC cs (rowOf f pt.told))).getD (.int 0)) = .int ((lookC cs (rowOf f pt.told)).getD 0) := by cases lookC cs (rowOf f pt.told) <;> rfl
          simp only [exS, evE, evO, evOs, rsv, dns, Sl.get, frz1, mtD, setD, binD, List.getElem?_cons_succ, List.getElem?_cons_zero, mkSl, isCont, Bool.and_false, Bool.false_eq_true, if_false, List.set_cons_succ, List.set_cons_zero, Option.map_some, kk, ok, if_true, look_dC, hgd, hz, decide_true, Bool.and_self, put_dC, bump, Bool.true_and]
        · exact Go.nil (Trn.nx ⟨bump cs (rowOf f pt.told), _, _, _, _, _, _, _, rfl, he, fun g hg => hB g (List.mem_cons_of_mem _ hg), by have := bump_len cs (rowOf f pt.told); omega⟩)
    · rintro ρ ⟨cs, s3, s4, s5, s6, s7, s8, sM, rfl, he, _, _⟩
      have he : cs = counts (allF rw pt.lines) pt.told := he
      subst he
      exact Go.retO rfl rfl ans_ret
end
end L2.PL
end
section
set_option maxRecDepth 100000
set_option maxHeartbeats 2000000
/-! k59, part J: counts by the law, sums, sameness. -/
namespace L2.PL
open PySem
section
variable {n : Nat} {kvs : List (NestedKey × D)} {rw : Str → List (List Int)}
theorem r_counted (pt : Pat) (t : TabOk kvs rw pt.lines) (hb : Bnd (allF rw pt.lines) pt.told) (ht : pt.told.length ≤ 1000) : Ans (run T (n + 3) 29 [.val (.dic false kvs), .val (patD pt)]) (.dic true (dC (counts (allF rw pt.lines) pt.told))) true := by
  obtain ⟨ok, len⟩ := allF_ok t
  obtain ⟨frF, hfill⟩ := r_fillings (n := n) pt t
  refine Go.run (df := df29) rfl rfl ?_
  refine Go.set (ρ1 := [.val (.dic false kvs), .val (patD pt), .un, .un, .un, .un]) (d0 := .dic true []) (fr0 := true) (by simp [fin, owns, forTurn, lcTurn, dcTurn, asg, asgs, okTo, exB, exS, evT, evE, evO, evOs, evP, evI, evC, dns, rsv, rsvs, Sl.get, frz1, idxD, sliD, cmpD, eqD, inD, isNon, truD, binD, negD, biD, mtD, muTy, muD, setD, keyOf, keysOf, keyOkB, dicPairs, mkSl, isCont, wipeE, unwipe, itemsD, rngD, isTy, noLck, isOwn, mulOk, df29, mrg]) (by rfl) ?_
  refine Go.each (ρ1 := [.val (.dic false kvs), .val (patD pt), .own (.dic true []), .un, .un, .un]) fD (allF rw pt.lines)
    (fun rest ρ => ∃ (cs : CV) (s3 s4 s5 : Sl), ρ = [.val (.dic false kvs), .val (patD pt), .own (.dic true (dC cs)), s3, s4, s5] ∧ (rest.map fun f => rowOf f pt.told).foldl bump cs = counts (allF rw pt.lines) pt.told ∧ Bnd rest pt.told ∧ cs.length + rest.length ≤ 15625) ?_ rfl
    ⟨[], _, _, _, rfl, rfl, hb, by simpa using len⟩ ?_ ?_
  · have hc := ev_call (io := []) (es := .cons (.e (.var 0)) (.cons (.e (.var 1)) .nil)) (ρ := [.val (.dic false kvs), .val (patD pt), .own (.dic true []), .un, .un, .un]) (ρ1 := [.val (.dic false kvs), .val (patD pt), .own (.dic true []), .un, .un, .un]) (ds := [.dic false kvs, patD pt]) (by simp [fin, owns, forTurn, lcTurn, dcTurn, asg, asgs, okTo, exB, exS, evT, evE, evO, evOs, evP, evI, evC, dns, rsv, rsvs, Sl.get, frz1, idxD, sliD, cmpD, eqD, inD, isNon, truD, binD, negD, biD, mtD, muTy, muD, setD, keyOf, keysOf, keyOkB, dicPairs, mkSl, isCont, wipeE, unwipe, itemsD, rngD, isTy, noLck, isOwn, mulOk]) hfill
    exact ev_it hc rfl
  · rintro f rest ρ ⟨cs, s3, s4, s5, rfl, he, hB, hn⟩
    rw [List.length_cons] at hn
    have hf := hB f List.mem_cons_self
    refine turn_of (ρ1 := [.val (.dic false kvs), .val (patD pt), .own (.dic true (dC cs)), .val (fD f), s4, s5]) (by simp [fin, owns, forTurn, lcTurn, dcTurn, asg, asgs, okTo, exB, exS, evT, evE, evO, evOs, evP, evI, evC, dns, rsv, rsvs, Sl.get, frz1, idxD, sliD, cmpD, eqD, inD, isNon, truD, binD, negD, biD, mtD, muTy, muD, setD, keyOf, keysOf, keyOkB, dicPairs, mkSl, isCont, wipeE, unwipe, itemsD, rngD, isTy, noLck, isOwn, mulOk]) ?_
    have hlc : evE (run T (n + 2)) (owns 0 [.val (.dic false kvs), .val (patD pt)]) (.lc [5] (.nm 5) (.it (.idx (.pk 1) (.e (.cst (.int 1))))) .no (.ite (.e (.e (.cmp .ge (.pk 5) (.e (.cst (.int 0)))))) (.var 5) (.idx (.pk 3) (.pk 5)))) [.val (.dic false kvs), .val (patD pt), .own (.dic true (dC cs)), .val (fD f), s4, s5]
        = some (.lst ((rowOf f pt.told).map .int), true, [.val (.dic false kvs), .val (patD pt), .own (.dic true (dC cs)), .val (fD f), s4, s5]) := by
      have e1 := lcGo_encM (turn := lcTurn (run T (n + 2)) (owns 0 [.val (.dic false kvs), .val (patD pt)]) [5] (.nm 5) .no (.ite (.e (.e (.cmp .ge (.pk 5) (.e (.cst (.int 0)))))) (.var 5) (.idx (.pk 3) (.pk 5)))) (ρ := [.val (.dic false kvs), .val (patD pt), .own (.dic true (dC cs)), .val (fD f), s4, .un])
        D.int (fun m => .int (if 0 ≤ m then m else (f.lookup m).getD 0)) pt.told (fun m hm => by
          by_cases h0 : 0 ≤ m
          · simp [fin, owns, forTurn, lcTurn, dcTurn, asg, asgs, okTo, exB, exS, evT, evE, evO, evOs, evP, evI, evC, dns, rsv, rsvs, Sl.get, frz1, idxD, sliD, cmpD, eqD, inD, isNon, truD, binD, negD, biD, mtD, muTy, muD, setD, keyOf, keysOf, keyOkB, dicPairs, mkSl, isCont, wipeE, unwipe, itemsD, rngD, isTy, noLck, isOwn, mulOk, h0]
          · obtain ⟨v, hv⟩ : ∃ v, f.lookup m = some v := ⟨_, bound_val hf hm (by omega)⟩
            simp [fin, owns, forTurn, lcTurn, dcTurn, asg, asgs, okTo, exB, exS, evT, evE, evO, evOs, evP, evI, evC, dns, rsv, rsvs, Sl.get, frz1, idxD, sliD, cmpD, eqD, inD, isNon, truD, binD, negD, biD, mtD, muTy, muD, setD, keyOf, keysOf, keyOkB, dicPairs, mkSl, isCont, wipeE, unwipe, itemsD, rngD, isTy, noLck, isOwn, mulOk, h0, look_dI, hv]) (bign _ (by omega))
      have e2 := ev_lc (it := .it (.idx (.pk 1) (.e (.cst (.int 1))))) (ρ := [.val (.dic false kvs), .val (patD pt), .own (.dic true (dC cs)), .val (fD f), s4, s5]) (ρ1 := [.val (.dic false kvs), .val (patD pt), .own (.dic true (dC cs)), .val (fD f), s4, s5]) (by simp [fin, owns, forTurn, lcTurn, dcTurn, asg, asgs, okTo, exB, exS, evT, evE, evO, evOs, evP, evI, evC, dns, rsv, rsvs, Sl.get, frz1, idxD, sliD, cmpD, eqD, inD, isNon, truD, binD, negD, biD, mtD, muTy, muD, setD, keyOf, keysOf, keyOkB, dicPairs, mkSl, isCont, wipeE, unwipe, itemsD, rngD, isTy, noLck, isOwn, mulOk, L2.atI, L2.ixN]) (by rfl) e1
      rw [e2]
      simp [rowOf, unwipe, Function.comp]
    refine Go.set (ρ1 := [.val (.dic false kvs), .val (patD pt), .own (.dic true (dC cs)), .val (fD f), s4, s5]) (d0 := tI (rowOf f pt.told)) (fr0 := true) ?_ (by rfl) ?_
    · rw [evE, evO, hlc]
      simp [rsv, biD]
    · have hz : (dC cs).length < 16777216 := by simp [dC]; omega
      have kk := keyOf_tI (rowOf f pt.told)
      have ok := ok_tk (rowOf f pt.told)
      refine Go.nxt [.val (.dic false kvs), .val (patD pt), .own (.dic true (dC (bump cs (rowOf f pt.told)))), .val (fD f), .val (tI (rowOf f pt.told)), s5] ?_ ?_
      · have hgd : ((Option.map D.int (lookC cs (rowOf f pt.told))).getD (.int 0)) = .int ((lookC cs (rowOf f pt.told)).getD 0) := by cases lookC cs (rowOf f pt.told) <;> rfl
        simp only [exS, evE, evO, evOs, rsv, dns, Sl.get, frz1, mtD, setD, binD, List.getElem?_cons_succ, List.getElem?_cons_zero, mkSl, isCont, Bool.and_false, Bool.false_eq_true, if_false, List.set_cons_succ, List.set_cons_zero, Option.map_some, kk, ok, if_true, look_dC, hgd, hz, decide_true, Bool.and_self, put_dC, bump, Bool.true_and]
      · exact Go.nil (Trn.nx ⟨bump cs (rowOf f pt.told), _, _, _, rfl, he, fun g hg => hB g (List.mem_cons_of_mem _ hg), by have := bump_len cs (rowOf f pt.told); omega⟩)
  · rintro ρ ⟨cs, s3, s4, s5, rfl, he, _, _⟩
    have he : cs = counts (allF rw pt.lines) pt.told := he
    subst he
    exact Go.retO rfl rfl ans_ret
theorem intsD_map : ∀ l : List Int, intsD (l.map D.int) = some l
  | [] => rfl
  | x :: l => by simp [intsD, intsD_map l]
theorem r_total (pt : Pat) (t : TabOk kvs rw pt.lines) (hb : Bnd (allF rw pt.lines) pt.told) (ht : pt.told.length ≤ 1000) : Ans (run T (n + 3) 8 [.val (.dic false kvs), .val (patD pt)]) (.int ((counts (allF rw pt.lines) pt.told).map (·.2)).sum) true := by
  refine Go.run (df := df8) rfl rfl ?_
  have hc := ev_call (io := []) (es := .cons (.e (.var 0)) (.cons (.e (.var 1)) .nil)) (ρ := [.val (.dic false kvs), .val (patD pt)]) (ρ1 := [.val (.dic false kvs), .val (patD pt)]) (ds := [.dic false kvs, patD pt]) (by simp [fin, owns, forTurn, lcTurn, dcTurn, asg, asgs, okTo, exB, exS, evT, evE, evO, evOs, evP, evI, evC, dns, rsv, rsvs, Sl.get, frz1, idxD, sliD, cmpD, eqD, inD, isNon, truD, binD, negD, biD, mtD, muTy, muD, setD, keyOf, keysOf, keyOkB, dicPairs, mkSl, isCont, wipeE, unwipe, itemsD, rngD, isTy, noLck, isOwn, mulOk]) (r_ways (n := n) pt t hb ht)
  refine Go.retE (ρ1 := [.val (.dic false kvs), .val (patD pt)]) ?_ ans_ret
  rw [evE, evO]
  rw [show ([Sl.val (D.dic false kvs), Sl.val (patD pt)] ++ List.replicate (df8.ns - df8.np) Sl.un) = [.val (.dic false kvs), .val (patD pt)] from rfl]
  simp only [owns] at *
  rw [hc]
  have e : (dC (counts (allF rw pt.lines) pt.told)).map (fun p => p.2) = ((counts (allF rw pt.lines) pt.told).map (·.2)).map D.int := by simp [dC, Function.comp]
  simp only [Option.map_some, rsv, biD, e, intsD_map]
end
/-! ### _law_same of a thing with itself -/
/-- data that _law_same goes through -/
def plainD : Nat → D → Bool
  | 0, _ => false
  | n + 1, d => match d with
    | .int _ => true | .str _ => true | .bl _ => true
    | .tup xs => xs.all (plainD n) && decide (xs.length ≤ 1000000)
    | .lst xs => xs.all (plainD n) && decide (xs.length ≤ 1000000)
    | _ => false
theorem rng_okN {k : Nat} (h : k ≤ 1000000) : rngOk (k : Int) = true := by
  unfold rngOk
  rw [Bool.and_eq_true, decide_eq_true_eq, decide_eq_true_eq]
  omega
theorem r_same : ∀ (k n : Nat) (d : D), plainD k d = true → k ≤ n → AnsE (run T n 10 [.val d, .val d]) (.bl true)
  | 0, _, _, h, _ => by simp [plainD] at h
  | k + 1, 0, _, _, h => by omega
  | k + 1, n + 1, d, h, hk => by
    have ans := fun (d : D) (h : plainD k d = true) => r_same k n d h (by omega)
    have seq : ∀ (d : D) (xs : List D), (d = .lst xs ∨ d = .tup xs) → xs.all (plainD k) = true → xs.length ≤ 1000000 → AnsE (run T (n + 1) 10 [.val d, .val d]) (.bl true) := by
      intro d xs hd ha hz
      have z := rng_okN hz
      refine Go.runE (df := df10) rfl rfl ?_
      refine Go.ifF (ρ1 := [.val d, .val d, .un]) (by rcases hd with rfl | rfl <;> simp [fin, owns, forTurn, lcTurn, dcTurn, asg, asgs, okTo, exB, exS, evT, evE, evO, evOs, evP, evI, evC, dns, rsv, rsvs, Sl.get, frz1, idxD, sliD, cmpD, eqD, inD, isNon, truD, binD, negD, biD, mtD, muTy, muD, setD, keyOf, keysOf, keyOkB, dicPairs, mkSl, isCont, wipeE, unwipe, itemsD, rngD, isTy, noLck, isOwn, mulOk, df10]) ?_
      refine Go.ifF (ρ1 := [.val d, .val d, .un]) (by rcases hd with rfl | rfl <;> simp [fin, owns, forTurn, lcTurn, dcTurn, asg, asgs, okTo, exB, exS, evT, evE, evO, evOs, evP, evI, evC, dns, rsv, rsvs, Sl.get, frz1, idxD, sliD, cmpD, eqD, inD, isNon, truD, binD, negD, biD, mtD, muTy, muD, setD, keyOf, keysOf, keyOkB, dicPairs, mkSl, isCont, wipeE, unwipe, itemsD, rngD, isTy, noLck, isOwn, mulOk]) ?_
      refine Go.ifF (ρ1 := [.val d, .val d, .un]) (by rcases hd with rfl | rfl <;> simp [fin, owns, forTurn, lcTurn, dcTurn, asg, asgs, okTo, exB, exS, evT, evE, evO, evOs, evP, evI, evC, dns, rsv, rsvs, Sl.get, frz1, idxD, sliD, cmpD, eqD, inD, isNon, truD, binD, negD, biD, mtD, muTy, muD, setD, keyOf, keysOf, keyOkB, dicPairs, mkSl, isCont, wipeE, unwipe, itemsD, rngD, isTy, noLck, isOwn, mulOk]) ?_
      refine Go.ifF (ρ1 := [.val d, .val d, .un]) (by rcases hd with rfl | rfl <;> simp [fin, owns, forTurn, lcTurn, dcTurn, asg, asgs, okTo, exB, exS, evT, evE, evO, evOs, evP, evI, evC, dns, rsv, rsvs, Sl.get, frz1, idxD, sliD, cmpD, eqD, inD, isNon, truD, binD, negD, biD, mtD, muTy, muD, setD, keyOf, keysOf, keyOkB, dicPairs, mkSl, isCont, wipeE, unwipe, itemsD, rngD, isTy, noLck, isOwn, mulOk]) ?_
      refine Go.ifF (ρ1 := [.val d, .val d, .un]) (by rcases hd with rfl | rfl <;> simp [fin, owns, forTurn, lcTurn, dcTurn, asg, asgs, okTo, exB, exS, evT, evE, evO, evOs, evP, evI, evC, dns, rsv, rsvs, Sl.get, frz1, idxD, sliD, cmpD, eqD, inD, isNon, truD, binD, negD, biD, mtD, muTy, muD, setD, keyOf, keysOf, keyOkB, dicPairs, mkSl, isCont, wipeE, unwipe, itemsD, rngD, isTy, noLck, isOwn, mulOk]) ?_
      refine Go.rng (ρ1 := [.val d, .val d, .un]) xs.length (fun _ ρ => ∃ s, ρ = [.val d, .val d, s]) (by rcases hd with rfl | rfl <;> simp [fin, owns, forTurn, lcTurn, dcTurn, asg, asgs, okTo, exB, exS, evT, evE, evO, evOs, evP, evI, evC, dns, rsv, rsvs, Sl.get, frz1, idxD, sliD, cmpD, eqD, inD, isNon, truD, binD, negD, biD, mtD, muTy, muD, setD, keyOf, keysOf, keyOkB, dicPairs, mkSl, isCont, wipeE, unwipe, itemsD, rngD, isTy, noLck, isOwn, mulOk, z]) rfl ⟨_, rfl⟩ ?_ ?_
      · rintro i ρ hi ⟨s, rfl⟩
        have hx : xs[i]? = some xs[i] := List.getElem?_eq_getElem hi
        obtain ⟨fr, hc⟩ := ans xs[i] (List.all_eq_true.mp ha _ (List.getElem_mem hi))
        generalize xs[i] = x at *
        refine turn_of (ρ1 := [.val d, .val d, .val (.int i)]) (by simp [fin, owns, forTurn, lcTurn, dcTurn, asg, asgs, okTo, exB, exS, evT, evE, evO, evOs, evP, evI, evC, dns, rsv, rsvs, Sl.get, frz1, idxD, sliD, cmpD, eqD, inD, isNon, truD, binD, negD, biD, mtD, muTy, muD, setD, keyOf, keysOf, keyOkB, dicPairs, mkSl, isCont, wipeE, unwipe, itemsD, rngD, isTy, noLck, isOwn, mulOk]) ?_
        have e := ev_call (io := []) (es := .cons (.e (.idx (.pk 0) (.pk 2))) (.cons (.e (.idx (.pk 1) (.pk 2))) .nil)) (ρ := [.val d, .val d, .val (.int i)]) (ρ1 := [.val d, .val d, .val (.int i)]) (ds := [x, x]) (by rcases hd with rfl | rfl <;> simp [fin, owns, forTurn, lcTurn, dcTurn, asg, asgs, okTo, exB, exS, evT, evE, evO, evOs, evP, evI, evC, dns, rsv, rsvs, Sl.get, frz1, idxD, sliD, cmpD, eqD, inD, isNon, truD, binD, negD, biD, mtD, muTy, muD, setD, keyOf, keysOf, keyOkB, dicPairs, mkSl, isCont, wipeE, unwipe, itemsD, rngD, isTy, noLck, isOwn, mulOk, atI_nat, hx]) hc
        refine Go.ifF (ρ1 := [.val d, .val d, .val (.int i)]) ?_ (Go.nil (Trn.nx ⟨_, rfl⟩))
        rw [evT, evT, evO]
        simp only [owns]
        rw [e]
        simp [rsv, truD]
      · rintro ρ ⟨s, rfl⟩
        exact Go.retE (by rw [evE]) ansE_ret
    cases d with
    | int i =>
      refine Go.runE (df := df10) rfl rfl ?_
      refine Go.ifF (ρ1 := [.val (.int i), .val (.int i), .un]) (by simp [fin, owns, forTurn, lcTurn, dcTurn, asg, asgs, okTo, exB, exS, evT, evE, evO, evOs, evP, evI, evC, dns, rsv, rsvs, Sl.get, frz1, idxD, sliD, cmpD, eqD, inD, isNon, truD, binD, negD, biD, mtD, muTy, muD, setD, keyOf, keysOf, keyOkB, dicPairs, mkSl, isCont, wipeE, unwipe, itemsD, rngD, isTy, noLck, isOwn, mulOk, df10]) ?_
      exact Go.ifR (ρ1 := [.val (.int i), .val (.int i), .un]) (ρ2 := [.val (.int i), .val (.int i), .un]) (d := .bl true) (fr := true) (by simp [fin, owns, forTurn, lcTurn, dcTurn, asg, asgs, okTo, exB, exS, evT, evE, evO, evOs, evP, evI, evC, dns, rsv, rsvs, Sl.get, frz1, idxD, sliD, cmpD, eqD, inD, isNon, truD, binD, negD, biD, mtD, muTy, muD, setD, keyOf, keysOf, keyOkB, dicPairs, mkSl, isCont, wipeE, unwipe, itemsD, rngD, isTy, noLck, isOwn, mulOk]) (by simp [fin, owns, forTurn, lcTurn, dcTurn, asg, asgs, okTo, exB, exS, evT, evE, evO, evOs, evP, evI, evC, dns, rsv, rsvs, Sl.get, frz1, idxD, sliD, cmpD, eqD, inD, isNon, truD, binD, negD, biD, mtD, muTy, muD, setD, keyOf, keysOf, keyOkB, dicPairs, mkSl, isCont, wipeE, unwipe, itemsD, rngD, isTy, noLck, isOwn, mulOk]) ansE_ret
    | str i =>
      refine Go.runE (df := df10) rfl rfl ?_
      refine Go.ifF (ρ1 := [.val (.str i), .val (.str i), .un]) (by simp [fin, owns, forTurn, lcTurn, dcTurn, asg, asgs, okTo, exB, exS, evT, evE, evO, evOs, evP, evI, evC, dns, rsv, rsvs, Sl.get, frz1, idxD, sliD, cmpD, eqD, inD, isNon, truD, binD, negD, biD, mtD, muTy, muD, setD, keyOf, keysOf, keyOkB, dicPairs, mkSl, isCont, wipeE, unwipe, itemsD, rngD, isTy, noLck, isOwn, mulOk, df10]) ?_
      refine Go.ifF (ρ1 := [.val (.str i), .val (.str i), .un]) (by simp [fin, owns, forTurn, lcTurn, dcTurn, asg, asgs, okTo, exB, exS, evT, evE, evO, evOs, evP, evI, evC, dns, rsv, rsvs, Sl.get, frz1, idxD, sliD, cmpD, eqD, inD, isNon, truD, binD, negD, biD, mtD, muTy, muD, setD, keyOf, keysOf, keyOkB, dicPairs, mkSl, isCont, wipeE, unwipe, itemsD, rngD, isTy, noLck, isOwn, mulOk]) ?_
      exact Go.ifR (ρ1 := [.val (.str i), .val (.str i), .un]) (ρ2 := [.val (.str i), .val (.str i), .un]) (d := .bl true) (fr := true) (by simp [fin, owns, forTurn, lcTurn, dcTurn, asg, asgs, okTo, exB, exS, evT, evE, evO, evOs, evP, evI, evC, dns, rsv, rsvs, Sl.get, frz1, idxD, sliD, cmpD, eqD, inD, isNon, truD, binD, negD, biD, mtD, muTy, muD, setD, keyOf, keysOf, keyOkB, dicPairs, mkSl, isCont, wipeE, unwipe, itemsD, rngD, isTy, noLck, isOwn, mulOk]) (by simp [fin, owns, forTurn, lcTurn, dcTurn, asg, asgs, okTo, exB, exS, evT, evE, evO, evOs, evP, evI, evC, dns, rsv, rsvs, Sl.get, frz1, idxD, sliD, cmpD, eqD, inD, isNon, truD, binD, negD, biD, mtD, muTy, muD, setD, keyOf, keysOf, keyOkB, dicPairs, mkSl, isCont, wipeE, unwipe, itemsD, rngD, isTy, noLck, isOwn, mulOk]) ansE_ret
    | bl i =>
      refine Go.runE (df := df10) rfl rfl ?_
      exact Go.ifR (ρ1 := [.val (.bl i), .val (.bl i), .un]) (ρ2 := [.val (.bl i), .val (.bl i), .un]) (d := .bl true) (fr := true) (by simp [fin, owns, forTurn, lcTurn, dcTurn, asg, asgs, okTo, exB, exS, evT, evE, evO, evOs, evP, evI, evC, dns, rsv, rsvs, Sl.get, frz1, idxD, sliD, cmpD, eqD, inD, isNon, truD, binD, negD, biD, mtD, muTy, muD, setD, keyOf, keysOf, keyOkB, dicPairs, mkSl, isCont, wipeE, unwipe, itemsD, rngD, isTy, noLck, isOwn, mulOk, df10]) (by simp [fin, owns, forTurn, lcTurn, dcTurn, asg, asgs, okTo, exB, exS, evT, evE, evO, evOs, evP, evI, evC, dns, rsv, rsvs, Sl.get, frz1, idxD, sliD, cmpD, eqD, inD, isNon, truD, binD, negD, biD, mtD, muTy, muD, setD, keyOf, keysOf, keyOkB, dicPairs, mkSl, isCont, wipeE, unwipe, itemsD, rngD, isTy, noLck, isOwn, mulOk]) ansE_ret
    | non => simp [plainD] at h
    | tup xs =>
      simp only [plainD, Bool.and_eq_true, decide_eq_true_eq] at h
      exact seq _ xs (.inr rfl) h.1 h.2
    | lst xs =>
      simp only [plainD, Bool.and_eq_true, decide_eq_true_eq] at h
      exact seq _ xs (.inl rfl) h.1 h.2
    | dic t kvs => simp [plainD] at h
end L2.PL
end
section
set_option maxRecDepth 100000
set_option maxHeartbeats 2000000
/-! k59, part K: matched, led_exchange, exchange. -/
namespace L2.PL
open PySem
theorem cut_lo (xs : List D) (k : Nat) : cutD xs (some (k : Int)) none = xs.drop k := by
  unfold cutD
  rw [HT.sIx_none, HT.sIx_nat]
  by_cases h : k ≤ xs.length
  · rw [Nat.min_eq_left h]
    exact List.take_of_length_le (by simp)
  · rw [Nat.min_eq_right (by omega), List.drop_eq_nil_of_le (Nat.le_refl _), List.drop_eq_nil_of_le (by omega), List.take_nil]
theorem cut_hi (xs : List D) (k : Nat) : cutD xs none (some (k : Int)) = xs.take k := by
  unfold cutD
  rw [HT.sIx_none, HT.sIx_nat, List.drop_zero, Nat.sub_zero]
  by_cases h : k ≤ xs.length
  · rw [Nat.min_eq_left h]
  · rw [Nat.min_eq_right (by omega), List.take_of_length_le (Nat.le_refl _), List.take_of_length_le (by omega)]
def mtGo : KV' → List Int → List Int → Option KV'
  | kv, m :: ms, o :: os => if 0 ≤ m ∨ 0 ≤ o then (if m = o then mtGo kv ms os else none) else match kv.lookup m with
    | some v => if v = o then mtGo kv ms os else none
    | none => if o ∈ kv.map (·.2) then none else mtGo (kv ++ [(m, o)]) ms os
  | kv, _, _ => some kv
def dT (vs : List Int) : List (NestedKey × D) := vs.map fun v => (.num v, .bl true)
theorem look_dT (k : Int) (vs : List Int) : look (dT vs) (.num k) = if k ∈ vs then some (.bl true) else none := by
  induction vs with
  | nil => rfl
  | cons v vs ih =>
    unfold look dT at *
    by_cases e : v = k
    · subst e; simp
    · have e2 : ¬ k = v := fun z => e z.symm
      simp [e, e2] at ih ⊢
      exact ih
theorem put_dT {k : Int} {vs : List Int} (h : k ∉ vs) : put (dT vs) (.num k) (.bl true) = dT (vs ++ [k]) := by
  unfold put
  rw [look_dT, if_neg h]
  simp [dT]
/-- one to one -/
def Inj (kv : KV') : Prop := (kv.map (·.1)).Nodup ∧ (kv.map (·.2)).Nodup
theorem dcGo_vals {turn : D → EV → Option (Option (NestedKey × D) × EV)} {ρ : EV} : ∀ (kv : KV') (acc : List Int), (∀ p ∈ kv, turn (.int p.1) ρ = some (some (.num p.2, .bl true), ρ)) → (acc ++ kv.map (·.2)).Nodup → (acc ++ kv.map (·.2)).length ≤ bigN →
    dcGo turn (kv.map fun p => .int p.1) ρ (dT acc) = some (dT (acc ++ kv.map (·.2)), ρ)
  | [], acc, _, _, _ => by simp [dcGo]
  | p :: kv, acc, h, n, hl => by
    have hp : p.2 ∉ acc := fun z => by
      rw [List.nodup_append] at n
      exact n.2.2 _ z _ (by simp) rfl
    simp only [List.map_cons, dcGo, h p List.mem_cons_self]
    rw [if_pos (by simp [dT] at hl ⊢; omega), put_dT hp]
    have := dcGo_vals (turn := turn) (ρ := ρ) kv (acc ++ [p.2]) (fun q hq => h q (List.mem_cons_of_mem _ hq)) (by rw [List.append_assoc]; exact n) (by rw [List.append_assoc]; exact hl)
    rw [List.append_assoc] at this
    exact this
theorem r_matched (n : Nat) (kv : KV') (line other : List Int) (hl : line.length = other.length) (nd : Inj kv) (hz : kv.length + line.length ≤ 1000) :
    Ans (run T (n + 1) 5 [.val (.dic false (dI kv)), .val (tI line), .val (tI other)]) (optD (mtGo kv line other)) (optF (mtGo kv line other)) := by
  refine Go.run (df := df5) rfl rfl ?_
  refine Go.set (ev_dc (ρ1 := [.val (.dic false (dI kv)), .val (tI line), .val (tI other), .un, .un, .un, .un, .un, .un]) (items := kv.map fun p => D.int p.1) (ps := dI kv) (by simp [evI, evE, frz1, itemsD, df5, keys_dI]) rfl
    (dcGo_copy (ρ := [.val (.dic false (dI kv)), .val (tI line), .val (tI other), .un, .un, .un, .un, .un, .un]) kv [] (fun p hp => ?_) nd.1 (by show _ ≤ 16777216; rw [List.nil_append]; omega))) rfl ?_
  · have e := mem_lookup nd.1 hp
    simp [fin, owns, forTurn, lcTurn, dcTurn, asg, asgs, okTo, exB, exS, evT, evE, evO, evOs, evP, evI, evC, dns, rsv, rsvs, Sl.get, frz1, idxD, sliD, cmpD, eqD, inD, isNon, truD, binD, negD, biD, mtD, muTy, muD, setD, keyOf, keysOf, keyOkB, dicPairs, mkSl, isCont, wipeE, unwipe, itemsD, rngD, isTy, noLck, isOwn, mulOk, look_dI, e]
  refine Go.setl (dd := .dic false (dI kv)) (d' := .dic false (dI kv)) (by rfl) (ev_dc (ρ1 := [.val (.dic false (dI kv)), .val (tI line), .val (tI other), .lck (.dic false (dI kv)), .un, .un, .un, .un, .un]) (items := kv.map fun p => D.int p.1) (ps := dT (kv.map (·.2))) (by simp [fin, owns, forTurn, lcTurn, dcTurn, asg, asgs, okTo, exB, exS, evT, evE, evO, evOs, evP, evI, evC, dns, rsv, rsvs, Sl.get, frz1, idxD, sliD, cmpD, eqD, inD, isNon, truD, binD, negD, biD, mtD, muTy, muD, setD, keyOf, keysOf, keyOkB, dicPairs, mkSl, isCont, wipeE, unwipe, itemsD, rngD, isTy, noLck, isOwn, mulOk, keys_dI]) rfl
    (dcGo_vals (ρ := [.val (.dic false (dI kv)), .val (tI line), .val (tI other), .lck (.dic false (dI kv)), .un, .un, .un, .un, .un]) kv [] (fun p hp => ?_) nd.2 (by show _ ≤ 16777216; rw [List.nil_append, List.length_map]; omega))) (by rfl) (by rfl) ?_
  · have e := mem_lookup nd.1 hp
    simp [fin, owns, forTurn, lcTurn, dcTurn, asg, asgs, okTo, exB, exS, evT, evE, evO, evOs, evP, evI, evC, dns, rsv, rsvs, Sl.get, frz1, idxD, sliD, cmpD, eqD, inD, isNon, truD, binD, negD, biD, mtD, muTy, muD, setD, keyOf, keysOf, keyOkB, dicPairs, mkSl, isCont, wipeE, unwipe, itemsD, rngD, isTy, noLck, isOwn, mulOk, look_dI, e]
  refine Go.rng (ρ1 := [.val (.dic false (dI kv)), .val (tI line), .val (tI other), .own (.dic false (dI kv)), .own (.dic false (dT (kv.map (·.2)))), .un, .un, .un, .un]) line.length
    (fun k ρ => ∃ (cur : KV') (s5 s6 s7 s8 : Sl), ρ = [.val (.dic false (dI kv)), .val (tI line), .val (tI other), .own (.dic false (dI cur)), .own (.dic false (dT (cur.map (·.2)))), s5, s6, s7, s8] ∧ mtGo cur (line.drop k) (other.drop k) = mtGo kv line other ∧ Inj cur ∧ cur.length ≤ kv.length + k) ?_ rfl ⟨kv, _, _, _, _, rfl, rfl, nd, by omega⟩ ?_ ?_
  · have z : rngOk (line.length : Int) = true := rng_ok (by omega)
    simp [fin, owns, forTurn, lcTurn, dcTurn, asg, asgs, okTo, exB, exS, evT, evE, evO, evOs, evP, evI, evC, dns, rsv, rsvs, Sl.get, frz1, idxD, sliD, cmpD, eqD, inD, isNon, truD, binD, negD, biD, mtD, muTy, muD, setD, keyOf, keysOf, keyOkB, dicPairs, mkSl, isCont, wipeE, unwipe, itemsD, rngD, isTy, noLck, isOwn, mulOk, z]
  · rintro k ρ hk ⟨cur, s5, s6, s7, s8, rfl, hf, hnd, hcl⟩
    have hk2 : k < other.length := by omega
    have e1 := getI hk
    have e2 := getI hk2
    have d1 : line.drop k = line[k] :: line.drop (k + 1) := List.drop_eq_getElem_cons hk
    have d2 : other.drop k = other[k] :: other.drop (k + 1) := List.drop_eq_getElem_cons hk2
    rw [d1, d2, mtGo] at hf
    generalize line[k] = m at *
    generalize other[k] = r at *
    have hz2 : (dI cur).length < 16777216 := by simp [dI]; omega
    have hz3 : (dT (cur.map (·.2))).length < 16777216 := by simp [dT]; omega
    by_cases hm : 0 ≤ m ∨ 0 ≤ r
    · rw [if_pos hm] at hf
      by_cases hr : m = r
      · subst hr
        rw [if_pos rfl] at hf
        refine .inl ⟨[.val (.dic false (dI kv)), .val (tI line), .val (tI other), .own (.dic false (dI cur)), .own (.dic false (dT (cur.map (·.2)))), .val (.int k), s6, .val (.int m), .val (.int m)], ?_, cur, _, _, _, _, rfl, hf, hnd, by omega⟩
        have hm1 : 0 ≤ m := by omega
        simp [fin, owns, forTurn, lcTurn, dcTurn, asg, asgs, okTo, exB, exS, evT, evE, evO, evOs, evP, evI, evC, dns, rsv, rsvs, Sl.get, frz1, idxD, sliD, cmpD, eqD, inD, isNon, truD, binD, negD, biD, mtD, muTy, muD, setD, keyOf, keysOf, keyOkB, dicPairs, mkSl, isCont, wipeE, unwipe, itemsD, rngD, isTy, noLck, isOwn, mulOk, e1, e2, hm1]
      · rw [if_neg hr] at hf
        refine .inr ⟨_, _, [.val (.dic false (dI kv)), .val (tI line), .val (tI other), .own (.dic false (dI cur)), .own (.dic false (dT (cur.map (·.2)))), .val (.int k), s6, .val (.int m), .val (.int r)], ?_, by rw [← hf]; exact ans_ret⟩
        by_cases hm1 : 0 ≤ m
        · simp [fin, owns, forTurn, lcTurn, dcTurn, asg, asgs, okTo, exB, exS, evT, evE, evO, evOs, evP, evI, evC, dns, rsv, rsvs, Sl.get, frz1, idxD, sliD, cmpD, eqD, inD, isNon, truD, binD, negD, biD, mtD, muTy, muD, setD, keyOf, keysOf, keyOkB, dicPairs, mkSl, isCont, wipeE, unwipe, itemsD, rngD, isTy, noLck, isOwn, mulOk, e1, e2, hm1, hr, optD, optF]
        · have hr1 : 0 ≤ r := by omega
          simp [fin, owns, forTurn, lcTurn, dcTurn, asg, asgs, okTo, exB, exS, evT, evE, evO, evOs, evP, evI, evC, dns, rsv, rsvs, Sl.get, frz1, idxD, sliD, cmpD, eqD, inD, isNon, truD, binD, negD, biD, mtD, muTy, muD, setD, keyOf, keysOf, keyOkB, dicPairs, mkSl, isCont, wipeE, unwipe, itemsD, rngD, isTy, noLck, isOwn, mulOk, e1, e2, hm1, hr1, hr, optD, optF]
    · have hm1 : ¬ 0 ≤ m := fun z => hm (.inl z)
      have hr1 : ¬ 0 ≤ r := fun z => hm (.inr z)
      rw [if_neg hm] at hf
      cases hv : cur.lookup m with
      | some v =>
        rw [hv] at hf
        simp only at hf
        by_cases hr : v = r
        · subst hr
          rw [if_pos rfl] at hf
          refine .inl ⟨[.val (.dic false (dI kv)), .val (tI line), .val (tI other), .own (.dic false (dI cur)), .own (.dic false (dT (cur.map (·.2)))), .val (.int k), s6, .val (.int m), .val (.int v)], ?_, cur, _, _, _, _, rfl, hf, hnd, by omega⟩
          simp [fin, owns, forTurn, lcTurn, dcTurn, asg, asgs, okTo, exB, exS, evT, evE, evO, evOs, evP, evI, evC, dns, rsv, rsvs, Sl.get, frz1, idxD, sliD, cmpD, eqD, inD, isNon, truD, binD, negD, biD, mtD, muTy, muD, setD, keyOf, keysOf, keyOkB, dicPairs, mkSl, isCont, wipeE, unwipe, itemsD, rngD, isTy, noLck, isOwn, mulOk, e1, e2, hm1, hr1, look_dI, hv]
        · rw [if_neg hr] at hf
          refine .inr ⟨_, _, [.val (.dic false (dI kv)), .val (tI line), .val (tI other), .own (.dic false (dI cur)), .own (.dic false (dT (cur.map (·.2)))), .val (.int k), s6, .val (.int m), .val (.int r)], ?_, by rw [← hf]; exact ans_ret⟩
          simp [fin, owns, forTurn, lcTurn, dcTurn, asg, asgs, okTo, exB, exS, evT, evE, evO, evOs, evP, evI, evC, dns, rsv, rsvs, Sl.get, frz1, idxD, sliD, cmpD, eqD, inD, isNon, truD, binD, negD, biD, mtD, muTy, muD, setD, keyOf, keysOf, keyOkB, dicPairs, mkSl, isCont, wipeE, unwipe, itemsD, rngD, isTy, noLck, isOwn, mulOk, e1, e2, hm1, hr1, look_dI, hv, hr, optD, optF]
      | none =>
        rw [hv] at hf
        simp only at hf
        by_cases ht : r ∈ cur.map (·.2)
        · rw [if_pos ht] at hf
          refine .inr ⟨_, _, [.val (.dic false (dI kv)), .val (tI line), .val (tI other), .own (.dic false (dI cur)), .own (.dic false (dT (cur.map (·.2)))), .val (.int k), s6, .val (.int m), .val (.int r)], ?_, by rw [← hf]; exact ans_ret⟩
          have hlt : look (dT (cur.map (·.2))) (.num r) = some (.bl true) := by rw [look_dT, if_pos ht]
          generalize dT (cur.map (·.2)) = tkn at *
          simp [fin, owns, forTurn, lcTurn, dcTurn, asg, asgs, okTo, exB, exS, evT, evE, evO, evOs, evP, evI, evC, dns, rsv, rsvs, Sl.get, frz1, idxD, sliD, cmpD, eqD, inD, isNon, truD, binD, negD, biD, mtD, muTy, muD, setD, keyOf, keysOf, keyOkB, dicPairs, mkSl, isCont, wipeE, unwipe, itemsD, rngD, isTy, noLck, isOwn, mulOk, e1, e2, hm1, hr1, look_dI, hv, hlt, optD, optF]
        · rw [if_neg ht] at hf
          have hp := putI_new (v := r) (lookup_none.mp hv)
          have hpt := put_dT ht
          have hlt : look (dT (cur.map (·.2))) (.num r) = none := by rw [look_dT, if_neg ht]
          have em : (cur ++ [(m, r)]).map (·.2) = cur.map (·.2) ++ [r] := by simp
          refine .inl ⟨[.val (.dic false (dI kv)), .val (tI line), .val (tI other), .own (.dic false (dI (cur ++ [(m, r)]))), .own (.dic false (dT ((cur ++ [(m, r)]).map (·.2)))), .val (.int k), s6, .val (.int m), .val (.int r)], ?_, cur ++ [(m, r)], _, _, _, _, rfl, hf, ⟨nodup_snoc hnd.1 hv, ?_⟩, by rw [List.length_append]; simp; omega⟩
          · rw [em]
            generalize dT (cur.map (·.2) ++ [r]) = tkn2 at *
            generalize dT (cur.map (·.2)) = tkn at *
            simp [fin, owns, forTurn, lcTurn, dcTurn, asg, asgs, okTo, exB, exS, evT, evE, evO, evOs, evP, evI, evC, dns, rsv, rsvs, Sl.get, frz1, idxD, sliD, cmpD, eqD, inD, isNon, truD, binD, negD, biD, mtD, muTy, muD, setD, keyOf, keysOf, keyOkB, dicPairs, mkSl, isCont, wipeE, unwipe, itemsD, rngD, isTy, noLck, isOwn, mulOk, e1, e2, hm1, hr1, look_dI, hv, hlt, hz2, hz3, put_dI, hp, hpt]
          · rw [em, List.nodup_append]
            exact ⟨hnd.2, by simp, fun a ha b hb z => by simp at hb; subst hb z; exact ht ha⟩
  · rintro ρ' ⟨cur, s5, s6, s7, s8, rfl, hf, _, _⟩
    rw [List.drop_length, hl, List.drop_length] at hf
    simp only [mtGo] at hf
    rw [← hf]
    exact Go.retO rfl rfl ans_ret
end L2.PL
end
section
set_option maxRecDepth 100000
set_option maxHeartbeats 2000000
/-! k59, part L: led_exchange, exchange. -/
namespace L2.PL
open PySem
theorem atI_0 {α : Type} (a : α) (l : List α) : L2.atI (a :: l) (0 : Int) = some a := by
  unfold L2.atI L2.ixN
  rw [if_pos (Int.le_refl 0), if_pos (by rw [List.length_cons]; omega)]
  rfl
theorem atI_1 {α : Type} (a b : α) (l : List α) : L2.atI (a :: b :: l) (1 : Int) = some b := by
  unfold L2.atI L2.ixN
  rw [if_pos (by decide), if_pos (by rw [List.length_cons, List.length_cons]; omega)]
  rfl
theorem atI_2 {α : Type} (a b c : α) (l : List α) : L2.atI (a :: b :: c :: l) (2 : Int) = some c := by
  unfold L2.atI L2.ixN
  rw [if_pos (by decide), if_pos (by rw [List.length_cons, List.length_cons, List.length_cons]; omega)]
  rfl
theorem fs_first {α : Type} {f : Nat → Option α} {r : α} : ∀ (n k : Nat), k < n → (∀ i, i < k → f i = none) → f k = some r → (List.range n).findSome? f = some r := by
  intro n k hk h0 h1
  have e : List.range n = List.range k ++ (k :: List.range' (k + 1) (n - (k + 1))) := by
    rw [List.range_eq_range', List.range_eq_range', ← List.range'_succ, show n - (k + 1) + 1 = n - k by omega]
    have := List.range'_append (s := 0) (m := k) (n := n - k) (step := 1)
    simp at this
    rw [this]
    congr 1
    omega
  rw [e, List.findSome?_append, List.findSome?_cons, h1]
  have : (List.range k).findSome? f = none := by
    rw [List.findSome?_eq_none_iff]
    intro x hx
    exact h0 x (List.mem_range.mp hx)
  rw [this]
  rfl
theorem fs_none {α : Type} {f : Nat → Option α} {n : Nat} (h : ∀ i, i < n → f i = none) : (List.range n).findSome? f = none := by
  rw [List.findSome?_eq_none_iff]
  intro x hx
  exact h x (List.mem_range.mp hx)
def ledGo : KV' → List Ln → List Ln → Option KV'
  | kv, [], _ => some kv
  | kv, o :: os, ts => (List.range ts.length).findSome? fun i => match ts[i]? with
    | some t => if t.1 = o.1 then (match mtGo kv o.2 t.2 with
      | some kv' => ledGo kv' os (ts.take i ++ ts.drop (i + 1))
      | none => none) else none
    | none => none
theorem mt_ok : ∀ {ms os : List Int} {kv kv' : KV'}, Inj kv → mtGo kv ms os = some kv' → Inj kv' ∧ kv'.length ≤ kv.length + ms.length
  | [], os, kv, kv', n, e => by simp only [mtGo] at e; cases e; exact ⟨n, by simp⟩
  | m :: ms, [], kv, kv', n, e => by simp only [mtGo] at e; cases e; exact ⟨n, by simp⟩
  | m :: ms, o :: os, kv, kv', n, e => by
    rw [mtGo] at e
    rw [List.length_cons]
    split at e
    · split at e
      · obtain ⟨h1, h2⟩ := mt_ok n e; exact ⟨h1, by omega⟩
      · cases e
    · split at e
      · split at e
        · obtain ⟨h1, h2⟩ := mt_ok n e; exact ⟨h1, by omega⟩
        · cases e
      · rename_i hv
        split at e
        · cases e
        · rename_i ht
          obtain ⟨h1, h2⟩ := mt_ok (kv := kv ++ [(m, o)]) ⟨nodup_snoc n.1 hv, by
            rw [List.map_append, List.nodup_append]
            exact ⟨n.2, by simp, fun a ha b hb z => by simp at hb; subst hb z; exact ht ha⟩⟩ e
          rw [List.length_append, List.length_singleton] at h2
          exact ⟨h1, by omega⟩
/-- lines of one name are of one width -/
def Wd (os ts : List Ln) : Prop := ∀ o ∈ os, ∀ t ∈ ts, t.1 = o.1 → o.2.length = t.2.length
theorem Wd.rest {o : Ln} {os ts : List Ln} (h : Wd (o :: os) ts) (i : Nat) : Wd os (ts.take i ++ ts.drop (i + 1)) := fun p hp t ht => h p (List.mem_cons_of_mem _ hp) t (by
  rcases List.mem_append.mp ht with z | z
  · exact List.mem_of_mem_take z
  · exact List.mem_of_mem_drop z)
theorem r_led : ∀ (os ts : List Ln) (kv : KV') (n : Nat), os.length + 2 ≤ n → Inj kv → kv.length + 3 * os.length ≤ 500 → (∀ o ∈ os, o.2.length ≤ 3) → Wd os ts → ts.length ≤ 1000 → os.length ≤ 1000 →
    AnsE (run T n 4 [.val (fD kv), .val (.lst (os.map lineD)), .val (.lst (ts.map lineD))]) (optD (ledGo kv os ts))
  | [], ts, kv, n + 1, _, hI, _, _, _, _, _ => by
    refine Go.runE (df := df4) rfl rfl ?_
    refine Go.ret (d := fD kv) (fr := false) (ρ1 := [.val (fD kv), .val (.lst []), .val (.lst (ts.map lineD)), .un, .un, .un, .un, .un]) (by simp [fin, owns, forTurn, lcTurn, dcTurn, asg, asgs, okTo, exB, exS, evT, evE, evO, evOs, evP, evI, evC, dns, rsv, rsvs, Sl.get, frz1, idxD, sliD, cmpD, eqD, inD, isNon, truD, binD, negD, biD, mtD, muTy, muD, setD, keyOf, keysOf, keyOkB, dicPairs, mkSl, isCont, wipeE, unwipe, itemsD, rngD, isTy, noLck, isOwn, mulOk, df4]) ansE_ret
  | o :: os, ts, kv, n + 1, hn, hI, hz, hw, hWd, ht, hos => by
    rw [List.length_cons] at hz hn
    have ih := r_led os
    refine Go.runE (df := df4) rfl rfl ?_
    have hne : ¬ ((os.length : Int) + 1 = 0) := by omega
    refine Go.ifF (ρ1 := [.val (fD kv), .val (.lst ((o :: os).map lineD)), .val (.lst (ts.map lineD)), .un, .un, .un, .un, .un]) (by simp [fin, owns, forTurn, lcTurn, dcTurn, asg, asgs, okTo, exB, exS, evT, evE, evO, evOs, evP, evI, evC, dns, rsv, rsvs, Sl.get, frz1, idxD, sliD, cmpD, eqD, inD, isNon, truD, binD, negD, biD, mtD, muTy, muD, setD, keyOf, keysOf, keyOkB, dicPairs, mkSl, isCont, wipeE, unwipe, itemsD, rngD, isTy, noLck, isOwn, mulOk, df4, hne]) ?_
    refine Go.nxt [.val (fD kv), .val (.lst ((o :: os).map lineD)), .val (.lst (ts.map lineD)), .un, .val (.str o.1), .val (tI o.2), .un, .un] (by
      have hp : 0 < (os.length : Int) + 1 := by omega
      simp [fin, owns, forTurn, lcTurn, dcTurn, asg, asgs, okTo, exB, exS, evT, evE, evO, evOs, evP, evI, evC, dns, rsv, rsvs, Sl.get, frz1, idxD, sliD, cmpD, eqD, inD, isNon, truD, binD, negD, biD, mtD, muTy, muD, setD, keyOf, keysOf, keyOkB, dicPairs, mkSl, isCont, wipeE, unwipe, itemsD, rngD, isTy, noLck, isOwn, mulOk, atI_0]) ?_
    refine Go.rng (ρ1 := [.val (fD kv), .val (.lst ((o :: os).map lineD)), .val (.lst (ts.map lineD)), .un, .val (.str o.1), .val (tI o.2), .un, .un]) ts.length
      (fun k ρ => ∃ (s3 s6 s7 : Sl), ρ = [.val (fD kv), .val (.lst ((o :: os).map lineD)), .val (.lst (ts.map lineD)), s3, .val (.str o.1), .val (tI o.2), s6, s7] ∧ ∀ i, i < k → (match ts[i]? with
        | some t => if t.1 = o.1 then (match mtGo kv o.2 t.2 with
          | some kv' => ledGo kv' os (ts.take i ++ ts.drop (i + 1))
          | none => none) else none
        | none => none) = none) ?_ rfl ⟨_, _, _, rfl, fun i hi => absurd hi (Nat.not_lt_zero _)⟩ ?_ ?_
    · have z : rngOk (ts.length : Int) = true := rng_okN (by omega)
      simp [fin, owns, forTurn, lcTurn, dcTurn, asg, asgs, okTo, exB, exS, evT, evE, evO, evOs, evP, evI, evC, dns, rsv, rsvs, Sl.get, frz1, idxD, sliD, cmpD, eqD, inD, isNon, truD, binD, negD, biD, mtD, muTy, muD, setD, keyOf, keysOf, keyOkB, dicPairs, mkSl, isCont, wipeE, unwipe, itemsD, rngD, isTy, noLck, isOwn, mulOk, z]
    · rintro k ρ hk ⟨s3, s6, s7, rfl, hno⟩
      have et : ts[k]? = some ts[k] := List.getElem?_eq_getElem hk
      have etm : ts[k] ∈ ts := List.getElem_mem hk
      generalize ts[k] = t at *
      have ea : L2.atI (ts.map lineD) (k : Int) = some (lineD t) := by rw [atI_nat, List.getElem?_map, et]; rfl
      refine turn_of (ρ1 := [.val (fD kv), .val (.lst ((o :: os).map lineD)), .val (.lst (ts.map lineD)), .val (.int k), .val (.str o.1), .val (tI o.2), s6, s7]) (by simp [fin, owns, forTurn, lcTurn, dcTurn, asg, asgs, okTo, exB, exS, evT, evE, evO, evOs, evP, evI, evC, dns, rsv, rsvs, Sl.get, frz1, idxD, sliD, cmpD, eqD, inD, isNon, truD, binD, negD, biD, mtD, muTy, muD, setD, keyOf, keysOf, keyOkB, dicPairs, mkSl, isCont, wipeE, unwipe, itemsD, rngD, isTy, noLck, isOwn, mulOk]) ?_
      have next : ∀ (s6 s7 : Sl), (match (some t : Option Ln) with
        | some t => if t.1 = o.1 then (match mtGo kv o.2 t.2 with
          | some kv' => ledGo kv' os (ts.take k ++ ts.drop (k + 1))
          | none => none) else none
        | none => none) = none → Trn (fun ρ => ∃ (s3 s6 s7 : Sl), ρ = [.val (fD kv), .val (.lst ((o :: os).map lineD)), .val (.lst (ts.map lineD)), s3, .val (.str o.1), .val (tI o.2), s6, s7] ∧ ∀ i, i < k + 1 → (match ts[i]? with
        | some t => if t.1 = o.1 then (match mtGo kv o.2 t.2 with
          | some kv' => ledGo kv' os (ts.take i ++ ts.drop (i + 1))
          | none => none) else none
        | none => none) = none) (fun o' => AnsE (fin [.val (fD kv), .val (.lst ((o :: os).map lineD)), .val (.lst (ts.map lineD))] o') (optD (ledGo kv (o :: os) ts))) (.nxt [.val (fD kv), .val (.lst ((o :: os).map lineD)), .val (.lst (ts.map lineD)), .val (.int k), .val (.str o.1), .val (tI o.2), s6, s7]) := fun s6 s7 e => by
        refine Trn.nx ⟨_, _, _, rfl, fun i hi => ?_⟩
        by_cases z : i = k
        · subst z; rw [et]; exact e
        · exact hno i (by omega)
      by_cases hname : t.1 = o.1
      · refine Go.iff (k := true) (ρ1 := [.val (fD kv), .val (.lst ((o :: os).map lineD)), .val (.lst (ts.map lineD)), .val (.int k), .val (.str o.1), .val (tI o.2), s6, s7]) (by simp [fin, owns, forTurn, lcTurn, dcTurn, asg, asgs, okTo, exB, exS, evT, evE, evO, evOs, evP, evI, evC, dns, rsv, rsvs, Sl.get, frz1, idxD, sliD, cmpD, eqD, inD, isNon, truD, binD, negD, biD, mtD, muTy, muD, setD, keyOf, keysOf, keyOkB, dicPairs, mkSl, isCont, wipeE, unwipe, itemsD, rngD, isTy, noLck, isOwn, mulOk, ea, hname, atI_0]) ?_
        simp only [if_true]
        have hlen := hWd o List.mem_cons_self t etm hname
        have hwo := hw o List.mem_cons_self
        obtain ⟨m, rfl⟩ : ∃ m, n = m + 1 := ⟨n - 1, by omega⟩
        have hcall := r_matched m kv o.2 t.2 hlen hI (by omega)
        refine Go.set (ρ1 := [.val (fD kv), .val (.lst ((o :: os).map lineD)), .val (.lst (ts.map lineD)), .val (.int k), .val (.str o.1), .val (tI o.2), s6, s7]) (ev_call (ds := [fD kv, tI o.2, tI t.2]) (by simp [fin, owns, forTurn, lcTurn, dcTurn, asg, asgs, okTo, exB, exS, evT, evE, evO, evOs, evP, evI, evC, dns, rsv, rsvs, Sl.get, frz1, idxD, sliD, cmpD, eqD, inD, isNon, truD, binD, negD, biD, mtD, muTy, muD, setD, keyOf, keysOf, keyOkB, dicPairs, mkSl, isCont, wipeE, unwipe, itemsD, rngD, isTy, noLck, isOwn, mulOk, ea, atI_1]) hcall) (by rfl) ?_
        rw [opt_sl]
        cases em : mtGo kv o.2 t.2 with
        | none =>
          refine Go.ifF (ρ1 := [.val (fD kv), .val (.lst ((o :: os).map lineD)), .val (.lst (ts.map lineD)), .val (.int k), .val (.str o.1), .val (tI o.2), .val .non, s7]) (by simp [fin, owns, forTurn, lcTurn, dcTurn, asg, asgs, okTo, exB, exS, evT, evE, evO, evOs, evP, evI, evC, dns, rsv, rsvs, Sl.get, frz1, idxD, sliD, cmpD, eqD, inD, isNon, truD, binD, negD, biD, mtD, muTy, muD, setD, keyOf, keysOf, keyOkB, dicPairs, mkSl, isCont, wipeE, unwipe, itemsD, rngD, isTy, noLck, isOwn, mulOk]) (Go.nil (Kn.nxt (Go.nil (next _ _ ?_))))
          simp only [hname, if_true, em]
        | some kv' =>
          obtain ⟨hI', hl'⟩ := mt_ok hI em
          refine Go.iff (k := true) (ρ1 := [.val (fD kv), .val (.lst ((o :: os).map lineD)), .val (.lst (ts.map lineD)), .val (.int k), .val (.str o.1), .val (tI o.2), .own (fD kv'), s7]) (by simp [fin, owns, forTurn, lcTurn, dcTurn, asg, asgs, okTo, exB, exS, evT, evE, evO, evOs, evP, evI, evC, dns, rsv, rsvs, Sl.get, frz1, idxD, sliD, cmpD, eqD, inD, isNon, truD, binD, negD, biD, mtD, muTy, muD, setD, keyOf, keysOf, keyOkB, dicPairs, mkSl, isCont, wipeE, unwipe, itemsD, rngD, isTy, noLck, isOwn, mulOk]) ?_
          simp only [if_true]
          obtain ⟨fr, hrec⟩ := ih (ts.take k ++ ts.drop (k + 1)) kv' (m + 1) (by omega) hI' (by omega) (fun p hp => hw p (List.mem_cons_of_mem _ hp)) (hWd.rest k) (by rw [List.length_append, List.length_take, List.length_drop]; omega) (by simp at hos; omega)
          have hsz : (ts.map lineD).length ≤ bigN := bign _ (by rw [List.length_map]; omega)
          have hcat : ((ts.map lineD).take k).length + ((ts.map lineD).drop (k + 1)).length ≤ bigN := bign _ (by rw [List.length_take, List.length_drop, List.length_map]; omega)
          refine Go.set (ρ1 := [.val (fD kv), .val (.lst ((o :: os).map lineD)), .val (.lst (ts.map lineD)), .val (.int k), .val (.str o.1), .val (tI o.2), .val (fD kv'), s7]) (ev_call (ds := [fD kv', .lst (os.map lineD), .lst ((ts.take k ++ ts.drop (k + 1)).map lineD)]) ?_ hrec) (by rfl) ?_
          · have c1 := cut_lo ((o :: os).map lineD) 1
            have c2 := cut_hi (ts.map lineD) k
            have c3 := cut_lo (ts.map lineD) (k + 1)
            have e3 : ((k : Int) + 1) = ((k + 1 : Nat) : Int) := by omega
            simp only [evOs, evO, evE, evP, frz1, rsv, Sl.get, sliD, binD, List.getElem?_cons_succ, List.getElem?_cons_zero, Option.map_some, List.set_cons_succ, List.set_cons_zero, e3, c2, c3, hcat, if_true]
            rw [show ((1 : Int)) = ((1 : Nat) : Int) from rfl, c1]
            simp [List.map_take, List.map_drop]
          · cases er : ledGo kv' os (ts.take k ++ ts.drop (k + 1)) with
            | none =>
              refine Go.ifF (ρ1 := [.val (fD kv), .val (.lst ((o :: os).map lineD)), .val (.lst (ts.map lineD)), .val (.int k), .val (.str o.1), .val (tI o.2), .val (fD kv'), .val .non]) (by cases fr <;> simp [fin, owns, forTurn, lcTurn, dcTurn, asg, asgs, okTo, exB, exS, evT, evE, evO, evOs, evP, evI, evC, dns, rsv, rsvs, Sl.get, frz1, idxD, sliD, cmpD, eqD, inD, isNon, truD, binD, negD, biD, mtD, muTy, muD, setD, keyOf, keysOf, keyOkB, dicPairs, mkSl, isCont, wipeE, unwipe, itemsD, rngD, isTy, noLck, isOwn, mulOk, optD]) (Go.nil (Kn.nxt (Go.nil (Kn.nxt (Go.nil (next _ _ ?_))))))
              simp only [hname, if_true, em, er]
            | some r =>
              have hres : ledGo kv (o :: os) ts = some r := by
                rw [ledGo]
                refine fs_first _ k hk hno ?_
                rw [et]
                simp only [hname, if_true, em, er]
              cases fr with
              | true =>
                refine Go.iff (k := true) (ρ1 := [.val (fD kv), .val (.lst ((o :: os).map lineD)), .val (.lst (ts.map lineD)), .val (.int k), .val (.str o.1), .val (tI o.2), .val (fD kv'), .own (fD r)]) (by simp [fin, owns, forTurn, lcTurn, dcTurn, asg, asgs, okTo, exB, exS, evT, evE, evO, evOs, evP, evI, evC, dns, rsv, rsvs, Sl.get, frz1, idxD, sliD, cmpD, eqD, inD, isNon, truD, binD, negD, biD, mtD, muTy, muD, setD, keyOf, keysOf, keyOkB, dicPairs, mkSl, isCont, wipeE, unwipe, itemsD, rngD, isTy, noLck, isOwn, mulOk, optD]) ?_
                simp only [if_true]
                exact Go.retO (by rfl) (by rfl) (Kn.ret (Kn.ret (Kn.ret (Trn.rt (by rw [hres]; exact ansE_ret)))))
              | false =>
                refine Go.iff (k := true) (ρ1 := [.val (fD kv), .val (.lst ((o :: os).map lineD)), .val (.lst (ts.map lineD)), .val (.int k), .val (.str o.1), .val (tI o.2), .val (fD kv'), .val (fD r)]) (by simp [fin, owns, forTurn, lcTurn, dcTurn, asg, asgs, okTo, exB, exS, evT, evE, evO, evOs, evP, evI, evC, dns, rsv, rsvs, Sl.get, frz1, idxD, sliD, cmpD, eqD, inD, isNon, truD, binD, negD, biD, mtD, muTy, muD, setD, keyOf, keysOf, keyOkB, dicPairs, mkSl, isCont, wipeE, unwipe, itemsD, rngD, isTy, noLck, isOwn, mulOk, optD]) ?_
                simp only [if_true]
                exact Go.retv (by rfl) (Kn.ret (Kn.ret (Kn.ret (Trn.rt (by rw [hres]; exact ansE_ret)))))
      · refine Go.ifF (ρ1 := [.val (fD kv), .val (.lst ((o :: os).map lineD)), .val (.lst (ts.map lineD)), .val (.int k), .val (.str o.1), .val (tI o.2), s6, s7]) (by simp [fin, owns, forTurn, lcTurn, dcTurn, asg, asgs, okTo, exB, exS, evT, evE, evO, evOs, evP, evI, evC, dns, rsv, rsvs, Sl.get, frz1, idxD, sliD, cmpD, eqD, inD, isNon, truD, binD, negD, biD, mtD, muTy, muD, setD, keyOf, keysOf, keyOkB, dicPairs, mkSl, isCont, wipeE, unwipe, itemsD, rngD, isTy, noLck, isOwn, mulOk, hname, ea, atI_0]) (Go.nil (next _ _ ?_))
        simp only [hname, if_false]
    · rintro ρ ⟨s3, s6, s7, rfl, hno⟩
      have hres : ledGo kv (o :: os) ts = none := by rw [ledGo]; exact fs_none hno
      rw [hres]
      exact Go.retE (d := .non) (by rw [evE]) ansE_ret
end L2.PL
end
section
set_option maxRecDepth 100000
set_option maxHeartbeats 2000000
/-! k59, part M: == on plain data. -/
namespace L2.PL
open PySem
mutual
/-- ints, texts, tuples and lists of such -/
def nb : D → Bool
  | .int _ => true
  | .str x => (PyData.str x).canLay0
  | .tup xs => nbs xs
  | .lst xs => nbs xs
  | _ => false
def nbs : List D → Bool
  | [] => true
  | x :: xs => nb x && nbs xs
end
mutual
theorem eqv_nb : ∀ (x y : D), nb x = true → nb y = true → (PyData.eqv (toPy x) (toPy y) = true ↔ x = y)
  | .int i, y, hx, hy => by cases y <;> simp [nb] at hy <;> simp [toPy, PyData.eqv]
  | .str i, y, hx, hy => by cases y <;> simp [nb] at hy <;> simp [toPy, PyData.eqv]
  | .tup xs, y, hx, hy => by
    cases y <;> simp [nb] at hy <;> simp [toPy, PyData.eqv]
    exact eqv_nbs xs _ (by simpa [nb] using hx) hy
  | .lst xs, y, hx, hy => by
    cases y <;> simp [nb] at hy <;> simp [toPy, PyData.eqv]
    exact eqv_nbs xs _ (by simpa [nb] using hx) hy
  | .non, _, hx, _ => by simp [nb] at hx
  | .bl _, _, hx, _ => by simp [nb] at hx
  | .dic _ _, _, hx, _ => by simp [nb] at hx
theorem eqv_nbs : ∀ (xs ys : List D), nbs xs = true → nbs ys = true → (PyData.eqvAll (toPys xs) (toPys ys) = true ↔ xs = ys)
  | [], [], _, _ => by simp [toPys, PyData.eqvAll]
  | [], y :: ys, _, _ => by simp [toPys, PyData.eqvAll]
  | x :: xs, [], _, _ => by simp [toPys, PyData.eqvAll]
  | x :: xs, y :: ys, hx, hy => by
    simp only [nbs, Bool.and_eq_true] at hx hy
    simp only [toPys, PyData.eqvAll, Bool.and_eq_true, eqv_nb x y hx.1 hy.1, eqv_nbs xs ys hx.2 hy.2, List.cons.injEq]
end
mutual
theorem can_nb : ∀ x : D, nb x = true → (toPy x).canLay0 = true
  | .int i, _ => rfl
  | .str i, h => by simpa [nb, toPy] using h
  | .tup xs, h => by simp only [toPy, PyData.canLay0]; exact can_nbs xs (by simpa [nb] using h)
  | .lst xs, h => by simp only [toPy, PyData.canLay0]; exact can_nbs xs (by simpa [nb] using h)
  | .non, h => by simp [nb] at h
  | .bl _, h => by simp [nb] at h
  | .dic _ _, h => by simp [nb] at h
theorem can_nbs : ∀ xs : List D, nbs xs = true → PyData.canLayAll0 (toPys xs) = true
  | [], _ => rfl
  | x :: xs, h => by
    simp only [nbs, Bool.and_eq_true] at h
    simp only [toPys, PyData.canLayAll0, can_nb x h.1, can_nbs xs h.2, Bool.and_self]
end
theorem dep_all {k : Nat} : ∀ {xs : List D}, (∀ x ∈ xs, (toPy x).depth ≤ k) → PyData.depthAll (toPys xs) ≤ k
  | [], _ => Nat.zero_le _
  | x :: xs, h => by
    have h1 := h x List.mem_cons_self
    have h2 := dep_all fun y hy => h y (List.mem_cons_of_mem _ hy)
    simp only [toPys, PyData.depthAll]
    omega
theorem dep_tup {k : Nat} {xs : List D} (h : ∀ x ∈ xs, (toPy x).depth ≤ k) : (toPy (.tup xs)).depth ≤ k + 1 := by
  simp only [toPy, PyData.depth]
  have := dep_all h
  omega
theorem dep_lst {k : Nat} {xs : List D} (h : ∀ x ∈ xs, (toPy x).depth ≤ k) : (toPy (.lst xs)).depth ≤ k + 1 := by
  simp only [toPy, PyData.depth]
  have := dep_all h
  omega
theorem nbs_map {α : Type} {f : α → D} {xs : List α} (h : ∀ x ∈ xs, nb (f x) = true) : nbs (xs.map f) = true := by
  induction xs with
  | nil => rfl
  | cons x xs ih =>
    simp only [List.map_cons, nbs, Bool.and_eq_true]
    exact ⟨h x List.mem_cons_self, ih fun y hy => h y (List.mem_cons_of_mem _ hy)⟩
/-- plain, and not deep -/
def Pl (k : Nat) (d : D) : Prop := nb d = true ∧ (toPy d).depth ≤ k
theorem Pl.int {i : Int} {k : Nat} : Pl k (.int i) := ⟨rfl, Nat.zero_le _⟩
theorem Pl.str {x : Str} {k : Nat} (h : (PyData.str x).canLay0 = true) : Pl k (.str x) := ⟨h, Nat.zero_le _⟩
theorem nbs_of {k : Nat} : ∀ {xs : List D}, (∀ x ∈ xs, Pl k x) → nbs xs = true
  | [], _ => rfl
  | x :: xs, h => by
    simp only [nbs, Bool.and_eq_true]
    exact ⟨(h x List.mem_cons_self).1, nbs_of fun y hy => h y (List.mem_cons_of_mem _ hy)⟩
theorem Pl.tup {k : Nat} {xs : List D} (h : ∀ x ∈ xs, Pl k x) : Pl (k + 1) (.tup xs) := ⟨by simp only [nb]; exact nbs_of h, dep_tup fun x hx => (h x hx).2⟩
theorem Pl.lst {k : Nat} {xs : List D} (h : ∀ x ∈ xs, Pl k x) : Pl (k + 1) (.lst xs) := ⟨by simp only [nb]; exact nbs_of h, dep_lst fun x hx => (h x hx).2⟩
theorem Pl.mono {k j : Nat} {d : D} (h : Pl k d) (l : k ≤ j) : Pl j d := ⟨h.1, Nat.le_trans h.2 l⟩
theorem Pl.tI {l : List Int} {k : Nat} : Pl (k + 1) (tI l) := Pl.tup fun x hx => by obtain ⟨i, _, rfl⟩ := List.mem_map.mp hx; exact .int
open Classical in
theorem eqD_pl {x y : D} (hx : Pl 64 x) (hy : Pl 64 y) : eqD x y = some (decide (x = y)) := by
  have gen : (SeqAt.shaped (toPy x) && SeqAt.shaped (toPy y)) = true := by
    rw [Bool.and_eq_true]
    exact ⟨by unfold SeqAt.shaped; rw [can_nb _ hx.1, decide_eq_true hx.2]; rfl, by unfold SeqAt.shaped; rw [can_nb _ hy.1, decide_eq_true hy.2]; rfl⟩
  have q : PyData.eqv (toPy x) (toPy y) = decide (x = y) := by
    rw [Bool.eq_iff_iff, eqv_nb x y hx.1 hy.1]
    simp
  have h1 := hx.1
  have h2 := hy.1
  cases x with
  | int i => cases y with
    | int j => simp [eqD, decide_eq_decide, Bool.beq_eq_decide_eq]
    | _ => first | (simp [nb] at h2; done) | (simp only [eqD]; rw [if_pos gen, q])
  | str i => cases y with
    | str j => simp [eqD, Bool.beq_eq_decide_eq]
    | _ => first | (simp [nb] at h2; done) | (simp only [eqD]; rw [if_pos gen, q])
  | tup xs => cases y with
    | _ => first | (simp [nb] at h2; done) | (simp only [eqD]; rw [if_pos gen, q])
  | lst xs => cases y with
    | _ => first | (simp [nb] at h2; done) | (simp only [eqD]; rw [if_pos gen, q])
  | _ => simp [nb] at h1
theorem eqD_same {x : D} (hx : Pl 64 x) : eqD x x = some true := by rw [eqD_pl hx hx]; simp
theorem eqD_diff {x y : D} (hx : Pl 64 x) (hy : Pl 64 y) (h : x ≠ y) : eqD x y = some false := by rw [eqD_pl hx hy]; simp [h]
end L2.PL
end
section
set_option maxRecDepth 100000
set_option maxHeartbeats 2000000
/-! k59, part N: sorting. -/
namespace L2.PL
open PySem PySem.W PyProof.Rows
abbrev leD : D → D → Bool := PySem.W.dataLe false toPy
theorem lex_pre {O : KeyOrd} : ∀ (t l m : List O.α), PyProof.Rows.lexLt O (t ++ l) (t ++ m) = PyProof.Rows.lexLt O l m
  | [], _, _ => rfl
  | x :: t, l, m => by rw [List.cons_append, List.cons_append, lex_self]; exact lex_pre t l m
theorem toks_inj {x y : PyData} (h : alike x y = true) (e : keyToks x = keyToks y) : PyData.eqv x y = true := by
  cases q : PyData.eqv x y with
  | true => rfl
  | false =>
    have z := (toks_eqv x y h).2 q [] [.inl 0]
    rw [e, lex_pre, lex_irrefl] at z
    exact absurd z (by decide)
theorem le_total : TotalLe leD := sortLe_total _ _ _
/-- data that can be sorted among each other -/
def Srt (xs : List D) : Prop := (∀ x ∈ xs, nb x = true) ∧ ∀ x ∈ xs, ∀ y ∈ xs, alike (toPy x) (toPy y) = true
theorem rank_eq {xs : List D} (h : Srt xs) {x y : D} (hx : x ∈ xs) (hy : y ∈ xs) (r : sameRank leD x y = true) : x = y := by
  unfold sameRank at r
  rw [Bool.and_eq_true] at r
  have h1 : PyProof.Rows.lexLt itemOrd (keyToks (toPy y)) (keyToks (toPy x)) = false := by simpa [leD, PySem.W.dataLe, sortLe] using r.1
  have h2 : PyProof.Rows.lexLt itemOrd (keyToks (toPy x)) (keyToks (toPy y)) = false := by simpa [leD, PySem.W.dataLe, sortLe] using r.2
  have e := (listOrd itemOrd).total _ _ h1 h2
  have q := toks_inj (h.2 x hx y hy) e.symm
  exact (eqv_nb x y (h.1 x hx) (h.1 y hy)).mp q
open Classical in
theorem filt_rank {xs ys : List D} (h : Srt xs) (hs : ∀ y ∈ ys, y ∈ xs) {c : D} (hc : c ∈ xs) : ys.filter (sameRank leD c) = ys.filter fun y => decide (y = c) := by
  apply List.filter_congr
  intro y hy
  by_cases e : y = c
  · subst e; rw [sameRank_self le_total]; simp
  · rw [decide_eq_false e]
    cases q : sameRank leD c y with
    | false => rfl
    | true => exact absurd (rank_eq h hc (hs y hy) q).symm e
theorem filt_none {xs ys : List D} (h : ∀ c', c' ∈ ys → c' ∈ xs) {c : D} (hc : ∀ y ∈ xs, sameRank leD c y = false) : ys.filter (sameRank leD c) = [] := by
  rw [List.filter_eq_nil_iff]
  intro y hy
  rw [hc y (h y hy)]
  decide
open Classical in
theorem filt_eq (c : D) : ∀ ys : List D, ys.filter (fun y => decide (y = c)) = List.replicate (ys.filter fun y => decide (y = c)).length c := by
  intro ys
  induction ys with
  | nil => rfl
  | cons y ys ih =>
    by_cases e : y = c
    · subst e
      simp only [decide_true, List.filter_cons_of_pos, List.length_cons, List.replicate_succ]
      rw [← ih]
    · simp only [e, decide_false, Bool.false_eq_true, not_false_eq_true, List.filter_cons_of_neg]
      exact ih
/-- the same things in another order are sorted to the same -/
theorem sort_same {xs ys : List D} (h : Srt xs) (p : xs.Perm ys) : xs.mergeSort leD = ys.mergeSort leD := by
  classical
  refine sort_unique le_total (sort_pairwise le_total xs) fun c => ?_
  rw [sort_stable le_total]
  by_cases hc : ∃ x ∈ xs, sameRank leD c x = true
  · obtain ⟨x, hx, hr⟩ := hc
    -- everything of c's rank is x
    have key : ∀ zs : List D, (∀ z ∈ zs, z ∈ xs) → zs.filter (sameRank leD c) = zs.filter fun y => decide (y = x) := fun zs hz => by
      apply List.filter_congr
      intro y hy
      by_cases e : y = x
      · subst e; rw [hr]; simp
      · rw [decide_eq_false e]
        cases q : sameRank leD c y with
        | false => rfl
        | true =>
          refine absurd (rank_eq h (hz y hy) hx ?_) e
          unfold sameRank at *
          rw [Bool.and_eq_true] at *
          exact ⟨le_total.trans _ _ _ q.2 hr.1, le_total.trans _ _ _ hr.2 q.1⟩
    rw [key xs fun _ z => z, key ys fun z hz => p.mem_iff.mpr hz, filt_eq x xs, filt_eq x ys, (p.filter _).length_eq]
  · have hn : ∀ y ∈ xs, sameRank leD c y = false := fun y hy => by
      cases q : sameRank leD c y with
      | false => rfl
      | true => exact absurd ⟨y, hy, q⟩ hc
    rw [filt_none (fun _ z => z) hn, filt_none (fun z hz => p.mem_iff.mpr hz) hn]
theorem sort_perm {xs ys : List D} (e : xs.mergeSort leD = ys.mergeSort leD) : xs.Perm ys := (List.mergeSort_perm xs leD).symm.trans (by rw [e]; exact List.mergeSort_perm ys leD)
theorem sortD_of {xs : List D} (h : Srt xs) (hd : ∀ x ∈ xs, (toPy x).depth ≤ 64) (hl : xs.length ≤ bigN) (hs : sortableB (xs.map toPy) = true) : sortD xs = some (xs.mergeSort leD) := by
  unfold sortD
  rw [if_pos]
  rw [Bool.and_eq_true, Bool.and_eq_true, Bool.and_eq_true]
  refine ⟨⟨⟨?_, hs⟩, ?_⟩, decide_eq_true hl⟩
  · unfold allAlikeB
    rw [List.all_eq_true]
    intro a ha
    obtain ⟨x, hx, rfl⟩ := List.mem_map.mp ha
    rw [List.all_eq_true]
    intro b hb
    obtain ⟨y, hy, rfl⟩ := List.mem_map.mp hb
    exact h.2 x hx y hy
  · rw [List.all_eq_true]
    intro x hx
    rw [Bool.and_eq_true, decide_eq_true_eq]
    exact ⟨hd x hx, can_nb x (h.1 x hx)⟩
theorem alike_ints : ∀ a b : List Int, alikeAll (toPys (a.map D.int)) (toPys (b.map D.int)) = true
  | [], b => by simp [toPys, alikeAll]
  | x :: a, [] => by simp [toPys, alikeAll]
  | x :: a, y :: b => by simp [toPys, toPy, alikeAll, alike, alike_ints a b]
theorem alike_tI (a b : List Int) : alike (toPy (tI a)) (toPy (tI b)) = true := by simp only [toPy, alike]; exact alike_ints a b
/-! lines -/
def okS (x : Str) : Prop := (PyData.str x).canLay0 = true
theorem pl_line {p : Ln} (h : okS p.1) : Pl 2 (lineD p) := Pl.tup fun x hx => by
  simp only [List.mem_cons, List.not_mem_nil, or_false] at hx
  rcases hx with rfl | rfl
  · exact .str h
  · exact .tI
theorem srt_lines {ls : List Ln} (h : ∀ p ∈ ls, okS p.1) : Srt (ls.map lineD) := ⟨fun x hx => by obtain ⟨p, hp, rfl⟩ := List.mem_map.mp hx; exact (pl_line (h p hp)).1, fun x hx y hy => by
  obtain ⟨p, _, rfl⟩ := List.mem_map.mp hx
  obtain ⟨q, _, rfl⟩ := List.mem_map.mp hy
  have := alike_tI p.2 q.2
  simp only [toPy] at this
  simp [toPy, toPys, alike, alikeAll] at this ⊢
  exact this⟩
theorem sortD_lines {ls : List Ln} (h : ∀ p ∈ ls, okS p.1) (hl : ls.length ≤ 1000) : sortD (ls.map lineD) = some ((ls.map lineD).mergeSort leD) := sortD_of (srt_lines h) (fun x hx => by obtain ⟨p, hp, rfl⟩ := List.mem_map.mp hx; exact Nat.le_trans (pl_line (h p hp)).2 (by omega)) (bign _ (by rw [List.length_map]; omega)) (by
  unfold sortableB
  rw [Bool.or_eq_true]
  left
  rw [List.all_eq_true]
  intro a ha
  obtain ⟨x, hx, rfl⟩ := List.mem_map.mp ha
  obtain ⟨p, hp, rfl⟩ := List.mem_map.mp hx
  simp [toPy, toPys])
/-! entries of a count -/
abbrev entD (p : List Int × Int) : D := .tup [tI p.1, .int p.2]
theorem pl_ent {p : List Int × Int} : Pl 2 (entD p) := Pl.tup fun x hx => by
  simp only [List.mem_cons, List.not_mem_nil, or_false] at hx
  rcases hx with rfl | rfl
  · exact .tI
  · exact .int
theorem sortD_ents {cs : CV} (hl : cs.length ≤ 100000) : sortD (cs.map entD) = some ((cs.map entD).mergeSort leD) := sortD_of ⟨fun x hx => by obtain ⟨p, hp, rfl⟩ := List.mem_map.mp hx; exact pl_ent.1, fun x hx y hy => by
  obtain ⟨p, _, rfl⟩ := List.mem_map.mp hx
  obtain ⟨q, _, rfl⟩ := List.mem_map.mp hy
  have := alike_tI p.1 q.1
  simp only [toPy] at this
  simp [toPy, toPys, alike, alikeAll] at this ⊢
  exact this⟩ (fun x hx => by obtain ⟨p, hp, rfl⟩ := List.mem_map.mp hx; exact Nat.le_trans pl_ent.2 (by omega)) (bign _ (by rw [List.length_map]; omega)) (by
  unfold sortableB
  rw [Bool.or_eq_true]
  left
  rw [List.all_eq_true]
  intro a ha
  obtain ⟨x, hx, rfl⟩ := List.mem_map.mp ha
  obtain ⟨p, hp, rfl⟩ := List.mem_map.mp hx
  simp [toPy, toPys])
/-! ints -/
theorem sortD_ints {l : List Int} (hl : l.length ≤ 100000) : ∃ l' : List Int, sortD (l.map D.int) = some (l'.map D.int) ∧ l'.Perm l := by
  have hp := List.mergeSort_perm (l.map D.int) leD
  have all : ∀ x ∈ (l.map D.int).mergeSort leD, ∃ i, x = .int i := fun x hx => by
    obtain ⟨i, _, rfl⟩ := List.mem_map.mp (hp.mem_iff.mp hx)
    exact ⟨i, rfl⟩
  have key : ∀ xs : List D, (∀ x ∈ xs, ∃ i, x = .int i) → ∃ l' : List Int, xs = l'.map D.int := fun xs => by
    induction xs with
    | nil => exact fun _ => ⟨[], rfl⟩
    | cons x xs ih =>
      intro h
      obtain ⟨i, rfl⟩ := h x List.mem_cons_self
      obtain ⟨l', rfl⟩ := ih fun y hy => h y (List.mem_cons_of_mem _ hy)
      exact ⟨i :: l', rfl⟩
  obtain ⟨l', e⟩ := key _ all
  refine ⟨l', ?_, ?_⟩
  · rw [← e]
    refine sortD_of ⟨fun x hx => by obtain ⟨p, hp, rfl⟩ := List.mem_map.mp hx; rfl, fun x hx y hy => by
      obtain ⟨p, _, rfl⟩ := List.mem_map.mp hx
      obtain ⟨q, _, rfl⟩ := List.mem_map.mp hy
      rfl⟩ (fun x hx => by obtain ⟨p, hp, rfl⟩ := List.mem_map.mp hx; exact Nat.zero_le _) (bign _ (by rw [List.length_map]; omega)) ?_
    unfold sortableB
    rw [Bool.or_eq_true]
    right
    rw [List.all_eq_true]
    intro a ha
    obtain ⟨x, hx, rfl⟩ := List.mem_map.mp ha
    obtain ⟨p, hp, rfl⟩ := List.mem_map.mp hx
    rfl
  · rw [e] at hp
    have h2 := hp.map (fun d => match d with | .int i => i | _ => 0)
    rw [List.map_map, List.map_map] at h2
    have e1 : ((fun d => match d with | D.int i => i | _ => 0) ∘ D.int) = (id : Int → Int) := rfl
    rw [e1, List.map_id, List.map_id] at h2
    exact h2
end L2.PL
end
section
set_option maxRecDepth 100000
set_option maxHeartbeats 2000000
/-! k59, part P: dicts of pairs, _law_once, _law_variables, _law_put. -/
namespace L2.PL
open PySem
section
variable {Φ : Fn} {io : List Nat} {ρ ρ1 : EV} {x : IE}
theorem ev_lcM {vs : List Nat} {g : IG} {it : II} {c : IC} {α : Type} (enc : α → D) (f : α → D) (xs : List α) (hi : evI Φ io it ρ = some (xs.map enc, ρ1)) (hc : ((tgts g).all vs.contains && vs.all (fun i => decide (i < ρ1.length) && !io.contains i)) = true) (hl : xs.length ≤ 10000000)
    (ht : ∀ a ∈ xs, lcTurn Φ io vs g c x (enc a) (wipeE ρ1 vs) = some (some (f a), wipeE ρ1 vs)) : evE Φ io (.lc vs g it c x) ρ = some (.lst (xs.map f), true, unwipe ρ1 vs (wipeE ρ1 vs)) :=
  ev_lc hi hc (lcGo_encM enc f xs ht (bign _ hl))
theorem ev_lcF {vs : List Nat} {g : IG} {it : II} {c : IC} {α : Type} (enc : α → D) (f : α → Option D) (xs : List α) (hi : evI Φ io it ρ = some (xs.map enc, ρ1)) (hc : ((tgts g).all vs.contains && vs.all (fun i => decide (i < ρ1.length) && !io.contains i)) = true) (hl : xs.length ≤ 10000000)
    (ht : ∀ a ∈ xs, lcTurn Φ io vs g c x (enc a) (wipeE ρ1 vs) = some (f a, wipeE ρ1 vs)) : evE Φ io (.lc vs g it c x) ρ = some (.lst (xs.filterMap f), true, unwipe ρ1 vs (wipeE ρ1 vs)) :=
  ev_lc hi hc (lcGo_enc enc f xs ht (bign _ hl))
end
/-! dicts of int pairs -/
def ofP (ps : KV') : KV' := ps.foldl (fun a p => putI a p.1 p.2) []
theorem putI_len (kv : KV') (k v : Int) : (putI kv k v).length ≤ kv.length + 1 := by
  unfold putI
  split
  · rw [List.length_map]; omega
  · rw [List.length_append, List.length_singleton]; exact Nat.le_refl _
theorem putI_keys (kv : KV') (k v : Int) : (putI kv k v).map (·.1) = if k ∈ kv.map (·.1) then kv.map (·.1) else kv.map (·.1) ++ [k] := by
  unfold putI
  by_cases h : k ∈ kv.map (·.1)
  · have : (kv.lookup k).isSome = true := by
      cases e : kv.lookup k with
      | none => exact absurd h (lookup_none.mp e)
      | some v => rfl
    rw [if_pos this, if_pos h, List.map_map]
    apply List.map_congr_left
    intro p _
    simp only [Function.comp]
    split <;> rfl
  · rw [if_neg h, lookup_none.mpr h]
    simp
theorem putI_nodup {kv : KV'} {k v : Int} (n : (kv.map (·.1)).Nodup) : ((putI kv k v).map (·.1)).Nodup := by
  rw [putI_keys]
  split
  · exact n
  · rename_i h
    rw [List.nodup_append]
    exact ⟨n, by simp, fun a ha b hb e => by simp at hb; subst hb e; exact h ha⟩
theorem fold_put : ∀ (ps acc : KV'), (acc.map (·.1)).Nodup → let r := ps.foldl (fun a p => putI a p.1 p.2) acc; (r.map (·.1)).Nodup ∧ r.length ≤ acc.length + ps.length ∧ (∀ k, k ∈ r.map (·.1) ↔ k ∈ acc.map (·.1) ∨ k ∈ ps.map (·.1))
  | [], acc, n => ⟨n, by simp, fun k => by simp⟩
  | p :: ps, acc, n => by
    obtain ⟨h1, h2, h3⟩ := fold_put ps (putI acc p.1 p.2) (putI_nodup n)
    refine ⟨h1, ?_, fun k => ?_⟩
    · have := putI_len acc p.1 p.2
      simp only [List.foldl_cons, List.length_cons]
      omega
    · simp only [List.foldl_cons]
      rw [h3, putI_keys, List.map_cons, List.mem_cons]
      split
      · rename_i h
        constructor
        · rintro (q | q)
          · exact .inl q
          · exact .inr (.inr q)
        · rintro (q | q | q)
          · exact .inl q
          · subst q; exact .inl h
          · exact .inr q
      · rw [List.mem_append, List.mem_singleton]
        constructor
        · rintro ((q | q) | q)
          · exact .inl q
          · exact .inr (.inl q)
          · exact .inr (.inr q)
        · rintro (q | q | q)
          · exact .inl (.inl q)
          · exact .inl (.inr q)
          · exact .inr q
theorem ofP_nodup (ps : KV') : ((ofP ps).map (·.1)).Nodup := (fold_put ps [] List.nodup_nil).1
theorem ofP_len (ps : KV') : (ofP ps).length ≤ ps.length := by have := (fold_put ps [] List.nodup_nil).2.1; rw [List.length_nil, Nat.zero_add] at this; exact this
theorem ofP_keys (ps : KV') (k : Int) : k ∈ (ofP ps).map (·.1) ↔ k ∈ ps.map (·.1) := Iff.trans ((fold_put ps [] List.nodup_nil).2.2 k) (by simp)
theorem fold_same : ∀ (ps acc : KV'), ((acc ++ ps).map (·.1)).Nodup → ps.foldl (fun a p => putI a p.1 p.2) acc = acc ++ ps
  | [], acc, _ => by simp
  | p :: ps, acc, n => by
    have hp : p.1 ∉ acc.map (·.1) := fun z => by
      rw [List.map_append, List.nodup_append] at n
      exact n.2.2 _ z _ (by simp) rfl
    rw [List.foldl_cons, putI_new hp, fold_same ps _ (by rw [List.append_assoc]; exact n), List.append_assoc]
    rfl
theorem ofP_same {ps : KV'} (n : (ps.map (·.1)).Nodup) : ofP ps = ps := by
  unfold ofP
  rw [fold_same ps [] n, List.nil_append]
abbrev prD (p : Int × Int) : D := .tup [.int p.1, .int p.2]
theorem pairsD_prs : ∀ ps : KV', pairsD false (ps.map prD) = some (dI ps)
  | [] => rfl
  | p :: ps => by
    have ih := pairsD_prs ps
    simp [pairsD, pairD, keyOf, keyOkB, ih, dI]
theorem mrg_dI : ∀ (ps acc : KV'), mrg (dI acc) (dI ps) = dI (ps.foldl (fun a p => putI a p.1 p.2) acc)
  | [], acc => rfl
  | p :: ps, acc => by
    have ih := mrg_dI ps (putI acc p.1 p.2)
    rw [← put_dI] at ih
    exact ih
/-- dict(pairs) -/
theorem dict_prs (ps : KV') : biD (.dict false) (.lst (ps.map prD)) = some (.dic false (dI (ofP ps))) := by
  simp only [biD, pairsD_prs, Option.map_some]
  congr 2
  exact mrg_dI ps []
theorem keysL_dI (kv : KV') : biD .list (.dic false (dI kv)) = some (.lst ((kv.map (·.1)).map .int)) := by simp [biD, dI, toD, Function.comp]
theorem vals_dI (kv : KV') : biD .lvals (.dic false (dI kv)) = some (.lst ((kv.map (·.2)).map .int)) := by simp [biD, dI, toD, Function.comp]
theorem items_dI (kv : KV') : biD .litems (.dic false (dI kv)) = some (.lst (kv.map prD)) := by simp [biD, dI, toD, Function.comp]
/-- each once, in their order -/
def onceI (l : List Int) : List Int := (ofP (l.map fun x => (x, 0))).map (·.1)
theorem onceI_nodup (l : List Int) : (onceI l).Nodup := ofP_nodup _
theorem mem_onceI {l : List Int} {x : Int} : x ∈ onceI l ↔ x ∈ l := by
  unfold onceI
  rw [ofP_keys, List.map_map]
  simp [Function.comp]
theorem onceI_len (l : List Int) : (onceI l).length ≤ l.length := by
  unfold onceI
  rw [List.length_map]
  have := ofP_len (l.map fun x => (x, 0))
  rwa [List.length_map] at this
theorem onceI_same {l : List Int} (n : l.Nodup) : onceI l = l := by
  unfold onceI
  have e : (l.map fun x => ((x, 0) : Int × Int)).map (·.1) = l := by rw [List.map_map]; exact List.map_id l
  rw [ofP_same (by rw [e]; exact n), e]
theorem fold_full : ∀ (ps acc : KV'), (acc.map (·.1)).Nodup → (ps.foldl (fun a p => putI a p.1 p.2) acc).length = acc.length + ps.length → ((acc ++ ps).map (·.1)).Nodup
  | [], acc, n, _ => by rw [List.append_nil]; exact n
  | p :: ps, acc, n, h => by
    rw [List.foldl_cons] at h
    have h2 := (fold_put ps (putI acc p.1 p.2) (putI_nodup n)).2.1
    simp only [h, List.length_cons] at h2
    have hk : p.1 ∉ acc.map (·.1) := fun z => by
      have : (putI acc p.1 p.2).length = acc.length := by
        have e := congrArg List.length (putI_keys acc p.1 p.2)
        rw [if_pos z, List.length_map, List.length_map] at e
        exact e
      omega
    rw [putI_new hk] at h
    have n2 := putI_nodup (v := p.2) (k := p.1) n
    rw [putI_new hk] at n2
    have := fold_full ps (acc ++ [(p.1, p.2)]) n2 (by rw [h, List.length_append, List.length_cons, List.length_singleton]; omega)
    rw [List.append_assoc] at this
    exact this
theorem onceI_lt {l : List Int} : (onceI l).length < l.length ↔ ¬ l.Nodup := by
  constructor
  · intro h n
    rw [onceI_same n] at h
    omega
  · intro h
    rcases Nat.lt_or_ge (onceI l).length l.length with z | z
    · exact z
    · exfalso
      apply h
      have e : (onceI l).length = l.length := Nat.le_antisymm (onceI_len l) z
      unfold onceI at e
      rw [List.length_map] at e
      have := fold_full (l.map fun x => (x, 0)) [] List.nodup_nil (by rw [List.length_nil, Nat.zero_add, List.length_map]; exact e)
      rw [List.nil_append, List.map_map] at this
      have q : l.map ((·.1) ∘ fun x => ((x, 0) : Int × Int)) = l := List.map_id l
      rwa [q] at this
section
variable {Φ : Fn} {io : List Nat} {ρ ρ1 ρ2 : EV} {x y : IE} {d d' d2 : D} {fr fr2 : Bool}
theorem ev_bi {b : Bi} (h : evE Φ io x ρ = some (d, fr, ρ1)) (hb : biD b d = some d') : evE Φ io (.bi b (.e x)) ρ = some (d', true, ρ1) := by
  rw [evE, evO, h]
  simp only [Option.map_some, rsv, hb]
theorem ev_tup2 (h : evE Φ io x ρ = some (d, fr, ρ1)) (h2 : evE Φ io y ρ1 = some (d2, fr2, ρ2)) : evE Φ io (.tup (.cons (.e x) (.cons (.e y) .nil))) ρ = some (.tup [d, d2], false, ρ2) := by
  rw [evE, evOs, evO, h]
  simp only [Option.map_some]
  rw [evOs, evO, h2]
  simp only [Option.map_some, evOs, dns]
  rw [if_pos (bign _ (by simp))]
theorem ev_tup3 {z : IE} {d3 : D} {fr3 : Bool} {ρ3 : EV} (h : evE Φ io x ρ = some (d, fr, ρ1)) (h2 : evE Φ io y ρ1 = some (d2, fr2, ρ2)) (h3 : evE Φ io z ρ2 = some (d3, fr3, ρ3)) : evE Φ io (.tup (.cons (.e x) (.cons (.e y) (.cons (.e z) .nil)))) ρ = some (.tup [d, d2, d3], false, ρ3) := by
  rw [evE, evOs, evO, h]
  simp only [Option.map_some]
  rw [evOs, evO, h2]
  simp only [Option.map_some]
  rw [evOs, evO, h3]
  simp only [Option.map_some, evOs, dns]
  rw [if_pos (bign _ (by simp))]
theorem lc_no {vs : List Nat} {g : IG} {v : D} (h1 : asg io g v ρ = some ρ1) (h2 : evE Φ io x ρ1 = some (d, fr, ρ2)) {ρ3 : EV} (h3 : wipeE ρ2 vs = ρ3) : lcTurn Φ io vs g .no x v ρ = some (some d, ρ3) := by
  unfold lcTurn
  rw [h1]
  simp only [evC]
  rw [h2]
  simp only
  rw [h3]
theorem lc_yes {vs : List Nat} {g : IG} {v : D} {t : IT} {k : Bool} (h1 : asg io g v ρ = some ρ1) (ht : evT Φ io t ρ1 = some (k, ρ2)) {ρ3 ρ4 : EV} (h2 : k = true → evE Φ io x ρ2 = some (d, fr, ρ3) ∧ wipeE ρ3 vs = ρ4) (h3 : k = false → wipeE ρ2 vs = ρ4) : lcTurn Φ io vs g (.yes t) x v ρ = some (if k then some d else none, ρ4) := by
  unfold lcTurn
  rw [h1]
  simp only [evC, ht]
  cases k with
  | true =>
    obtain ⟨a, b⟩ := h2 rfl
    simp only [a, b, if_true]
  | false => simp only [h3 rfl, Bool.false_eq_true, if_false]
theorem ev_bin {o : BOp} (h : evE Φ io x ρ = some (d, fr, ρ1)) (h2 : evE Φ io y ρ1 = some (d2, fr2, ρ2)) (hb : binD o d d2 = some d') : evE Φ io (.bin o (.e x) (.e y)) ρ = some (d', true, ρ2) := by
  rw [evE, evO, h]
  simp only [Option.map_some]
  rw [evO, h2]
  simp only [Option.map_some, rsv, hb]
end
theorem r_once (n : Nat) (l : List Int) (hl : l.length ≤ 100000) : Ans (run T (n + 1) 17 [.val (.lst (l.map .int))]) (.lst ((onceI l).map .int)) true := by
  refine Go.run (df := df17) rfl rfl ?_
  have e := ev_lcM (Φ := run T n) (io := []) (vs := [1]) (g := .nm 1) (it := .it (.var 0)) (c := .no) (x := .tup (.cons (.e (.var 1)) (.cons (.e (.cst (.int 0))) .nil))) (ρ := [.val (.lst (l.map .int)), .un]) (ρ1 := [.val (.lst (l.map .int)), .un]) D.int (fun x => prD (x, 0)) l (by simp [fin, owns, forTurn, lcTurn, dcTurn, asg, asgs, okTo, exB, exS, evT, evE, evO, evOs, evP, evI, evC, dns, rsv, rsvs, Sl.get, frz1, idxD, sliD, cmpD, eqD, inD, isNon, truD, binD, negD, biD, mtD, muTy, muD, setD, keyOf, keysOf, keyOkB, dicPairs, mkSl, isCont, wipeE, unwipe, itemsD, rngD, isTy, noLck, isOwn, mulOk]) (by rfl) (by omega) (fun a _ => by simp [fin, owns, forTurn, lcTurn, dcTurn, asg, asgs, okTo, exB, exS, evT, evE, evO, evOs, evP, evI, evC, dns, rsv, rsvs, Sl.get, frz1, idxD, sliD, cmpD, eqD, inD, isNon, truD, binD, negD, biD, mtD, muTy, muD, setD, keyOf, keysOf, keyOkB, dicPairs, mkSl, isCont, wipeE, unwipe, itemsD, rngD, isTy, noLck, isOwn, mulOk, bign])
  have e2 : l.map (fun x => prD (x, 0)) = (l.map fun x => ((x, 0) : Int × Int)).map prD := by rw [List.map_map]; rfl
  rw [e2] at e
  exact Go.retE (fr := true) (ρ1 := [.val (.lst (l.map .int)), .un]) (ev_bi (ev_bi e (dict_prs _)) (keysL_dI _)) ans_ret
end L2.PL
end
section
set_option maxRecDepth 100000
set_option maxHeartbeats 2000000
/-! k59, part Q: _law_variables, _law_put. -/
namespace L2.PL
open PySem
def allM (p : Pat) : List Int := p.told ++ p.lines.flatMap (·.2)
def vars (p : Pat) : List Int := (onceI (allM p)).filter fun m => decide (m < 0)
theorem mem_vars {p : Pat} {m : Int} : m ∈ vars p ↔ m ∈ allM p ∧ m < 0 := by simp [vars, mem_onceI]
theorem vars_nodup (p : Pat) : (vars p).Nodup := (onceI_nodup _).filter _
/-- not many marks -/
structure Few (p : Pat) : Prop where
  told : p.told.length ≤ 10
  lines : p.lines.length ≤ 8
  wide : ∀ l ∈ p.lines, l.2.length ≤ 3
theorem Few.all {p : Pat} (h : Few p) : (allM p).length ≤ 34 := by
  have h1 := flat_len (fun l : Ln => l.2) 3 p.lines h.wide
  have h2 := h.told
  have h3 := h.lines
  have h4 : p.lines.length * 3 ≤ 24 := by omega
  unfold allM
  rw [List.length_append]
  omega
theorem vars_len (p : Pat) (h : Few p) : (vars p).length ≤ 34 := by
  have h1 := onceI_len (allM p)
  have h2 := List.length_filter_le (fun m => decide (m < 0)) (onceI (allM p))
  have h3 := h.all
  unfold vars
  omega
theorem filt_fm (l : List Int) (q : Int → Bool) : (l.filterMap fun m => if q m then some (D.int m) else none) = (l.filter q).map .int := by
  induction l with
  | nil => rfl
  | cons x l ih =>
    rw [List.filterMap_cons, List.filter_cons]
    cases h : q x <;> simp [ih]
theorem r_vars (n : Nat) (p : Pat) (h : Few p) : Ans (run T (n + 2) 22 [.val (patD p)]) (.lst ((vars p).map .int)) true := by
  refine Go.run (df := df22) rfl rfl ?_
  refine Go.set (ρ1 := [.val (patD p), .un, .un, .un, .un]) (d0 := .lst (p.told.map .int)) (fr0 := true) (by simp [fin, owns, forTurn, lcTurn, dcTurn, asg, asgs, okTo, exB, exS, evT, evE, evO, evOs, evP, evI, evC, dns, rsv, rsvs, Sl.get, frz1, idxD, sliD, cmpD, eqD, inD, isNon, truD, binD, negD, biD, mtD, muTy, muD, setD, keyOf, keysOf, keyOkB, dicPairs, mkSl, isCont, wipeE, unwipe, itemsD, rngD, isTy, noLck, isOwn, mulOk, df22, atI_1]) (by rfl) ?_
  refine Go.each (ρ1 := [.val (patD p), .own (.lst (p.told.map .int)), .un, .un, .un]) lineD p.lines
    (fun rest ρ => ∃ (acc : List Int) (s2 s3 s4 : Sl), ρ = [.val (patD p), .own (.lst (acc.map .int)), s2, s3, s4] ∧ acc ++ rest.flatMap (·.2) = allM p) (by simp [fin, owns, forTurn, lcTurn, dcTurn, asg, asgs, okTo, exB, exS, evT, evE, evO, evOs, evP, evI, evC, dns, rsv, rsvs, Sl.get, frz1, idxD, sliD, cmpD, eqD, inD, isNon, truD, binD, negD, biD, mtD, muTy, muD, setD, keyOf, keysOf, keyOkB, dicPairs, mkSl, isCont, wipeE, unwipe, itemsD, rngD, isTy, noLck, isOwn, mulOk, atI_2]) rfl ⟨p.told, _, _, _, rfl, rfl⟩ ?_ ?_
  · rintro l rest ρ ⟨acc, s2, s3, s4, rfl, he⟩
    have hl := h.all
    rw [← he] at hl
    simp only [List.flatMap_cons, List.length_append] at hl
    refine turn_of (ρ1 := [.val (patD p), .own (.lst (acc.map .int)), .val (.str l.1), .val (tI l.2), s4]) (by simp [fin, owns, forTurn, lcTurn, dcTurn, asg, asgs, okTo, exB, exS, evT, evE, evO, evOs, evP, evI, evC, dns, rsv, rsvs, Sl.get, frz1, idxD, sliD, cmpD, eqD, inD, isNon, truD, binD, negD, biD, mtD, muTy, muD, setD, keyOf, keysOf, keyOkB, dicPairs, mkSl, isCont, wipeE, unwipe, itemsD, rngD, isTy, noLck, isOwn, mulOk]) ?_
    refine Go.set (ρ1 := [.val (patD p), .own (.lst (acc.map .int)), .val (.str l.1), .val (tI l.2), s4]) (d0 := .lst ((acc ++ l.2).map .int)) (fr0 := true) ?_ (by rfl) ?_
    · have hz : acc.length + l.2.length ≤ bigN := bign _ (by omega)
      simp [fin, owns, forTurn, lcTurn, dcTurn, asg, asgs, okTo, exB, exS, evT, evE, evO, evOs, evP, evI, evC, dns, rsv, rsvs, Sl.get, frz1, idxD, sliD, cmpD, eqD, inD, isNon, truD, binD, negD, biD, mtD, muTy, muD, setD, keyOf, keysOf, keyOkB, dicPairs, mkSl, isCont, wipeE, unwipe, itemsD, rngD, isTy, noLck, isOwn, mulOk, hz]
    · exact Go.nil (Trn.nx ⟨acc ++ l.2, _, _, _, rfl, by rw [List.append_assoc]; exact he⟩)
  · rintro ρ ⟨acc, s2, s3, s4, rfl, he⟩
    simp only [List.flatMap_nil, List.append_nil] at he
    subst he
    have hc := ev_call (io := []) (es := .cons (.e (.var 1)) .nil) (ρ := [.val (patD p), .own (.lst ((allM p).map .int)), s2, s3, s4]) (ρ1 := [.val (patD p), .val (.lst ((allM p).map .int)), s2, s3, s4]) (ds := [.lst ((allM p).map .int)]) (by simp [fin, owns, forTurn, lcTurn, dcTurn, asg, asgs, okTo, exB, exS, evT, evE, evO, evOs, evP, evI, evC, dns, rsv, rsvs, Sl.get, frz1, idxD, sliD, cmpD, eqD, inD, isNon, truD, binD, negD, biD, mtD, muTy, muD, setD, keyOf, keysOf, keyOkB, dicPairs, mkSl, isCont, wipeE, unwipe, itemsD, rngD, isTy, noLck, isOwn, mulOk]) (r_once n (allM p) (by have := h.all; omega))
    have e := ev_lcF (Φ := run T (n + 1)) (io := []) (vs := [4]) (g := .nm 4) (c := .yes (.e (.e (.cmp .lt (.pk 4) (.e (.cst (.int 0))))))) (x := .var 4) D.int (fun m => if decide (m < 0) then some (D.int m) else none) (onceI (allM p)) (ev_it hc rfl) (by rfl) (by have := h.all; have := onceI_len (allM p); omega) (fun m _ => by
      by_cases hm : m < 0 <;> simp [fin, owns, forTurn, lcTurn, dcTurn, asg, asgs, okTo, exB, exS, evT, evE, evO, evOs, evP, evI, evC, dns, rsv, rsvs, Sl.get, frz1, idxD, sliD, cmpD, eqD, inD, isNon, truD, binD, negD, biD, mtD, muTy, muD, setD, keyOf, keysOf, keyOkB, dicPairs, mkSl, isCont, wipeE, unwipe, itemsD, rngD, isTy, noLck, isOwn, mulOk, hm])
    rw [filt_fm] at e
    exact Go.retE (fr := true) e ans_ret
def putP (g : Int → Int) (p : Pat) : Pat := ⟨p.cols, p.told.map g, p.lines.map fun l => (l.1, l.2.map g)⟩
abbrev apI (kv : KV') (m : Int) : Int := (kv.lookup m).getD m
theorem gd (o : Option Int) (a : Int) : (Option.map D.int o).getD (.int a) = .int (o.getD a) := by cases o <;> rfl
theorem r_put (n : Nat) (kv : KV') (p : Pat) (h : Few p) : Ans (run T (n + 1) 23 [.val (fD kv), .val (patD p)]) (patD (putP (apI kv) p)) false := by
  refine Go.run (df := df23) rfl rfl ?_
  have inner : ∀ (l : List Int) (s2 s3 s4 : Sl) (it : II) (s5 : Sl), l.length ≤ 1000 → evI (run T n) [] it [.val (fD kv), .val (patD p), s2, s3, s4, s5] = some (l.map .int, [.val (fD kv), .val (patD p), s2, s3, s4, s5]) →
      evE (run T n) [] (.bi .tuple (.e (.lc [5] (.nm 5) it .no (.mt .get (.pk 0) (.cons (.e (.var 5)) (.cons (.e (.var 5)) .nil)))))) [.val (fD kv), .val (patD p), s2, s3, s4, s5] = some (tI (l.map (apI kv)), true, [.val (fD kv), .val (patD p), s2, s3, s4, s5]) := by
    intro l s2 s3 s4 it s5 hl hi
    refine ev_bi (ev_lcM D.int (fun m => .int (apI kv m)) l hi (by rfl) (by omega) (fun a _ => ?_)) ?_
    · exact lc_no (ρ1 := [.val (fD kv), .val (patD p), s2, s3, s4, .val (.int a)]) (fr := false) (ρ2 := [.val (fD kv), .val (patD p), s2, s3, s4, .val (.int a)]) (by simp [fin, owns, forTurn, lcTurn, dcTurn, asg, asgs, okTo, exB, exS, evT, evE, evO, evOs, evP, evI, evC, dns, rsv, rsvs, Sl.get, frz1, idxD, sliD, cmpD, eqD, inD, isNon, truD, binD, negD, biD, mtD, muTy, muD, setD, keyOf, keysOf, keyOkB, dicPairs, mkSl, isCont, wipeE, unwipe, itemsD, rngD, isTy, noLck, isOwn, mulOk]) (by simp [fin, owns, forTurn, lcTurn, dcTurn, asg, asgs, okTo, exB, exS, evT, evE, evO, evOs, evP, evI, evC, dns, rsv, rsvs, Sl.get, frz1, idxD, sliD, cmpD, eqD, inD, isNon, truD, binD, negD, biD, mtD, muTy, muD, setD, keyOf, keysOf, keyOkB, dicPairs, mkSl, isCont, wipeE, unwipe, itemsD, rngD, isTy, noLck, isOwn, mulOk, look_dI, gd]) (by rfl)
    · simp only [biD, tI, List.map_map]
      rfl
  have e1 := ev_lcM (Φ := run T n) (io := []) (vs := [3, 4]) (g := .tp [3, 4]) (it := .it (.idx (.pk 1) (.e (.cst (.int 2))))) (c := .no) (x := .tup (.cons (.e (.var 3)) (.cons (.e (.bi .tuple (.e (.lc [5] (.nm 5) (.it (.var 4)) .no (.mt .get (.pk 0) (.cons (.e (.var 5)) (.cons (.e (.var 5)) .nil))))))) .nil)))
    (ρ := [.val (fD kv), .val (patD p), .un, .un, .un, .un]) (ρ1 := [.val (fD kv), .val (patD p), .un, .un, .un, .un]) lineD (fun l => lineD (l.1, l.2.map (apI kv))) p.lines (by simp [fin, owns, forTurn, lcTurn, dcTurn, asg, asgs, okTo, exB, exS, evT, evE, evO, evOs, evP, evI, evC, dns, rsv, rsvs, Sl.get, frz1, idxD, sliD, cmpD, eqD, inD, isNon, truD, binD, negD, biD, mtD, muTy, muD, setD, keyOf, keysOf, keyOkB, dicPairs, mkSl, isCont, wipeE, unwipe, itemsD, rngD, isTy, noLck, isOwn, mulOk, atI_2]) (by rfl) (by have := h.lines; omega) (fun l hl => by
      have := inner l.2 .un (.val (.str l.1)) (.val (tI l.2)) (.it (.var 4)) .un (by have := h.wide l hl; omega) (by simp [fin, owns, forTurn, lcTurn, dcTurn, asg, asgs, okTo, exB, exS, evT, evE, evO, evOs, evP, evI, evC, dns, rsv, rsvs, Sl.get, frz1, idxD, sliD, cmpD, eqD, inD, isNon, truD, binD, negD, biD, mtD, muTy, muD, setD, keyOf, keysOf, keyOkB, dicPairs, mkSl, isCont, wipeE, unwipe, itemsD, rngD, isTy, noLck, isOwn, mulOk])
      exact lc_no (ρ1 := [.val (fD kv), .val (patD p), .un, .val (.str l.1), .val (tI l.2), .un]) (by simp [fin, owns, forTurn, lcTurn, dcTurn, asg, asgs, okTo, exB, exS, evT, evE, evO, evOs, evP, evI, evC, dns, rsv, rsvs, Sl.get, frz1, idxD, sliD, cmpD, eqD, inD, isNon, truD, binD, negD, biD, mtD, muTy, muD, setD, keyOf, keysOf, keyOkB, dicPairs, mkSl, isCont, wipeE, unwipe, itemsD, rngD, isTy, noLck, isOwn, mulOk]) (ev_tup2 (ρ1 := [.val (fD kv), .val (patD p), .un, .val (.str l.1), .val (tI l.2), .un]) (d := .str l.1) (fr := false) (by simp [fin, owns, forTurn, lcTurn, dcTurn, asg, asgs, okTo, exB, exS, evT, evE, evO, evOs, evP, evI, evC, dns, rsv, rsvs, Sl.get, frz1, idxD, sliD, cmpD, eqD, inD, isNon, truD, binD, negD, biD, mtD, muTy, muD, setD, keyOf, keysOf, keyOkB, dicPairs, mkSl, isCont, wipeE, unwipe, itemsD, rngD, isTy, noLck, isOwn, mulOk]) this) (by rfl))
  refine Go.set (d0 := .tup ((putP (apI kv) p).lines.map lineD)) (fr0 := true) (ρ1 := [.val (fD kv), .val (patD p), .un, .un, .un, .un]) (ev_bi e1 ?_) (by rfl) ?_
  · simp only [biD, putP, List.map_map]
    rfl
  · refine Go.retE (fr := false) (ev_tup3 (ρ1 := [.val (fD kv), .val (patD p), .val (.tup ((putP (apI kv) p).lines.map lineD)), .un, .un, .un]) (d := .tup (p.cols.map .str)) (fr := false) (by simp [fin, owns, forTurn, lcTurn, dcTurn, asg, asgs, okTo, exB, exS, evT, evE, evO, evOs, evP, evI, evC, dns, rsv, rsvs, Sl.get, frz1, idxD, sliD, cmpD, eqD, inD, isNon, truD, binD, negD, biD, mtD, muTy, muD, setD, keyOf, keysOf, keyOkB, dicPairs, mkSl, isCont, wipeE, unwipe, itemsD, rngD, isTy, noLck, isOwn, mulOk, atI_0]) (inner p.told _ _ _ (.it (.idx (.pk 1) (.e (.cst (.int 1))))) _ (by have := h.told; omega) (by simp [fin, owns, forTurn, lcTurn, dcTurn, asg, asgs, okTo, exB, exS, evT, evE, evO, evOs, evP, evI, evC, dns, rsv, rsvs, Sl.get, frz1, idxD, sliD, cmpD, eqD, inD, isNon, truD, binD, negD, biD, mtD, muTy, muD, setD, keyOf, keysOf, keyOkB, dicPairs, mkSl, isCont, wipeE, unwipe, itemsD, rngD, isTy, noLck, isOwn, mulOk, atI_1])) (d3 := .tup ((putP (apI kv) p).lines.map lineD)) (fr3 := false) (ρ3 := [.val (fD kv), .val (patD p), .val (.tup ((putP (apI kv) p).lines.map lineD)), .un, .un, .un]) (by simp [fin, owns, forTurn, lcTurn, dcTurn, asg, asgs, okTo, exB, exS, evT, evE, evO, evOs, evP, evI, evC, dns, rsv, rsvs, Sl.get, frz1, idxD, sliD, cmpD, eqD, inD, isNon, truD, binD, negD, biD, mtD, muTy, muD, setD, keyOf, keysOf, keyOkB, dicPairs, mkSl, isCont, wipeE, unwipe, itemsD, rngD, isTy, noLck, isOwn, mulOk])) ?_
    exact ans_ret
end L2.PL
end
section
set_option maxRecDepth 100000
set_option maxHeartbeats 2000000
/-! k59, part R: _law_is_right. -/
namespace L2.PL
open PySem
/-- a pattern that can be compared and sorted -/
structure POk (p : Pat) : Prop extends Few p where
  cok : p.cols.length ≤ 100
  cls : ∀ c ∈ p.cols, okS c
  nms : ∀ l ∈ p.lines, okS l.1
  ct : p.cols.length = p.told.length
  wd : ∀ l ∈ p.lines, l.2.length = if l.1 = Str.ofString "s" then 2 else 3
theorem lineD_inj {a b : Ln} (h : lineD a = lineD b) : a = b := by
  obtain ⟨a1, a2⟩ := a
  obtain ⟨b1, b2⟩ := b
  simp only [lineD, tI, D.tup.injEq, List.cons.injEq, D.str.injEq, and_true] at h
  obtain ⟨h1, h2⟩ := h
  have : a2 = b2 := by
    have e := congrArg (List.map fun d => match d with | D.int i => i | _ => 0) h2
    rw [List.map_map, List.map_map] at e
    have q : ((fun d => match d with | D.int i => i | _ => 0) ∘ D.int) = (id : Int → Int) := rfl
    rwa [q, List.map_id, List.map_id] at e
  rw [h1, this]
theorem tI_inj {a b : List Int} (h : tI a = tI b) : a = b := by
  have e := congrArg (fun d => match d with | .tup l => l.map (fun d => match d with | D.int i => i | _ => 0) | _ => []) h
  simp only [tI, List.map_map] at e
  have q : ((fun d => match d with | D.int i => i | _ => 0) ∘ D.int) = (id : Int → Int) := rfl
  rwa [q, List.map_id, List.map_id] at e
theorem strs_inj {a b : List Str} (h : D.tup (a.map D.str) = D.tup (b.map D.str)) : a = b := by
  have e := congrArg (fun d => match d with | .tup l => l.map (fun d => match d with | D.str i => i | _ => (Str.ofString "")) | _ => []) h
  simp only [List.map_map] at e
  have q : ((fun d => match d with | D.str i => i | _ => (Str.ofString "")) ∘ D.str) = (id : Str → Str) := rfl
  rwa [q, List.map_id, List.map_id] at e
theorem perm_map_inj {α β : Type} {f : α → β} (hf : ∀ a b, f a = f b → a = b) {xs ys : List α} (h : (xs.map f).Perm (ys.map f)) : xs.Perm ys := by
  classical
  rw [List.perm_iff_count] at h ⊢
  intro a
  have cnt : ∀ l : List α, (l.map f).count (f a) = l.count a := fun l => by
    induction l with
    | nil => rfl
    | cons x l ih =>
      rw [List.map_cons, List.count_cons, List.count_cons, ih]
      by_cases e : x = a
      · subst e; simp
      · have : ¬ f x = f a := fun z => e (hf _ _ z)
        simp [e, this]
  rw [← cnt, ← cnt]
  exact h (f a)
theorem lines_eq {xs ys : List Ln} (hx : ∀ p ∈ xs, okS p.1) : (xs.map lineD).mergeSort leD = (ys.map lineD).mergeSort leD ↔ xs.Perm ys :=
  ⟨fun h => perm_map_inj (fun _ _ => lineD_inj) (sort_perm h), fun h => sort_same (srt_lines hx) (h.map _)⟩
theorem pl_lines {k : Nat} {ls : List D} {xs : List Ln} (hx : ∀ p ∈ xs, okS p.1) (h : ls.Perm (xs.map lineD)) : Pl (k + 3) (.lst ls) := Pl.lst fun d hd => by
  obtain ⟨p, hp, rfl⟩ := List.mem_map.mp (h.mem_iff.mp hd)
  exact (pl_line (hx p hp)).mono (by omega)
open Classical in
theorem eq_sorted {xs ys : List Ln} (hx : ∀ p ∈ xs, okS p.1) (hy : ∀ p ∈ ys, okS p.1) : eqD (.lst ((xs.map lineD).mergeSort leD)) (.lst ((ys.map lineD).mergeSort leD)) = some (decide (xs.Perm ys)) := by
  rw [eqD_pl (pl_lines (k := 61) hx (List.mergeSort_perm _ _)) (pl_lines (k := 61) hy (List.mergeSort_perm _ _))]
  congr 1
  rw [decide_eq_decide]
  simp only [D.lst.injEq]
  exact lines_eq hx
open Classical in
theorem eq_tI (a b : List Int) : eqD (tI a) (tI b) = some (decide (a = b)) := by
  rw [eqD_pl (Pl.tI (k := 63)) (Pl.tI (k := 63))]
  congr 1
  rw [decide_eq_decide]
  exact ⟨tI_inj, fun h => by rw [h]⟩
open Classical in
theorem eq_cols {a b : List Str} (ha : ∀ c ∈ a, okS c) (hb : ∀ c ∈ b, okS c) : eqD (.tup (a.map .str)) (.tup (b.map .str)) = some (decide (a = b)) := by
  have pl : ∀ {l : List Str}, (∀ c ∈ l, okS c) → Pl 64 (.tup (l.map .str)) := fun h => Pl.tup (k := 63) fun d hd => by
    obtain ⟨c, hc, rfl⟩ := List.mem_map.mp hd
    exact .str (h c hc)
  rw [eqD_pl (pl ha) (pl hb)]
  congr 1
  rw [decide_eq_decide]
  exact ⟨strs_inj, fun h => by rw [h]⟩
/-- a mark, exchanged if it is a variable -/
def ap (kv : KV') (m : Int) : Int := if m < 0 then apI kv m else m
structure RightP (a b : Pat) (kv : KV') : Prop where
  own : ∀ m ∈ vars a, ∃ v, kv.lookup m = some v ∧ v < 0
  one : (kv.map (·.2)).Nodup
  cols : a.cols = b.cols
  told : a.told.map (ap kv) = b.told
  lines : (a.lines.map fun l => (l.1, l.2.map (ap kv))).Perm b.lines
end L2.PL
end
section
set_option maxRecDepth 100000
set_option maxHeartbeats 2000000
/-! k59, part S: _law_is_right. -/
namespace L2.PL
open PySem
section
variable {Φ : Fn} {io : List Nat} {ρ ρ1 ρ2 ρ3 : EV} {x y : IE} {d d' d2 : D} {fr fr2 : Bool}
theorem t_or {a b : IT} {k k2 : Bool} (h : evT Φ io a ρ = some (k, ρ1)) (h2 : k = false → evT Φ io b ρ1 = some (k2, ρ2)) (h3 : k = true → ρ2 = ρ1) : evT Φ io (.or a b) ρ = some (k || k2, ρ2) := by
  rw [evT, h]
  cases k with
  | true => simp [h3 rfl]
  | false => simp [h2 rfl]
theorem t_not {a : IT} {k : Bool} (h : evT Φ io a ρ = some (k, ρ1)) : evT Φ io (.not a) ρ = some (!k, ρ1) := by rw [evT, h]; rfl
theorem t_e {k : Bool} (h : evE Φ io x ρ = some (d, fr, ρ1)) (ht : truD d = some k) : evT Φ io (.e (.e x)) ρ = some (k, ρ1) := by
  rw [evT, evO, h]
  simp only [Option.map_some, rsv, ht]
theorem ev_cmp {o : COp} {k : Bool} (h : evE Φ io x ρ = some (d, fr, ρ1)) (h2 : evE Φ io y ρ1 = some (d2, fr2, ρ2)) (hb : cmpD o d d2 = some k) : evE Φ io (.cmp o (.e x) (.e y)) ρ = some (.bl k, true, ρ2) := by
  rw [evE, evO, h]
  simp only [Option.map_some]
  rw [evO, h2]
  simp only [Option.map_some, rsv, hb]
theorem t_cmp {o : COp} {k : Bool} (h : evE Φ io x ρ = some (d, fr, ρ1)) (h2 : evE Φ io y ρ1 = some (d2, fr2, ρ2)) (hb : cmpD o d d2 = some k) : evT Φ io (.e (.e (.cmp o (.e x) (.e y)))) ρ = some (k, ρ2) := t_e (ev_cmp h h2 hb) rfl
theorem ev_cst : evE Φ io (.cst d) ρ = some (d, false, ρ) := by rw [evE]
theorem t_gt0 {xs : List D} (h : evE Φ io x ρ = some (.lst xs, fr, ρ1)) : evT Φ io (.e (.e (.cmp .gt (.e (.bi .len (.e x))) (.e (.cst (.int 0)))))) ρ = some (decide (0 < xs.length), ρ1) :=
  t_cmp (ev_bi h (d' := .int xs.length) rfl) ev_cst (by simp [cmpD])
theorem ev_and {k k2 : Bool} (h : evE Φ io x ρ = some (.bl k, fr, ρ1)) (h2 : k = true → evE Φ io y ρ1 = some (.bl k2, fr2, ρ2)) (h3 : k = false → ρ2 = ρ1) : ∃ fr', evE Φ io (.andv x y) ρ = some (.bl (k && k2), fr', ρ2) := by
  rw [evE, h]
  cases k with
  | true => exact ⟨fr2, by simp [h2 rfl]⟩
  | false => exact ⟨false, by simp [h3 rfl]⟩
end
theorem len_fm {α β : Type} {f : α → Option β} {l : List α} : 0 < (l.filterMap f).length ↔ ∃ a ∈ l, (f a).isSome = true := by
  induction l with
  | nil => simp
  | cons x l ih =>
    rw [List.filterMap_cons]
    cases h : f x with
    | none => simp [ih, h]
    | some v => simp [h]
theorem lookup_zip {l : List Int} {f : Int → Int} {m : Int} (h : m ∈ l) : (l.map fun x => (x, f x)).lookup m = some (f m) := by
  induction l with
  | nil => cases h
  | cons x l ih =>
    by_cases e : m = x
    · subst e; simp [List.lookup]
    · have e' : (m == x) = false := by simp [e]
      rw [List.map_cons, List.lookup, e']
      exact ih ((List.mem_cons.mp h).resolve_left e)
open Classical in
theorem r_right (n : Nat) (a b : Pat) (kv : KV') (ha : POk a) (hb : POk b) (nd : (kv.map (·.1)).Nodup) (hk : kv.length ≤ 1000) : AnsE (run T (n + 3) 24 [.val (patD a), .val (patD b), .val (fD kv)]) (.bl (decide (RightP a b kv))) := by
  refine Go.runE (df := df24) rfl rfl ?_
  have hv := vars_len a ha.toFew
  refine Go.set (ev_call (ds := [patD a]) (ρ1 := [.val (patD a), .val (patD b), .val (fD kv), .un, .un, .un]) (by simp [fin, owns, forTurn, lcTurn, dcTurn, asg, asgs, okTo, exB, exS, evT, evE, evO, evOs, evP, evI, evC, dns, rsv, rsvs, Sl.get, frz1, idxD, sliD, cmpD, eqD, inD, isNon, truD, binD, negD, biD, mtD, muTy, muD, setD, keyOf, keysOf, keyOkB, dicPairs, mkSl, isCont, wipeE, unwipe, itemsD, rngD, isTy, noLck, isOwn, mulOk, df24]) (r_vars n a ha.toFew)) (by rfl) ?_
  -- the first test
  have l1 := ev_lcF (Φ := run T (n + 2)) (io := []) (vs := [5]) (g := .nm 5) (it := .it (.var 3)) (c := .yes (.e (.e (.cmp .notin (.pk 5) (.pk 2))))) (x := .var 5) (ρ := [.val (patD a), .val (patD b), .val (fD kv), .own (.lst ((vars a).map .int)), .un, .un]) (ρ1 := [.val (patD a), .val (patD b), .val (fD kv), .val (.lst ((vars a).map .int)), .un, .un]) D.int (fun m => if !(kv.lookup m).isSome then some (D.int m) else none) (vars a) (by simp [fin, owns, forTurn, lcTurn, dcTurn, asg, asgs, okTo, exB, exS, evT, evE, evO, evOs, evP, evI, evC, dns, rsv, rsvs, Sl.get, frz1, idxD, sliD, cmpD, eqD, inD, isNon, truD, binD, negD, biD, mtD, muTy, muD, setD, keyOf, keysOf, keyOkB, dicPairs, mkSl, isCont, wipeE, unwipe, itemsD, rngD, isTy, noLck, isOwn, mulOk]) (by rfl) (by omega) (fun m _ => by
    refine lc_yes (ρ1 := [.val (patD a), .val (patD b), .val (fD kv), .val (.lst ((vars a).map .int)), .un, .val (.int m)]) (fr := false) (ρ2 := [.val (patD a), .val (patD b), .val (fD kv), .val (.lst ((vars a).map .int)), .un, .val (.int m)]) (ρ3 := [.val (patD a), .val (patD b), .val (fD kv), .val (.lst ((vars a).map .int)), .un, .val (.int m)]) (by simp [fin, owns, forTurn, lcTurn, dcTurn, asg, asgs, okTo, exB, exS, evT, evE, evO, evOs, evP, evI, evC, dns, rsv, rsvs, Sl.get, frz1, idxD, sliD, cmpD, eqD, inD, isNon, truD, binD, negD, biD, mtD, muTy, muD, setD, keyOf, keysOf, keyOkB, dicPairs, mkSl, isCont, wipeE, unwipe, itemsD, rngD, isTy, noLck, isOwn, mulOk]) (by simp [fin, owns, forTurn, lcTurn, dcTurn, asg, asgs, okTo, exB, exS, evT, evE, evO, evOs, evP, evI, evC, dns, rsv, rsvs, Sl.get, frz1, idxD, sliD, cmpD, eqD, inD, isNon, truD, binD, negD, biD, mtD, muTy, muD, setD, keyOf, keysOf, keyOkB, dicPairs, mkSl, isCont, wipeE, unwipe, itemsD, rngD, isTy, noLck, isOwn, mulOk, look_dI]) (fun _ => ⟨by simp [fin, owns, forTurn, lcTurn, dcTurn, asg, asgs, okTo, exB, exS, evT, evE, evO, evOs, evP, evI, evC, dns, rsv, rsvs, Sl.get, frz1, idxD, sliD, cmpD, eqD, inD, isNon, truD, binD, negD, biD, mtD, muTy, muD, setD, keyOf, keysOf, keyOkB, dicPairs, mkSl, isCont, wipeE, unwipe, itemsD, rngD, isTy, noLck, isOwn, mulOk], by rfl⟩) (fun _ => by rfl))
  have t1 := t_gt0 l1
  by_cases hall : ∀ m ∈ vars a, (kv.lookup m).isSome = true
  case neg =>
    have hR : ¬ RightP a b kv := fun r => hall fun m hm => by obtain ⟨v, e, _⟩ := r.own m hm; rw [e]; rfl
    have hk1 : decide (0 < ((vars a).filterMap fun m => if !(kv.lookup m).isSome then some (D.int m) else none).length) = true := by
      rw [decide_eq_true_eq, len_fm]
      by_cases z : ∃ m ∈ vars a, (kv.lookup m).isSome = false
      · obtain ⟨m, hm, hn⟩ := z
        exact ⟨m, hm, by simp [hn]⟩
      · exact absurd (fun m hm => by
          cases q : (kv.lookup m).isSome with
          | true => rfl
          | false => exact absurd ⟨m, hm, q⟩ z) hall
    rw [hk1] at t1
    have t2 := t_or (k2 := true) (b := .e (.e (.cmp .gt (.e (.bi .len (.e (.lc [5] (.nm 5) (.it (.var 3)) (.yes (.e (.e (.cmp .ge (.e (.idx (.pk 2) (.pk 5))) (.e (.cst (.int 0))))))) (.var 5))))) (.e (.cst (.int 0)))))) t1 (fun h => by cases h) (fun _ => rfl)
    refine Go.ifR (x := .cst (.bl false)) (d := .bl false) t2 ev_cst ?_
    rw [decide_eq_false hR]
    exact ansE_ret
  have hk1 : decide (0 < ((vars a).filterMap fun m => if !(kv.lookup m).isSome then some (D.int m) else none).length) = false := by
    rw [decide_eq_false_iff_not, len_fm]
    rintro ⟨m, hm, hs⟩
    rw [hall m hm] at hs
    simp at hs
  rw [hk1] at t1
  have val : ∀ m ∈ vars a, kv.lookup m = some (apI kv m) := fun m hm => by
    have := hall m hm
    unfold apI
    cases e : kv.lookup m with
    | none => rw [e] at this; cases this
    | some v => rfl
  have l2 := ev_lcF (Φ := run T (n + 2)) (io := []) (vs := [5]) (g := .nm 5) (it := .it (.var 3)) (c := .yes (.e (.e (.cmp .ge (.e (.idx (.pk 2) (.pk 5))) (.e (.cst (.int 0))))))) (x := .var 5) (ρ := [.val (patD a), .val (patD b), .val (fD kv), .val (.lst ((vars a).map .int)), .un, .un]) (ρ1 := [.val (patD a), .val (patD b), .val (fD kv), .val (.lst ((vars a).map .int)), .un, .un]) D.int (fun m => if decide (0 ≤ apI kv m) then some (D.int m) else none) (vars a) (by simp [fin, owns, forTurn, lcTurn, dcTurn, asg, asgs, okTo, exB, exS, evT, evE, evO, evOs, evP, evI, evC, dns, rsv, rsvs, Sl.get, frz1, idxD, sliD, cmpD, eqD, inD, isNon, truD, binD, negD, biD, mtD, muTy, muD, setD, keyOf, keysOf, keyOkB, dicPairs, mkSl, isCont, wipeE, unwipe, itemsD, rngD, isTy, noLck, isOwn, mulOk]) (by rfl) (by omega) (fun m hm => by
    have e := val m hm
    refine lc_yes (ρ1 := [.val (patD a), .val (patD b), .val (fD kv), .val (.lst ((vars a).map .int)), .un, .val (.int m)]) (fr := false) (ρ2 := [.val (patD a), .val (patD b), .val (fD kv), .val (.lst ((vars a).map .int)), .un, .val (.int m)]) (ρ3 := [.val (patD a), .val (patD b), .val (fD kv), .val (.lst ((vars a).map .int)), .un, .val (.int m)]) (by simp [fin, owns, forTurn, lcTurn, dcTurn, asg, asgs, okTo, exB, exS, evT, evE, evO, evOs, evP, evI, evC, dns, rsv, rsvs, Sl.get, frz1, idxD, sliD, cmpD, eqD, inD, isNon, truD, binD, negD, biD, mtD, muTy, muD, setD, keyOf, keysOf, keyOkB, dicPairs, mkSl, isCont, wipeE, unwipe, itemsD, rngD, isTy, noLck, isOwn, mulOk]) (by simp only [fin, owns, forTurn, lcTurn, dcTurn, asg, asgs, okTo, exB, exS, evT, evE, evO, evOs, evP, evI, evC, dns, rsv, rsvs, Sl.get, frz1, idxD, sliD, cmpD, eqD, inD, isNon, truD, binD, negD, biD, mtD, muTy, muD, setD, keyOf, keysOf, keyOkB, dicPairs, mkSl, isCont, wipeE, unwipe, itemsD, rngD, isTy, noLck, isOwn, mulOk] at *; simp [fin, owns, forTurn, lcTurn, dcTurn, asg, asgs, okTo, exB, exS, evT, evE, evO, evOs, evP, evI, evC, dns, rsv, rsvs, Sl.get, frz1, idxD, sliD, cmpD, eqD, inD, isNon, truD, binD, negD, biD, mtD, muTy, muD, setD, keyOf, keysOf, keyOkB, dicPairs, mkSl, isCont, wipeE, unwipe, itemsD, rngD, isTy, noLck, isOwn, mulOk, look_dI, e]) (fun _ => ⟨by simp [fin, owns, forTurn, lcTurn, dcTurn, asg, asgs, okTo, exB, exS, evT, evE, evO, evOs, evP, evI, evC, dns, rsv, rsvs, Sl.get, frz1, idxD, sliD, cmpD, eqD, inD, isNon, truD, binD, negD, biD, mtD, muTy, muD, setD, keyOf, keysOf, keyOkB, dicPairs, mkSl, isCont, wipeE, unwipe, itemsD, rngD, isTy, noLck, isOwn, mulOk], by rfl⟩) (fun _ => by rfl))
  have t2 := t_or t1 (fun _ => t_gt0 l2) (fun h => by cases h)
  rw [Bool.false_or] at t2
  by_cases hneg : ∀ m ∈ vars a, apI kv m < 0
  case neg =>
    have hR : ¬ RightP a b kv := fun r => hneg fun m hm => by
      obtain ⟨v, e, h⟩ := r.own m hm
      unfold apI
      rw [e]
      exact h
    have hk2 : decide (0 < ((vars a).filterMap fun m => if decide (0 ≤ apI kv m) then some (D.int m) else none).length) = true := by
      rw [decide_eq_true_eq, len_fm]
      by_cases z : ∃ m ∈ vars a, 0 ≤ apI kv m
      · obtain ⟨m, hm, hn⟩ := z
        exact ⟨m, hm, by simp [hn]⟩
      · exact absurd (fun m hm => Int.not_le.mp fun q => z ⟨m, hm, q⟩) hneg
    rw [hk2] at t2
    refine Go.ifR (x := .cst (.bl false)) (d := .bl false) t2 ev_cst ?_
    rw [decide_eq_false hR]
    exact ansE_ret
  have hk2 : decide (0 < ((vars a).filterMap fun m => if decide (0 ≤ apI kv m) then some (D.int m) else none).length) = false := by
    rw [decide_eq_false_iff_not, len_fm]
    rintro ⟨m, hm, hs⟩
    have := hneg m hm
    by_cases z : 0 ≤ apI kv m
    · exact absurd this (Int.not_lt.mpr z)
    · rw [decide_eq_false z] at hs
      cases hs
  rw [hk2] at t2
  refine Go.ifF (ρ1 := [.val (patD a), .val (patD b), .val (fD kv), .val (.lst ((vars a).map .int)), .un, .un]) t2 ?_
  clear t1 t2 l1 l2 hk1 hk2
  have hvl : (kv.map (·.2)).length = kv.length := List.length_map _
  have c1 := ev_call (io := []) (es := .cons (.e (.bi .lvals (.pk 2))) .nil) (ρ := [.val (patD a), .val (patD b), .val (fD kv), .val (.lst ((vars a).map .int)), .un, .un]) (ρ1 := [.val (patD a), .val (patD b), .val (fD kv), .val (.lst ((vars a).map .int)), .un, .un]) (ds := [.lst ((kv.map (·.2)).map .int)]) (by
    have := vals_dI kv
    simp only [evOs, evO, evE, rsv, Sl.get, List.getElem?_cons_succ, List.getElem?_cons_zero, fD, this, Option.map_some]
    rfl) (r_once (n + 1) (kv.map (·.2)) (by rw [List.length_map]; omega))
  have t1 : evT (run T (n + 2)) [] (.e (.e (.cmp .lt (.e (.bi .len (.e (.call 17 (.cons (.e (.bi .lvals (.pk 2))) .nil))))) (.e (.bi .len (.pk 2)))))) [.val (patD a), .val (patD b), .val (fD kv), .val (.lst ((vars a).map .int)), .un, .un] = some (decide (¬ (kv.map (·.2)).Nodup), [.val (patD a), .val (patD b), .val (fD kv), .val (.lst ((vars a).map .int)), .un, .un]) := by
    refine t_cmp (ev_bi c1 (d' := .int (onceI (kv.map (·.2))).length) (by simp [biD])) (d2 := .int kv.length) (fr2 := true) (ρ2 := [.val (patD a), .val (patD b), .val (fD kv), .val (.lst ((vars a).map .int)), .un, .un]) (by simp [fin, owns, forTurn, lcTurn, dcTurn, asg, asgs, okTo, exB, exS, evT, evE, evO, evOs, evP, evI, evC, dns, rsv, rsvs, Sl.get, frz1, idxD, sliD, cmpD, eqD, inD, isNon, truD, binD, negD, biD, mtD, muTy, muD, setD, keyOf, keysOf, keyOkB, dicPairs, mkSl, isCont, wipeE, unwipe, itemsD, rngD, isTy, noLck, isOwn, mulOk, dI]) ?_
    simp only [cmpD]
    congr 1
    rw [decide_eq_decide, ← onceI_lt, List.length_map]
    omega
  have t2 : evT (run T (n + 2)) [] (.e (.e (.cmp .ne (.e (.idx (.pk 0) (.e (.cst (.int 0))))) (.e (.idx (.pk 1) (.e (.cst (.int 0)))))))) [.val (patD a), .val (patD b), .val (fD kv), .val (.lst ((vars a).map .int)), .un, .un] = some (!decide (a.cols = b.cols), [.val (patD a), .val (patD b), .val (fD kv), .val (.lst ((vars a).map .int)), .un, .un]) := by
    refine t_cmp (d := .tup (a.cols.map .str)) (fr := false) (ρ1 := [.val (patD a), .val (patD b), .val (fD kv), .val (.lst ((vars a).map .int)), .un, .un]) (by simp [fin, owns, forTurn, lcTurn, dcTurn, asg, asgs, okTo, exB, exS, evT, evE, evO, evOs, evP, evI, evC, dns, rsv, rsvs, Sl.get, frz1, idxD, sliD, cmpD, eqD, inD, isNon, truD, binD, negD, biD, mtD, muTy, muD, setD, keyOf, keysOf, keyOkB, dicPairs, mkSl, isCont, wipeE, unwipe, itemsD, rngD, isTy, noLck, isOwn, mulOk, atI_0]) (d2 := .tup (b.cols.map .str)) (fr2 := false) (by simp [fin, owns, forTurn, lcTurn, dcTurn, asg, asgs, okTo, exB, exS, evT, evE, evO, evOs, evP, evI, evC, dns, rsv, rsvs, Sl.get, frz1, idxD, sliD, cmpD, eqD, inD, isNon, truD, binD, negD, biD, mtD, muTy, muD, setD, keyOf, keysOf, keyOkB, dicPairs, mkSl, isCont, wipeE, unwipe, itemsD, rngD, isTy, noLck, isOwn, mulOk, atI_0]) ?_
    simp only [cmpD, eq_cols ha.cls hb.cls, Option.map_some]
  have t3 := t_or t1 (fun _ => t2) (fun _ => rfl)
  by_cases hbad : ¬ (kv.map (·.2)).Nodup ∨ ¬ a.cols = b.cols
  · have hR : ¬ RightP a b kv := fun r => hbad.elim (fun z => z r.one) fun z => z r.cols
    have hk3 : (decide (¬ (kv.map (·.2)).Nodup) || !decide (a.cols = b.cols)) = true := by
      rcases hbad with z | z
      · rw [decide_eq_true z]; rfl
      · rw [decide_eq_false z]; simp
    rw [hk3] at t3
    refine Go.ifR (x := .cst (.bl false)) (d := .bl false) t3 ev_cst ?_
    rw [decide_eq_false hR]
    exact ansE_ret
  have hone : (kv.map (·.2)).Nodup := Classical.byContradiction fun z => hbad (.inl z)
  have hcols : a.cols = b.cols := Classical.byContradiction fun z => hbad (.inr z)
  have hk3 : (decide (¬ (kv.map (·.2)).Nodup) || !decide (a.cols = b.cols)) = false := by
    rw [decide_eq_false (fun z => z hone), decide_eq_true hcols]; rfl
  rw [hk3] at t3
  refine Go.ifF t3 ?_
  clear t1 t2 t3 hk3 c1
  have l3 := ev_lcM (Φ := run T (n + 2)) (io := []) (vs := [5]) (g := .nm 5) (it := .it (.var 3)) (c := .no) (x := .tup (.cons (.e (.var 5)) (.cons (.e (.idx (.pk 2) (.pk 5))) .nil))) (ρ := [.val (patD a), .val (patD b), .val (fD kv), .val (.lst ((vars a).map .int)), .un, .un]) (ρ1 := [.val (patD a), .val (patD b), .val (fD kv), .val (.lst ((vars a).map .int)), .un, .un]) D.int (fun m => prD (m, apI kv m)) (vars a) (by simp [fin, owns, forTurn, lcTurn, dcTurn, asg, asgs, okTo, exB, exS, evT, evE, evO, evOs, evP, evI, evC, dns, rsv, rsvs, Sl.get, frz1, idxD, sliD, cmpD, eqD, inD, isNon, truD, binD, negD, biD, mtD, muTy, muD, setD, keyOf, keysOf, keyOkB, dicPairs, mkSl, isCont, wipeE, unwipe, itemsD, rngD, isTy, noLck, isOwn, mulOk]) (by rfl) (by omega) (fun m hm => by
    have e := val m hm
    refine lc_no (ρ1 := [.val (patD a), .val (patD b), .val (fD kv), .val (.lst ((vars a).map .int)), .un, .val (.int m)]) (fr := false) (ρ2 := [.val (patD a), .val (patD b), .val (fD kv), .val (.lst ((vars a).map .int)), .un, .val (.int m)]) (by simp [fin, owns, forTurn, lcTurn, dcTurn, asg, asgs, okTo, exB, exS, evT, evE, evO, evOs, evP, evI, evC, dns, rsv, rsvs, Sl.get, frz1, idxD, sliD, cmpD, eqD, inD, isNon, truD, binD, negD, biD, mtD, muTy, muD, setD, keyOf, keysOf, keyOkB, dicPairs, mkSl, isCont, wipeE, unwipe, itemsD, rngD, isTy, noLck, isOwn, mulOk]) ?_ (by rfl)
    exact ev_tup2 (ρ1 := [.val (patD a), .val (patD b), .val (fD kv), .val (.lst ((vars a).map .int)), .un, .val (.int m)]) (d := .int m) (fr := false) (fr2 := false) (by simp [fin, owns, forTurn, lcTurn, dcTurn, asg, asgs, okTo, exB, exS, evT, evE, evO, evOs, evP, evI, evC, dns, rsv, rsvs, Sl.get, frz1, idxD, sliD, cmpD, eqD, inD, isNon, truD, binD, negD, biD, mtD, muTy, muD, setD, keyOf, keysOf, keyOkB, dicPairs, mkSl, isCont, wipeE, unwipe, itemsD, rngD, isTy, noLck, isOwn, mulOk]) (by simp only [fin, owns, forTurn, lcTurn, dcTurn, asg, asgs, okTo, exB, exS, evT, evE, evO, evOs, evP, evI, evC, dns, rsv, rsvs, Sl.get, frz1, idxD, sliD, cmpD, eqD, inD, isNon, truD, binD, negD, biD, mtD, muTy, muD, setD, keyOf, keysOf, keyOkB, dicPairs, mkSl, isCont, wipeE, unwipe, itemsD, rngD, isTy, noLck, isOwn, mulOk] at *; simp [fin, owns, forTurn, lcTurn, dcTurn, asg, asgs, okTo, exB, exS, evT, evE, evO, evOs, evP, evI, evC, dns, rsv, rsvs, Sl.get, frz1, idxD, sliD, cmpD, eqD, inD, isNon, truD, binD, negD, biD, mtD, muTy, muD, setD, keyOf, keysOf, keyOkB, dicPairs, mkSl, isCont, wipeE, unwipe, itemsD, rngD, isTy, noLck, isOwn, mulOk, look_dI, e]))
  have e3 : (vars a).map (fun m => prD (m, apI kv m)) = ((vars a).map fun m => ((m, apI kv m) : Int × Int)).map prD := by rw [List.map_map]; rfl
  rw [e3] at l3
  have l4 := ev_bi l3 (dict_prs _)
  have nk : (((vars a).map fun m => ((m, apI kv m) : Int × Int)).map (·.1)).Nodup := by
    rw [List.map_map]
    have : (vars a).map ((·.1) ∘ fun m => ((m, apI kv m) : Int × Int)) = vars a := List.map_id _
    rw [this]
    exact vars_nodup a
  rw [ofP_same nk] at l4
  have hput := r_put (n + 1) ((vars a).map fun m => (m, apI kv m)) a ha.toFew
  have agree : ∀ m ∈ allM a, apI ((vars a).map fun m => (m, apI kv m)) m = ap kv m := fun m hm => by
    unfold ap
    by_cases h0 : m < 0
    · rw [if_pos h0]
      show (List.lookup m _).getD m = _
      rw [lookup_zip (f := fun m => apI kv m) (mem_vars.mpr ⟨hm, h0⟩)]
      rfl
    · rw [if_neg h0]
      show (List.lookup m _).getD m = _
      rw [lookup_none.mpr]
      · rfl
      · rw [List.map_map]
        have : (vars a).map ((·.1) ∘ fun m => ((m, apI kv m) : Int × Int)) = vars a := List.map_id _
        rw [this]
        exact fun z => h0 (mem_vars.mp z).2
  have eput : putP (apI ((vars a).map fun m => (m, apI kv m))) a = putP (ap kv) a := by
    unfold putP
    congr 1
    · exact List.map_congr_left fun m hm => agree m (List.mem_append.mpr (.inl hm))
    · refine List.map_congr_left fun l hl => ?_
      congr 1
      exact List.map_congr_left fun m hm => agree m (List.mem_append.mpr (.inr (List.mem_flatMap.mpr ⟨l, hl, hm⟩)))
  rw [eput] at hput
  have c2 := ev_call (io := []) (es := .cons (.e (.bi (.dict false) (.e (.lc [5] (.nm 5) (.it (.var 3)) .no (.tup (.cons (.e (.var 5)) (.cons (.e (.idx (.pk 2) (.pk 5))) .nil))))))) (.cons (.e (.var 0)) .nil)) (ρ := [.val (patD a), .val (patD b), .val (fD kv), .val (.lst ((vars a).map .int)), .un, .un]) (ρ1 := [.val (patD a), .val (patD b), .val (fD kv), .val (.lst ((vars a).map .int)), .un, .un]) (ds := [fD ((vars a).map fun m => (m, apI kv m)), patD a]) (by
    rw [evOs, evO, l4]
    simp only [Option.map_some]
    simp [fin, owns, forTurn, lcTurn, dcTurn, asg, asgs, okTo, exB, exS, evT, evE, evO, evOs, evP, evI, evC, dns, rsv, rsvs, Sl.get, frz1, idxD, sliD, cmpD, eqD, inD, isNon, truD, binD, negD, biD, mtD, muTy, muD, setD, keyOf, keysOf, keyOkB, dicPairs, mkSl, isCont, wipeE, unwipe, itemsD, rngD, isTy, noLck, isOwn, mulOk, unwipe]) hput
  refine Go.set (ρ1 := [.val (patD a), .val (patD b), .val (fD kv), .val (.lst ((vars a).map .int)), .un, .un]) c2 (by rfl) ?_
  have hnm : ∀ p ∈ (putP (ap kv) a).lines, okS p.1 := fun p hp => by
    obtain ⟨l, hl, rfl⟩ := List.mem_map.mp hp
    exact ha.nms l hl
  have hlen : (putP (ap kv) a).lines.length ≤ 1000 := by
    show (a.lines.map _).length ≤ _
    rw [List.length_map]
    have := ha.lines
    omega
  have s1 := sortD_lines hnm hlen
  have s2 := sortD_lines (ls := b.lines) hb.nms (by have := hb.lines; omega)
  have q1 : evE (run T (n + 2)) [] (.cmp .eq (.e (.idx (.pk 4) (.e (.cst (.int 1))))) (.e (.idx (.pk 1) (.e (.cst (.int 1)))))) [.val (patD a), .val (patD b), .val (fD kv), .val (.lst ((vars a).map .int)), .val (patD (putP (ap kv) a)), .un] = some (.bl (decide (a.told.map (ap kv) = b.told)), true, [.val (patD a), .val (patD b), .val (fD kv), .val (.lst ((vars a).map .int)), .val (patD (putP (ap kv) a)), .un]) :=
    ev_cmp (d := tI (a.told.map (ap kv))) (fr := false) (ρ1 := [.val (patD a), .val (patD b), .val (fD kv), .val (.lst ((vars a).map .int)), .val (patD (putP (ap kv) a)), .un]) (by simp [fin, owns, forTurn, lcTurn, dcTurn, asg, asgs, okTo, exB, exS, evT, evE, evO, evOs, evP, evI, evC, dns, rsv, rsvs, Sl.get, frz1, idxD, sliD, cmpD, eqD, inD, isNon, truD, binD, negD, biD, mtD, muTy, muD, setD, keyOf, keysOf, keyOkB, dicPairs, mkSl, isCont, wipeE, unwipe, itemsD, rngD, isTy, noLck, isOwn, mulOk, atI_1, putP]) (d2 := tI b.told) (fr2 := false) (by simp [fin, owns, forTurn, lcTurn, dcTurn, asg, asgs, okTo, exB, exS, evT, evE, evO, evOs, evP, evI, evC, dns, rsv, rsvs, Sl.get, frz1, idxD, sliD, cmpD, eqD, inD, isNon, truD, binD, negD, biD, mtD, muTy, muD, setD, keyOf, keysOf, keyOkB, dicPairs, mkSl, isCont, wipeE, unwipe, itemsD, rngD, isTy, noLck, isOwn, mulOk, atI_1]) (eq_tI _ _)
  have q2 : evE (run T (n + 2)) [] (.cmp .eq (.e (.bi .sorted (.e (.bi .list (.e (.idx (.pk 4) (.e (.cst (.int 2))))))))) (.e (.bi .sorted (.e (.bi .list (.e (.idx (.pk 1) (.e (.cst (.int 2)))))))))) [.val (patD a), .val (patD b), .val (fD kv), .val (.lst ((vars a).map .int)), .val (patD (putP (ap kv) a)), .un] = some (.bl (decide ((putP (ap kv) a).lines.Perm b.lines)), true, [.val (patD a), .val (patD b), .val (fD kv), .val (.lst ((vars a).map .int)), .val (patD (putP (ap kv) a)), .un]) :=
    ev_cmp (d := .lst (((putP (ap kv) a).lines.map lineD).mergeSort leD)) (d2 := .lst ((b.lines.map lineD).mergeSort leD)) (ev_bi (d := .lst ((putP (ap kv) a).lines.map lineD)) (fr := true) (ρ1 := [.val (patD a), .val (patD b), .val (fD kv), .val (.lst ((vars a).map .int)), .val (patD (putP (ap kv) a)), .un]) (by simp [fin, owns, forTurn, lcTurn, dcTurn, asg, asgs, okTo, exB, exS, evT, evE, evO, evOs, evP, evI, evC, dns, rsv, rsvs, Sl.get, frz1, idxD, sliD, cmpD, eqD, inD, isNon, truD, binD, negD, biD, mtD, muTy, muD, setD, keyOf, keysOf, keyOkB, dicPairs, mkSl, isCont, wipeE, unwipe, itemsD, rngD, isTy, noLck, isOwn, mulOk, atI_2]) (by simp only [biD, s1, Option.map_some])) (ev_bi (d := .lst (b.lines.map lineD)) (fr := true) (ρ1 := [.val (patD a), .val (patD b), .val (fD kv), .val (.lst ((vars a).map .int)), .val (patD (putP (ap kv) a)), .un]) (by simp [fin, owns, forTurn, lcTurn, dcTurn, asg, asgs, okTo, exB, exS, evT, evE, evO, evOs, evP, evI, evC, dns, rsv, rsvs, Sl.get, frz1, idxD, sliD, cmpD, eqD, inD, isNon, truD, binD, negD, biD, mtD, muTy, muD, setD, keyOf, keysOf, keyOkB, dicPairs, mkSl, isCont, wipeE, unwipe, itemsD, rngD, isTy, noLck, isOwn, mulOk, atI_2]) (by simp only [biD, s2, Option.map_some])) (eq_sorted hnm hb.nms)
  obtain ⟨fr, q3⟩ := ev_and q1 (fun _ => q2) (fun _ => rfl)
  have hR : decide (RightP a b kv) = (decide (a.told.map (ap kv) = b.told) && decide ((putP (ap kv) a).lines.Perm b.lines)) := by
    rw [Bool.eq_iff_iff, Bool.and_eq_true, decide_eq_true_eq, decide_eq_true_eq, decide_eq_true_eq]
    exact ⟨fun r => ⟨r.told, r.lines⟩, fun r => ⟨fun m hm => ⟨_, val m hm, hneg m hm⟩, hone, hcols, r.1, r.2⟩⟩
  rw [hR]
  exact Go.retE q3 ansE_ret
end L2.PL
end
section
set_option maxRecDepth 100000
set_option maxHeartbeats 2000000
/-! k59, part U: an exchange is found exactly where there is one. -/
namespace L2.PL
open PySem
def Neg (kv : KV') : Prop := ∀ p ∈ kv, p.1 < 0 ∧ p.2 < 0
def Exd (c kv : KV') : Prop := ∀ k v, c.lookup k = some v → kv.lookup k = some v
def apL (kv : KV') (l : Ln) : Ln := (l.1, l.2.map (ap kv))
def exch (a b : Pat) : Option KV' := if a.cols ≠ b.cols ∨ a.lines.length ≠ b.lines.length then none else match mtGo [] a.told b.told with
  | none => none
  | some kv => ledGo kv a.lines b.lines
theorem lookup_snoc {kv : KV'} {k v : Int} (h : kv.lookup k = none) : (kv ++ [(k, v)]).lookup k = some v ∧ Exd kv (kv ++ [(k, v)]) := by
  constructor
  · induction kv with
    | nil => simp [List.lookup]
    | cons p kv ih =>
      rw [List.lookup] at h
      split at h
      · cases h
      · rename_i e
        rw [List.cons_append, List.lookup, e]
        exact ih h
  · intro k2 v2 h2
    induction kv with
    | nil => simp at h2
    | cons p kv ih =>
      rw [List.lookup] at h h2
      rw [List.cons_append, List.lookup]
      split at h
      · cases h
      · split at h2
        · exact h2
        · exact ih h h2
theorem Exd.trans {a b c : KV'} (h : Exd a b) (g : Exd b c) : Exd a c := fun k v e => g k v (h k v e)
theorem inj_snoc {kv : KV'} {m o : Int} (n : Inj kv) (hv : kv.lookup m = none) (ht : o ∉ kv.map (·.2)) : Inj (kv ++ [(m, o)]) := ⟨nodup_snoc n.1 hv, by
  rw [List.map_append, List.nodup_append]
  exact ⟨n.2, by simp, fun a ha b hb z => by simp at hb; subst hb z; exact ht ha⟩⟩
theorem mt_sound : ∀ {ms os : List Int} {kv kv' : KV'}, ms.length = os.length → Inj kv → Neg kv → mtGo kv ms os = some kv' → Exd kv kv' ∧ Neg kv' ∧ (∀ m ∈ ms, m < 0 → (kv'.lookup m).isSome = true) ∧ ms.map (ap kv') = os
  | [], [], kv, kv', _, _, hN, e => by simp only [mtGo] at e; cases e; exact ⟨fun _ _ h => h, hN, (fun m hm => by cases hm), rfl⟩
  | [], _ :: _, _, _, h, _, _, _ => by cases h
  | _ :: _, [], _, _, h, _, _, _ => by cases h
  | m :: ms, o :: os, kv, kv', hl, hI, hN, e => by
    have hl2 : ms.length = os.length := Nat.succ.inj hl
    rw [mtGo] at e
    split at e
    · rename_i h0
      split at e
      · rename_i hmo
        subst hmo
        have hm : ¬ m < 0 := by rcases h0 with z | z <;> omega
        obtain ⟨h1, h2, h3, h4⟩ := mt_sound hl2 hI hN e
        refine ⟨h1, h2, fun k hk h => ?_, ?_⟩
        · rcases List.mem_cons.mp hk with z | z
          · exact absurd (z ▸ h) hm
          · exact h3 k z h
        · rw [List.map_cons, h4]
          congr 1
          unfold ap
          rw [if_neg hm]
      · cases e
    · rename_i h0
      have hm : m < 0 := by omega
      have fin : ∀ {c : KV'}, Exd c kv' → c.lookup m = some o → (∀ m ∈ ms, m < 0 → (kv'.lookup m).isSome = true) → ms.map (ap kv') = os → (∀ k ∈ m :: ms, k < 0 → (kv'.lookup k).isSome = true) ∧ (m :: ms).map (ap kv') = o :: os := fun he hv h3 h4 => by
        have q := he m o hv
        refine ⟨fun k hk h => ?_, ?_⟩
        · rcases List.mem_cons.mp hk with z | z
          · rw [z, q]; rfl
          · exact h3 k z h
        · rw [List.map_cons, h4]
          congr 1
          unfold ap apI
          rw [if_pos hm, q]
          rfl
      split at e
      · rename_i v hv
        split at e
        · rename_i hvo
          subst hvo
          obtain ⟨h1, h2, h3, h4⟩ := mt_sound hl2 hI hN e
          obtain ⟨q1, q2⟩ := fin h1 hv h3 h4
          exact ⟨h1, h2, q1, q2⟩
        · cases e
      · rename_i hv
        split at e
        · cases e
        · rename_i ht
          obtain ⟨h1, h2, h3, h4⟩ := mt_sound hl2 (inj_snoc hI hv ht) (fun p hp => by
            rcases List.mem_append.mp hp with z | z
            · exact hN p z
            · rw [List.mem_singleton] at z; subst z; exact ⟨hm, by show o < 0; omega⟩) e
          obtain ⟨q1, q2⟩ := fin h1 (lookup_snoc hv).1 h3 h4
          exact ⟨(lookup_snoc hv).2.trans h1, h2, q1, q2⟩
theorem ap_ext {c kv : KV'} (h : Exd c kv) {m : Int} (hm : m < 0 → (c.lookup m).isSome = true) : ap kv m = ap c m := by
  unfold ap
  split
  · rename_i h0
    have := hm h0
    cases e : c.lookup m with
    | none => rw [e] at this; cases this
    | some v => unfold apI; rw [h m v e, e]
  · rfl
theorem cut_perm {α : Type} : ∀ {ts : List α} {i : Nat} {t : α}, ts[i]? = some t → ts.Perm (t :: (ts.take i ++ ts.drop (i + 1)))
  | [], i, t, h => by simp at h
  | x :: ts, 0, t, h => by simp at h; subst h; simp
  | x :: ts, i + 1, t, h => by
    have h2 : ts[i]? = some t := by simpa using h
    rw [List.take_succ_cons, List.drop_succ_cons, List.cons_append]
    exact (List.Perm.cons x (cut_perm h2)).trans (List.Perm.swap t x _)
theorem led_sound : ∀ {os ts : List Ln} {kv kv' : KV'}, os.length = ts.length → Wd os ts → Inj kv → Neg kv → ledGo kv os ts = some kv' → Exd kv kv' ∧ Inj kv' ∧ Neg kv' ∧ kv'.length ≤ kv.length + (os.map (·.2.length)).sum ∧ (∀ o ∈ os, ∀ m ∈ o.2, m < 0 → (kv'.lookup m).isSome = true) ∧ (os.map (apL kv')).Perm ts
  | [], ts, kv, kv', hl, _, hI, hN, e => by
    simp only [ledGo] at e
    cases e
    have : ts = [] := List.eq_nil_of_length_eq_zero hl.symm
    subst this
    exact ⟨fun _ _ h => h, hI, hN, by simp, (fun o ho => by cases ho), .nil⟩
  | o :: os, ts, kv, kv', hl, hW, hI, hN, e => by
    rw [ledGo] at e
    obtain ⟨i, hi, e⟩ := List.exists_of_findSome?_eq_some e
    split at e
    · rename_i t et
      split at e
      · rename_i hn
        split at e
        · rename_i kv1 em
          have htm : t ∈ ts := List.mem_of_getElem? et
          have hlen := hW o List.mem_cons_self t htm hn
          obtain ⟨x1, x2, x3, x4⟩ := mt_sound hlen hI hN em
          obtain ⟨y1, y2⟩ := mt_ok hI em
          have hp := cut_perm et
          have hpl := hp.length_eq
          rw [List.length_cons] at hpl hl
          obtain ⟨z1, z2, z3, z4, z5, z6⟩ := led_sound (by omega) (hW.rest i) y1 x2 e
          refine ⟨x1.trans z1, z2, z3, ?_, ?_, ?_⟩
          · rw [List.map_cons, List.sum_cons]; omega
          · intro p hp m hm h0
            rcases List.mem_cons.mp hp with z | z
            · subst z
              have := x3 m hm h0
              cases q : kv1.lookup m with
              | none => rw [q] at this; cases this
              | some v => rw [z1 m v q]; rfl
            · exact z5 p z m hm h0
          · rw [List.map_cons]
            refine (List.Perm.cons _ z6).trans ?_
            have : apL kv' o = t := by
              unfold apL
              have : o.2.map (ap kv') = t.2 := by
                rw [← x4]
                exact List.map_congr_left fun m hm => ap_ext z1 (x3 m hm)
              rw [this, ← hn]
            rw [this]
            exact hp.symm
        · cases e
      · cases e
    · cases e
theorem wd_of {a b : Pat} (ha : POk a) (hb : POk b) : Wd a.lines b.lines := fun o ho t ht e => by rw [ha.wd o ho, hb.wd t ht, e]
theorem exch_sound {a b : Pat} (ha : POk a) (hb : POk b) {kv : KV'} (e : exch a b = some kv) : RightP a b kv ∧ Inj kv ∧ kv.length ≤ 100 := by
  unfold exch at e
  split at e
  · cases e
  · rename_i hc
    have hcols : a.cols = b.cols := Classical.byContradiction fun z => hc (.inl z)
    have hlines : a.lines.length = b.lines.length := Classical.byContradiction fun z => hc (.inr z)
    split at e
    · cases e
    · rename_i c em
      have hl : a.told.length = b.told.length := by rw [← ha.ct, ← hb.ct, hcols]
      have i0 : Inj [] := ⟨List.nodup_nil, List.nodup_nil⟩
      obtain ⟨x1, x2, x3, x4⟩ := mt_sound hl i0 (fun p hp => by cases hp) em
      obtain ⟨y1, y2⟩ := mt_ok i0 em
      obtain ⟨z1, z2, z3, z4, z5, z6⟩ := led_sound hlines (wd_of ha hb) y1 x2 e
      refine ⟨⟨fun m hm => ?_, z2.2, hcols, ?_, z6⟩, z2, ?_⟩
      · obtain ⟨hm, h0⟩ := mem_vars.mp hm
        have : (kv.lookup m).isSome = true := by
          rcases List.mem_append.mp hm with q | q
          · have := x3 m q h0
            cases r : c.lookup m with
            | none => rw [r] at this; cases this
            | some v => rw [z1 m v r]; rfl
          · obtain ⟨l, hl, hm⟩ := List.mem_flatMap.mp q
            exact z5 l hl m hm h0
        cases r : kv.lookup m with
        | none => rw [r] at this; cases this
        | some v => exact ⟨v, rfl, (z3 _ (lookup_mem r)).2⟩
      · rw [← x4]
        exact List.map_congr_left fun m hm => ap_ext z1 (x3 m hm)
      · have h1 := ha.told
        have h2 : (a.lines.map (·.2.length)).sum ≤ 24 := by
          have h3 := ha.lines
          have : ∀ ls : List Ln, (∀ l ∈ ls, l.2.length ≤ 3) → (ls.map (·.2.length)).sum ≤ ls.length * 3 := fun ls => by
            induction ls with
            | nil => simp
            | cons l ls ih =>
              intro h
              have := ih fun x hx => h x (List.mem_cons_of_mem _ hx)
              have := h l List.mem_cons_self
              rw [List.map_cons, List.sum_cons, List.length_cons]
              omega
          have := this a.lines ha.wide
          omega
        simp at y2
        omega
/-! completeness -/
theorem lookup_inj {kv : KV'} (n : (kv.map (·.2)).Nodup) {a b v : Int} (ha : kv.lookup a = some v) (hb : kv.lookup b = some v) : a = b := by
  have h1 := lookup_mem ha
  have h2 := lookup_mem hb
  clear ha hb
  induction kv with
  | nil => cases h1
  | cons p kv ih =>
    rw [List.map_cons, List.nodup_cons] at n
    rcases List.mem_cons.mp h1 with z | z
    · rcases List.mem_cons.mp h2 with w | w
      · rw [← w] at z; exact congrArg Prod.fst z
      · exact absurd (List.mem_map.mpr ⟨_, w, by rw [← z]⟩) n.1
    · rcases List.mem_cons.mp h2 with w | w
      · exact absurd (List.mem_map.mpr ⟨_, z, by rw [← w]⟩) n.1
      · exact ih n.2 z w
def Agr (S : List Int) (kv c : KV') : Prop := ∀ p ∈ c, p.1 ∈ S ∧ kv.lookup p.1 = some p.2
theorem mt_complete {S : List Int} {kv : KV'} (hn : (kv.map (·.2)).Nodup) (hS : ∀ m ∈ S, ∃ v, kv.lookup m = some v ∧ v < 0) : ∀ (ms : List Int) (c : KV'), (∀ m ∈ ms, m < 0 → m ∈ S) → Agr S kv c → ∃ c', mtGo c ms (ms.map (ap kv)) = some c' ∧ Agr S kv c'
  | [], c, _, h => ⟨c, by simp [mtGo], h⟩
  | m :: ms, c, hm, h => by
    have ih := fun c h => mt_complete hn hS ms c (fun k hk => hm k (List.mem_cons_of_mem _ hk)) h
    rw [List.map_cons, mtGo]
    by_cases h0 : m < 0
    · obtain ⟨v, ev, hv⟩ := hS m (hm m List.mem_cons_self h0)
      have ea : ap kv m = v := by unfold ap apI; rw [if_pos h0, ev]; rfl
      rw [ea, if_neg (by omega)]
      cases el : c.lookup m with
      | some w =>
        have := (h _ (lookup_mem el)).2
        rw [ev] at this
        cases this
        simp only [if_true]
        exact ih c h
      | none =>
        simp only
        rw [if_neg]
        · exact ih _ fun p hp => by
            rcases List.mem_append.mp hp with z | z
            · exact h p z
            · rw [List.mem_singleton] at z; subst z; exact ⟨hm m List.mem_cons_self h0, ev⟩
        · intro z
          obtain ⟨p, hp, e⟩ := List.mem_map.mp z
          have := (h p hp).2
          rw [e] at this
          have := lookup_inj hn this ev
          exact lookup_none.mp el (List.mem_map.mpr ⟨p, hp, this⟩)
    · have ea : ap kv m = m := by unfold ap; rw [if_neg h0]
      rw [ea, if_pos (.inl (by omega)), if_pos rfl]
      exact ih c h
theorem led_complete {S : List Int} {kv : KV'} (hn : (kv.map (·.2)).Nodup) (hS : ∀ m ∈ S, ∃ v, kv.lookup m = some v ∧ v < 0) : ∀ (os ts : List Ln) (c : KV'), (∀ o ∈ os, ∀ m ∈ o.2, m < 0 → m ∈ S) → Agr S kv c → (os.map (apL kv)).Perm ts → (ledGo c os ts).isSome = true
  | [], ts, c, _, _, _ => by simp [ledGo]
  | o :: os, ts, c, hm, h, hp => by
    rw [List.map_cons] at hp
    have hmem : apL kv o ∈ ts := hp.mem_iff.mp List.mem_cons_self
    obtain ⟨i, hi, et⟩ := List.mem_iff_getElem.mp hmem
    have et : ts[i]? = some (apL kv o) := by rw [List.getElem?_eq_getElem hi, et]
    obtain ⟨c', em, h'⟩ := mt_complete hn hS o.2 c (hm o List.mem_cons_self) h
    have hp2 := List.Perm.cons_inv (hp.trans (cut_perm et))
    have ih := led_complete hn hS os _ c' (fun p hp => hm p (List.mem_cons_of_mem _ hp)) h' hp2
    rw [ledGo, List.findSome?_isSome_iff]
    refine ⟨i, List.mem_range.mpr hi, ?_⟩
    rw [et]
    simp only [apL, if_true, em]
    exact ih
theorem exch_complete {a b : Pat} {kv : KV'} (r : RightP a b kv) : (exch a b).isSome = true := by
  unfold exch
  have hl : a.lines.length = b.lines.length := by have := r.lines.length_eq; rwa [List.length_map] at this
  rw [if_neg (fun z => z.elim (fun z => z r.cols) fun z => z hl), ← r.told]
  obtain ⟨c, em, h⟩ := mt_complete (S := vars a) r.one r.own a.told [] (fun m hm h0 => mem_vars.mpr ⟨List.mem_append.mpr (.inl hm), h0⟩) (fun p hp => by cases hp)
  rw [em]
  exact led_complete r.one r.own a.lines b.lines c (fun o ho m hm h0 => mem_vars.mpr ⟨List.mem_append.mpr (.inr (List.mem_flatMap.mpr ⟨o, ho, hm⟩)), h0⟩) h r.lines
/-! all exchanges, gone through -/
def exStep (theirs : List Int) (fs : List KV') (m : Int) : List KV' := fs.flatMap fun f => theirs.filterMap fun o => if o ∈ f.map (·.2) then none else some (f ++ [(m, o)])
def exs (ours theirs : List Int) : List KV' := ours.foldl (exStep theirs) [[]]
theorem exs_mem {theirs : List Int} {f : Int → Int} : ∀ (rest pre : List Int) (fs : List KV'), (pre.map fun m => (m, f m)) ∈ fs → ((pre ++ rest).map f).Nodup → (∀ m ∈ rest, f m ∈ theirs) → ((pre ++ rest).map fun m => (m, f m)) ∈ rest.foldl (exStep theirs) fs
  | [], pre, fs, h, _, _ => by rw [List.append_nil]; exact h
  | m :: rest, pre, fs, h, n, ht => by
    have e : pre ++ m :: rest = (pre ++ [m]) ++ rest := by rw [List.append_assoc]; rfl
    rw [e, List.foldl_cons]
    refine exs_mem rest (pre ++ [m]) _ ?_ (by rw [← e]; exact n) fun k hk => ht k (List.mem_cons_of_mem _ hk)
    unfold exStep
    rw [List.mem_flatMap]
    refine ⟨_, h, List.mem_filterMap.mpr ⟨f m, ht m List.mem_cons_self, ?_⟩⟩
    rw [if_neg]
    · rw [List.map_append]; rfl
    · rw [List.map_map]
      intro z
      obtain ⟨k, hk, ek⟩ := List.mem_map.mp z
      rw [List.map_append, List.nodup_append] at n
      exact n.2.2 (f k) (List.mem_map.mpr ⟨k, hk, rfl⟩) (f m) (List.mem_map.mpr ⟨m, List.mem_cons_self, rfl⟩) ek
theorem exs_keys {theirs : List Int} : ∀ (rest pre : List Int) (fs : List KV'), (∀ f ∈ fs, f.map (·.1) = pre) → ∀ f ∈ rest.foldl (exStep theirs) fs, f.map (·.1) = pre ++ rest
  | [], pre, fs, h, f, hf => by rw [List.append_nil]; exact h f hf
  | m :: rest, pre, fs, h, f, hf => by
    have e : pre ++ m :: rest = (pre ++ [m]) ++ rest := by rw [List.append_assoc]; rfl
    rw [e]
    refine exs_keys rest (pre ++ [m]) _ (fun g hg => ?_) f hf
    unfold exStep at hg
    obtain ⟨q, hq, hg⟩ := List.mem_flatMap.mp hg
    obtain ⟨o, _, ho⟩ := List.mem_filterMap.mp hg
    split at ho
    · cases ho
    · cases ho
      rw [List.map_append, h q hq]
      rfl
theorem exs_right {a b : Pat} {kv : KV'} (r : RightP a b kv) : ∃ kv' ∈ exs (vars a) (vars b), RightP a b kv' := by
  have val : ∀ m ∈ vars a, kv.lookup m = some (apI kv m) ∧ apI kv m < 0 := fun m hm => by
    obtain ⟨v, e, h⟩ := r.own m hm
    unfold apI
    rw [e]
    exact ⟨rfl, h⟩
  have agree : ∀ m ∈ allM a, ap ((vars a).map fun m => (m, apI kv m)) m = ap kv m := fun m hm => by
    unfold ap
    by_cases h0 : m < 0
    · rw [if_pos h0, if_pos h0]
      show (List.lookup m _).getD m = _
      rw [lookup_zip (f := fun m => apI kv m) (mem_vars.mpr ⟨hm, h0⟩)]
      rfl
    · rw [if_neg h0, if_neg h0]
  have inj : ((vars a).map fun m => apI kv m).Nodup := by
    have n := vars_nodup a
    have : ∀ l : List Int, l.Nodup → (∀ m ∈ l, m ∈ vars a) → (l.map fun m => apI kv m).Nodup := fun l => by
      induction l with
      | nil => intro _ _; exact List.nodup_nil
      | cons x l ih =>
        intro n h
        rw [List.nodup_cons] at n
        rw [List.map_cons, List.nodup_cons]
        refine ⟨fun z => ?_, ih n.2 fun m hm => h m (List.mem_cons_of_mem _ hm)⟩
        obtain ⟨y, hy, e⟩ := List.mem_map.mp z
        have h1 := (val y (h y (List.mem_cons_of_mem _ hy))).1
        have h2 := (val x (h x List.mem_cons_self)).1
        have e' : apI kv y = apI kv x := e
        rw [e'] at h1
        exact n.1 ((lookup_inj r.one h1 h2) ▸ hy)
    exact this _ n fun _ h => h
  refine ⟨(vars a).map fun m => (m, apI kv m), ?_, ⟨fun m hm => ⟨_, lookup_zip (f := fun m => apI kv m) hm, (val m hm).2⟩, ?_, r.cols, ?_, ?_⟩⟩
  · refine exs_mem (vars a) [] [[]] (by simp) inj fun m hm => ?_
    obtain ⟨hm2, h0⟩ := mem_vars.mp hm
    refine mem_vars.mpr ⟨?_, (val m hm).2⟩
    have ea : ap kv m = apI kv m := by unfold ap; rw [if_pos h0]
    rw [← ea]
    rcases List.mem_append.mp hm2 with q | q
    · exact List.mem_append.mpr (.inl (by rw [← r.told]; exact List.mem_map.mpr ⟨m, q, rfl⟩))
    · obtain ⟨l, hl, hm3⟩ := List.mem_flatMap.mp q
      have : (l.1, l.2.map (ap kv)) ∈ b.lines := r.lines.mem_iff.mp (List.mem_map.mpr ⟨l, hl, rfl⟩)
      exact List.mem_append.mpr (.inr (List.mem_flatMap.mpr ⟨_, this, List.mem_map.mpr ⟨m, hm3, rfl⟩⟩))
  · rw [List.map_map]; exact inj
  · rw [← r.told]
    exact List.map_congr_left fun m hm => agree m (List.mem_append.mpr (.inl hm))
  · have : (a.lines.map fun l => (l.1, l.2.map (ap ((vars a).map fun m => (m, apI kv m))))) = a.lines.map fun l => (l.1, l.2.map (ap kv)) := by
      refine List.map_congr_left fun l hl => ?_
      congr 1
      exact List.map_congr_left fun m hm => agree m (List.mem_append.mpr (.inr (List.mem_flatMap.mpr ⟨l, hl, hm⟩)))
    rw [this]
    exact r.lines
end L2.PL
end
section
set_option maxRecDepth 100000
set_option maxHeartbeats 2000000
/-! k59, part V: exchange, are_one, _law_exchanges, _law_is_int. -/
namespace L2.PL
open PySem
/-- slot.append(x) -/
theorem Go.app {Φ : Fn} {io : List Nat} {b : IB} {P : Out → Prop} {ρ ρ1 : EV} {i : Nat} {xs xs0 : List D} {x : IE} {d : D} {fr : Bool} (e0 : ρ[i]? = some (.own (.lst xs0))) (h : evE Φ io x ρ = some (d, fr, ρ1)) (e1 : ρ1[i]? = some (.own (.lst xs))) (hl : xs.length < bigN) (k : Go Φ io b (ρ1.set i (.own (.lst (xs ++ [d])))) P) : Go Φ io (.cons (.ex (.mu .append i (.cons (.e x) .nil))) b) ρ P := by
  refine Go.ex (d0 := .non) (fr0 := false) ?_ k
  rw [evE, e0]
  simp only [muTy, if_true]
  rw [evOs, evO, h]
  simp only [Option.map_some, evOs, dns, e1, muD]
  rw [if_pos hl]
  rfl
open Classical in
theorem t_ne_cols {Φ : Fn} {io : List Nat} {r : EV} {a b : Pat} (ha : POk a) (hb : POk b) (e0 : r[0]? = some (.val (patD a))) (e1 : r[1]? = some (.val (patD b))) : evT Φ io (.or (.e (.e (.cmp .ne (.e (.idx (.pk 0) (.e (.cst (.int 0))))) (.e (.idx (.pk 1) (.e (.cst (.int 0)))))))) (.e (.e (.cmp .ne (.e (.bi .len (.e (.idx (.pk 0) (.e (.cst (.int 2))))))) (.e (.bi .len (.e (.idx (.pk 1) (.e (.cst (.int 2)))))))))) ) r = some (decide (a.cols ≠ b.cols ∨ a.lines.length ≠ b.lines.length), r) := by
  have i0 : evE Φ io (.idx (.pk 0) (.e (.cst (.int 0)))) r = some (.tup (a.cols.map .str), false, r) := by simp [fin, owns, forTurn, lcTurn, dcTurn, asg, asgs, okTo, exB, exS, evT, evE, evO, evOs, evP, evI, evC, dns, rsv, rsvs, Sl.get, frz1, idxD, sliD, cmpD, eqD, inD, isNon, truD, binD, negD, biD, mtD, muTy, muD, setD, keyOf, keysOf, keyOkB, dicPairs, mkSl, isCont, wipeE, unwipe, itemsD, rngD, isTy, noLck, isOwn, mulOk, e0, atI_0]
  have i1 : evE Φ io (.idx (.pk 1) (.e (.cst (.int 0)))) r = some (.tup (b.cols.map .str), false, r) := by simp [fin, owns, forTurn, lcTurn, dcTurn, asg, asgs, okTo, exB, exS, evT, evE, evO, evOs, evP, evI, evC, dns, rsv, rsvs, Sl.get, frz1, idxD, sliD, cmpD, eqD, inD, isNon, truD, binD, negD, biD, mtD, muTy, muD, setD, keyOf, keysOf, keyOkB, dicPairs, mkSl, isCont, wipeE, unwipe, itemsD, rngD, isTy, noLck, isOwn, mulOk, e1, atI_0]
  have j0 : evE Φ io (.idx (.pk 0) (.e (.cst (.int 2)))) r = some (.tup (a.lines.map lineD), false, r) := by simp [fin, owns, forTurn, lcTurn, dcTurn, asg, asgs, okTo, exB, exS, evT, evE, evO, evOs, evP, evI, evC, dns, rsv, rsvs, Sl.get, frz1, idxD, sliD, cmpD, eqD, inD, isNon, truD, binD, negD, biD, mtD, muTy, muD, setD, keyOf, keysOf, keyOkB, dicPairs, mkSl, isCont, wipeE, unwipe, itemsD, rngD, isTy, noLck, isOwn, mulOk, e0, atI_2]
  have j1 : evE Φ io (.idx (.pk 1) (.e (.cst (.int 2)))) r = some (.tup (b.lines.map lineD), false, r) := by simp [fin, owns, forTurn, lcTurn, dcTurn, asg, asgs, okTo, exB, exS, evT, evE, evO, evOs, evP, evI, evC, dns, rsv, rsvs, Sl.get, frz1, idxD, sliD, cmpD, eqD, inD, isNon, truD, binD, negD, biD, mtD, muTy, muD, setD, keyOf, keysOf, keyOkB, dicPairs, mkSl, isCont, wipeE, unwipe, itemsD, rngD, isTy, noLck, isOwn, mulOk, e1, atI_2]
  have t := t_or (k2 := decide (a.lines.length ≠ b.lines.length)) (ρ2 := r) (t_cmp (o := .ne) (k := !decide (a.cols = b.cols)) i0 i1 (by simp only [cmpD, eq_cols ha.cls hb.cls, Option.map_some])) (fun _ => t_cmp (o := .ne) (ev_bi (b := .len) j0 (d' := .int a.lines.length) (by simp [biD])) (ev_bi (b := .len) j1 (d' := .int b.lines.length) (by simp [biD])) (by
    simp only [cmpD, eqD, Option.map_some, Option.some.injEq]
    rw [Bool.eq_iff_iff]
    simp
    omega)) (fun _ => rfl)
  rw [t]
  congr 2
  rw [Bool.eq_iff_iff]
  simp
theorem r_exchange (n : Nat) (a b : Pat) (ha : POk a) (hb : POk b) (hn : 11 ≤ n) : AnsE (run T (n + 1) 3 [.val (patD a), .val (patD b)]) (optD (exch a b)) := by
  classical
  refine Go.runE (df := df3) rfl rfl ?_
  have t := t_ne_cols (Φ := run T n) (io := []) (r := [.val (patD a), .val (patD b), .un]) ha hb rfl rfl
  by_cases hbad : a.cols ≠ b.cols ∨ a.lines.length ≠ b.lines.length
  · rw [decide_eq_true hbad] at t
    refine Go.ifR (d := .non) t ev_cst ?_
    unfold exch
    rw [if_pos hbad]
    exact ansE_ret
  · rw [decide_eq_false hbad] at t
    refine Go.ifF t ?_
    have hcols : a.cols = b.cols := Classical.byContradiction fun z => hbad (.inl z)
    have hl : a.told.length = b.told.length := by rw [← ha.ct, ← hb.ct, hcols]
    obtain ⟨m, rfl⟩ : ∃ m, n = m + 1 := ⟨n - 1, by omega⟩
    have i0 : Inj [] := ⟨List.nodup_nil, List.nodup_nil⟩
    have h1 := r_matched m [] a.told b.told hl i0 (by have := ha.told; simp; omega)
    refine Go.set (ev_call (ds := [fD [], tI a.told, tI b.told]) (ρ1 := [.val (patD a), .val (patD b), .un]) (by simp [fin, owns, forTurn, lcTurn, dcTurn, asg, asgs, okTo, exB, exS, evT, evE, evO, evOs, evP, evI, evC, dns, rsv, rsvs, Sl.get, frz1, idxD, sliD, cmpD, eqD, inD, isNon, truD, binD, negD, biD, mtD, muTy, muD, setD, keyOf, keysOf, keyOkB, dicPairs, mkSl, isCont, wipeE, unwipe, itemsD, rngD, isTy, noLck, isOwn, mulOk, atI_1, mrg, dI]) h1) (by rfl) ?_
    rw [opt_sl]
    have ex : exch a b = match mtGo [] a.told b.told with
      | none => none
      | some kv => ledGo kv a.lines b.lines := by unfold exch; rw [if_neg hbad] <;> (cases mtGo [] a.told b.told <;> rfl)
    cases em : mtGo [] a.told b.told with
    | none =>
      rw [em] at ex
      refine Go.ifR (ρ1 := [.val (patD a), .val (patD b), .val .non]) (d := .non) (fr := false) (by simp [fin, owns, forTurn, lcTurn, dcTurn, asg, asgs, okTo, exB, exS, evT, evE, evO, evOs, evP, evI, evC, dns, rsv, rsvs, Sl.get, frz1, idxD, sliD, cmpD, eqD, inD, isNon, truD, binD, negD, biD, mtD, muTy, muD, setD, keyOf, keysOf, keyOkB, dicPairs, mkSl, isCont, wipeE, unwipe, itemsD, rngD, isTy, noLck, isOwn, mulOk]) ev_cst ?_
      rw [ex]
      exact ansE_ret
    | some kv =>
      rw [em] at ex
      obtain ⟨y1, y2⟩ := mt_ok i0 em
      have hz := ha.told
      have hz2 := ha.lines
      have hz3 := hb.lines
      simp at y2
      have h2 := r_led a.lines b.lines kv (m + 1) (by omega) y1 (by omega) ha.wide (wd_of ha hb) (by omega) (by omega)
      refine Go.ifF (ρ1 := [.val (patD a), .val (patD b), .own (fD kv)]) (by simp [fin, owns, forTurn, lcTurn, dcTurn, asg, asgs, okTo, exB, exS, evT, evE, evO, evOs, evP, evI, evC, dns, rsv, rsvs, Sl.get, frz1, idxD, sliD, cmpD, eqD, inD, isNon, truD, binD, negD, biD, mtD, muTy, muD, setD, keyOf, keysOf, keyOkB, dicPairs, mkSl, isCont, wipeE, unwipe, itemsD, rngD, isTy, noLck, isOwn, mulOk]) ?_
      obtain ⟨fr, h2⟩ := h2
      refine Go.retE (ev_call (ds := [fD kv, .lst (a.lines.map lineD), .lst (b.lines.map lineD)]) (ρ1 := [.val (patD a), .val (patD b), .val (fD kv)]) (by simp [fin, owns, forTurn, lcTurn, dcTurn, asg, asgs, okTo, exB, exS, evT, evE, evO, evOs, evP, evI, evC, dns, rsv, rsvs, Sl.get, frz1, idxD, sliD, cmpD, eqD, inD, isNon, truD, binD, negD, biD, mtD, muTy, muD, setD, keyOf, keysOf, keyOkB, dicPairs, mkSl, isCont, wipeE, unwipe, itemsD, rngD, isTy, noLck, isOwn, mulOk, atI_2]) h2) ?_
      rw [ex]
      exact ansE_ret
theorem r_are_one (n : Nat) (a b : Pat) (ha : POk a) (hb : POk b) (hn : 11 ≤ n) : AnsE (run T (n + 2) 6 [.val (patD a), .val (patD b)]) (.bl (exch a b).isSome) := by
  refine Go.runE (df := df6) rfl rfl ?_
  obtain ⟨fr, h⟩ := r_exchange n a b ha hb hn
  refine Go.retE (ev_cmp (k := (exch a b).isSome) (ev_call (ds := [patD a, patD b]) (ρ1 := [.val (patD a), .val (patD b)]) (by simp [fin, owns, forTurn, lcTurn, dcTurn, asg, asgs, okTo, exB, exS, evT, evE, evO, evOs, evP, evI, evC, dns, rsv, rsvs, Sl.get, frz1, idxD, sliD, cmpD, eqD, inD, isNon, truD, binD, negD, biD, mtD, muTy, muD, setD, keyOf, keysOf, keyOkB, dicPairs, mkSl, isCont, wipeE, unwipe, itemsD, rngD, isTy, noLck, isOwn, mulOk, df6]) h) ev_cst ?_) ansE_ret
  simp only [cmpD]
  cases exch a b <;> rfl
theorem exStep_len (theirs : List Int) (fs : List KV') (m : Int) : (exStep theirs fs m).length ≤ fs.length * theirs.length := flat_len _ _ fs fun f _ => List.length_filterMap_le _ _
theorem exs_len {theirs : List Int} : ∀ (rest : List Int) (fs : List KV'), (rest.foldl (exStep theirs) fs).length ≤ fs.length * theirs.length ^ rest.length
  | [], fs => by simp
  | m :: rest, fs => by
    have h1 := exs_len (theirs := theirs) rest (exStep theirs fs m)
    have h2 := exStep_len theirs fs m
    rw [List.foldl_cons, List.length_cons, Nat.pow_succ, Nat.mul_comm (theirs.length ^ rest.length), ← Nat.mul_assoc]
    exact Nat.le_trans h1 (Nat.mul_le_mul_right _ h2)
theorem in_vals (o : Int) (l : List Int) : inD (.int o) (.lst (l.map .int)) = some (decide (o ∈ l)) := by
  have fl : (l.map D.int).all flatD = true := by
    rw [List.all_eq_true]
    intro x hx
    obtain ⟨i, _, rfl⟩ := List.mem_map.mp hx
    rfl
  simp only [inD, flatD, fl, Bool.and_self, if_true]
  congr 1
  rw [Bool.eq_iff_iff, decide_eq_true_eq, L2.inV, List.any_eq_true]
  constructor
  · rintro ⟨y, hy, e⟩
    rw [List.map_map] at hy
    obtain ⟨i, hi, rfl⟩ := List.mem_map.mp hy
    have : i = o := by simpa [toV, L2.eqV, Function.comp] using e
    exact this ▸ hi
  · intro h
    exact ⟨.int o, by rw [List.map_map]; exact List.mem_map.mpr ⟨o, h, rfl⟩, by simp [toV, L2.eqV]⟩
theorem r_exs (n : Nat) (ours theirs : List Int) (h1 : ours.length ≤ 4) (h2 : theirs.length ≤ 34) (nd : ours.Nodup) : AnsE (run T (n + 1) 25 [.val (.lst (ours.map .int)), .val (.lst (theirs.map .int))]) (.lst ((exs ours theirs).map fD)) := by
  have pow : ∀ k, k ≤ 4 → 34 ^ k ≤ 1336336 := fun k hk => by
    have : k = 0 ∨ k = 1 ∨ k = 2 ∨ k = 3 ∨ k = 4 := by omega
    rcases this with rfl | rfl | rfl | rfl | rfl <;> decide
  have small : ∀ pre : List Int, pre.length ≤ 4 → (exs pre theirs).length ≤ 1336336 := fun pre hp => by
    have a1 := exs_len (theirs := theirs) pre [[]]
    have a2 : theirs.length ^ pre.length ≤ 34 ^ pre.length := Nat.pow_le_pow_left h2 _
    have a3 := pow _ hp
    rw [List.length_singleton, Nat.one_mul] at a1
    exact Nat.le_trans a1 (Nat.le_trans a2 a3)
  refine Go.runE (df := df25) rfl rfl ?_
  refine Go.set (ρ1 := [.val (.lst (ours.map .int)), .val (.lst (theirs.map .int)), .un, .un, .un, .un, .un]) (d0 := .lst [fD []]) (fr0 := true) (by simp [fin, owns, forTurn, lcTurn, dcTurn, asg, asgs, okTo, exB, exS, evT, evE, evO, evOs, evP, evI, evC, dns, rsv, rsvs, Sl.get, frz1, idxD, sliD, cmpD, eqD, inD, isNon, truD, binD, negD, biD, mtD, muTy, muD, setD, keyOf, keysOf, keyOkB, dicPairs, mkSl, isCont, wipeE, unwipe, itemsD, rngD, isTy, noLck, isOwn, mulOk, df25, dI, mrg, bign]) (by rfl) ?_
  refine Go.each (ρ1 := [.val (.lst (ours.map .int)), .val (.lst (theirs.map .int)), .own (.lst [fD []]), .un, .un, .un, .un]) D.int ours
    (fun rest ρ => ∃ (pre : List Int) (s2 s3 s4 s5 s6 : Sl), ours = pre ++ rest ∧ Hold s2 (.lst ((exs pre theirs).map fD)) ∧ ρ = [.val (.lst (ours.map .int)), .val (.lst (theirs.map .int)), s2, s3, s4, s5, s6]) (by simp [fin, owns, forTurn, lcTurn, dcTurn, asg, asgs, okTo, exB, exS, evT, evE, evO, evOs, evP, evI, evC, dns, rsv, rsvs, Sl.get, frz1, idxD, sliD, cmpD, eqD, inD, isNon, truD, binD, negD, biD, mtD, muTy, muD, setD, keyOf, keysOf, keyOkB, dicPairs, mkSl, isCont, wipeE, unwipe, itemsD, rngD, isTy, noLck, isOwn, mulOk]) rfl
    ⟨[], _, _, _, _, _, rfl, .inl rfl, rfl⟩ ?_ ?_
  · rintro m rest ρ ⟨pre, s2, s3, s4, s5, s6, eo, hs, rfl⟩
    have hpl : pre.length + 1 ≤ 4 := by have := congrArg List.length eo; rw [List.length_append, List.length_cons] at this; omega
    have hmp : m ∉ pre := by
      rw [eo, List.nodup_append] at nd
      exact fun z => nd.2.2 m z m List.mem_cons_self rfl
    have keys : ∀ f ∈ exs pre theirs, f.map (·.1) = [] ++ pre := exs_keys (theirs := theirs) pre [] [[]] (fun f hf => by rw [List.mem_singleton] at hf; subst hf; rfl)
    have sm := small pre (by omega)
    have sm2 := small (pre ++ [m]) (by rw [List.length_append, List.length_singleton]; omega)
    have es : exs (pre ++ [m]) theirs = exStep theirs (exs pre theirs) m := by unfold exs; rw [List.foldl_append]; rfl
    rw [es] at sm2
    generalize exs pre theirs = fs at *
    refine turn_of (ρ1 := [.val (.lst (ours.map .int)), .val (.lst (theirs.map .int)), s2, .val (.int m), s4, s5, s6]) (by simp [fin, owns, forTurn, lcTurn, dcTurn, asg, asgs, okTo, exB, exS, evT, evE, evO, evOs, evP, evI, evC, dns, rsv, rsvs, Sl.get, frz1, idxD, sliD, cmpD, eqD, inD, isNon, truD, binD, negD, biD, mtD, muTy, muD, setD, keyOf, keysOf, keyOkB, dicPairs, mkSl, isCont, wipeE, unwipe, itemsD, rngD, isTy, noLck, isOwn, mulOk]) ?_
    refine Go.set (ρ1 := [.val (.lst (ours.map .int)), .val (.lst (theirs.map .int)), s2, .val (.int m), s4, s5, s6]) (d0 := .lst []) (fr0 := true) (by simp [fin, owns, forTurn, lcTurn, dcTurn, asg, asgs, okTo, exB, exS, evT, evE, evO, evOs, evP, evI, evC, dns, rsv, rsvs, Sl.get, frz1, idxD, sliD, cmpD, eqD, inD, isNon, truD, binD, negD, biD, mtD, muTy, muD, setD, keyOf, keysOf, keyOkB, dicPairs, mkSl, isCont, wipeE, unwipe, itemsD, rngD, isTy, noLck, isOwn, mulOk]) (by rfl) ?_
    refine Go.each (ρ1 := [.val (.lst (ours.map .int)), .val (.lst (theirs.map .int)), .val (.lst (fs.map fD)), .val (.int m), .own (.lst []), s5, s6]) fD fs
      (fun rs ρ => ∃ (acc : List KV') (s5 s6 : Sl), ρ = [.val (.lst (ours.map .int)), .val (.lst (theirs.map .int)), .val (.lst (fs.map fD)), .val (.int m), .own (.lst (acc.map fD)), s5, s6] ∧ acc ++ exStep theirs rs m = exStep theirs fs m ∧ (∀ f ∈ rs, f.map (·.1) = pre)) ?_ rfl
      ⟨[], s5, s6, rfl, rfl, fun f hf => by have := keys f hf; rwa [List.nil_append] at this⟩ ?_ ?_
    · rcases hs with rfl | rfl <;> simp [fin, owns, forTurn, lcTurn, dcTurn, asg, asgs, okTo, exB, exS, evT, evE, evO, evOs, evP, evI, evC, dns, rsv, rsvs, Sl.get, frz1, idxD, sliD, cmpD, eqD, inD, isNon, truD, binD, negD, biD, mtD, muTy, muD, setD, keyOf, keysOf, keyOkB, dicPairs, mkSl, isCont, wipeE, unwipe, itemsD, rngD, isTy, noLck, isOwn, mulOk]
    · rintro f rs ρ ⟨acc, s5, s6, rfl, he, hk⟩
      have hkf := hk f List.mem_cons_self
      have hstep : exStep theirs (f :: rs) m = (theirs.filterMap fun o => if o ∈ f.map (·.2) then none else some (f ++ [(m, o)])) ++ exStep theirs rs m := by unfold exStep; rw [List.flatMap_cons]
      rw [hstep] at he
      have hfl : f.length ≤ 4 := by have := congrArg List.length hkf; rw [List.length_map] at this; omega
      refine turn_of (ρ1 := [.val (.lst (ours.map .int)), .val (.lst (theirs.map .int)), .val (.lst (fs.map fD)), .val (.int m), .own (.lst (acc.map fD)), .val (fD f), s6]) (by simp [fin, owns, forTurn, lcTurn, dcTurn, asg, asgs, okTo, exB, exS, evT, evE, evO, evOs, evP, evI, evC, dns, rsv, rsvs, Sl.get, frz1, idxD, sliD, cmpD, eqD, inD, isNon, truD, binD, negD, biD, mtD, muTy, muD, setD, keyOf, keysOf, keyOkB, dicPairs, mkSl, isCont, wipeE, unwipe, itemsD, rngD, isTy, noLck, isOwn, mulOk]) ?_
      refine Go.each (ρ1 := [.val (.lst (ours.map .int)), .val (.lst (theirs.map .int)), .val (.lst (fs.map fD)), .val (.int m), .own (.lst (acc.map fD)), .val (fD f), s6]) D.int theirs
        (fun os ρ => ∃ (ac : List KV') (s6 : Sl), ρ = [.val (.lst (ours.map .int)), .val (.lst (theirs.map .int)), .val (.lst (fs.map fD)), .val (.int m), .own (.lst (ac.map fD)), .val (fD f), s6] ∧ ac ++ (os.filterMap fun o => if o ∈ f.map (·.2) then none else some (f ++ [(m, o)])) = acc ++ (theirs.filterMap fun o => if o ∈ f.map (·.2) then none else some (f ++ [(m, o)])) ∧ ac.length + (os.filterMap fun o => if o ∈ f.map (·.2) then none else some (f ++ [(m, o)])).length ≤ 1336336) (by simp [fin, owns, forTurn, lcTurn, dcTurn, asg, asgs, okTo, exB, exS, evT, evE, evO, evOs, evP, evI, evC, dns, rsv, rsvs, Sl.get, frz1, idxD, sliD, cmpD, eqD, inD, isNon, truD, binD, negD, biD, mtD, muTy, muD, setD, keyOf, keysOf, keyOkB, dicPairs, mkSl, isCont, wipeE, unwipe, itemsD, rngD, isTy, noLck, isOwn, mulOk]) rfl
        ⟨acc, s6, rfl, rfl, by have := congrArg List.length he; simp only [List.length_append] at this; omega⟩ ?_ ?_
      · rintro o os ρ ⟨ac, s6, rfl, he2, hz⟩
        refine turn_of (ρ1 := [.val (.lst (ours.map .int)), .val (.lst (theirs.map .int)), .val (.lst (fs.map fD)), .val (.int m), .own (.lst (ac.map fD)), .val (fD f), .val (.int o)]) (by simp [fin, owns, forTurn, lcTurn, dcTurn, asg, asgs, okTo, exB, exS, evT, evE, evO, evOs, evP, evI, evC, dns, rsv, rsvs, Sl.get, frz1, idxD, sliD, cmpD, eqD, inD, isNon, truD, binD, negD, biD, mtD, muTy, muD, setD, keyOf, keysOf, keyOkB, dicPairs, mkSl, isCont, wipeE, unwipe, itemsD, rngD, isTy, noLck, isOwn, mulOk]) ?_
        have hin : evT (run T n) [] (.e (.e (.cmp .notin (.pk 6) (.e (.bi .lvals (.pk 5)))))) [.val (.lst (ours.map .int)), .val (.lst (theirs.map .int)), .val (.lst (fs.map fD)), .val (.int m), .own (.lst (ac.map fD)), .val (fD f), .val (.int o)] = some (!decide (o ∈ f.map (·.2)), [.val (.lst (ours.map .int)), .val (.lst (theirs.map .int)), .val (.lst (fs.map fD)), .val (.int m), .own (.lst (ac.map fD)), .val (fD f), .val (.int o)]) := by
          have e1 := vals_dI f
          have e2 := in_vals o (f.map (·.2))
          simp only [evT, evO, evE, rsv, Sl.get, fD, List.getElem?_cons_succ, List.getElem?_cons_zero, e1, Option.map_some, cmpD, e2, truD]
        rw [List.filterMap_cons] at he2 hz
        by_cases ho : o ∈ f.map (·.2)
        · rw [if_pos ho] at he2 hz
          rw [decide_eq_true ho] at hin
          refine Go.ifF hin (Go.nil (Trn.nx ⟨ac, _, rfl, he2, hz⟩))
        · rw [if_neg ho] at he2 hz
          rw [decide_eq_false ho] at hin
          simp only [List.length_cons] at hz
          refine Go.iff (k := true) hin ?_
          simp only [if_true]
          have nk : ((f ++ [(m, o)]).map (·.1)).Nodup := by
            rw [List.map_append, hkf, List.nodup_append]
            rw [eo, List.nodup_append] at nd
            exact ⟨nd.1, by simp, fun x hx y hy z => by simp at hy; subst hy z; exact hmp hx⟩
          have e1 : evE (run T n) [] (.bi (.dict false) (.e (.bin .add (.e (.bi .litems (.pk 5))) (.e (.lst (.cons (.e (.tup (.cons (.e (.var 3)) (.cons (.e (.var 6)) .nil)))) .nil)))))) [.val (.lst (ours.map .int)), .val (.lst (theirs.map .int)), .val (.lst (fs.map fD)), .val (.int m), .own (.lst (ac.map fD)), .val (fD f), .val (.int o)] = some (fD (f ++ [(m, o)]), true, [.val (.lst (ours.map .int)), .val (.lst (theirs.map .int)), .val (.lst (fs.map fD)), .val (.int m), .own (.lst (ac.map fD)), .val (fD f), .val (.int o)]) := by
            refine ev_bi (ev_bin (d := .lst (f.map prD)) (fr := true) (ρ1 := [.val (.lst (ours.map .int)), .val (.lst (theirs.map .int)), .val (.lst (fs.map fD)), .val (.int m), .own (.lst (ac.map fD)), .val (fD f), .val (.int o)]) ?_ (d2 := .lst [prD (m, o)]) (fr2 := true) (by simp [fin, owns, forTurn, lcTurn, dcTurn, asg, asgs, okTo, exB, exS, evT, evE, evO, evOs, evP, evI, evC, dns, rsv, rsvs, Sl.get, frz1, idxD, sliD, cmpD, eqD, inD, isNon, truD, binD, negD, biD, mtD, muTy, muD, setD, keyOf, keysOf, keyOkB, dicPairs, mkSl, isCont, wipeE, unwipe, itemsD, rngD, isTy, noLck, isOwn, mulOk, bign]) (d' := .lst ((f ++ [(m, o)]).map prD)) ?_) ?_
            · have e1 := items_dI f
              simp only [evE, evO, rsv, Sl.get, fD, List.getElem?_cons_succ, List.getElem?_cons_zero, e1, Option.map_some]
            · simp only [binD, List.map_append, List.map_cons, List.map_nil]
              rw [if_pos (bign _ (by simp; omega))]
            · rw [dict_prs, ofP_same nk]
          have hz3 : (List.map fD ac).length < bigN := by rw [List.length_map]; show _ < 16777216; omega
          refine Go.app rfl e1 rfl hz3 (Go.nil (Kn.nxt (Go.nil (Trn.nx ⟨ac ++ [f ++ [(m, o)]], .val (.int o), ?_, by rw [List.append_assoc]; exact he2, by rw [List.length_append, List.length_singleton]; omega⟩))))
          rw [List.map_append]
          rfl
      · rintro ρ ⟨ac, s6, rfl, he2, _⟩
        rw [List.filterMap_nil, List.append_nil] at he2
        refine Go.nil (Trn.nx ⟨ac, _, _, rfl, ?_, fun g hg => hk g (List.mem_cons_of_mem _ hg)⟩)
        rw [he2, List.append_assoc]
        exact he
    · rintro ρ ⟨acc, s5, s6, rfl, he, _⟩
      rw [show exStep theirs [] m = [] from rfl, List.append_nil] at he
      subst he
      refine Go.set (ρ1 := [.val (.lst (ours.map .int)), .val (.lst (theirs.map .int)), .val (.lst (fs.map fD)), .val (.int m), .val (.lst ((exStep theirs fs m).map fD)), s5, s6]) (d0 := .lst ((exStep theirs fs m).map fD)) (fr0 := false) (by simp [fin, owns, forTurn, lcTurn, dcTurn, asg, asgs, okTo, exB, exS, evT, evE, evO, evOs, evP, evI, evC, dns, rsv, rsvs, Sl.get, frz1, idxD, sliD, cmpD, eqD, inD, isNon, truD, binD, negD, biD, mtD, muTy, muD, setD, keyOf, keysOf, keyOkB, dicPairs, mkSl, isCont, wipeE, unwipe, itemsD, rngD, isTy, noLck, isOwn, mulOk]) (by rfl) ?_
      exact Go.nil (Trn.nx ⟨pre ++ [m], _, _, _, _, _, by rw [List.append_assoc]; exact eo, .inr (by rw [es]; rfl), rfl⟩)
  · rintro ρ ⟨pre, s2, s3, s4, s5, s6, eo, hs, rfl⟩
    rw [List.append_nil] at eo
    subst eo
    rcases hs with rfl | rfl
    · exact Go.retO rfl rfl ansE_ret
    · exact Go.retv rfl ansE_ret
end L2.PL
end
section
set_option maxRecDepth 100000
set_option maxHeartbeats 2000000
/-! k59, part X: _law_pair_holds. -/
namespace L2.PL
open PySem
section
variable {Φ : Fn} {io : List Nat} {ρ ρ1 ρ2 ρ3 : EV} {x y z : IE} {d d2 d3 : D} {fr fr2 fr3 : Bool}
theorem ev_os1 (h : evE Φ io x ρ = some (d, fr, ρ1)) : evOs Φ io (.cons (.e x) .nil) ρ = some ([d].map .dn, ρ1) := by
  rw [evOs, evO, h]
  simp [evOs]
theorem ev_os2 (h : evE Φ io x ρ = some (d, fr, ρ1)) (h2 : evE Φ io y ρ1 = some (d2, fr2, ρ2)) : evOs Φ io (.cons (.e x) (.cons (.e y) .nil)) ρ = some ([d, d2].map .dn, ρ2) := by
  rw [evOs, evO, h]
  simp only [Option.map_some]
  rw [evOs, evO, h2]
  simp [evOs]
theorem ev_os3 (h : evE Φ io x ρ = some (d, fr, ρ1)) (h2 : evE Φ io y ρ1 = some (d2, fr2, ρ2)) (h3 : evE Φ io z ρ2 = some (d3, fr3, ρ3)) : evOs Φ io (.cons (.e x) (.cons (.e y) (.cons (.e z) .nil))) ρ = some ([d, d2, d3].map .dn, ρ3) := by
  rw [evOs, evO, h]
  simp only [Option.map_some]
  rw [evOs, evO, h2]
  simp only [Option.map_some]
  rw [evOs, evO, h3]
  simp [evOs]
theorem ev_val {i : Nat} (h : ρ[i]? = some (.val d)) : evE Φ io (.var i) ρ = some (d, false, ρ) := by rw [evE, frz1, h]
end
theorem mk_hold (fr : Bool) (d : D) : Hold (mkSl fr d) d := by
  unfold mkSl
  split
  · exact .inl rfl
  · exact .inr rfl
theorem r_isint (n : Nat) (i : Int) : AnsE (run T (n + 1) 9 [.val (.int i)]) (.bl true) := by
  refine Go.runE (df := df9) rfl rfl ?_
  exact Go.retE (d := .bl true) (fr := false) (ρ1 := [.val (.int i)]) (by simp [fin, owns, forTurn, lcTurn, dcTurn, asg, asgs, okTo, exB, exS, evT, evE, evO, evOs, evP, evI, evC, dns, rsv, rsvs, Sl.get, frz1, idxD, sliD, cmpD, eqD, inD, isNon, truD, binD, negD, biD, mtD, muTy, muD, setD, keyOf, keysOf, keyOkB, dicPairs, mkSl, isCont, wipeE, unwipe, itemsD, rngD, isTy, noLck, isOwn, mulOk, df9]) ansE_ret
open Classical in
theorem r_pair (n : Nat) (a b : Pat) (ha : POk a) (hb : POk b) (hv : (vars a).length ≤ 4) (hn : 14 ≤ n) : AnsE (run T (n + 1) 26 [.val (patD a), .val (patD b)]) (.bl true) := by
  obtain ⟨m, rfl⟩ : ∃ m, n = m + 3 := ⟨n - 3, by omega⟩
  refine Go.runE (df := df26) rfl rfl ?_
  obtain ⟨fx, hx⟩ := r_exs (m + 2) (vars a) (vars b) hv (vars_len b hb.toFew) (vars_nodup a)
  have v1 := ev_call (io := []) (es := .cons (.e (.var 0)) .nil) (ds := [patD a]) (ρ := [.val (patD a), .val (patD b), .un, .un, .un, .un, .un]) (ρ1 := [.val (patD a), .val (patD b), .un, .un, .un, .un, .un]) (ev_os1 (ev_val rfl)) (r_vars (m + 1) a ha.toFew)
  have v2 := ev_call (io := []) (es := .cons (.e (.var 1)) .nil) (ds := [patD b]) (ρ := [.val (patD a), .val (patD b), .un, .un, .un, .un, .un]) (ρ1 := [.val (patD a), .val (patD b), .un, .un, .un, .un, .un]) (ev_os1 (ev_val rfl)) (r_vars (m + 1) b hb.toFew)
  refine Go.set (ρ1 := [.val (patD a), .val (patD b), .un, .un, .un, .un, .un]) (ev_call (ev_os2 v1 v2) hx) (by rfl) ?_
  clear v1 v2
  have hs2 := mk_hold fx (.lst ((exs (vars a) (vars b)).map fD))
  show Go _ _ _ [.val (patD a), .val (patD b), mkSl fx (.lst ((exs (vars a) (vars b)).map fD)), .un, .un, .un, .un] _
  generalize mkSl fx (.lst ((exs (vars a) (vars b)).map fD)) = s2 at *
  have keys : ∀ kv ∈ exs (vars a) (vars b), kv.map (·.1) = [] ++ vars a := exs_keys (theirs := vars b) (vars a) [] [[]] (fun f hf => by rw [List.mem_singleton] at hf; subst hf; rfl)
  have hsm : (exs (vars a) (vars b)).length ≤ 10000000 := by
    have a1 := exs_len (theirs := vars b) (vars a) [[]]
    have a2 : (vars b).length ^ (vars a).length ≤ 34 ^ (vars a).length := Nat.pow_le_pow_left (vars_len b hb.toFew) _
    have a3 : 34 ^ (vars a).length ≤ 34 ^ 4 := Nat.pow_le_pow_right (by decide) hv
    rw [List.length_singleton, Nat.one_mul] at a1
    exact Nat.le_trans a1 (Nat.le_trans a2 (Nat.le_trans a3 (by decide)))
  have l1 := ev_lcF (Φ := run T (m + 3)) (io := []) (vs := [5]) (g := .nm 5) (it := .it (.var 2)) (c := .yes (.e (.e (.call 24 (.cons (.e (.var 0)) (.cons (.e (.var 1)) (.cons (.e (.var 5)) .nil))))))) (x := .var 5) (ρ := [.val (patD a), .val (patD b), s2, .un, .un, .un, .un]) (ρ1 := [.val (patD a), .val (patD b), .val (.lst ((exs (vars a) (vars b)).map fD)), .un, .un, .un, .un]) fD (fun kv => if decide (RightP a b kv) then some (fD kv) else none) (exs (vars a) (vars b)) (by rcases hs2 with rfl | rfl <;> simp [fin, owns, forTurn, lcTurn, dcTurn, asg, asgs, okTo, exB, exS, evT, evE, evO, evOs, evP, evI, evC, dns, rsv, rsvs, Sl.get, frz1, idxD, sliD, cmpD, eqD, inD, isNon, truD, binD, negD, biD, mtD, muTy, muD, setD, keyOf, keysOf, keyOkB, dicPairs, mkSl, isCont, wipeE, unwipe, itemsD, rngD, isTy, noLck, isOwn, mulOk]) (by rfl) hsm (fun kv hkv => by
    have hk := keys kv hkv
    obtain ⟨fr, hr⟩ := r_right m a b kv ha hb (by rw [hk]; exact vars_nodup a) (by have := congrArg List.length hk; rw [List.length_map, List.nil_append] at this; have := vars_len a ha.toFew; omega)
    exact lc_yes (ρ1 := [.val (patD a), .val (patD b), .val (.lst ((exs (vars a) (vars b)).map fD)), .un, .un, .val (fD kv), .un]) (by simp [fin, owns, forTurn, lcTurn, dcTurn, asg, asgs, okTo, exB, exS, evT, evE, evO, evOs, evP, evI, evC, dns, rsv, rsvs, Sl.get, frz1, idxD, sliD, cmpD, eqD, inD, isNon, truD, binD, negD, biD, mtD, muTy, muD, setD, keyOf, keysOf, keyOkB, dicPairs, mkSl, isCont, wipeE, unwipe, itemsD, rngD, isTy, noLck, isOwn, mulOk]) (t_e (ev_call (ev_os3 (ev_val rfl) (ev_val rfl) (ev_val rfl)) hr) rfl) (fun _ => ⟨ev_val rfl, by rfl⟩) (fun _ => by rfl))
  refine Go.set (ρ1 := [.val (patD a), .val (patD b), .val (.lst ((exs (vars a) (vars b)).map fD)), .un, .un, .un, .un]) l1 (by rfl) ?_
  obtain ⟨fe, he⟩ := r_exchange (m + 2) a b ha hb (by omega)
  obtain ⟨fo, ho⟩ := r_are_one (m + 1) a b ha hb (by omega)
  generalize hR : (exs (vars a) (vars b)).filterMap (fun kv => if decide (RightP a b kv) then some (fD kv) else none) = R at *
  have hRn : 0 < R.length ↔ ∃ kv, RightP a b kv := by
    rw [← hR, len_fm]
    constructor
    · rintro ⟨kv, _, h⟩
      by_cases z : RightP a b kv
      · exact ⟨kv, z⟩
      · rw [decide_eq_false z] at h; cases h
    · rintro ⟨kv, r⟩
      obtain ⟨kv', h1, h2⟩ := exs_right r
      exact ⟨kv', h1, by rw [decide_eq_true h2]; rfl⟩
  have hRl : R.length ≤ 10000000 := by rw [← hR]; exact Nat.le_trans (List.length_filterMap_le _ _) hsm
  refine Go.set (ρ1 := [.val (patD a), .val (patD b), .val (.lst ((exs (vars a) (vars b)).map fD)), .own (.lst R), .un, .un, .un]) (ev_call (ds := [patD a, patD b]) (ev_os2 (ev_val rfl) (ev_val rfl)) he) (by rfl) ?_
  generalize (exs (vars a) (vars b)) = E at *
  have one : ∀ s4 : Sl, evE (run T (m + 3)) [] (.call 6 (.cons (.e (.var 0)) (.cons (.e (.var 1)) .nil))) [.val (patD a), .val (patD b), .val (.lst (E.map fD)), .own (.lst R), s4, .un, .un] = some (.bl (exch a b).isSome, fo, [.val (patD a), .val (patD b), .val (.lst (E.map fD)), .own (.lst R), s4, .un, .un]) := fun s4 => ev_call (ds := [patD a, patD b]) (ev_os2 (ev_val rfl) (ev_val rfl)) ho
  cases ee : exch a b with
  | none =>
    rw [ee] at one
    have hz : R = [] := by
      apply List.eq_nil_of_length_eq_zero
      by_cases z : 0 < R.length
      · obtain ⟨kv, r⟩ := hRn.mp z
        have := exch_complete r
        rw [ee] at this
        cases this
      · omega
    subst hz
    have e1 : mkSl fe (optD none) = .val .non := by cases fe <;> rfl
    rw [e1]
    refine Go.iff (k := true) (ρ1 := [.val (patD a), .val (patD b), .val (.lst (E.map fD)), .own (.lst []), .val .non, .un, .un]) (by simp [fin, owns, forTurn, lcTurn, dcTurn, asg, asgs, okTo, exB, exS, evT, evE, evO, evOs, evP, evI, evC, dns, rsv, rsvs, Sl.get, frz1, idxD, sliD, cmpD, eqD, inD, isNon, truD, binD, negD, biD, mtD, muTy, muD, setD, keyOf, keysOf, keyOkB, dicPairs, mkSl, isCont, wipeE, unwipe, itemsD, rngD, isTy, noLck, isOwn, mulOk]) ?_
    simp only [if_true]
    obtain ⟨f1, q1⟩ := ev_and (x := .cmp .eq (.e (.bi .len (.pk 3))) (.e (.cst (.int 0)))) (k := true) (ρ := [.val (patD a), .val (patD b), .val (.lst (E.map fD)), .own (.lst []), .val .non, .un, .un]) (ρ1 := [.val (patD a), .val (patD b), .val (.lst (E.map fD)), .own (.lst []), .val .non, .un, .un]) (fr := true) (by simp [fin, owns, forTurn, lcTurn, dcTurn, asg, asgs, okTo, exB, exS, evT, evE, evO, evOs, evP, evI, evC, dns, rsv, rsvs, Sl.get, frz1, idxD, sliD, cmpD, eqD, inD, isNon, truD, binD, negD, biD, mtD, muTy, muD, setD, keyOf, keysOf, keyOkB, dicPairs, mkSl, isCont, wipeE, unwipe, itemsD, rngD, isTy, noLck, isOwn, mulOk]) (fun _ => ev_cmp (o := .isb) (k := true) (one (.val .non)) (ev_cst (d := .bl false)) (by rfl)) (fun h => by cases h)
    obtain ⟨f2, q2⟩ := ev_and (x := .cmp .isn (.pk 4) (.e (.cst .non))) (k := true) (ρ := [.val (patD a), .val (patD b), .val (.lst (E.map fD)), .own (.lst []), .val .non, .un, .un]) (ρ1 := [.val (patD a), .val (patD b), .val (.lst (E.map fD)), .own (.lst []), .val .non, .un, .un]) (fr := true) (by simp [fin, owns, forTurn, lcTurn, dcTurn, asg, asgs, okTo, exB, exS, evT, evE, evO, evOs, evP, evI, evC, dns, rsv, rsvs, Sl.get, frz1, idxD, sliD, cmpD, eqD, inD, isNon, truD, binD, negD, biD, mtD, muTy, muD, setD, keyOf, keysOf, keyOkB, dicPairs, mkSl, isCont, wipeE, unwipe, itemsD, rngD, isTy, noLck, isOwn, mulOk]) (fun _ => q1) (fun h => by cases h)
    exact Go.retE q2 (Kn.ret ansE_ret)
  | some kv =>
    rw [ee] at one
    obtain ⟨r, hi, hl⟩ := exch_sound ha hb ee
    have hp : 0 < R.length := hRn.mpr ⟨kv, r⟩
    obtain ⟨fr, hr⟩ := r_right m a b kv ha hb hi.1 (by omega)
    rw [decide_eq_true r] at hr
    have hs4 := mk_hold fe (fD kv)
    show Go _ _ _ [.val (patD a), .val (patD b), .val (.lst (E.map fD)), .own (.lst R), mkSl fe (fD kv), .un, .un] _
    generalize mkSl fe (fD kv) = s4 at *
    have hne : ¬ ((R.length : Int) = 0) := by omega
    have hne2 : ¬ R = [] := fun z => by rw [z] at hp; exact absurd hp (by decide)
    refine Go.ifF (ρ1 := [.val (patD a), .val (patD b), .val (.lst (E.map fD)), .own (.lst R), s4, .un, .un]) (by rcases hs4 with rfl | rfl <;> simp [fin, owns, forTurn, lcTurn, dcTurn, asg, asgs, okTo, exB, exS, evT, evE, evO, evOs, evP, evI, evC, dns, rsv, rsvs, Sl.get, frz1, idxD, sliD, cmpD, eqD, inD, isNon, truD, binD, negD, biD, mtD, muTy, muD, setD, keyOf, keysOf, keyOkB, dicPairs, mkSl, isCont, wipeE, unwipe, itemsD, rngD, isTy, noLck, isOwn, mulOk, hne, hne2]) ?_
    have hit : evI (run T (m + 3)) [] (.it (.bi .litems (.pk 4))) [.val (patD a), .val (patD b), .val (.lst (E.map fD)), .own (.lst R), s4, .un, .un] = some (kv.map prD, [.val (patD a), .val (patD b), .val (.lst (E.map fD)), .own (.lst R), s4, .un, .un]) := by
      have e1 := items_dI kv
      rcases hs4 with rfl | rfl <;> simp only [evI, evE, evO, rsv, Sl.get, fD, List.getElem?_cons_succ, List.getElem?_cons_zero, e1, Option.map_some, itemsD]
    have l2 := ev_lcF (Φ := run T (m + 3)) (io := []) (vs := [6]) (g := .nm 6) (c := .yes (.or (.not (.e (.e (.call 9 (.cons (.e (.idx (.pk 6) (.e (.cst (.int 0))))) .nil))))) (.not (.e (.e (.call 9 (.cons (.e (.idx (.pk 6) (.e (.cst (.int 1))))) .nil))))))) (x := .var 6) prD (fun _ => none) kv hit (by rfl) (by omega) (fun p _ => by
      obtain ⟨f0, h0⟩ := r_isint (m + 2) p.1
      obtain ⟨f1, h1⟩ := r_isint (m + 2) p.2
      have i0 : ∀ s5 : Sl, evE (run T (m + 3)) [] (.idx (.pk 6) (.e (.cst (.int 0)))) [.val (patD a), .val (patD b), .val (.lst (E.map fD)), .own (.lst R), s4, s5, .val (prD p)] = some (.int p.1, false, [.val (patD a), .val (patD b), .val (.lst (E.map fD)), .own (.lst R), s4, s5, .val (prD p)]) := fun s5 => by simp [fin, owns, forTurn, lcTurn, dcTurn, asg, asgs, okTo, exB, exS, evT, evE, evO, evOs, evP, evI, evC, dns, rsv, rsvs, Sl.get, frz1, idxD, sliD, cmpD, eqD, inD, isNon, truD, binD, negD, biD, mtD, muTy, muD, setD, keyOf, keysOf, keyOkB, dicPairs, mkSl, isCont, wipeE, unwipe, itemsD, rngD, isTy, noLck, isOwn, mulOk, atI_0]
      have i1 : ∀ s5 : Sl, evE (run T (m + 3)) [] (.idx (.pk 6) (.e (.cst (.int 1)))) [.val (patD a), .val (patD b), .val (.lst (E.map fD)), .own (.lst R), s4, s5, .val (prD p)] = some (.int p.2, false, [.val (patD a), .val (patD b), .val (.lst (E.map fD)), .own (.lst R), s4, s5, .val (prD p)]) := fun s5 => by simp [fin, owns, forTurn, lcTurn, dcTurn, asg, asgs, okTo, exB, exS, evT, evE, evO, evOs, evP, evI, evC, dns, rsv, rsvs, Sl.get, frz1, idxD, sliD, cmpD, eqD, inD, isNon, truD, binD, negD, biD, mtD, muTy, muD, setD, keyOf, keysOf, keyOkB, dicPairs, mkSl, isCont, wipeE, unwipe, itemsD, rngD, isTy, noLck, isOwn, mulOk, atI_1]
      exact lc_yes (k := false) (d := .non) (fr := false) (ρ1 := [.val (patD a), .val (patD b), .val (.lst (E.map fD)), .own (.lst R), s4, .un, .val (prD p)]) (ρ3 := []) (by simp [fin, owns, forTurn, lcTurn, dcTurn, asg, asgs, okTo, exB, exS, evT, evE, evO, evOs, evP, evI, evC, dns, rsv, rsvs, Sl.get, frz1, idxD, sliD, cmpD, eqD, inD, isNon, truD, binD, negD, biD, mtD, muTy, muD, setD, keyOf, keysOf, keyOkB, dicPairs, mkSl, isCont, wipeE, unwipe, itemsD, rngD, isTy, noLck, isOwn, mulOk]) (t_or (k2 := false) (t_not (t_e (ev_call (ev_os1 (i0 .un)) h0) rfl)) (fun _ => t_not (t_e (ev_call (ev_os1 (i1 .un)) h1) rfl)) (fun h => by cases h)) (fun h => by cases h) (fun _ => by rfl))
    have t2 := t_or (a := .not (.e (.e (.bi (.isi .dict) (.pk 4))))) (k := false) (Φ := run T (m + 3)) (io := []) (ρ := [.val (patD a), .val (patD b), .val (.lst (E.map fD)), .own (.lst R), s4, .un, .un]) (ρ1 := [.val (patD a), .val (patD b), .val (.lst (E.map fD)), .own (.lst R), s4, .un, .un]) (by rcases hs4 with rfl | rfl <;> simp [fin, owns, forTurn, lcTurn, dcTurn, asg, asgs, okTo, exB, exS, evT, evE, evO, evOs, evP, evI, evC, dns, rsv, rsvs, Sl.get, frz1, idxD, sliD, cmpD, eqD, inD, isNon, truD, binD, negD, biD, mtD, muTy, muD, setD, keyOf, keysOf, keyOkB, dicPairs, mkSl, isCont, wipeE, unwipe, itemsD, rngD, isTy, noLck, isOwn, mulOk]) (fun _ => t_gt0 l2) (fun h => by cases h)
    have hk0 : decide (0 < (kv.filterMap fun _ : Int × Int => (none : Option D)).length) = false := by
      rw [decide_eq_false_iff_not, len_fm]
      rintro ⟨_, _, h⟩
      cases h
    rw [hk0] at t2
    refine Go.ifF (ρ1 := [.val (patD a), .val (patD b), .val (.lst (E.map fD)), .own (.lst R), s4, .un, .un]) t2 ?_
    have ev4 : evE (run T (m + 3)) [] (.var 4) [.val (patD a), .val (patD b), .val (.lst (E.map fD)), .own (.lst R), s4, .un, .un] = some (fD kv, false, [.val (patD a), .val (patD b), .val (.lst (E.map fD)), .own (.lst R), .val (fD kv), .un, .un]) := by rcases hs4 with rfl | rfl <;> simp [fin, owns, forTurn, lcTurn, dcTurn, asg, asgs, okTo, exB, exS, evT, evE, evO, evOs, evP, evI, evC, dns, rsv, rsvs, Sl.get, frz1, idxD, sliD, cmpD, eqD, inD, isNon, truD, binD, negD, biD, mtD, muTy, muD, setD, keyOf, keysOf, keyOkB, dicPairs, mkSl, isCont, wipeE, unwipe, itemsD, rngD, isTy, noLck, isOwn, mulOk]
    obtain ⟨f2, q2⟩ := ev_and (k := true) (ev_call (io := []) (ev_os3 (ev_val (Φ := run T (m + 3)) (ρ := [.val (patD a), .val (patD b), .val (.lst (E.map fD)), .own (.lst R), s4, .un, .un]) (i := 0) rfl) (ev_val (i := 1) rfl) ev4) hr) (fun _ => ev_cmp (o := .isb) (k := true) (one (.val (fD kv))) (ev_cst (d := .bl true)) (by rfl)) (fun h => by cases h)
    exact Go.retE q2 ansE_ret
end L2.PL
end
section
set_option maxRecDepth 100000
set_option maxHeartbeats 2000000
/-! k59, part Y: is_exchange. -/
namespace L2.PL
open PySem
def dB (kv : KV') : List (NestedKey × D) := kv.map fun p => (.num p.1, .bl true)
theorem look_dB (m : Int) : ∀ kv : KV', look (dB kv) (.num m) = (kv.lookup m).map fun _ => .bl true
  | [] => rfl
  | (a, b) :: kv => by
    have ih := look_dB m kv
    unfold look dB at *
    by_cases e : a = m
    · subst e; simp [List.lookup]
    · have e' : (m == a) = false := by simp; exact fun z => e z.symm
      simp [List.lookup, e, e'] at ih ⊢
      exact ih
theorem put_dB (kv : KV') (k : Int) : put (dB kv) (.num k) (.bl true) = dB (putI kv k 0) := by
  unfold put putI
  rw [look_dB]
  cases h : (kv.lookup k) with
  | none => simp [dB]
  | some w =>
    simp only [Option.map_some, Option.isSome_some, if_true, dB, List.map_map]
    apply List.map_congr_left
    intro p _
    simp only [Function.comp, NestedKey.num.injEq]
    split <;> rfl
theorem dcGo_set {turn : D → EV → Option (Option (NestedKey × D) × EV)} {ρ : EV} : ∀ (kv acc : KV'), (∀ p ∈ kv, turn (.int p.1) ρ = some (some (.num p.2, .bl true), ρ)) → acc.length + kv.length ≤ bigN →
    dcGo turn (kv.map fun p => .int p.1) ρ (dB acc) = some (dB ((kv.map fun p => ((p.2, 0) : Int × Int)).foldl (fun a p => putI a p.1 p.2) acc), ρ)
  | [], acc, _, _ => by simp [dcGo]
  | p :: kv, acc, h, hl => by
    rw [List.length_cons] at hl
    simp only [List.map_cons, dcGo, h p List.mem_cons_self]
    rw [if_pos (by simp [dB]; omega), put_dB]
    have hz := putI_len acc p.2 0
    exact dcGo_set (turn := turn) (ρ := ρ) kv (putI acc p.2 0) (fun q hq => h q (List.mem_cons_of_mem _ hq)) (by omega)
open Classical in
theorem r_isex (n : Nat) (a b : Pat) (kv : KV') (ha : POk a) (hb : POk b) (nd : (kv.map (·.1)).Nodup) (hk : kv.length ≤ 1000) : AnsE (run T (n + 1) 7 [.val (patD a), .val (patD b), .val (fD kv)]) (.bl (decide (RightP a b kv))) := by
  refine Go.runE (df := df7) rfl rfl ?_
  have t := t_ne_cols (Φ := run T n) (io := []) (r := [.val (patD a), .val (patD b), .val (fD kv), .un, .un, .un, .un, .un]) ha hb rfl rfl
  by_cases hbad : a.cols ≠ b.cols ∨ a.lines.length ≠ b.lines.length
  · rw [decide_eq_true hbad] at t
    refine Go.ifR (d := .bl false) t ev_cst ?_
    have hR : ¬ RightP a b kv := fun r => hbad.elim (fun z => z r.cols) fun z => z (by have := r.lines.length_eq; rwa [List.length_map] at this)
    rw [decide_eq_false hR]
    exact ansE_ret
  rw [decide_eq_false hbad] at t
  refine Go.ifF t ?_
  have hcols : a.cols = b.cols := Classical.byContradiction fun z => hbad (.inl z)
  clear t
  have d1 := ev_dc (Φ := run T n) (io := []) (t := false) (vs := [7]) (g := .nm 7) (it := .it (.var 2)) (c := .no) (k := .idx (.pk 2) (.pk 7)) (x := .cst (.bl true)) (ρ := [.val (patD a), .val (patD b), .val (fD kv), .un, .un, .un, .un, .un]) (ρ1 := [.val (patD a), .val (patD b), .val (fD kv), .un, .un, .un, .un, .un]) (items := kv.map fun p => D.int p.1) (by simp [evI, evE, frz1, itemsD, keys_dI]) (by rfl)
    (dcGo_set (ρ := [.val (patD a), .val (patD b), .val (fD kv), .un, .un, .un, .un, .un]) kv [] (fun p hp => by
      have e := mem_lookup nd hp
      simp [dcTurn, asg, okTo, evC, evE, evO, frz1, rsv, Sl.get, idxD, keyOf, keyOkB, look_dI, e, wipeE]) (bign _ (by simp; omega)))
  have t1 : evT (run T n) [] (.e (.e (.cmp .lt (.e (.bi .len (.e (.dc false [7] (.nm 7) (.it (.var 2)) .no (.idx (.pk 2) (.pk 7)) (.cst (.bl true)))))) (.e (.bi .len (.pk 2)))))) [.val (patD a), .val (patD b), .val (fD kv), .un, .un, .un, .un, .un] = some (decide (¬ (kv.map (·.2)).Nodup), [.val (patD a), .val (patD b), .val (fD kv), .un, .un, .un, .un, .un]) := by
    refine t_cmp (ev_bi (b := .len) d1 (d' := .int (onceI (kv.map (·.2))).length) ?_) (d2 := .int kv.length) (fr2 := true) (ρ2 := [.val (patD a), .val (patD b), .val (fD kv), .un, .un, .un, .un, .un]) (by simp [fin, owns, forTurn, lcTurn, dcTurn, asg, asgs, okTo, exB, exS, evT, evE, evO, evOs, evP, evI, evC, dns, rsv, rsvs, Sl.get, frz1, idxD, sliD, cmpD, eqD, inD, isNon, truD, binD, negD, biD, mtD, muTy, muD, setD, keyOf, keysOf, keyOkB, dicPairs, mkSl, isCont, wipeE, unwipe, itemsD, rngD, isTy, noLck, isOwn, mulOk, dI, unwipe]) ?_
    · simp only [biD, onceI, ofP, dB, List.length_map, List.map_map]
      rfl
    · simp only [cmpD]
      congr 1
      rw [decide_eq_decide, ← onceI_lt, List.length_map]
      omega
  by_cases hone : (kv.map (·.2)).Nodup
  case neg =>
    rw [decide_eq_true hone] at t1
    refine Go.ifR (d := .bl false) t1 ev_cst ?_
    rw [decide_eq_false fun r => hone r.one]
    exact ansE_ret
  rw [decide_eq_false (fun z => z hone)] at t1
  refine Go.ifF t1 ?_
  clear t1 d1
  let all : List Ln := a.lines ++ [(Str.ofString "", a.told)]
  have hal : ∀ l ∈ all, ∀ m ∈ l.2, m ∈ allM a := fun l hl m hm => by
    rcases List.mem_append.mp hl with z | z
    · exact List.mem_append.mpr (.inr (List.mem_flatMap.mpr ⟨l, z, hm⟩))
    · rw [List.mem_singleton] at z; subst z; exact List.mem_append.mpr (.inl hm)
  have hlen : ∀ l ∈ all, l.2.length ≤ 10 := fun l hl => by
    rcases List.mem_append.mp hl with z | z
    · have := ha.wide l z; omega
    · rw [List.mem_singleton] at z; subst z; exact ha.told
  let bad : Int → Bool := fun m => decide (m < 0) && decide (0 ≤ (kv.lookup m).getD 0)
  refine Go.each (ρ1 := [.val (patD a), .val (patD b), .val (fD kv), .un, .un, .un, .un, .un]) lineD all
    (fun rest ρ => ∃ (pre : List Ln) (s5 s6 s7 : Sl), all = pre ++ rest ∧ (∀ l ∈ pre, ∀ m ∈ l.2, bad m = false) ∧ ρ = [.val (patD a), .val (patD b), .val (fD kv), .un, .un, s5, s6, s7]) ?_ rfl ⟨[], _, _, _, rfl, fun l hl => (by cases hl), rfl⟩ ?_ ?_
  · refine ev_it (d := .lst (all.map lineD)) (fr := true) (ev_bin (d := .lst (a.lines.map lineD)) (fr := true) (ρ1 := [.val (patD a), .val (patD b), .val (fD kv), .un, .un, .un, .un, .un]) (by simp [fin, owns, forTurn, lcTurn, dcTurn, asg, asgs, okTo, exB, exS, evT, evE, evO, evOs, evP, evI, evC, dns, rsv, rsvs, Sl.get, frz1, idxD, sliD, cmpD, eqD, inD, isNon, truD, binD, negD, biD, mtD, muTy, muD, setD, keyOf, keysOf, keyOkB, dicPairs, mkSl, isCont, wipeE, unwipe, itemsD, rngD, isTy, noLck, isOwn, mulOk, atI_2]) (d2 := .lst [lineD (Str.ofString "", a.told)]) (fr2 := true) (by simp [fin, owns, forTurn, lcTurn, dcTurn, asg, asgs, okTo, exB, exS, evT, evE, evO, evOs, evP, evI, evC, dns, rsv, rsvs, Sl.get, frz1, idxD, sliD, cmpD, eqD, inD, isNon, truD, binD, negD, biD, mtD, muTy, muD, setD, keyOf, keysOf, keyOkB, dicPairs, mkSl, isCont, wipeE, unwipe, itemsD, rngD, isTy, noLck, isOwn, mulOk, atI_1, bign]) ?_) rfl
    simp only [binD, all, List.map_append, List.map_cons, List.map_nil]
    rw [if_pos (bign _ (by have := ha.lines; simp; omega))]
  · rintro l rest ρ ⟨pre, s5, s6, s7, eo, hg, rfl⟩
    have hl : l ∈ all := by rw [eo]; simp
    refine turn_of (ρ1 := [.val (patD a), .val (patD b), .val (fD kv), .un, .un, .val (.str l.1), .val (tI l.2), s7]) (by simp [fin, owns, forTurn, lcTurn, dcTurn, asg, asgs, okTo, exB, exS, evT, evE, evO, evOs, evP, evI, evC, dns, rsv, rsvs, Sl.get, frz1, idxD, sliD, cmpD, eqD, inD, isNon, truD, binD, negD, biD, mtD, muTy, muD, setD, keyOf, keysOf, keyOkB, dicPairs, mkSl, isCont, wipeE, unwipe, itemsD, rngD, isTy, noLck, isOwn, mulOk]) ?_
    have l1 := ev_lcF (Φ := run T n) (io := []) (vs := [7]) (g := .nm 7) (it := .it (.var 6)) (c := .yes (.and (.e (.e (.cmp .lt (.pk 7) (.e (.cst (.int 0)))))) (.e (.e (.cmp .ge (.e (.mt .get (.pk 2) (.cons (.e (.var 7)) (.cons (.e (.cst (.int 0))) .nil)))) (.e (.cst (.int 0)))))))) (x := .var 7) (ρ := [.val (patD a), .val (patD b), .val (fD kv), .un, .un, .val (.str l.1), .val (tI l.2), s7]) (ρ1 := [.val (patD a), .val (patD b), .val (fD kv), .un, .un, .val (.str l.1), .val (tI l.2), s7]) D.int (fun m => if bad m then some (D.int m) else none) l.2 (by simp [fin, owns, forTurn, lcTurn, dcTurn, asg, asgs, okTo, exB, exS, evT, evE, evO, evOs, evP, evI, evC, dns, rsv, rsvs, Sl.get, frz1, idxD, sliD, cmpD, eqD, inD, isNon, truD, binD, negD, biD, mtD, muTy, muD, setD, keyOf, keysOf, keyOkB, dicPairs, mkSl, isCont, wipeE, unwipe, itemsD, rngD, isTy, noLck, isOwn, mulOk]) (by rfl) (by have := hlen l hl; omega) (fun m _ => by
      refine lc_yes (ρ1 := [.val (patD a), .val (patD b), .val (fD kv), .un, .un, .val (.str l.1), .val (tI l.2), .val (.int m)]) (fr := false) (ρ2 := [.val (patD a), .val (patD b), .val (fD kv), .un, .un, .val (.str l.1), .val (tI l.2), .val (.int m)]) (ρ3 := [.val (patD a), .val (patD b), .val (fD kv), .un, .un, .val (.str l.1), .val (tI l.2), .val (.int m)]) (by simp [fin, owns, forTurn, lcTurn, dcTurn, asg, asgs, okTo, exB, exS, evT, evE, evO, evOs, evP, evI, evC, dns, rsv, rsvs, Sl.get, frz1, idxD, sliD, cmpD, eqD, inD, isNon, truD, binD, negD, biD, mtD, muTy, muD, setD, keyOf, keysOf, keyOkB, dicPairs, mkSl, isCont, wipeE, unwipe, itemsD, rngD, isTy, noLck, isOwn, mulOk]) ?_ (fun _ => ⟨ev_val rfl, by rfl⟩) (fun _ => by rfl)
      by_cases hm : m < 0 <;> simp [fin, owns, forTurn, lcTurn, dcTurn, asg, asgs, okTo, exB, exS, evT, evE, evO, evOs, evP, evI, evC, dns, rsv, rsvs, Sl.get, frz1, idxD, sliD, cmpD, eqD, inD, isNon, truD, binD, negD, biD, mtD, muTy, muD, setD, keyOf, keysOf, keyOkB, dicPairs, mkSl, isCont, wipeE, unwipe, itemsD, rngD, isTy, noLck, isOwn, mulOk, look_dI, gd, hm, bad])
    have t1 := t_gt0 l1
    by_cases hx : ∀ m ∈ l.2, bad m = false
    · have hk0 : decide (0 < (l.2.filterMap fun m => if bad m then some (D.int m) else none).length) = false := by
        rw [decide_eq_false_iff_not, len_fm]
        rintro ⟨m, hm, h⟩
        rw [hx m hm] at h
        cases h
      rw [hk0] at t1
      exact Go.ifF t1 (Go.nil (Trn.nx ⟨pre ++ [l], _, _, _, by rw [List.append_assoc]; exact eo, fun k hk => by
        rcases List.mem_append.mp hk with z | z
        · exact hg k z
        · rw [List.mem_singleton] at z; subst z; exact hx, rfl⟩))
    · have : ∃ m ∈ l.2, bad m = true := Classical.byContradiction fun z => hx fun m hm => by
        cases q : bad m with
        | false => rfl
        | true => exact absurd ⟨m, hm, q⟩ z
      obtain ⟨m, hm, hb1⟩ := this
      have hk0 : decide (0 < (l.2.filterMap fun m => if bad m then some (D.int m) else none).length) = true := by
        rw [decide_eq_true_eq, len_fm]
        exact ⟨m, hm, by rw [hb1]; rfl⟩
      rw [hk0] at t1
      refine Go.ifR (d := .bl false) t1 ev_cst (Trn.rt ?_)
      have hR : ¬ RightP a b kv := fun r => by
        simp only [bad, Bool.and_eq_true, decide_eq_true_eq] at hb1
        obtain ⟨v, e, hv⟩ := r.own m (mem_vars.mpr ⟨hal l hl m hm, hb1.1⟩)
        rw [e] at hb1
        have := hb1.2
        simp at this
        omega
      rw [decide_eq_false hR]
      exact ansE_ret
  · rintro ρ ⟨pre, s5, s6, s7, eo, hg, rfl⟩
    rw [List.append_nil] at eo
    subst eo
    have good : ∀ m ∈ allM a, m < 0 → kv.lookup m = some (apI kv m) ∧ apI kv m < 0 := fun m hm h0 => by
      have : bad m = false := by
        rcases List.mem_append.mp hm with z | z
        · exact hg (Str.ofString "", a.told) (by simp [all]) m z
        · obtain ⟨l, hl, hm⟩ := List.mem_flatMap.mp z
          exact hg l (List.mem_append.mpr (.inl hl)) m hm
      simp only [bad, decide_eq_true h0, Bool.true_and, decide_eq_false_iff_not] at this
      unfold apI
      cases e : kv.lookup m with
      | none => rw [e] at this; exact absurd (Int.le_refl 0) this
      | some v => rw [e] at this; exact ⟨rfl, Int.not_le.mp this⟩
    have inner : ∀ (l : List Int) (s3 s5 s6 s7 : Sl) (it : II), (∀ m ∈ l, m ∈ allM a) → l.length ≤ 1000 → evI (run T n) [] it [.val (patD a), .val (patD b), .val (fD kv), s3, .un, s5, s6, s7] = some (l.map .int, [.val (patD a), .val (patD b), .val (fD kv), s3, .un, s5, s6, s7]) →
        evE (run T n) [] (.bi .tuple (.e (.lc [7] (.nm 7) it .no (.ite (.e (.e (.cmp .ge (.pk 7) (.e (.cst (.int 0)))))) (.var 7) (.idx (.pk 2) (.pk 7)))))) [.val (patD a), .val (patD b), .val (fD kv), s3, .un, s5, s6, s7] = some (tI (l.map (ap kv)), true, [.val (patD a), .val (patD b), .val (fD kv), s3, .un, s5, s6, s7]) := by
      intro l s3 s5 s6 s7 it hm hl hi
      refine ev_bi (ev_lcM D.int (fun m => .int (ap kv m)) l hi (by rfl) (by omega) (fun m hml => ?_)) ?_
      · refine lc_no (ρ1 := [.val (patD a), .val (patD b), .val (fD kv), s3, .un, s5, s6, .val (.int m)]) (fr := false) (ρ2 := [.val (patD a), .val (patD b), .val (fD kv), s3, .un, s5, s6, .val (.int m)]) (by simp [fin, owns, forTurn, lcTurn, dcTurn, asg, asgs, okTo, exB, exS, evT, evE, evO, evOs, evP, evI, evC, dns, rsv, rsvs, Sl.get, frz1, idxD, sliD, cmpD, eqD, inD, isNon, truD, binD, negD, biD, mtD, muTy, muD, setD, keyOf, keysOf, keyOkB, dicPairs, mkSl, isCont, wipeE, unwipe, itemsD, rngD, isTy, noLck, isOwn, mulOk]) ?_ (by rfl)
        by_cases h0 : m < 0
        · obtain ⟨e, _⟩ := good m (hm m hml) h0
          have h1 : ¬ 0 ≤ m := by omega
          have ea : ap kv m = apI kv m := by unfold ap; rw [if_pos h0]
          rw [ea]
          generalize apI kv m = w at *
          simp [fin, owns, forTurn, lcTurn, dcTurn, asg, asgs, okTo, exB, exS, evT, evE, evO, evOs, evP, evI, evC, dns, rsv, rsvs, Sl.get, frz1, idxD, sliD, cmpD, eqD, inD, isNon, truD, binD, negD, biD, mtD, muTy, muD, setD, keyOf, keysOf, keyOkB, dicPairs, mkSl, isCont, wipeE, unwipe, itemsD, rngD, isTy, noLck, isOwn, mulOk, look_dI, e, h1]
        · have h1 : 0 ≤ m := by omega
          have ea : ap kv m = m := by unfold ap; rw [if_neg h0]
          rw [ea]
          simp [fin, owns, forTurn, lcTurn, dcTurn, asg, asgs, okTo, exB, exS, evT, evE, evO, evOs, evP, evI, evC, dns, rsv, rsvs, Sl.get, frz1, idxD, sliD, cmpD, eqD, inD, isNon, truD, binD, negD, biD, mtD, muTy, muD, setD, keyOf, keysOf, keyOkB, dicPairs, mkSl, isCont, wipeE, unwipe, itemsD, rngD, isTy, noLck, isOwn, mulOk, h1]
      · simp only [biD, tI, List.map_map]
        rfl
    refine Go.set (inner a.told .un s5 s6 s7 (.it (.idx (.pk 0) (.e (.cst (.int 1))))) (fun m hm => List.mem_append.mpr (.inl hm)) (by have := ha.told; omega) (by simp [fin, owns, forTurn, lcTurn, dcTurn, asg, asgs, okTo, exB, exS, evT, evE, evO, evOs, evP, evI, evC, dns, rsv, rsvs, Sl.get, frz1, idxD, sliD, cmpD, eqD, inD, isNon, truD, binD, negD, biD, mtD, muTy, muD, setD, keyOf, keysOf, keyOkB, dicPairs, mkSl, isCont, wipeE, unwipe, itemsD, rngD, isTy, noLck, isOwn, mulOk, atI_1])) (by rfl) ?_
    have l4 := ev_lcM (Φ := run T n) (io := []) (vs := [5, 6]) (g := .tp [5, 6]) (it := .it (.idx (.pk 0) (.e (.cst (.int 2))))) (c := .no) (x := .tup (.cons (.e (.var 5)) (.cons (.e (.bi .tuple (.e (.lc [7] (.nm 7) (.it (.var 6)) .no (.ite (.e (.e (.cmp .ge (.pk 7) (.e (.cst (.int 0)))))) (.var 7) (.idx (.pk 2) (.pk 7))))))) .nil)))
      (ρ := [.val (patD a), .val (patD b), .val (fD kv), .val (tI (a.told.map (ap kv))), .un, s5, s6, s7]) (ρ1 := [.val (patD a), .val (patD b), .val (fD kv), .val (tI (a.told.map (ap kv))), .un, s5, s6, s7]) lineD (fun l => lineD (l.1, l.2.map (ap kv))) a.lines (by simp [fin, owns, forTurn, lcTurn, dcTurn, asg, asgs, okTo, exB, exS, evT, evE, evO, evOs, evP, evI, evC, dns, rsv, rsvs, Sl.get, frz1, idxD, sliD, cmpD, eqD, inD, isNon, truD, binD, negD, biD, mtD, muTy, muD, setD, keyOf, keysOf, keyOkB, dicPairs, mkSl, isCont, wipeE, unwipe, itemsD, rngD, isTy, noLck, isOwn, mulOk, atI_2]) (by rfl) (by have := ha.lines; omega) (fun l hl => by
        have := inner l.2 (.val (tI (a.told.map (ap kv)))) (.val (.str l.1)) (.val (tI l.2)) s7 (.it (.var 6)) (fun m hm => List.mem_append.mpr (.inr (List.mem_flatMap.mpr ⟨l, hl, hm⟩))) (by have := ha.wide l hl; omega) (by simp [fin, owns, forTurn, lcTurn, dcTurn, asg, asgs, okTo, exB, exS, evT, evE, evO, evOs, evP, evI, evC, dns, rsv, rsvs, Sl.get, frz1, idxD, sliD, cmpD, eqD, inD, isNon, truD, binD, negD, biD, mtD, muTy, muD, setD, keyOf, keysOf, keyOkB, dicPairs, mkSl, isCont, wipeE, unwipe, itemsD, rngD, isTy, noLck, isOwn, mulOk])
        exact lc_no (ρ1 := [.val (patD a), .val (patD b), .val (fD kv), .val (tI (a.told.map (ap kv))), .un, .val (.str l.1), .val (tI l.2), s7]) (by simp [fin, owns, forTurn, lcTurn, dcTurn, asg, asgs, okTo, exB, exS, evT, evE, evO, evOs, evP, evI, evC, dns, rsv, rsvs, Sl.get, frz1, idxD, sliD, cmpD, eqD, inD, isNon, truD, binD, negD, biD, mtD, muTy, muD, setD, keyOf, keysOf, keyOkB, dicPairs, mkSl, isCont, wipeE, unwipe, itemsD, rngD, isTy, noLck, isOwn, mulOk]) (ev_tup2 (ev_val rfl) this) (by rfl))
    have e4 : a.lines.map (fun l => lineD (l.1, l.2.map (ap kv))) = (a.lines.map (apL kv)).map lineD := by rw [List.map_map]; rfl
    rw [e4] at l4
    have hnm : ∀ p ∈ a.lines.map (apL kv), okS p.1 := fun p hp => by
      obtain ⟨l, hl, rfl⟩ := List.mem_map.mp hp
      exact ha.nms l hl
    have s1 := sortD_lines hnm (by rw [List.length_map]; have := ha.lines; omega)
    have s2 := sortD_lines (ls := b.lines) hb.nms (by have := hb.lines; omega)
    refine Go.set (d0 := .lst (((a.lines.map (apL kv)).map lineD).mergeSort leD)) (ρ1 := [.val (patD a), .val (patD b), .val (fD kv), .val (tI (a.told.map (ap kv))), .un, s5, s6, s7]) (ev_bi l4 (by simp only [biD, s1, Option.map_some])) (by rfl) ?_
    have q1 : evE (run T n) [] (.cmp .eq (.pk 3) (.e (.idx (.pk 1) (.e (.cst (.int 1)))))) [.val (patD a), .val (patD b), .val (fD kv), .val (tI (a.told.map (ap kv))), .own (.lst (((a.lines.map (apL kv)).map lineD).mergeSort leD)), s5, s6, s7] = some (.bl (decide (a.told.map (ap kv) = b.told)), true, [.val (patD a), .val (patD b), .val (fD kv), .val (tI (a.told.map (ap kv))), .own (.lst (((a.lines.map (apL kv)).map lineD).mergeSort leD)), s5, s6, s7]) := by
      have e := eq_tI (a.told.map (ap kv)) b.told
      have i1 : ∀ r : EV, r[1]? = some (.val (patD b)) → evE (run T n) [] (.idx (.pk 1) (.e (.cst (.int 1)))) r = some (tI b.told, false, r) := fun r h => by simp [fin, owns, forTurn, lcTurn, dcTurn, asg, asgs, okTo, exB, exS, evT, evE, evO, evOs, evP, evI, evC, dns, rsv, rsvs, Sl.get, frz1, idxD, sliD, cmpD, eqD, inD, isNon, truD, binD, negD, biD, mtD, muTy, muD, setD, keyOf, keysOf, keyOkB, dicPairs, mkSl, isCont, wipeE, unwipe, itemsD, rngD, isTy, noLck, isOwn, mulOk, h, atI_1]
      rw [evE, evO]
      simp only [List.getElem?_cons_succ, List.getElem?_cons_zero]
      rw [evO, i1 _ rfl]
      simp only [Option.map_some, rsv, List.getElem?_cons_succ, List.getElem?_cons_zero, Sl.get, cmpD, e]
    have q2 : evE (run T n) [] (.cmp .eq (.pk 4) (.e (.bi .sorted (.e (.bi .list (.e (.idx (.pk 1) (.e (.cst (.int 2)))))))))) [.val (patD a), .val (patD b), .val (fD kv), .val (tI (a.told.map (ap kv))), .own (.lst (((a.lines.map (apL kv)).map lineD).mergeSort leD)), s5, s6, s7] = some (.bl (decide ((a.lines.map (apL kv)).Perm b.lines)), true, [.val (patD a), .val (patD b), .val (fD kv), .val (tI (a.told.map (ap kv))), .own (.lst (((a.lines.map (apL kv)).map lineD).mergeSort leD)), s5, s6, s7]) := by
      have e := eq_sorted hnm hb.nms
      have i1 : ∀ r : EV, r[1]? = some (.val (patD b)) → evE (run T n) [] (.bi .list (.e (.idx (.pk 1) (.e (.cst (.int 2)))))) r = some (.lst (b.lines.map lineD), true, r) := fun r h => by simp [fin, owns, forTurn, lcTurn, dcTurn, asg, asgs, okTo, exB, exS, evT, evE, evO, evOs, evP, evI, evC, dns, rsv, rsvs, Sl.get, frz1, idxD, sliD, cmpD, eqD, inD, isNon, truD, binD, negD, biD, mtD, muTy, muD, setD, keyOf, keysOf, keyOkB, dicPairs, mkSl, isCont, wipeE, unwipe, itemsD, rngD, isTy, noLck, isOwn, mulOk, h, atI_2]
      rw [evE, evO]
      simp only [List.getElem?_cons_succ, List.getElem?_cons_zero]
      rw [evO, ev_bi (i1 _ rfl) (d' := .lst ((b.lines.map lineD).mergeSort leD)) (by simp only [biD, s2, Option.map_some])]
      simp only [Option.map_some, rsv, List.getElem?_cons_succ, List.getElem?_cons_zero, Sl.get, cmpD, e]
    obtain ⟨fr, q3⟩ := ev_and q1 (fun _ => q2) (fun _ => rfl)
    have hR : decide (RightP a b kv) = (decide (a.told.map (ap kv) = b.told) && decide ((a.lines.map (apL kv)).Perm b.lines)) := by
      rw [Bool.eq_iff_iff, Bool.and_eq_true, decide_eq_true_eq, decide_eq_true_eq, decide_eq_true_eq]
      exact ⟨fun r => ⟨r.told, r.lines⟩, fun r => ⟨fun m hm => ⟨_, good m (mem_vars.mp hm).1 (mem_vars.mp hm).2⟩, hone, hcols, r.1, r.2⟩⟩
    rw [hR]
    exact Go.retE q3 ansE_ret
end L2.PL
end
section
set_option maxRecDepth 100000
set_option maxHeartbeats 2000000
/-! k59, part Z: picks, _law_bent. -/
namespace L2.PL
open PySem
abbrev pkS (l : List Int) : Sl := .own (.lst (l.map .int))
theorem r_pick (n : Nat) (l : List Int) : ∃ v l' fr, run T (n + 1) 13 [pkS l] = some (.int v, fr, [pkS l']) := by
  rw [run_at (d := df13) rfl rfl]
  rcases List.eq_nil_or_concat l with rfl | ⟨l', x, rfl⟩
  · exact ⟨0, [], false, by simp [fin, owns, forTurn, lcTurn, dcTurn, asg, asgs, okTo, exB, exS, evT, evE, evO, evOs, evP, evI, evC, dns, rsv, rsvs, Sl.get, frz1, idxD, sliD, cmpD, eqD, inD, isNon, truD, binD, negD, biD, mtD, muTy, muD, setD, keyOf, keysOf, keyOkB, dicPairs, mkSl, isCont, wipeE, unwipe, itemsD, rngD, isTy, noLck, isOwn, mulOk, df13, outsOf]⟩
  · refine ⟨x, l', false, ?_⟩
    have h : ¬ ((l'.length : Int) + 1 = 0) := by omega
    simp [fin, owns, forTurn, lcTurn, dcTurn, asg, asgs, okTo, exB, exS, evT, evE, evO, evOs, evP, evI, evC, dns, rsv, rsvs, Sl.get, frz1, idxD, sliD, cmpD, eqD, inD, isNon, truD, binD, negD, biD, mtD, muTy, muD, setD, keyOf, keysOf, keyOkB, dicPairs, mkSl, isCont, wipeE, unwipe, itemsD, rngD, isTy, noLck, isOwn, mulOk, df13, outsOf, h]
section
variable {n : Nat} {io : List Nat} {ρ ρ1 : EV} {es : IOs} {ds : List D} {d p : D} {fr : Bool} {s : Sl} {os : EV} {i f : Nat}
theorem ev_callL (h0 : ρ[i]? = some (.own p)) (hes : evOs (run T n) io es ρ = some (ds.map .dn, ρ1)) (h1 : ρ1[i]? = some (.own p)) (h : run T n f (.own p :: ds.map .val) = some (d, fr, s :: os)) : evE (run T n) io (.call f (.cons (.pk i) es)) ρ = some (d, fr, ρ1.set i s) := by
  have lo := run_outs h
  rw [evE, evOs, evO, h0]
  simp only
  rw [hes]
  simp only [Option.map_some]
  have hl : lent ρ1 (Tok'.pk i :: ds.map .dn) = [i] := by simp only [lent, h1, lent_dn]
  have ha : argsOf ρ1 (Tok'.pk i :: ds.map .dn) = some (.own p :: ds.map .val) := by simp only [argsOf, argOf, h1, args_dn]
  rw [hl, if_pos (by simp), ha]
  simp only
  rw [h]
  simp only
  rw [if_pos lo]
  simp only [back, h1, back_dn]
theorem ev_pick {l : List Int} (h0 : ρ[i]? = some (pkS l)) : ∃ v l' fr, evE (run T (n + 1)) io (.call 13 (.cons (.pk i) .nil)) ρ = some (.int v, fr, ρ.set i (pkS l')) := by
  obtain ⟨v, l', fr, h⟩ := r_pick n l
  exact ⟨v, l', fr, ev_callL (ds := []) h0 (by simp [evOs]) h0 h⟩
theorem ev_pickmod {l : List Int} (m : Nat) (hm : 0 < m) (h0 : ρ[i]? = some (pkS l)) : ∃ (k : Nat) (l' : List Int), k < m ∧ evE (run T (n + 1)) io (.bin .mod (.e (.call 13 (.cons (.pk i) .nil))) (.e (.cst (.int m)))) ρ = some (.int k, true, ρ.set i (pkS l')) := by
  obtain ⟨v, l', fr, h⟩ := ev_pick (n := n) (io := io) h0
  have a1 : 0 ≤ v.fmod m := Int.fmod_nonneg_of_pos v (by omega)
  have a2 : v.fmod m < m := Int.fmod_lt_of_pos v (by omega)
  refine ⟨(v.fmod m).toNat, l', by omega, ev_bin h ev_cst ?_⟩
  have e : ((v.fmod m).toNat : Int) = v.fmod m := by omega
  have hne : (m : Int) ≠ 0 := by omega
  simp only [binD]
  rw [if_pos hne, e]
end
theorem filt_pr (kv : KV') (mark : Int) : (kv.filterMap fun p => if !decide (p.1 = mark) then some (prD p) else none) = (kv.filter fun p => !decide (p.1 = mark)).map prD := by
  induction kv with
  | nil => rfl
  | cons p kv ih =>
    rw [List.filterMap_cons, List.filter_cons]
    by_cases h : p.1 = mark
    · simp only [h, decide_true, Bool.not_true, Bool.false_eq_true, if_false]; exact ih
    · simp only [h, decide_false, Bool.not_false, if_true, List.map_cons]; rw [← ih]
/-- dicts that can be judged -/
def Gd (fs : List KV') : Prop := ∀ f ∈ fs, (f.map (·.1)).Nodup ∧ f.length ≤ 1000
theorem gd_snoc {fs : List KV'} {ps : KV'} (h : Gd fs) (hp : ps.length ≤ 1000) : Gd (fs ++ [ofP ps]) := fun f hf => by
  rcases List.mem_append.mp hf with z | z
  · exact h f z
  · rw [List.mem_singleton] at z
    subst z
    exact ⟨ofP_nodup ps, Nat.le_trans (ofP_len ps) hp⟩
def BentP (l : List Int) (kv : KV') (r : RV) : Prop := ∃ fs l' fr, r = some (.lst (fs.map fD), fr, [pkS l', .val (fD kv)]) ∧ Gd fs
theorem r_bent (n : Nat) (l : List Int) (kv : KV') (nd : (kv.map (·.1)).Nodup) (hk : kv.length ≤ 900) : BentP l kv (run T (n + 2) 27 [pkS l, .val (fD kv)]) := by
  rw [run_at (d := df27) rfl rfl]
  show Go (run T (n + 1)) [0] df27.body [pkS l, .val (fD kv), .un, .un, .un, .un, .un, .un] (fun o => BentP l kv (fin [pkS l, .val (fD kv)] o))
  -- the first four
  have eI : ∀ r : EV, r[1]? = some (.val (fD kv)) → evE (run T (n + 1)) [0] (.bi .litems (.pk 1)) r = some (.lst (kv.map prD), true, r) := fun r h => by
    have e1 := items_dI kv
    simp only [evE, evO, h, rsv, Sl.get, e1, Option.map_some]
  have g3 : evE (run T (n + 1)) [0] (.bi (.dict false) (.e (.bin .add (.e (.bi .litems (.pk 1))) (.e (.lst (.cons (.e (.tup (.cons (.e (.neg (.e (.cst (.int 40))))) (.cons (.e (.neg (.e (.cst (.int 41))))) .nil)))) .nil)))))) [pkS l, .val (fD kv), .un, .un, .un, .un, .un, .un] = some (fD (ofP (kv ++ [(-40, -41)])), true, [pkS l, .val (fD kv), .un, .un, .un, .un, .un, .un]) := by
    refine ev_bi (ev_bin (eI _ rfl) (d2 := .lst [prD (-40, -41)]) (fr2 := true) (ρ2 := [pkS l, .val (fD kv), .un, .un, .un, .un, .un, .un]) (by simp [fin, owns, forTurn, lcTurn, dcTurn, asg, asgs, okTo, exB, exS, evT, evE, evO, evOs, evP, evI, evC, dns, rsv, rsvs, Sl.get, frz1, idxD, sliD, cmpD, eqD, inD, isNon, truD, binD, negD, biD, mtD, muTy, muD, setD, keyOf, keysOf, keyOkB, dicPairs, mkSl, isCont, wipeE, unwipe, itemsD, rngD, isTy, noLck, isOwn, mulOk, bign]) (d' := .lst ((kv ++ [(-40, -41)]).map prD)) ?_) (dict_prs _)
    simp only [binD, List.map_append, List.map_cons, List.map_nil]
    rw [if_pos (bign _ (by simp; omega))]
  have g4 : evE (run T (n + 1)) [0] (.bi (.dict false) (.e (.lc [4] (.nm 4) (.it (.var 1)) .no (.tup (.cons (.e (.var 4)) (.cons (.e (.cst (.int 0))) .nil)))))) [pkS l, .val (fD kv), .un, .un, .un, .un, .un, .un] = some (fD (ofP (kv.map fun p => (p.1, 0))), true, [pkS l, .val (fD kv), .un, .un, .un, .un, .un, .un]) := by
    have e := ev_lcM (Φ := run T (n + 1)) (io := [0]) (vs := [4]) (g := .nm 4) (it := .it (.var 1)) (c := .no) (x := .tup (.cons (.e (.var 4)) (.cons (.e (.cst (.int 0))) .nil))) (ρ := [pkS l, .val (fD kv), .un, .un, .un, .un, .un, .un]) (ρ1 := [pkS l, .val (fD kv), .un, .un, .un, .un, .un, .un]) (fun p : Int × Int => D.int p.1) (fun p => prD (p.1, 0)) kv (by simp [evI, evE, frz1, itemsD, keys_dI]) (by rfl) (by omega) (fun a _ => by simp [fin, owns, forTurn, lcTurn, dcTurn, asg, asgs, okTo, exB, exS, evT, evE, evO, evOs, evP, evI, evC, dns, rsv, rsvs, Sl.get, frz1, idxD, sliD, cmpD, eqD, inD, isNon, truD, binD, negD, biD, mtD, muTy, muD, setD, keyOf, keysOf, keyOkB, dicPairs, mkSl, isCont, wipeE, unwipe, itemsD, rngD, isTy, noLck, isOwn, mulOk, bign])
    have e2 : kv.map (fun p => prD (p.1, 0)) = (kv.map fun p => ((p.1, 0) : Int × Int)).map prD := by rw [List.map_map]; rfl
    rw [e2] at e
    exact ev_bi e (dict_prs _)
  have first : evE (run T (n + 1)) [0] (.lst (.cons (.e (.var 1)) (.cons (.e (.dic false .nil)) (.cons (.e (.bi (.dict false) (.e (.bin .add (.e (.bi .litems (.pk 1))) (.e (.lst (.cons (.e (.tup (.cons (.e (.neg (.e (.cst (.int 40))))) (.cons (.e (.neg (.e (.cst (.int 41))))) .nil)))) .nil))))))) (.cons (.e (.bi (.dict false) (.e (.lc [4] (.nm 4) (.it (.var 1)) .no (.tup (.cons (.e (.var 4)) (.cons (.e (.cst (.int 0))) .nil))))))) .nil))))) [pkS l, .val (fD kv), .un, .un, .un, .un, .un, .un] = some (.lst ([kv, [], ofP (kv ++ [(-40, -41)]), ofP (kv.map fun p => (p.1, 0))].map fD), true, [pkS l, .val (fD kv), .un, .un, .un, .un, .un, .un]) := by
    rw [evE, evOs, evO, ev_val rfl]
    simp only [Option.map_some]
    rw [evOs, evO, show evE (run T (n + 1)) [0] (.dic false .nil) [pkS l, .val (fD kv), .un, .un, .un, .un, .un, .un] = some (fD [], true, [pkS l, .val (fD kv), .un, .un, .un, .un, .un, .un]) by simp [evE, evOs, dns, dicPairs, mrg, dI]]
    simp only [Option.map_some]
    rw [evOs, evO, g3]
    simp only [Option.map_some]
    rw [evOs, evO, g4]
    simp only [Option.map_some, evOs, dns]
    rw [if_pos (bign _ (by simp))]
    rfl
  refine Go.set first (by rfl) ?_
  have hG : Gd [kv, [], ofP (kv ++ [(-40, -41)]), ofP (kv.map fun p => (p.1, 0))] := fun f hf => by
    simp only [List.mem_cons, List.not_mem_nil, or_false] at hf
    rcases hf with rfl | rfl | rfl | rfl
    · exact ⟨nd, by omega⟩
    · exact ⟨List.nodup_nil, by simp⟩
    · exact ⟨ofP_nodup _, Nat.le_trans (ofP_len _) (by simp; omega)⟩
    · exact ⟨ofP_nodup _, Nat.le_trans (ofP_len _) (by simp; omega)⟩
  show Go _ _ _ [pkS l, .val (fD kv), .own (.lst ([kv, [], ofP (kv ++ [(-40, -41)]), ofP (kv.map fun p => (p.1, 0))].map fD)), .un, .un, .un, .un, .un] _
  have hG4 : [kv, [], ofP (kv ++ [(-40, -41)]), ofP (kv.map fun p => (p.1, 0))].length ≤ 4 := by simp
  generalize [kv, [], ofP (kv ++ [(-40, -41)]), ofP (kv.map fun p => (p.1, 0))] = fs0 at *
  clear g3 g4 first
  obtain ⟨ms, hms, hperm⟩ := sortD_ints (l := kv.map (·.1)) (by rw [List.length_map]; omega)
  refine Go.set (ρ1 := [pkS l, .val (fD kv), .own (.lst (fs0.map fD)), .un, .un, .un, .un, .un]) (d0 := .lst (ms.map .int)) (fr0 := true) (ev_bi (d := .lst ((kv.map (·.1)).map .int)) (fr := true) (by have := keysL_dI kv; simp only [evE, evO, List.getElem?_cons_succ, List.getElem?_cons_zero, rsv, Sl.get, fD, this, Option.map_some]) (by simp only [biD, hms, Option.map_some])) (by rfl) ?_
  have hin : ∀ m ∈ ms, ∃ v, kv.lookup m = some v := fun m hm => by
    have := hperm.mem_iff.mp hm
    obtain ⟨p, hp, e⟩ := List.mem_map.mp this
    exact ⟨p.2, mem_lookup nd (by rw [← e]; exact hp)⟩
  have eS : ∀ (r : EV) (k : Nat), r[3]? = some (.own (.lst (ms.map .int))) → evI (run T (n + 1)) [0] (.it (.sli (.pk 3) .no (.yes (.e (.cst (.int k)))))) r = some ((ms.take k).map .int, r) := fun r k h => by
    have c := cut_hi (ms.map .int) k
    simp only [evI, evE, evO, evP, h, rsv, Sl.get, Option.map_some, sliD, c, itemsD, List.map_take]
  have eS1 := fun r h => eS r 1 h
  have eS2 := fun r h => eS r 2 h
  refine Go.each (ρ1 := [pkS l, .val (fD kv), .own (.lst (fs0.map fD)), .own (.lst (ms.map .int)), .un, .un, .un, .un]) D.int (ms.take 1)
    (fun rest ρ => ∃ (fs : List KV') (s4 s5 s6 s7 : Sl), ρ = [pkS l, .val (fD kv), .own (.lst (fs.map fD)), .own (.lst (ms.map .int)), s4, s5, s6, s7] ∧ Gd fs ∧ fs.length + rest.length ≤ 5 ∧ ∀ m ∈ rest, m ∈ ms) (eS1 _ rfl) rfl ⟨fs0, _, _, _, _, rfl, hG, by rw [List.length_take]; omega, fun m hm => List.mem_of_mem_take hm⟩ ?_ ?_
  · rintro m rest ρ ⟨fs, s4, s5, s6, s7, rfl, hg, hz, hm⟩
    rw [List.length_cons] at hz
    obtain ⟨v, ev⟩ := hin m (hm m List.mem_cons_self)
    refine turn_of (ρ1 := [pkS l, .val (fD kv), .own (.lst (fs.map fD)), .own (.lst (ms.map .int)), .val (.int m), s5, s6, s7]) (by simp [fin, owns, forTurn, lcTurn, dcTurn, asg, asgs, okTo, exB, exS, evT, evE, evO, evOs, evP, evI, evC, dns, rsv, rsvs, Sl.get, frz1, idxD, sliD, cmpD, eqD, inD, isNon, truD, binD, negD, biD, mtD, muTy, muD, setD, keyOf, keysOf, keyOkB, dicPairs, mkSl, isCont, wipeE, unwipe, itemsD, rngD, isTy, noLck, isOwn, mulOk]) ?_
    have e1 : evE (run T (n + 1)) [0] (.bi (.dict false) (.e (.bin .add (.e (.bi .litems (.pk 1))) (.e (.lst (.cons (.e (.tup (.cons (.e (.neg (.e (.cst (.int 40))))) (.cons (.e (.idx (.pk 1) (.pk 4))) .nil)))) .nil)))))) [pkS l, .val (fD kv), .own (.lst (fs.map fD)), .own (.lst (ms.map .int)), .val (.int m), s5, s6, s7] = some (fD (ofP (kv ++ [(-40, v)])), true, [pkS l, .val (fD kv), .own (.lst (fs.map fD)), .own (.lst (ms.map .int)), .val (.int m), s5, s6, s7]) := by
      refine ev_bi (ev_bin (eI _ rfl) (d2 := .lst [prD (-40, v)]) (fr2 := true) (ρ2 := [pkS l, .val (fD kv), .own (.lst (fs.map fD)), .own (.lst (ms.map .int)), .val (.int m), s5, s6, s7]) (by simp [fin, owns, forTurn, lcTurn, dcTurn, asg, asgs, okTo, exB, exS, evT, evE, evO, evOs, evP, evI, evC, dns, rsv, rsvs, Sl.get, frz1, idxD, sliD, cmpD, eqD, inD, isNon, truD, binD, negD, biD, mtD, muTy, muD, setD, keyOf, keysOf, keyOkB, dicPairs, mkSl, isCont, wipeE, unwipe, itemsD, rngD, isTy, noLck, isOwn, mulOk, bign, look_dI, ev]) (d' := .lst ((kv ++ [(-40, v)]).map prD)) ?_) (dict_prs _)
      simp only [binD, List.map_append, List.map_cons, List.map_nil]
      rw [if_pos (bign _ (by simp; omega))]
    refine Go.app rfl e1 rfl (by rw [List.length_map]; show _ < 16777216; omega) (Go.nil (Trn.nx ⟨fs ++ [ofP (kv ++ [(-40, v)])], .val (.int m), s5, s6, s7, by rw [List.map_append]; rfl, gd_snoc hg (by simp; omega), by rw [List.length_append, List.length_singleton]; omega, fun k hk => hm k (List.mem_cons_of_mem _ hk)⟩))
  rintro ρ ⟨fs1, s4, s5, s6, s7, rfl, hg1, hz1, _⟩
  rw [List.length_nil] at hz1
  refine Go.each (ρ1 := [pkS l, .val (fD kv), .own (.lst (fs1.map fD)), .own (.lst (ms.map .int)), s4, s5, s6, s7]) D.int (ms.take 2)
    (fun rest ρ => ∃ (l : List Int) (fs : List KV') (s4 s5 s6 s7 : Sl), ρ = [pkS l, .val (fD kv), .own (.lst (fs.map fD)), .own (.lst (ms.map .int)), s4, s5, s6, s7] ∧ Gd fs ∧ fs.length + 4 * rest.length ≤ 20 ∧ ∀ m ∈ rest, m ∈ ms) (eS2 _ rfl) rfl ⟨l, fs1, _, _, _, _, rfl, hg1, by rw [List.length_take]; omega, fun m hm => List.mem_of_mem_take hm⟩ ?_ ?_
  · rintro m rest ρ ⟨l, fs, s4, s5, s6, s7, rfl, hg, hz, hm⟩
    rw [List.length_cons] at hz
    refine turn_of (ρ1 := [pkS l, .val (fD kv), .own (.lst (fs.map fD)), .own (.lst (ms.map .int)), .val (.int m), s5, s6, s7]) (by simp [fin, owns, forTurn, lcTurn, dcTurn, asg, asgs, okTo, exB, exS, evT, evE, evO, evOs, evP, evI, evC, dns, rsv, rsvs, Sl.get, frz1, idxD, sliD, cmpD, eqD, inD, isNon, truD, binD, negD, biD, mtD, muTy, muD, setD, keyOf, keysOf, keyOkB, dicPairs, mkSl, isCont, wipeE, unwipe, itemsD, rngD, isTy, noLck, isOwn, mulOk]) ?_
    have l1 := ev_lcF (Φ := run T (n + 1)) (io := [0]) (vs := [7]) (g := .nm 7) (it := .it (.bi .litems (.pk 1))) (c := .yes (.e (.e (.cmp .ne (.e (.idx (.pk 7) (.e (.cst (.int 0))))) (.pk 4))))) (x := .var 7) (ρ := [pkS l, .val (fD kv), .own (.lst (fs.map fD)), .own (.lst (ms.map .int)), .val (.int m), s5, s6, s7]) (ρ1 := [pkS l, .val (fD kv), .own (.lst (fs.map fD)), .own (.lst (ms.map .int)), .val (.int m), s5, s6, s7]) prD (fun p => if !decide (p.1 = m) then some (prD p) else none) kv (ev_it (eI _ rfl) rfl) (by rfl) (by omega) (fun p _ => by
      refine lc_yes (ρ1 := [pkS l, .val (fD kv), .own (.lst (fs.map fD)), .own (.lst (ms.map .int)), .val (.int m), s5, s6, .val (prD p)]) (fr := false) (ρ2 := [pkS l, .val (fD kv), .own (.lst (fs.map fD)), .own (.lst (ms.map .int)), .val (.int m), s5, s6, .val (prD p)]) (ρ3 := [pkS l, .val (fD kv), .own (.lst (fs.map fD)), .own (.lst (ms.map .int)), .val (.int m), s5, s6, .val (prD p)]) (by simp [fin, owns, forTurn, lcTurn, dcTurn, asg, asgs, okTo, exB, exS, evT, evE, evO, evOs, evP, evI, evC, dns, rsv, rsvs, Sl.get, frz1, idxD, sliD, cmpD, eqD, inD, isNon, truD, binD, negD, biD, mtD, muTy, muD, setD, keyOf, keysOf, keyOkB, dicPairs, mkSl, isCont, wipeE, unwipe, itemsD, rngD, isTy, noLck, isOwn, mulOk]) ?_ (fun _ => ⟨ev_val rfl, by rfl⟩) (fun _ => by rfl)
      by_cases h : p.1 = m <;> simp [fin, owns, forTurn, lcTurn, dcTurn, asg, asgs, okTo, exB, exS, evT, evE, evO, evOs, evP, evI, evC, dns, rsv, rsvs, Sl.get, frz1, idxD, sliD, cmpD, eqD, inD, isNon, truD, binD, negD, biD, mtD, muTy, muD, setD, keyOf, keysOf, keyOkB, dicPairs, mkSl, isCont, wipeE, unwipe, itemsD, rngD, isTy, noLck, isOwn, mulOk, atI_0, h])
    rw [filt_pr] at l1
    have hkl : (kv.filter fun p => !decide (p.1 = m)).length ≤ 900 := Nat.le_trans (List.length_filter_le _ _) hk
    generalize (kv.filter fun p => !decide (p.1 = m)) = kl at *
    refine Go.set (ρ1 := [pkS l, .val (fD kv), .own (.lst (fs.map fD)), .own (.lst (ms.map .int)), .val (.int m), s5, s6, s7]) l1 (by rfl) ?_
    obtain ⟨k3, la, h3, p3⟩ := ev_pickmod (n := n) (io := [0]) (i := 0) (l := l) (ρ := [pkS l, .val (fD kv), .own (.lst (fs.map fD)), .own (.lst (ms.map .int)), .val (.int m), .own (.lst (kl.map prD)), s6, s7]) 3 (by decide) rfl
    obtain ⟨k4, lb, h4, p4⟩ := ev_pickmod (n := n) (io := [0]) (i := 0) (l := la) (ρ := [pkS la, .val (fD kv), .own (.lst (fs.map fD)), .own (.lst (ms.map .int)), .val (.int m), .own (.lst (kl.map prD)), s6, s7]) 4 (by decide) rfl
    have three : evI (run T (n + 1)) [0] (.it (.lst (.cons (.e (.bin .mod (.e (.call 13 (.cons (.pk 0) .nil))) (.e (.cst (.int 3))))) (.cons (.e (.bin .sub (.e (.neg (.e (.cst (.int 1))))) (.e (.bin .mod (.e (.call 13 (.cons (.pk 0) .nil))) (.e (.cst (.int 4))))))) (.cons (.e (.neg (.e (.cst (.int 50))))) .nil))))) [pkS l, .val (fD kv), .own (.lst (fs.map fD)), .own (.lst (ms.map .int)), .val (.int m), .own (.lst (kl.map prD)), s6, s7] = some ([(k3 : Int), -1 - (k4 : Int), -50].map D.int, [pkS lb, .val (fD kv), .own (.lst (fs.map fD)), .own (.lst (ms.map .int)), .val (.int m), .own (.lst (kl.map prD)), s6, s7]) := by
      have n1 : ∀ (r : EV) (k : Int), evE (run T (n + 1)) [0] (.neg (.e (.cst (.int k)))) r = some (.int (-k), true, r) := fun r k => by simp [fin, owns, forTurn, lcTurn, dcTurn, asg, asgs, okTo, exB, exS, evT, evE, evO, evOs, evP, evI, evC, dns, rsv, rsvs, Sl.get, frz1, idxD, sliD, cmpD, eqD, inD, isNon, truD, binD, negD, biD, mtD, muTy, muD, setD, keyOf, keysOf, keyOkB, dicPairs, mkSl, isCont, wipeE, unwipe, itemsD, rngD, isTy, noLck, isOwn, mulOk]
      have p3' : evE (run T (n + 1)) [0] (.bin .mod (.e (.call 13 (.cons (.pk 0) .nil))) (.e (.cst (.int 3)))) [pkS l, .val (fD kv), .own (.lst (fs.map fD)), .own (.lst (ms.map .int)), .val (.int m), .own (.lst (kl.map prD)), s6, s7] = some (.int k3, true, [pkS la, .val (fD kv), .own (.lst (fs.map fD)), .own (.lst (ms.map .int)), .val (.int m), .own (.lst (kl.map prD)), s6, s7]) := p3
      have p4' : evE (run T (n + 1)) [0] (.bin .mod (.e (.call 13 (.cons (.pk 0) .nil))) (.e (.cst (.int 4)))) [pkS la, .val (fD kv), .own (.lst (fs.map fD)), .own (.lst (ms.map .int)), .val (.int m), .own (.lst (kl.map prD)), s6, s7] = some (.int k4, true, [pkS lb, .val (fD kv), .own (.lst (fs.map fD)), .own (.lst (ms.map .int)), .val (.int m), .own (.lst (kl.map prD)), s6, s7]) := p4
      have q4 := ev_bin (o := .sub) (n1 _ 1) p4' (d' := .int (-1 - (k4 : Int))) rfl
      rw [evI, evE, evOs, evO, p3']
      simp only [Option.map_some]
      rw [evOs, evO, q4]
      simp only [Option.map_some]
      rw [evOs, evO, n1]
      simp only [Option.map_some, evOs, dns]
      rw [if_pos (bign _ (by simp))]
      rfl
    have e5 : ∀ (o : Int) (fs : List KV'), evE (run T (n + 1)) [0] (.bi (.dict false) (.e (.bin .add (.pk 5) (.e (.lst (.cons (.e (.tup (.cons (.e (.var 4)) (.cons (.e (.var 6)) .nil)))) .nil)))))) [pkS lb, .val (fD kv), .own (.lst (fs.map fD)), .own (.lst (ms.map .int)), .val (.int m), .own (.lst (kl.map prD)), .val (.int o), s7] = some (fD (ofP (kl ++ [(m, o)])), true, [pkS lb, .val (fD kv), .own (.lst (fs.map fD)), .own (.lst (ms.map .int)), .val (.int m), .own (.lst (kl.map prD)), .val (.int o), s7]) := fun o fs => by
      have hb : (kl.map prD).length + 1 ≤ bigN := bign _ (by rw [List.length_map]; omega)
      refine ev_bi (d := .lst ((kl ++ [(m, o)]).map prD)) (fr := true) ?_ (dict_prs _)
      have hb2 : kl.length + 1 ≤ bigN := bign _ (by omega)
      simp [fin, owns, forTurn, lcTurn, dcTurn, asg, asgs, okTo, exB, exS, evT, evE, evO, evOs, evP, evI, evC, dns, rsv, rsvs, Sl.get, frz1, idxD, sliD, cmpD, eqD, inD, isNon, truD, binD, negD, biD, mtD, muTy, muD, setD, keyOf, keysOf, keyOkB, dicPairs, mkSl, isCont, wipeE, unwipe, itemsD, rngD, isTy, noLck, isOwn, mulOk, bign, hb2]
    refine Go.each (α := Int) D.int [(k3 : Int), -1 - (k4 : Int), -50]
      (fun rs ρ => ∃ (fs : List KV') (s6 : Sl), ρ = [pkS lb, .val (fD kv), .own (.lst (fs.map fD)), .own (.lst (ms.map .int)), .val (.int m), .own (.lst (kl.map prD)), s6, s7] ∧ Gd fs ∧ fs.length + rs.length + 1 + 4 * rest.length ≤ 20) three rfl ⟨fs, s6, rfl, hg, by simp; omega⟩ ?_ ?_
    · rintro o rs ρ ⟨fs, s6, rfl, hg, hz⟩
      rw [List.length_cons] at hz
      refine turn_of (ρ1 := [pkS lb, .val (fD kv), .own (.lst (fs.map fD)), .own (.lst (ms.map .int)), .val (.int m), .own (.lst (kl.map prD)), .val (.int o), s7]) (by simp [fin, owns, forTurn, lcTurn, dcTurn, asg, asgs, okTo, exB, exS, evT, evE, evO, evOs, evP, evI, evC, dns, rsv, rsvs, Sl.get, frz1, idxD, sliD, cmpD, eqD, inD, isNon, truD, binD, negD, biD, mtD, muTy, muD, setD, keyOf, keysOf, keyOkB, dicPairs, mkSl, isCont, wipeE, unwipe, itemsD, rngD, isTy, noLck, isOwn, mulOk]) ?_
      refine Go.app rfl (e5 o fs) rfl (by rw [List.length_map]; show _ < 16777216; omega) (Go.nil (Trn.nx ⟨fs ++ [ofP (kl ++ [(m, o)])], .val (.int o), by rw [List.map_append]; rfl, gd_snoc hg (by simp; omega), by rw [List.length_append, List.length_singleton]; omega⟩))
    · rintro ρ ⟨fs, s6, rfl, hg, hz⟩
      rw [List.length_nil] at hz
      have e6 : evE (run T (n + 1)) [0] (.bi (.dict false) (.pk 5)) [pkS lb, .val (fD kv), .own (.lst (fs.map fD)), .own (.lst (ms.map .int)), .val (.int m), .own (.lst (kl.map prD)), s6, s7] = some (fD (ofP kl), true, [pkS lb, .val (fD kv), .own (.lst (fs.map fD)), .own (.lst (ms.map .int)), .val (.int m), .own (.lst (kl.map prD)), s6, s7]) := by
        have := dict_prs kl
        simp only [evE, evO, List.getElem?_cons_succ, List.getElem?_cons_zero, rsv, Sl.get, this, Option.map_some]
      refine Go.app rfl e6 rfl (by rw [List.length_map]; show _ < 16777216; omega) (Go.nil (Trn.nx ⟨lb, fs ++ [ofP kl], .val (.int m), .own (.lst (kl.map prD)), s6, s7, by rw [List.map_append]; rfl, gd_snoc hg (by omega), by rw [List.length_append, List.length_singleton]; omega, fun k hk => hm k (List.mem_cons_of_mem _ hk)⟩))
  · rintro ρ ⟨l', fs, s4, s5, s6, s7, rfl, hg, _, _⟩
    exact Go.retO rfl rfl ⟨fs, l', true, rfl, hg⟩
end L2.PL
end
section
set_option maxRecDepth 100000
set_option maxHeartbeats 2000000
/-! k59, part ZA: _law_judged. -/
namespace L2.PL
open PySem
theorem look_self {kv : KV'} (nd : (kv.map (·.1)).Nodup) {p : Int × Int} (h : p ∈ kv) : look (dI kv) (.num p.1) = some (.int p.2) := by rw [look_dI, mem_lookup nd h]; rfl
theorem same_self {kv : KV'} (nd : (kv.map (·.1)).Nodup) : sameDic (dI kv) (dI kv) = true := by
  unfold sameDic
  rw [Bool.and_eq_true]
  refine ⟨by simp, ?_⟩
  rw [List.all_eq_true]
  intro q hq
  obtain ⟨p, hp, rfl⟩ := List.mem_map.mp hq
  simp only [look_self nd hp, flatD, toV, Bool.true_and, decide_true]
def JudP (l : List Int) (a b : Pat) (kv : KV') (r : RV) : Prop := ∃ l' fr, r = some (.bl true, fr, [pkS l', .val (patD a), .val (patD b), .val (fD kv)])
theorem r_judged (n : Nat) (l : List Int) (a b : Pat) (kv : KV') (ha : POk a) (hb : POk b) (nd : (kv.map (·.1)).Nodup) (hk : kv.length ≤ 900) (hn : 4 ≤ n) : JudP l a b kv (run T (n + 1) 28 [pkS l, .val (patD a), .val (patD b), .val (fD kv)]) := by
  classical
  obtain ⟨m, rfl⟩ : ∃ m, n = m + 3 := ⟨n - 3, by omega⟩
  rw [run_at (d := df28) rfl rfl]
  show Go (run T (m + 3)) [0] df28.body [pkS l, .val (patD a), .val (patD b), .val (fD kv), .un, .un] (fun o => JudP l a b kv (fin [pkS l, .val (patD a), .val (patD b), .val (fD kv)] o))
  obtain ⟨fs, l', fr, hbent, hG⟩ := r_bent (m + 1) l kv nd hk
  refine Go.each (ρ1 := [pkS l', .val (patD a), .val (patD b), .val (fD kv), .un, .un]) fD fs
    (fun rest ρ => ∃ s4 s5, ρ = [pkS l', .val (patD a), .val (patD b), .val (fD kv), s4, s5] ∧ Gd rest) (ev_it (d := .lst (fs.map fD)) (ev_callL (ds := [fD kv]) rfl (ev_os1 (ev_val rfl)) rfl hbent) rfl) rfl ⟨_, _, rfl, hG⟩ ?_ ?_
  · rintro f rest ρ ⟨s4, s5, rfl, hg⟩
    obtain ⟨nf, lf⟩ := hg f List.mem_cons_self
    refine turn_of (ρ1 := [pkS l', .val (patD a), .val (patD b), .val (fD kv), .val (fD f), s5]) (by simp [fin, owns, forTurn, lcTurn, dcTurn, asg, asgs, okTo, exB, exS, evT, evE, evO, evOs, evP, evI, evC, dns, rsv, rsvs, Sl.get, frz1, idxD, sliD, cmpD, eqD, inD, isNon, truD, binD, negD, biD, mtD, muTy, muD, setD, keyOf, keysOf, keyOkB, dicPairs, mkSl, isCont, wipeE, unwipe, itemsD, rngD, isTy, noLck, isOwn, mulOk]) ?_
    refine Go.set (ρ1 := [pkS l', .val (patD a), .val (patD b), .val (fD kv), .val (fD f), s5]) (d0 := fD f) (fr0 := true) (by simp [fin, owns, forTurn, lcTurn, dcTurn, asg, asgs, okTo, exB, exS, evT, evE, evO, evOs, evP, evI, evC, dns, rsv, rsvs, Sl.get, frz1, idxD, sliD, cmpD, eqD, inD, isNon, truD, binD, negD, biD, mtD, muTy, muD, setD, keyOf, keysOf, keyOkB, dicPairs, mkSl, isCont, wipeE, unwipe, itemsD, rngD, isTy, noLck, isOwn, mulOk]) (by rfl) ?_
    obtain ⟨f1, h1⟩ := r_isex (m + 2) a b f ha hb nf lf
    obtain ⟨f2, h2⟩ := r_right m a b f ha hb nf lf
    obtain ⟨f3, h3⟩ := r_same 1 (m + 3) (.bl (decide (RightP a b f))) rfl (by omega)
    have v5 : evE (run T (m + 3)) [0] (.var 5) [pkS l', .val (patD a), .val (patD b), .val (fD kv), .val (fD f), .own (fD f)] = some (fD f, false, [pkS l', .val (patD a), .val (patD b), .val (fD kv), .val (fD f), .val (fD f)]) := by simp [fin, owns, forTurn, lcTurn, dcTurn, asg, asgs, okTo, exB, exS, evT, evE, evO, evOs, evP, evI, evC, dns, rsv, rsvs, Sl.get, frz1, idxD, sliD, cmpD, eqD, inD, isNon, truD, binD, negD, biD, mtD, muTy, muD, setD, keyOf, keysOf, keyOkB, dicPairs, mkSl, isCont, wipeE, unwipe, itemsD, rngD, isTy, noLck, isOwn, mulOk]
    have c7 := ev_call (io := [0]) (ev_os3 (ev_val (Φ := run T (m + 3)) (io := [0]) (ρ := [pkS l', .val (patD a), .val (patD b), .val (fD kv), .val (fD f), .own (fD f)]) (i := 1) rfl) (ev_val (i := 2) rfl) v5) h1
    have c24 := ev_call (io := [0]) (ev_os3 (ev_val (Φ := run T (m + 3)) (io := [0]) (ρ := [pkS l', .val (patD a), .val (patD b), .val (fD kv), .val (fD f), .val (fD f)]) (i := 1) rfl) (ev_val (i := 2) rfl) (ev_val (i := 4) rfl)) h2
    have c10 := ev_call (io := [0]) (ev_os2 c7 c24) h3
    have t2 : evT (run T (m + 3)) [0] (.e (.e (.cmp .ne (.pk 5) (.pk 4)))) [pkS l', .val (patD a), .val (patD b), .val (fD kv), .val (fD f), .val (fD f)] = some (false, [pkS l', .val (patD a), .val (patD b), .val (fD kv), .val (fD f), .val (fD f)]) := by simp [fin, owns, forTurn, lcTurn, dcTurn, asg, asgs, okTo, exB, exS, evT, evE, evO, evOs, evP, evI, evC, dns, rsv, rsvs, Sl.get, frz1, idxD, sliD, cmpD, eqD, inD, isNon, truD, binD, negD, biD, mtD, muTy, muD, setD, keyOf, keysOf, keyOkB, dicPairs, mkSl, isCont, wipeE, unwipe, itemsD, rngD, isTy, noLck, isOwn, mulOk, same_self nf]
    have t := t_or (t_not (t_e c10 (k := true) rfl)) (fun _ => t2) (fun h => by cases h)
    exact Go.ifF t (Go.nil (Trn.nx ⟨_, _, rfl, fun g hgm => hg g (List.mem_cons_of_mem _ hgm)⟩))
  · rintro ρ ⟨s4, s5, rfl, _⟩
    exact Go.retE (d := .bl true) ev_cst ⟨l', false, rfl⟩
end L2.PL
end
section
set_option maxRecDepth 100000
set_option maxHeartbeats 2000000
/-! k59, part ZB: _law_near. -/
namespace L2.PL
open PySem
structure Small (p : Pat) : Prop extends POk p where
  seven : p.lines.length ≤ 7
  ne : p.lines ≠ []
  two : p.cols.length ≤ 2
theorem cut_lo1 (xs : List D) : cutD xs (some 1) none = xs.drop 1 := cut_lo xs 1
theorem cut_hi1 (xs : List D) : cutD xs none (some 1) = xs.take 1 := cut_hi xs 1
theorem cut_loS (xs : List D) (k : Nat) : cutD xs (some ((k : Int) + 1)) none = xs.drop (k + 1) := cut_lo xs (k + 1)
section
variable {n : Nat} {io : List Nat} {ρ : EV} {i : Nat}
theorem ev_pickmodE {l : List Int} {y : IE} {fr2 : Bool} (m : Nat) (hm : 0 < m) (h0 : ρ[i]? = some (pkS l)) (hy : ∀ s, evE (run T (n + 1)) io y (ρ.set i s) = some (.int m, fr2, ρ.set i s)) : ∃ (k : Nat) (l' : List Int), k < m ∧ evE (run T (n + 1)) io (.bin .mod (.e (.call 13 (.cons (.pk i) .nil))) (.e y)) ρ = some (.int k, true, ρ.set i (pkS l')) := by
  obtain ⟨v, l', fr, h⟩ := ev_pick (n := n) (io := io) h0
  have a1 : 0 ≤ v.fmod m := Int.fmod_nonneg_of_pos v (by omega)
  have a2 : v.fmod m < m := Int.fmod_lt_of_pos v (by omega)
  refine ⟨(v.fmod m).toNat, l', by omega, ev_bin h (hy _) ?_⟩
  have e : ((v.fmod m).toNat : Int) = v.fmod m := by omega
  have hne : (m : Int) ≠ 0 := by omega
  simp only [binD]
  rw [if_pos hne, e]
theorem ev_idx {x y : IE} {d d2 d' : D} {fr fr2 : Bool} {Φ : Fn} {ρ1 ρ2 : EV} (h : evE Φ io x ρ = some (d, fr, ρ1)) (h2 : evE Φ io y ρ1 = some (d2, fr2, ρ2)) (hb : idxD d d2 = some d') : evE Φ io (.idx (.e x) (.e y)) ρ = some (d', false, ρ2) := by
  rw [evE, evO, h]
  simp only [Option.map_some]
  rw [evO, h2]
  simp only [Option.map_some, rsv, hb]
end
theorem okS_of (x : String) : okS (Str.ofString x) := by
  show PyData.strOk (Str.ofString x) = true
  rw [Str.ofString_eq_toList]
  unfold PyData.strOk
  simp only [List.all_toArray, List.all_eq_true, List.mem_map]
  rintro y ⟨c, _, rfl⟩
  rw [decide_eq_true_eq]
  have h := c.valid
  have e : c.toNat = c.val.toNat := rfl
  rcases h with h | ⟨_, h⟩
  · have : c.val.toNat < 0xd800 := h
    omega
  · exact h
theorem okYZ {c : Str} (h : c ∈ [Str.ofString "y", Str.ofString "z"]) : okS c := by
  simp only [List.mem_cons, List.not_mem_nil, or_false] at h
  rcases h with rfl | rfl <;> exact okS_of _
def NearP (p : Pat) (r : RV) : Prop := ∃ (ps : List Pat) (l' : List Int) (fr : Bool), r = some (.lst (ps.map patD), fr, [pkS l', .val (patD p)]) ∧ (∀ q ∈ ps, POk q) ∧ ps.length ≤ 7
theorem r_near (n : Nat) (l : List Int) (p : Pat) (hp : Small p) : NearP p (run T (n + 2) 30 [pkS l, .val (patD p)]) := by
  rw [run_at (d := df30) rfl rfl]
  show Go (run T (n + 1)) [0] df30.body [pkS l, .val (patD p), .un, .un, .un, .un, .un, .un, .un, .un, .un] (fun o => NearP p (fin [pkS l, .val (patD p)] o))
  obtain ⟨l0, rest, el⟩ : ∃ l0 rest, p.lines = l0 :: rest := by
    cases h : p.lines with
    | nil => exact absurd h hp.ne
    | cons a b => exact ⟨a, b, rfl⟩
  have hl0 : l0 ∈ p.lines := by rw [el]; exact List.mem_cons_self
  have hw0 := hp.wd l0 hl0
  have hpos : 0 < l0.2.length := by rw [hw0]; split <;> decide
  have hle : l0.2.length ≤ 3 := hp.wide l0 hl0
  have h7 := hp.seven
  have htl := hp.ct
  have h2 := hp.two
  refine Go.nxt [pkS l, .val (patD p), .un, .un, .un, .un, .val (.tup (p.cols.map .str)), .val (tI p.told), .val (.tup (p.lines.map lineD)), .un, .un] (by simp [fin, owns, forTurn, lcTurn, dcTurn, asg, asgs, okTo, exB, exS, evT, evE, evO, evOs, evP, evI, evC, dns, rsv, rsvs, Sl.get, frz1, idxD, sliD, cmpD, eqD, inD, isNon, truD, binD, negD, biD, mtD, muTy, muD, setD, keyOf, keysOf, keyOkB, dicPairs, mkSl, isCont, wipeE, unwipe, itemsD, rngD, isTy, noLck, isOwn, mulOk]) ?_
  refine Go.nxt [pkS l, .val (patD p), .un, .un, .un, .un, .val (.tup (p.cols.map .str)), .val (tI p.told), .val (.tup (p.lines.map lineD)), .val (.str l0.1), .val (tI l0.2)] (by simp [fin, owns, forTurn, lcTurn, dcTurn, asg, asgs, okTo, exB, exS, evT, evE, evO, evOs, evP, evI, evC, dns, rsv, rsvs, Sl.get, frz1, idxD, sliD, cmpD, eqD, inD, isNon, truD, binD, negD, biD, mtD, muTy, muD, setD, keyOf, keysOf, keyOkB, dicPairs, mkSl, isCont, wipeE, unwipe, itemsD, rngD, isTy, noLck, isOwn, mulOk, el, atI_0]) ?_
  obtain ⟨k, la, hk, pk5⟩ := ev_pickmod (n := n) (io := [0]) (i := 0) (l := l) (ρ := [pkS l, .val (patD p), .un, .un, .un, .un, .val (.tup (p.cols.map .str)), .val (tI p.told), .val (.tup (p.lines.map lineD)), .val (.str l0.1), .val (tI l0.2)]) 5 (by decide) rfl
  have hk' : k < [(0 : Int), 1, -1, -2, -7].length := hk
  refine Go.set (ev_idx (d := .lst ([(0 : Int), 1, -1, -2, -7].map D.int)) (fr := true) (ρ1 := [pkS l, .val (patD p), .un, .un, .un, .un, .val (.tup (p.cols.map .str)), .val (tI p.told), .val (.tup (p.lines.map lineD)), .val (.str l0.1), .val (tI l0.2)]) (by simp [fin, owns, forTurn, lcTurn, dcTurn, asg, asgs, okTo, exB, exS, evT, evE, evO, evOs, evP, evI, evC, dns, rsv, rsvs, Sl.get, frz1, idxD, sliD, cmpD, eqD, inD, isNon, truD, binD, negD, biD, mtD, muTy, muD, setD, keyOf, keysOf, keyOkB, dicPairs, mkSl, isCont, wipeE, unwipe, itemsD, rngD, isTy, noLck, isOwn, mulOk, bign]) pk5 (d' := .int [(0 : Int), 1, -1, -2, -7][k]) (getI hk')) (by rfl) ?_
  generalize [(0 : Int), 1, -1, -2, -7][k] = mark
  show Go _ _ _ [pkS la, .val (patD p), .val (.int mark), .un, .un, .un, .val (.tup (p.cols.map .str)), .val (tI p.told), .val (.tup (p.lines.map lineD)), .val (.str l0.1), .val (tI l0.2)] _
  obtain ⟨j, lb, hj, pkj⟩ := ev_pickmodE (n := n) (io := [0]) (i := 0) (l := la) (y := .bi .len (.pk 10)) (fr2 := true) (ρ := [pkS la, .val (patD p), .val (.int mark), .un, .un, .un, .val (.tup (p.cols.map .str)), .val (tI p.told), .val (.tup (p.lines.map lineD)), .val (.str l0.1), .val (tI l0.2)]) l0.2.length hpos rfl (fun s => by simp [fin, owns, forTurn, lcTurn, dcTurn, asg, asgs, okTo, exB, exS, evT, evE, evO, evOs, evP, evI, evC, dns, rsv, rsvs, Sl.get, frz1, idxD, sliD, cmpD, eqD, inD, isNon, truD, binD, negD, biD, mtD, muTy, muD, setD, keyOf, keysOf, keyOkB, dicPairs, mkSl, isCont, wipeE, unwipe, itemsD, rngD, isTy, noLck, isOwn, mulOk])
  refine Go.set pkj (by rfl) ?_
  show Go _ _ _ [pkS lb, .val (patD p), .val (.int mark), .val (.int j), .un, .un, .val (.tup (p.cols.map .str)), .val (tI p.told), .val (.tup (p.lines.map lineD)), .val (.str l0.1), .val (tI l0.2)] _
  have b1 : ∀ k, k ≤ 100 → k ≤ bigN := fun k hk => bign k (by omega)
  have hrl : rest.length + 1 ≤ 7 := by rw [el, List.length_cons] at h7; exact h7
  refine Go.set (d0 := .tup (((l0.1, l0.2.take j ++ mark :: l0.2.drop (j + 1)) :: rest).map lineD)) (fr0 := true) (ρ1 := [pkS lb, .val (patD p), .val (.int mark), .val (.int j), .un, .un, .val (.tup (p.cols.map .str)), .val (tI p.told), .val (.tup (p.lines.map lineD)), .val (.str l0.1), .val (tI l0.2)]) ?_ (by rfl) ?_
  · have c1 := cut_hi (l0.2.map .int) j
    have c2 := cut_loS (l0.2.map .int) j
    have z1 := b1 (min j l0.2.length + 1) (by omega)
    have z2 := b1 (min j l0.2.length + 1 + (l0.2.length - (j + 1))) (by omega)
    have z3 := b1 (1 + rest.length) (by omega)
    have c3 := cut_lo1 (p.lines.map lineD)
    rw [el] at c3
    simp [fin, owns, forTurn, lcTurn, dcTurn, asg, asgs, okTo, exB, exS, evT, evE, evO, evOs, evP, evI, evC, dns, rsv, rsvs, Sl.get, frz1, idxD, sliD, cmpD, eqD, inD, isNon, truD, binD, negD, biD, mtD, muTy, muD, setD, keyOf, keysOf, keyOkB, dicPairs, mkSl, isCont, wipeE, unwipe, itemsD, rngD, isTy, noLck, isOwn, mulOk, c1, c2, bign, z1, z2, z3, el, cut_lo1, List.map_take, List.map_drop]
  show Go _ _ _ [pkS lb, .val (patD p), .val (.int mark), .val (.int j), .val (.tup (((l0.1, l0.2.take j ++ mark :: l0.2.drop (j + 1)) :: rest).map lineD)), .un, .val (.tup (p.cols.map .str)), .val (tI p.told), .val (.tup (p.lines.map lineD)), .val (.str l0.1), .val (tI l0.2)] _
  have hnew : (l0.2.take j ++ mark :: l0.2.drop (j + 1)).length = l0.2.length := by
    rw [List.length_append, List.length_cons, List.length_take, List.length_drop]; omega
  generalize hnl : l0.2.take j ++ mark :: l0.2.drop (j + 1) = nl at *
  let q1 : Pat := ⟨p.cols, p.told, (l0.1, nl) :: rest⟩
  let q2 : Pat := ⟨p.cols, p.told, rest⟩
  let q3 : Pat := ⟨p.cols, p.told, p.lines ++ [l0]⟩
  let q4 : Pat := ⟨[Str.ofString "y", Str.ofString "z"].take p.cols.length, p.told, p.lines⟩
  let q5 : Pat := ⟨p.cols, p.told.reverse, p.lines⟩
  let q6 : Pat := ⟨p.cols, p.told.map fun _ => 0, p.lines⟩
  let q7 : Pat := ⟨p.cols, p.told, p.lines.reverse⟩
  have i2 : cutD [D.str (Str.ofString "y"), D.str (Str.ofString "z")] none (some (p.cols.length : Int)) = ([Str.ofString "y", Str.ofString "z"].take p.cols.length).map D.str := by
    rw [cut_hi, List.map_take]
    rfl
  have c1 := cut_lo1 (p.lines.map lineD)
  have c2 := cut_hi1 (p.lines.map lineD)
  have z1 := b1 (p.lines.length + 1) (by omega)
  have tk1 : (p.lines.map lineD).take 1 = [lineD l0] := by rw [el]; rfl
  have dr1 : (p.lines.map lineD).drop 1 = rest.map lineD := by rw [el]; rfl
  rw [dr1] at c1
  rw [tk1] at c2
  refine Go.set (d0 := .lst ([q1, q2, q3, q4].map patD)) (fr0 := true) (ρ1 := [pkS lb, .val (patD p), .val (.int mark), .val (.int j), .val (.tup (((l0.1, nl) :: rest).map lineD)), .un, .val (.tup (p.cols.map .str)), .val (tI p.told), .val (.tup (p.lines.map lineD)), .val (.str l0.1), .val (tI l0.2)]) ?_ (by rfl) ?_
  · simp [fin, owns, forTurn, lcTurn, dcTurn, asg, asgs, okTo, exB, exS, evT, evE, evO, evOs, evP, evI, evC, dns, rsv, rsvs, Sl.get, frz1, idxD, sliD, cmpD, eqD, inD, isNon, truD, binD, negD, biD, mtD, muTy, muD, setD, keyOf, keysOf, keyOkB, dicPairs, mkSl, isCont, wipeE, unwipe, itemsD, rngD, isTy, noLck, isOwn, mulOk, c1, c2, bign, z1, i2, q1, q2, q3, q4]
  have lz := ev_lcM (Φ := run T (n + 1)) (io := [0]) (vs := [2]) (g := .nm 2) (it := .it (.var 7)) (c := .no) (x := .cst (.int 0)) (ρ := [pkS lb, .val (patD p), .val (.int mark), .val (.int j), .val (.tup (((l0.1, nl) :: rest).map lineD)), .own (.lst ([q1, q2, q3, q4].map patD)), .val (.tup (p.cols.map .str)), .val (tI p.told), .val (.tup (p.lines.map lineD)), .val (.str l0.1), .val (tI l0.2)]) (ρ1 := [pkS lb, .val (patD p), .val (.int mark), .val (.int j), .val (.tup (((l0.1, nl) :: rest).map lineD)), .own (.lst ([q1, q2, q3, q4].map patD)), .val (.tup (p.cols.map .str)), .val (tI p.told), .val (.tup (p.lines.map lineD)), .val (.str l0.1), .val (tI l0.2)]) D.int (fun _ => D.int 0) p.told (by simp [fin, owns, forTurn, lcTurn, dcTurn, asg, asgs, okTo, exB, exS, evT, evE, evO, evOs, evP, evI, evC, dns, rsv, rsvs, Sl.get, frz1, idxD, sliD, cmpD, eqD, inD, isNon, truD, binD, negD, biD, mtD, muTy, muD, setD, keyOf, keysOf, keyOkB, dicPairs, mkSl, isCont, wipeE, unwipe, itemsD, rngD, isTy, noLck, isOwn, mulOk]) (by rfl) (by have := hp.told; omega) (fun m _ => by simp [fin, owns, forTurn, lcTurn, dcTurn, asg, asgs, okTo, exB, exS, evT, evE, evO, evOs, evP, evI, evC, dns, rsv, rsvs, Sl.get, frz1, idxD, sliD, cmpD, eqD, inD, isNon, truD, binD, negD, biD, mtD, muTy, muD, setD, keyOf, keysOf, keyOkB, dicPairs, mkSl, isCont, wipeE, unwipe, itemsD, rngD, isTy, noLck, isOwn, mulOk])
  have lz2 := ev_bi (b := .tuple) lz rfl
  have t5 : evE (run T (n + 1)) [0] (.tup (.cons (.e (.var 6)) (.cons (.e (.rev (.pk 7))) (.cons (.e (.var 8)) .nil)))) [pkS lb, .val (patD p), .val (.int mark), .val (.int j), .val (.tup (((l0.1, nl) :: rest).map lineD)), .own (.lst ([q1, q2, q3, q4].map patD)), .val (.tup (p.cols.map .str)), .val (tI p.told), .val (.tup (p.lines.map lineD)), .val (.str l0.1), .val (tI l0.2)] = some (patD q5, false, [pkS lb, .val (patD p), .val (.int mark), .val (.int j), .val (.tup (((l0.1, nl) :: rest).map lineD)), .own (.lst ([q1, q2, q3, q4].map patD)), .val (.tup (p.cols.map .str)), .val (tI p.told), .val (.tup (p.lines.map lineD)), .val (.str l0.1), .val (tI l0.2)]) := by
    refine ev_tup3 (ev_val rfl) (d2 := tI p.told.reverse) (fr2 := true) (ρ2 := [pkS lb, .val (patD p), .val (.int mark), .val (.int j), .val (.tup (((l0.1, nl) :: rest).map lineD)), .own (.lst ([q1, q2, q3, q4].map patD)), .val (.tup (p.cols.map .str)), .val (tI p.told), .val (.tup (p.lines.map lineD)), .val (.str l0.1), .val (tI l0.2)]) (by simp [fin, owns, forTurn, lcTurn, dcTurn, asg, asgs, okTo, exB, exS, evT, evE, evO, evOs, evP, evI, evC, dns, rsv, rsvs, Sl.get, frz1, idxD, sliD, cmpD, eqD, inD, isNon, truD, binD, negD, biD, mtD, muTy, muD, setD, keyOf, keysOf, keyOkB, dicPairs, mkSl, isCont, wipeE, unwipe, itemsD, rngD, isTy, noLck, isOwn, mulOk, revD]) (ev_val rfl)
  have t7 : evE (run T (n + 1)) [0] (.tup (.cons (.e (.var 6)) (.cons (.e (.var 7)) (.cons (.e (.rev (.pk 8))) .nil)))) [pkS lb, .val (patD p), .val (.int mark), .val (.int j), .val (.tup (((l0.1, nl) :: rest).map lineD)), .own (.lst ([q1, q2, q3, q4].map patD)), .val (.tup (p.cols.map .str)), .val (tI p.told), .val (.tup (p.lines.map lineD)), .val (.str l0.1), .val (tI l0.2)] = some (patD q7, false, [pkS lb, .val (patD p), .val (.int mark), .val (.int j), .val (.tup (((l0.1, nl) :: rest).map lineD)), .own (.lst ([q1, q2, q3, q4].map patD)), .val (.tup (p.cols.map .str)), .val (tI p.told), .val (.tup (p.lines.map lineD)), .val (.str l0.1), .val (tI l0.2)]) := by
    refine ev_tup3 (ev_val rfl) (ev_val rfl) (d3 := .tup (p.lines.reverse.map lineD)) (fr3 := true) (by simp [fin, owns, forTurn, lcTurn, dcTurn, asg, asgs, okTo, exB, exS, evT, evE, evO, evOs, evP, evI, evC, dns, rsv, rsvs, Sl.get, frz1, idxD, sliD, cmpD, eqD, inD, isNon, truD, binD, negD, biD, mtD, muTy, muD, setD, keyOf, keysOf, keyOkB, dicPairs, mkSl, isCont, wipeE, unwipe, itemsD, rngD, isTy, noLck, isOwn, mulOk, revD])
  have t6 := ev_tup3 (Φ := run T (n + 1)) (io := [0]) (ev_val (i := 6) rfl) lz2 (ev_val (i := 8) rfl)
  have e6 : (D.tup [.tup (p.cols.map .str), .tup (p.told.map fun _ => D.int 0), .tup (p.lines.map lineD)]) = patD q6 := by
    show _ = D.tup [_, .tup ((p.told.map fun _ => (0 : Int)).map D.int), _]
    rw [List.map_map]
    rfl
  have t6' : evE (run T (n + 1)) [0] (.tup (.cons (.e (.var 6)) (.cons (.e (.bi .tuple (.e (.lc [2] (.nm 2) (.it (.var 7)) .no (.cst (.int 0)))))) (.cons (.e (.var 8)) .nil)))) [pkS lb, .val (patD p), .val (.int mark), .val (.int j), .val (.tup (((l0.1, nl) :: rest).map lineD)), .own (.lst ([q1, q2, q3, q4].map patD)), .val (.tup (p.cols.map .str)), .val (tI p.told), .val (.tup (p.lines.map lineD)), .val (.str l0.1), .val (tI l0.2)] = some (patD q6, false, [pkS lb, .val (patD p), .val (.int mark), .val (.int j), .val (.tup (((l0.1, nl) :: rest).map lineD)), .own (.lst ([q1, q2, q3, q4].map patD)), .val (.tup (p.cols.map .str)), .val (tI p.told), .val (.tup (p.lines.map lineD)), .val (.str l0.1), .val (tI l0.2)]) := by rw [← e6]; exact t6
  show Go _ _ _ [pkS lb, .val (patD p), .val (.int mark), .val (.int j), .val (.tup (((l0.1, nl) :: rest).map lineD)), .own (.lst ([q1, q2, q3, q4].map patD)), .val (.tup (p.cols.map .str)), .val (tI p.told), .val (.tup (p.lines.map lineD)), .val (.str l0.1), .val (tI l0.2)] _
  refine Go.retE (x := .bin .add (.pk 5) (.e (.lst _))) (d := .lst ([q1, q2, q3, q4, q5, q6, q7].map patD)) (fr := true) (ρ1 := [pkS lb, .val (patD p), .val (.int mark), .val (.int j), .val (.tup (((l0.1, nl) :: rest).map lineD)), .own (.lst ([q1, q2, q3, q4].map patD)), .val (.tup (p.cols.map .str)), .val (tI p.told), .val (.tup (p.lines.map lineD)), .val (.str l0.1), .val (tI l0.2)]) ?_ ⟨[q1, q2, q3, q4, q5, q6, q7], lb, true, rfl, ?_, by simp⟩
  · rw [evE, evO]
    simp only [List.getElem?_cons_succ, List.getElem?_cons_zero]
    rw [evO, evE, evOs, evO, t5]
    simp only [Option.map_some]
    rw [evOs, evO, t6']
    simp only [Option.map_some]
    rw [evOs, evO, t7]
    simp only [Option.map_some, evOs, dns]
    rw [if_pos (bign _ (by simp))]
    simp [bign, rsv, Sl.get, binD]
  · have str : ∀ c ∈ p.cols, okS c := hp.cls
    have wide : ∀ {l : Ln}, (l.2.length = if l.1 = Str.ofString "s" then 2 else 3) → l.2.length ≤ 3 := fun h => by rw [h]; split <;> decide
    have mk : ∀ (cols : List Str) (told : List Int) (ls : List Ln), cols.length = told.length → told.length ≤ 2 → (∀ c ∈ cols, okS c) → ls.length ≤ 8 → (∀ l ∈ ls, okS l.1 ∧ l.2.length = if l.1 = Str.ofString "s" then 2 else 3) → POk ⟨cols, told, ls⟩ := fun cols told ls h1 h2 h3 h4 h5 =>
      { told := by show told.length ≤ 10; omega
        lines := h4
        wide := fun l hl => wide (h5 l hl).2
        cok := by show cols.length ≤ 100; omega
        cls := h3
        nms := fun l hl => (h5 l hl).1
        ct := h1
        wd := fun l hl => (h5 l hl).2 }
    have t2 : p.told.length ≤ 2 := by omega
    have ol : ∀ l ∈ p.lines, okS l.1 ∧ l.2.length = if l.1 = Str.ofString "s" then 2 else 3 := fun l hl => ⟨hp.nms l hl, hp.wd l hl⟩
    have orr : ∀ l ∈ rest, okS l.1 ∧ l.2.length = if l.1 = Str.ofString "s" then 2 else 3 := fun l hl => ol l (by rw [el]; exact List.mem_cons_of_mem _ hl)
    intro q hq
    simp only [List.mem_cons, List.not_mem_nil, or_false] at hq
    rcases hq with rfl | rfl | rfl | rfl | rfl | rfl | rfl
    · refine mk _ _ _ htl t2 str (by rw [List.length_cons]; omega) fun l hl => ?_
      rcases List.mem_cons.mp hl with z | z
      · subst z; exact ⟨hp.nms l0 hl0, by show nl.length = _; rw [hnew]; exact hw0⟩
      · exact orr l z
    · exact mk _ _ _ htl t2 str (by omega) orr
    · refine mk _ _ _ htl t2 str (by rw [List.length_append, List.length_singleton]; omega) fun l hl => ?_
      rcases List.mem_append.mp hl with z | z
      · exact ol l z
      · rw [List.mem_singleton] at z; subst z; exact ol _ hl0
    · refine mk _ _ _ (by rw [List.length_take, ← htl]; simp; omega) t2 (fun c hc => okYZ (List.mem_of_mem_take hc)) (by omega) ol
    · exact mk _ _ _ (by rw [List.length_reverse]; exact htl) (by rw [List.length_reverse]; exact t2) str (by omega) ol
    · exact mk _ _ _ (by rw [List.length_map]; exact htl) (by rw [List.length_map]; exact t2) str (by omega) ol
    · exact mk _ _ _ htl t2 str (by rw [List.length_reverse]; omega) fun l hl => ol l (List.mem_reverse.mp hl)
end L2.PL
end
section
set_option maxRecDepth 100000
set_option maxHeartbeats 2000000
/-! k59, part ZC: _law_drawn. -/
namespace L2.PL
open PySem
theorem lcGo_inv {α : Type} {turn : D → EV → Option (Option D × EV)} (enc : α → D) (σ : List Int → EV) (good : Int → Prop) : ∀ (xs : List α) (acc : List D) (l : List Int), (∀ x ∈ xs, ∀ l, ∃ m l', good m ∧ turn (enc x) (σ l) = some (some (.int m), σ l')) → acc.length + xs.length ≤ bigN →
    ∃ (ms : List Int) (l' : List Int), lcGo turn (xs.map enc) (σ l) acc = some (acc ++ ms.map .int, σ l') ∧ ms.length = xs.length ∧ ∀ m ∈ ms, good m
  | [], acc, l, _, _ => ⟨[], l, by simp [lcGo], rfl, fun m hm => by cases hm⟩
  | x :: xs, acc, l, h, hl => by
    rw [List.length_cons] at hl
    obtain ⟨m, l1, g, e⟩ := h x List.mem_cons_self l
    obtain ⟨ms, l2, e2, hn, hg⟩ := lcGo_inv enc σ good xs (acc ++ [.int m]) l1 (fun y hy => h y (List.mem_cons_of_mem _ hy)) (by rw [List.length_append, List.length_singleton]; omega)
    refine ⟨m :: ms, l2, ?_, by rw [List.length_cons, List.length_cons, hn], fun k hk => ?_⟩
    · simp only [List.map_cons, lcGo, e]
      rw [if_pos (by omega), e2, List.append_assoc]
      rfl
    · rcases List.mem_cons.mp hk with z | z
      · rw [z]; exact g
      · exact hg k z
theorem ev_rng {Φ : Fn} {io : List Nat} {ρ ρ1 : EV} {x : IE} {k : Nat} {fr : Bool} (hk : k ≤ 1000000) (h : evE Φ io x ρ = some (.int k, fr, ρ1)) : evI Φ io (.rng (.cons (.e x) .nil)) ρ = some (rangeD 0 k, ρ1) := by
  have z := rng_okN hk
  rw [evI, ev_os1 h]
  simp only [List.map_cons, List.map_nil, rsvs, rsv, rngD, z, if_true, Option.map_some, Int.toNat_natCast]
abbrev sR : Str := Str.ofString "r"
abbrev sS : Str := Str.ofString "s"
abbrev sT : Str := Str.ofString "t"
abbrev strsD (l : List String) : D := .tup (l.map fun x => .str (Str.ofString x))
def schK : List (NestedKey × D) := [(.text sR, strsD ["a", "b", "c"]), (.text sS, strsD ["c", "d"]), (.text sT, strsD ["b", "d", "e"])]
abbrev schD : D := .dic false schK
theorem str_ne {x y : String} (h : x ≠ y) : Str.ofString x ≠ Str.ofString y := fun e => h (by
  rw [Str.ofString_eq_toList, Str.ofString_eq_toList] at e
  have e := Str.mk.inj e
  have e := List.toArray_inj e
  have inj : ∀ a b : List Char, a.map Char.toNat = b.map Char.toNat → a = b := fun a => by
    induction a with
    | nil => intro b h; cases b with
      | nil => rfl
      | cons _ _ => simp at h
    | cons x a ih => intro b h; cases b with
      | nil => simp at h
      | cons y b =>
        simp only [List.map_cons, List.cons.injEq] at h
        rw [ih b h.2]
        congr 1
        exact Char.ext (UInt32.toNat_inj.mp h.1)
  exact String.toList_inj.mp (inj _ _ e))
structure DrawnOk (p : Pat) : Prop extends Small p where
  four : p.lines.length ≤ 4
  names : ∀ l ∈ p.lines, l.1 = sR ∨ l.1 = sS ∨ l.1 = sT
  marks : ∀ l ∈ p.lines, ∀ m ∈ l.2, m ∈ [(-1 : Int), -2, -3, 0, -2, 1]
  bound : ∀ m ∈ p.told, m = 0 ∨ ∃ l ∈ p.lines, m ∈ l.2
theorem look_sch {nm : Str} (h : nm = sR ∨ nm = sS ∨ nm = sT) : ∃ cs : List String, look schK (.text nm) = some (strsD cs) ∧ cs.length = if nm = sS then 2 else 3 := by
  have rs : sR ≠ sS := str_ne (by decide)
  have rt : sR ≠ sT := str_ne (by decide)
  have st : sS ≠ sT := str_ne (by decide)
  rcases h with rfl | rfl | rfl
  · exact ⟨["a", "b", "c"], by simp [look, schK], by rw [if_neg rs]; rfl⟩
  · exact ⟨["c", "d"], by simp [look, schK, rs], by rw [if_pos rfl]; rfl⟩
  · exact ⟨["b", "d", "e"], by simp [look, schK, rt, st], by rw [if_neg st.symm]; rfl⟩
def DrawnP (r : RV) : Prop := ∃ (p : Pat) (l' : List Int) (fr : Bool), r = some (patD p, fr, [pkS l', .val schD]) ∧ DrawnOk p
theorem r_drawn (n : Nat) (l : List Int) : DrawnP (run T (n + 2) 21 [pkS l, .val schD]) := by
  rw [run_at (d := df21) rfl rfl]
  show Go (run T (n + 1)) [0] df21.body [pkS l, .val schD, .un, .un, .un, .un, .un, .un, .un] (fun o => DrawnP (fin [pkS l, .val schD] o))
  refine Go.set (ρ1 := [pkS l, .val schD, .un, .un, .un, .un, .un, .un, .un]) (d0 := .lst []) (fr0 := true) (by simp [fin, owns, forTurn, lcTurn, dcTurn, asg, asgs, okTo, exB, exS, evT, evE, evO, evOs, evP, evI, evC, dns, rsv, rsvs, Sl.get, frz1, idxD, sliD, cmpD, eqD, inD, isNon, truD, binD, negD, biD, mtD, muTy, muD, setD, keyOf, keysOf, keyOkB, dicPairs, mkSl, isCont, wipeE, unwipe, itemsD, rngD, isTy, noLck, isOwn, mulOk]) (by rfl) ?_
  obtain ⟨k, la, hk, p4⟩ := ev_pickmod (n := n) (io := [0]) (i := 0) (l := l) (ρ := [pkS l, .val schD, .own (.lst []), .un, .un, .un, .un, .un, .un]) 4 (by decide) rfl
  have ecount : evE (run T (n + 1)) [0] (.bin .add (.e (.cst (.int 1))) (.e (.bin .mod (.e (.call 13 (.cons (.pk 0) .nil))) (.e (.cst (.int 4)))))) [pkS l, .val schD, .own (.lst []), .un, .un, .un, .un, .un, .un] = some (.int ((k + 1 : Nat) : Int), true, [pkS la, .val schD, .own (.lst []), .un, .un, .un, .un, .un, .un]) :=
    ev_bin ev_cst p4 (by simp only [binD]; congr 2; omega)
  let okL : Ln → Prop := fun x => (x.1 = sR ∨ x.1 = sS ∨ x.1 = sT) ∧ (x.2.length = if x.1 = sS then 2 else 3) ∧ ∀ m ∈ x.2, m ∈ [(-1 : Int), -2, -3, 0, -2, 1]
  refine Go.rng (k + 1) (fun j ρ => ∃ (l : List Int) (ls : List Ln) (s3 s6 s7 s8 : Sl), ρ = [pkS l, .val schD, .own (.lst (ls.map lineD)), s3, .un, .un, s6, s7, s8] ∧ ls.length = j ∧ ∀ x ∈ ls, okL x) (ev_rng (by omega) ecount) rfl ⟨la, [], _, _, _, _, rfl, rfl, fun x hx => by cases hx⟩ ?_ ?_
  · rintro j ρ hj ⟨l, ls, s3, s6, s7, s8, rfl, hl, hok⟩
    refine turn_of (ρ1 := [pkS l, .val schD, .own (.lst (ls.map lineD)), .val (.int j), .un, .un, s6, s7, s8]) (by simp [fin, owns, forTurn, lcTurn, dcTurn, asg, asgs, okTo, exB, exS, evT, evE, evO, evOs, evP, evI, evC, dns, rsv, rsvs, Sl.get, frz1, idxD, sliD, cmpD, eqD, inD, isNon, truD, binD, negD, biD, mtD, muTy, muD, setD, keyOf, keysOf, keyOkB, dicPairs, mkSl, isCont, wipeE, unwipe, itemsD, rngD, isTy, noLck, isOwn, mulOk]) ?_
    obtain ⟨a, lb, ha, p4⟩ := ev_pickmod (n := n) (io := [0]) (i := 0) (l := l) (ρ := [pkS l, .val schD, .own (.lst (ls.map lineD)), .val (.int j), .un, .un, s6, s7, s8]) 4 (by decide) rfl
    have hname : ∃ nm, [D.str sR, .str sS, .str sT, .str sS][a]? = some (.str nm) ∧ (nm = sR ∨ nm = sS ∨ nm = sT) := by
      have : a = 0 ∨ a = 1 ∨ a = 2 ∨ a = 3 := by omega
      rcases this with rfl | rfl | rfl | rfl
      · exact ⟨sR, rfl, .inl rfl⟩
      · exact ⟨sS, rfl, .inr (.inl rfl)⟩
      · exact ⟨sT, rfl, .inr (.inr rfl)⟩
      · exact ⟨sS, rfl, .inr (.inl rfl)⟩
    obtain ⟨nm, enm, hnm⟩ := hname
    refine Go.set (ev_idx (d := .lst [D.str sR, .str sS, .str sT, .str sS]) (fr := true) (ρ1 := [pkS l, .val schD, .own (.lst (ls.map lineD)), .val (.int j), .un, .un, s6, s7, s8]) (by simp [fin, owns, forTurn, lcTurn, dcTurn, asg, asgs, okTo, exB, exS, evT, evE, evO, evOs, evP, evI, evC, dns, rsv, rsvs, Sl.get, frz1, idxD, sliD, cmpD, eqD, inD, isNon, truD, binD, negD, biD, mtD, muTy, muD, setD, keyOf, keysOf, keyOkB, dicPairs, mkSl, isCont, wipeE, unwipe, itemsD, rngD, isTy, noLck, isOwn, mulOk, bign]) p4 (d' := .str nm) (by simp only [idxD]; rw [atI_nat]; exact enm)) (by rfl) ?_
    show Go _ _ _ [pkS lb, .val schD, .own (.lst (ls.map lineD)), .val (.int j), .un, .un, .val (.str nm), s7, s8] _
    obtain ⟨cs, ecs, hcs⟩ := look_sch hnm
    obtain ⟨ms, lc, e1, hms, hgood⟩ := lcGo_inv (turn := lcTurn (run T (n + 1)) [0] [8] (.nm 8) .no (.idx (.e (.lst (.cons (.e (.neg (.e (.cst (.int 1))))) (.cons (.e (.neg (.e (.cst (.int 2))))) (.cons (.e (.neg (.e (.cst (.int 3))))) (.cons (.e (.cst (.int 0))) (.cons (.e (.neg (.e (.cst (.int 2))))) (.cons (.e (.cst (.int 1))) .nil)))))))) (.e (.bin .mod (.e (.call 13 (.cons (.pk 0) .nil))) (.e (.cst (.int 6)))))))
      (fun x : String => D.str (Str.ofString x)) (fun l => [pkS l, .val schD, .own (.lst (ls.map lineD)), .val (.int j), .un, .un, .val (.str nm), s7, .un]) (fun m => m ∈ [(-1 : Int), -2, -3, 0, -2, 1]) cs [] lb (fun x _ l => by
        obtain ⟨b, l', hb, p6⟩ := ev_pickmod (n := n) (io := [0]) (i := 0) (l := l) (ρ := [pkS l, .val schD, .own (.lst (ls.map lineD)), .val (.int j), .un, .un, .val (.str nm), s7, .val (.str (Str.ofString x))]) 6 (by decide) rfl
        have hb' : b < [(-1 : Int), -2, -3, 0, -2, 1].length := hb
        exact ⟨[(-1 : Int), -2, -3, 0, -2, 1][b], l', List.getElem_mem hb', lc_no (ρ1 := [pkS l, .val schD, .own (.lst (ls.map lineD)), .val (.int j), .un, .un, .val (.str nm), s7, .val (.str (Str.ofString x))]) (by simp [fin, owns, forTurn, lcTurn, dcTurn, asg, asgs, okTo, exB, exS, evT, evE, evO, evOs, evP, evI, evC, dns, rsv, rsvs, Sl.get, frz1, idxD, sliD, cmpD, eqD, inD, isNon, truD, binD, negD, biD, mtD, muTy, muD, setD, keyOf, keysOf, keyOkB, dicPairs, mkSl, isCont, wipeE, unwipe, itemsD, rngD, isTy, noLck, isOwn, mulOk]) (ev_idx (d := .lst ([(-1 : Int), -2, -3, 0, -2, 1].map D.int)) (fr := true) (ρ1 := [pkS l, .val schD, .own (.lst (ls.map lineD)), .val (.int j), .un, .un, .val (.str nm), s7, .val (.str (Str.ofString x))]) (by simp [fin, owns, forTurn, lcTurn, dcTurn, asg, asgs, okTo, exB, exS, evT, evE, evO, evOs, evP, evI, evC, dns, rsv, rsvs, Sl.get, frz1, idxD, sliD, cmpD, eqD, inD, isNon, truD, binD, negD, biD, mtD, muTy, muD, setD, keyOf, keysOf, keyOkB, dicPairs, mkSl, isCont, wipeE, unwipe, itemsD, rngD, isTy, noLck, isOwn, mulOk, bign]) p6 (getI hb')) (by rfl)⟩) (bign _ (by rw [List.length_nil, hcs]; split <;> decide))
    have e2 := ev_bi (b := .tuple) (ev_lc (it := .it (.idx (.pk 1) (.pk 6))) (ρ := [pkS lb, .val schD, .own (.lst (ls.map lineD)), .val (.int j), .un, .un, .val (.str nm), s7, s8]) (ρ1 := [pkS lb, .val schD, .own (.lst (ls.map lineD)), .val (.int j), .un, .un, .val (.str nm), s7, s8]) (by simp [fin, owns, forTurn, lcTurn, dcTurn, asg, asgs, okTo, exB, exS, evT, evE, evO, evOs, evP, evI, evC, dns, rsv, rsvs, Sl.get, frz1, idxD, sliD, cmpD, eqD, inD, isNon, truD, binD, negD, biD, mtD, muTy, muD, setD, keyOf, keysOf, keyOkB, dicPairs, mkSl, isCont, wipeE, unwipe, itemsD, rngD, isTy, noLck, isOwn, mulOk, ecs]) (by rfl) e1) (d' := tI ms) rfl
    have e3 := ev_tup2 (Φ := run T (n + 1)) (io := [0]) (ev_val (i := 6) rfl) e2
    refine Go.app rfl e3 rfl (by rw [List.length_map]; show _ < 16777216; omega) (Go.nil (Trn.nx ⟨lc, ls ++ [(nm, ms)], .val (.int j), .val (.str nm), s7, s8, by rw [List.map_append]; rfl, by rw [List.length_append, List.length_singleton, hl], fun x hx => ?_⟩))
    rcases List.mem_append.mp hx with z | z
    · exact hok x z
    · rw [List.mem_singleton] at z
      subst z
      exact ⟨hnm, by show ms.length = _; rw [hms, hcs], hgood⟩
  rintro ρ ⟨l, ls, s3, s6, s7, s8, rfl, hl, hok⟩
  refine Go.set (ρ1 := [pkS l, .val schD, .own (.lst (ls.map lineD)), s3, .un, .un, s6, s7, s8]) (d0 := .lst [.int 0]) (fr0 := true) (by simp [fin, owns, forTurn, lcTurn, dcTurn, asg, asgs, okTo, exB, exS, evT, evE, evO, evOs, evP, evI, evC, dns, rsv, rsvs, Sl.get, frz1, idxD, sliD, cmpD, eqD, inD, isNon, truD, binD, negD, biD, mtD, muTy, muD, setD, keyOf, keysOf, keyOkB, dicPairs, mkSl, isCont, wipeE, unwipe, itemsD, rngD, isTy, noLck, isOwn, mulOk, bign]) (by rfl) ?_
  have hw : ∀ x ∈ ls, x.2.length ≤ 3 := fun x hx => by rw [(hok x hx).2.1]; split <;> decide
  have hflat : (ls.flatMap (·.2)).length ≤ 12 := by
    have := flat_len (fun x : Ln => x.2) 3 ls hw
    omega
  refine Go.each (ρ1 := [pkS l, .val schD, .val (.lst (ls.map lineD)), s3, .own (.lst [.int 0]), .un, s6, s7, s8]) lineD ls
    (fun rest ρ => ∃ (acc : List Int) (s6 s7 : Sl), ρ = [pkS l, .val schD, .val (.lst (ls.map lineD)), s3, .own (.lst (acc.map .int)), .un, s6, s7, s8] ∧ acc ++ rest.flatMap (·.2) = 0 :: ls.flatMap (·.2)) (by simp [fin, owns, forTurn, lcTurn, dcTurn, asg, asgs, okTo, exB, exS, evT, evE, evO, evOs, evP, evI, evC, dns, rsv, rsvs, Sl.get, frz1, idxD, sliD, cmpD, eqD, inD, isNon, truD, binD, negD, biD, mtD, muTy, muD, setD, keyOf, keysOf, keyOkB, dicPairs, mkSl, isCont, wipeE, unwipe, itemsD, rngD, isTy, noLck, isOwn, mulOk]) rfl ⟨[0], _, _, rfl, rfl⟩ ?_ ?_
  · rintro x rest ρ ⟨acc, s6, s7, rfl, he⟩
    have hz := congrArg List.length he
    simp only [List.flatMap_cons, List.length_append, List.length_cons] at hz
    refine turn_of (ρ1 := [pkS l, .val schD, .val (.lst (ls.map lineD)), s3, .own (.lst (acc.map .int)), .un, .val (.str x.1), .val (tI x.2), s8]) (by simp [fin, owns, forTurn, lcTurn, dcTurn, asg, asgs, okTo, exB, exS, evT, evE, evO, evOs, evP, evI, evC, dns, rsv, rsvs, Sl.get, frz1, idxD, sliD, cmpD, eqD, inD, isNon, truD, binD, negD, biD, mtD, muTy, muD, setD, keyOf, keysOf, keyOkB, dicPairs, mkSl, isCont, wipeE, unwipe, itemsD, rngD, isTy, noLck, isOwn, mulOk]) ?_
    refine Go.set (ρ1 := [pkS l, .val schD, .val (.lst (ls.map lineD)), s3, .own (.lst (acc.map .int)), .un, .val (.str x.1), .val (tI x.2), s8]) (d0 := .lst ((acc ++ x.2).map .int)) (fr0 := true) ?_ (by rfl) (Go.nil (Trn.nx ⟨acc ++ x.2, _, _, rfl, by rw [List.append_assoc]; exact he⟩))
    have hb : acc.length + x.2.length ≤ bigN := bign _ (by omega)
    simp [fin, owns, forTurn, lcTurn, dcTurn, asg, asgs, okTo, exB, exS, evT, evE, evO, evOs, evP, evI, evC, dns, rsv, rsvs, Sl.get, frz1, idxD, sliD, cmpD, eqD, inD, isNon, truD, binD, negD, biD, mtD, muTy, muD, setD, keyOf, keysOf, keyOkB, dicPairs, mkSl, isCont, wipeE, unwipe, itemsD, rngD, isTy, noLck, isOwn, mulOk, hb]
  rintro ρ ⟨acc, s6, s7, rfl, he⟩
  rw [List.flatMap_nil, List.append_nil] at he
  have hpos : 0 < acc.length := by rw [he]; simp
  obtain ⟨k3, la, hk3, p3⟩ := ev_pickmod (n := n) (io := [0]) (i := 0) (l := l) (ρ := [pkS l, .val schD, .val (.lst (ls.map lineD)), s3, .own (.lst (acc.map .int)), .un, s6, s7, s8]) 3 (by decide) rfl
  obtain ⟨ts, lb, e1, hts, hgood⟩ := lcGo_inv (turn := lcTurn (run T (n + 1)) [0] [3] (.nm 3) .no (.idx (.pk 4) (.e (.bin .mod (.e (.call 13 (.cons (.pk 0) .nil))) (.e (.bi .len (.pk 4)))))))
    (fun k : Nat => D.int (0 + (k : Int))) (fun l => [pkS l, .val schD, .val (.lst (ls.map lineD)), .un, .own (.lst (acc.map .int)), .un, s6, s7, s8]) (fun m => m ∈ acc) (List.range k3) [] la (fun x _ l => by
      obtain ⟨b, l', hb, p6⟩ := ev_pickmodE (n := n) (io := [0]) (i := 0) (l := l) (y := .bi .len (.pk 4)) (fr2 := true) (ρ := [pkS l, .val schD, .val (.lst (ls.map lineD)), .val (.int (0 + (x : Int))), .own (.lst (acc.map .int)), .un, s6, s7, s8]) acc.length hpos rfl (fun s => by simp [fin, owns, forTurn, lcTurn, dcTurn, asg, asgs, okTo, exB, exS, evT, evE, evO, evOs, evP, evI, evC, dns, rsv, rsvs, Sl.get, frz1, idxD, sliD, cmpD, eqD, inD, isNon, truD, binD, negD, biD, mtD, muTy, muD, setD, keyOf, keysOf, keyOkB, dicPairs, mkSl, isCont, wipeE, unwipe, itemsD, rngD, isTy, noLck, isOwn, mulOk])
      refine ⟨acc[b], l', List.getElem_mem hb, lc_no (ρ1 := [pkS l, .val schD, .val (.lst (ls.map lineD)), .val (.int (0 + (x : Int))), .own (.lst (acc.map .int)), .un, s6, s7, s8]) (fr := false) (ρ2 := [pkS l', .val schD, .val (.lst (ls.map lineD)), .val (.int (0 + (x : Int))), .own (.lst (acc.map .int)), .un, s6, s7, s8]) (by simp [fin, owns, forTurn, lcTurn, dcTurn, asg, asgs, okTo, exB, exS, evT, evE, evO, evOs, evP, evI, evC, dns, rsv, rsvs, Sl.get, frz1, idxD, sliD, cmpD, eqD, inD, isNon, truD, binD, negD, biD, mtD, muTy, muD, setD, keyOf, keysOf, keyOkB, dicPairs, mkSl, isCont, wipeE, unwipe, itemsD, rngD, isTy, noLck, isOwn, mulOk]) ?_ (by rfl)⟩
      rw [evE, evO]
      simp only [List.getElem?_cons_succ, List.getElem?_cons_zero]
      rw [evO, p6]
      have g := getI hb
      simp only [Option.map_some, rsv, List.set_cons_zero, List.getElem?_cons_succ, List.getElem?_cons_zero, Sl.get, idxD, g]) (bign _ (by simp; omega))
  have e2 := ev_bi (b := .tuple) (ev_lc (it := .rng (.cons (.e (.bin .mod (.e (.call 13 (.cons (.pk 0) .nil))) (.e (.cst (.int 3))))) .nil)) (ρ := [pkS l, .val schD, .val (.lst (ls.map lineD)), s3, .own (.lst (acc.map .int)), .un, s6, s7, s8]) (ρ1 := [pkS la, .val schD, .val (.lst (ls.map lineD)), s3, .own (.lst (acc.map .int)), .un, s6, s7, s8]) (ev_rng (by omega) p3) (by rfl) e1) (d' := tI ts) rfl
  refine Go.set e2 (by rfl) ?_
  show Go _ _ _ [pkS lb, .val schD, .val (.lst (ls.map lineD)), s3, .own (.lst (acc.map .int)), .val (tI ts), s6, s7, s8] _
  rw [List.length_range] at hts
  have i2 : cutD [D.str (Str.ofString "g"), D.str (Str.ofString "h")] none (some (ts.length : Int)) = ([Str.ofString "g", Str.ofString "h"].take ts.length).map D.str := by
    rw [cut_hi, List.map_take]
    rfl
  let p : Pat := ⟨[Str.ofString "g", Str.ofString "h"].take ts.length, ts, ls⟩
  refine Go.retE (d := patD p) (fr := false) (ρ1 := [pkS lb, .val schD, .val (.lst (ls.map lineD)), s3, .own (.lst (acc.map .int)), .val (tI ts), s6, s7, s8]) (by simp [fin, owns, forTurn, lcTurn, dcTurn, asg, asgs, okTo, exB, exS, evT, evE, evO, evOs, evP, evI, evC, dns, rsv, rsvs, Sl.get, frz1, idxD, sliD, cmpD, eqD, inD, isNon, truD, binD, negD, biD, mtD, muTy, muD, setD, keyOf, keysOf, keyOkB, dicPairs, mkSl, isCont, wipeE, unwipe, itemsD, rngD, isTy, noLck, isOwn, mulOk, bign, i2, p]) ⟨p, lb, false, rfl, ?_⟩
  have ct : ([Str.ofString "g", Str.ofString "h"].take ts.length).length = ts.length := by rw [List.length_take]; simp; omega
  exact
    { told := by show ts.length ≤ 10; omega
      lines := by show ls.length ≤ 8; omega
      wide := hw
      cok := by show List.length _ ≤ 100; rw [ct]; omega
      cls := fun c hc => by
        have := List.mem_of_mem_take hc
        simp only [List.mem_cons, List.not_mem_nil, or_false] at this
        rcases this with rfl | rfl <;> exact okS_of _
      nms := fun x hx => by rcases (hok x hx).1 with h | h | h <;> rw [h] <;> exact okS_of _
      ct := ct
      wd := fun x hx => (hok x hx).2.1
      seven := by show ls.length ≤ 7; omega
      ne := fun h => by have h : ls = [] := h; rw [h] at hl; simp at hl
      two := by show List.length _ ≤ 2; rw [ct]; omega
      four := by show ls.length ≤ 4; omega
      names := fun x hx => (hok x hx).1
      marks := fun x hx => (hok x hx).2.2
      bound := fun m hm => by
        have := hgood m hm
        rw [he] at this
        rcases List.mem_cons.mp this with z | z
        · exact .inl z
        · exact .inr (List.mem_flatMap.mp z) }
end L2.PL
end
section
set_option maxRecDepth 100000
set_option maxHeartbeats 2000000
/-! k59, part ZD: draws. -/
namespace L2.PL
open PySem
section
variable {Φ : Fn} {io : List Nat} {ρ : EV} {i : Nat}
theorem ev_rngP {k : Nat} (hk : k ≤ 1000000) (h : ρ[i]? = some (.val (.int k))) : evI Φ io (.rng (.cons (.pk i) .nil)) ρ = some (rangeD 0 k, ρ) := by
  have z := rng_okN hk
  rw [evI, evOs, evO, h]
  simp only [evOs, Option.map_some, rsvs, rsv, h, Sl.get, rngD, z, if_true, Int.toNat_natCast]
end
theorem r_number (n : Nat) (ns : List Int) (k : Nat) : ∃ v, AnsE (run T (n + 1) 11 [.val (.lst (ns.map .int)), .val (.int k)]) (.int v) := by
  have m1 : ∀ i, mulOk i 31 = true := fun i => by simp [mulOk]
  have m2 : ∀ i, mulOk 1000003 i = true := fun i => by simp [mulOk]
  have hs := intsD_map ns
  by_cases h : k < ns.length
  · refine ⟨if ns[k] < 0 then -ns[k] else ns[k], Go.runE (df := df11) rfl rfl ?_⟩
    have g := getI h
    refine Go.set (ρ1 := [.val (.lst (ns.map .int)), .val (.int k), .un]) (d0 := .int (ns.sum * 31 + 1000003 * ((k : Int) + 1))) (fr0 := true) (by simp [fin, owns, forTurn, lcTurn, dcTurn, asg, asgs, okTo, exB, exS, evT, evE, evO, evOs, evP, evI, evC, dns, rsv, rsvs, Sl.get, frz1, idxD, sliD, cmpD, eqD, inD, isNon, truD, binD, negD, biD, mtD, muTy, muD, setD, keyOf, keysOf, keyOkB, dicPairs, mkSl, isCont, wipeE, unwipe, itemsD, rngD, isTy, noLck, isOwn, mulOk, df11, m1, m2, hs]) (by rfl) ?_
    refine Go.iff (k := true) (ρ1 := [.val (.lst (ns.map .int)), .val (.int k), .val (.int (ns.sum * 31 + 1000003 * ((k : Int) + 1)))]) (by simp [fin, owns, forTurn, lcTurn, dcTurn, asg, asgs, okTo, exB, exS, evT, evE, evO, evOs, evP, evI, evC, dns, rsv, rsvs, Sl.get, frz1, idxD, sliD, cmpD, eqD, inD, isNon, truD, binD, negD, biD, mtD, muTy, muD, setD, keyOf, keysOf, keyOkB, dicPairs, mkSl, isCont, wipeE, unwipe, itemsD, rngD, isTy, noLck, isOwn, mulOk, h]) ?_
    simp only [if_true]
    refine Go.set (ρ1 := [.val (.lst (ns.map .int)), .val (.int k), .val (.int (ns.sum * 31 + 1000003 * ((k : Int) + 1)))]) (d0 := .int ns[k]) (fr0 := false) (by simp [fin, owns, forTurn, lcTurn, dcTurn, asg, asgs, okTo, exB, exS, evT, evE, evO, evOs, evP, evI, evC, dns, rsv, rsvs, Sl.get, frz1, idxD, sliD, cmpD, eqD, inD, isNon, truD, binD, negD, biD, mtD, muTy, muD, setD, keyOf, keysOf, keyOkB, dicPairs, mkSl, isCont, wipeE, unwipe, itemsD, rngD, isTy, noLck, isOwn, mulOk, g]) (by rfl) (Go.nil (Kn.nxt ?_))
    exact Go.retE (d := .int (if ns[k] < 0 then -ns[k] else ns[k])) (fr := true) (ρ1 := [.val (.lst (ns.map .int)), .val (.int k), .val (.int ns[k])]) (by simp [fin, owns, forTurn, lcTurn, dcTurn, asg, asgs, okTo, exB, exS, evT, evE, evO, evOs, evP, evI, evC, dns, rsv, rsvs, Sl.get, frz1, idxD, sliD, cmpD, eqD, inD, isNon, truD, binD, negD, biD, mtD, muTy, muD, setD, keyOf, keysOf, keyOkB, dicPairs, mkSl, isCont, wipeE, unwipe, itemsD, rngD, isTy, noLck, isOwn, mulOk]) ansE_ret
  · refine ⟨if (ns.sum * 31 + 1000003 * ((k : Int) + 1)) < 0 then -(ns.sum * 31 + 1000003 * ((k : Int) + 1)) else (ns.sum * 31 + 1000003 * ((k : Int) + 1)), Go.runE (df := df11) rfl rfl ?_⟩
    refine Go.set (ρ1 := [.val (.lst (ns.map .int)), .val (.int k), .un]) (d0 := .int (ns.sum * 31 + 1000003 * ((k : Int) + 1))) (fr0 := true) (by simp [fin, owns, forTurn, lcTurn, dcTurn, asg, asgs, okTo, exB, exS, evT, evE, evO, evOs, evP, evI, evC, dns, rsv, rsvs, Sl.get, frz1, idxD, sliD, cmpD, eqD, inD, isNon, truD, binD, negD, biD, mtD, muTy, muD, setD, keyOf, keysOf, keyOkB, dicPairs, mkSl, isCont, wipeE, unwipe, itemsD, rngD, isTy, noLck, isOwn, mulOk, df11, m1, m2, hs]) (by rfl) ?_
    refine Go.ifF (ρ1 := [.val (.lst (ns.map .int)), .val (.int k), .val (.int (ns.sum * 31 + 1000003 * ((k : Int) + 1)))]) (by simp [fin, owns, forTurn, lcTurn, dcTurn, asg, asgs, okTo, exB, exS, evT, evE, evO, evOs, evP, evI, evC, dns, rsv, rsvs, Sl.get, frz1, idxD, sliD, cmpD, eqD, inD, isNon, truD, binD, negD, biD, mtD, muTy, muD, setD, keyOf, keysOf, keyOkB, dicPairs, mkSl, isCont, wipeE, unwipe, itemsD, rngD, isTy, noLck, isOwn, mulOk, h]) ?_
    generalize ns.sum * 31 + 1000003 * ((k : Int) + 1) = w
    exact Go.retE (d := .int (if w < 0 then -w else w)) (fr := true) (ρ1 := [.val (.lst (ns.map .int)), .val (.int k), .val (.int w)]) (by simp [fin, owns, forTurn, lcTurn, dcTurn, asg, asgs, okTo, exB, exS, evT, evE, evO, evOs, evP, evI, evC, dns, rsv, rsvs, Sl.get, frz1, idxD, sliD, cmpD, eqD, inD, isNon, truD, binD, negD, biD, mtD, muTy, muD, setD, keyOf, keysOf, keyOkB, dicPairs, mkSl, isCont, wipeE, unwipe, itemsD, rngD, isTy, noLck, isOwn, mulOk]) ansE_ret
def DrwP (c : Nat) (r : RV) : Prop := ∃ ds : List Int, ds.length = c ∧ Ans r (.lst (ds.map .int)) true
theorem r_draws (n : Nat) (ns : List Int) (k c : Nat) (hc : c ≤ 1000) : DrwP c (run T (n + 2) 12 [.val (.lst (ns.map .int)), .val (.int k), .val (.int c), .val (.int 5040)]) := by
  obtain ⟨v, f0, hv⟩ := r_number n ns k
  rw [run_at (d := df12) rfl rfl]
  show Go (run T (n + 1)) [] df12.body [.val (.lst (ns.map .int)), .val (.int k), .val (.int c), .val (.int 5040), .un, .un, .un, .un, .un] (fun o => DrwP c (fin [.val (.lst (ns.map .int)), .val (.int k), .val (.int c), .val (.int 5040)] o))
  generalize hS : Sl.val (.lst (ns.map .int)) = S at *
  refine Go.set (ρ1 := [S, .val (.int k), .val (.int c), .val (.int 5040), .un, .un, .un, .un, .un]) (ev_call (ds := [.lst (ns.map .int), .int k]) (ev_os2 (ev_val (by rw [← hS]; rfl)) (ev_val rfl)) (by simp only [List.map_cons, List.map_nil, hS]; exact hv)) (by rfl) ?_
  refine Go.set (ρ1 := [S, .val (.int k), .val (.int c), .val (.int 5040), .val (.int v), .un, .un, .un, .un]) (d0 := .lst []) (fr0 := true) (by simp [fin, owns, forTurn, lcTurn, dcTurn, asg, asgs, okTo, exB, exS, evT, evE, evO, evOs, evP, evI, evC, dns, rsv, rsvs, Sl.get, frz1, idxD, sliD, cmpD, eqD, inD, isNon, truD, binD, negD, biD, mtD, muTy, muD, setD, keyOf, keysOf, keyOkB, dicPairs, mkSl, isCont, wipeE, unwipe, itemsD, rngD, isTy, noLck, isOwn, mulOk]) (by cases f0 <;> rfl) ?_
  have e0 : ([S, .val (.int k), .val (.int c), .val (.int 5040), .un, .un, .un, .un, .un].set 4 (mkSl f0 (.int v)) : EV) = [S, .val (.int k), .val (.int c), .val (.int 5040), .val (.int v), .un, .un, .un, .un] := by cases f0 <;> rfl
  show Go _ _ _ [S, .val (.int k), .val (.int c), .val (.int 5040), .val (.int v), .own (.lst []), .un, .un, .un] _
  obtain ⟨B, hp⟩ : ∃ B : Int, ∀ r : EV, evE (run T (n + 1)) [] (.bin .pow (.e (.cst (.int 10))) (.e (.cst (.int 18)))) r = some (.int B, true, r) := ⟨1000000000000000000, fun r => ev_bin ev_cst ev_cst (by simp [binD])⟩
  have ht : evT (run T (n + 1)) [] (.e (.e (.cmp .ge (.pk 4) (.e (.bin .pow (.e (.cst (.int 10))) (.e (.cst (.int 18)))))))) [S, .val (.int k), .val (.int c), .val (.int 5040), .val (.int v), .own (.lst []), .un, .un, .un] = some (decide (B ≤ v), [S, .val (.int k), .val (.int c), .val (.int 5040), .val (.int v), .own (.lst []), .un, .un, .un]) := by
    rw [evT, evO, evE, evO]
    simp only [List.getElem?_cons_succ, List.getElem?_cons_zero]
    rw [evO, hp]
    simp only [Option.map_some, rsv, List.getElem?_cons_succ, List.getElem?_cons_zero, Sl.get, cmpD, truD]
  by_cases hbig : B ≤ v
  · rw [decide_eq_true hbig] at ht
    refine Go.iff ht ?_
    simp only [if_true]
    have hsub : evE (run T (n + 1)) [] (.bin .sub (.pk 4) (.e (.bin .pow (.e (.cst (.int 10))) (.e (.cst (.int 18)))))) [S, .val (.int k), .val (.int c), .val (.int 5040), .val (.int v), .own (.lst []), .un, .un, .un] = some (.int (v - B), true, [S, .val (.int k), .val (.int c), .val (.int 5040), .val (.int v), .own (.lst []), .un, .un, .un]) := by
      rw [evE, evO]
      simp only [List.getElem?_cons_succ, List.getElem?_cons_zero]
      rw [evO, hp]
      simp only [Option.map_some, rsv, List.getElem?_cons_succ, List.getElem?_cons_zero, Sl.get, binD]
    generalize hKe : Kn (run T (n + 1)) [] _ _ = K
    have hK : ∀ (d : D) (fr : Bool) (ρ : EV), DrwP c (fin [S, .val (.int k), .val (.int c), .val (.int 5040)] (.ret d fr ρ)) → K (.ret d fr ρ) := fun d fr ρ h => by rw [← hKe]; exact h
    clear hKe
    refine Go.set hsub (by rfl) ?_
    refine Go.rng (ρ1 := [S, .val (.int k), .val (.int c), .val (.int 5040), .val (.int (v - B)), .own (.lst []), .un, .un, .un]) c (fun j ρ => ∃ (ds : List Int) (w : Int) (s7 : Sl), ds.length = j ∧ ρ = [S, .val (.int k), .val (.int c), .val (.int 5040), .val (.int w), .own (.lst (ds.map .int)), .un, s7, .un]) (ev_rngP (by omega) rfl) rfl ⟨[], _, _, rfl, rfl⟩ ?_ ?_
    · rintro j ρ hj ⟨ds, w, s7, hl, rfl⟩
      refine turn_of (ρ1 := [S, .val (.int k), .val (.int c), .val (.int 5040), .val (.int w), .own (.lst (ds.map .int)), .un, .val (.int j), .un]) (by simp [fin, owns, forTurn, lcTurn, dcTurn, asg, asgs, okTo, exB, exS, evT, evE, evO, evOs, evP, evI, evC, dns, rsv, rsvs, Sl.get, frz1, idxD, sliD, cmpD, eqD, inD, isNon, truD, binD, negD, biD, mtD, muTy, muD, setD, keyOf, keysOf, keyOkB, dicPairs, mkSl, isCont, wipeE, unwipe, itemsD, rngD, isTy, noLck, isOwn, mulOk]) ?_
      refine Go.app (d := .int (w.fmod 5040)) (fr := true) rfl (ρ1 := [S, .val (.int k), .val (.int c), .val (.int 5040), .val (.int w), .own (.lst (ds.map .int)), .un, .val (.int j), .un]) (by simp [fin, owns, forTurn, lcTurn, dcTurn, asg, asgs, okTo, exB, exS, evT, evE, evO, evOs, evP, evI, evC, dns, rsv, rsvs, Sl.get, frz1, idxD, sliD, cmpD, eqD, inD, isNon, truD, binD, negD, biD, mtD, muTy, muD, setD, keyOf, keysOf, keyOkB, dicPairs, mkSl, isCont, wipeE, unwipe, itemsD, rngD, isTy, noLck, isOwn, mulOk]) rfl (by rw [List.length_map]; show _ < 16777216; omega) ?_
      refine Go.set (ρ1 := [S, .val (.int k), .val (.int c), .val (.int 5040), .val (.int w), .own (.lst (ds.map .int ++ [.int (w.fmod 5040)])), .un, .val (.int j), .un]) (d0 := .int (w.fdiv 5040)) (fr0 := true) (by simp [fin, owns, forTurn, lcTurn, dcTurn, asg, asgs, okTo, exB, exS, evT, evE, evO, evOs, evP, evI, evC, dns, rsv, rsvs, Sl.get, frz1, idxD, sliD, cmpD, eqD, inD, isNon, truD, binD, negD, biD, mtD, muTy, muD, setD, keyOf, keysOf, keyOkB, dicPairs, mkSl, isCont, wipeE, unwipe, itemsD, rngD, isTy, noLck, isOwn, mulOk]) (by rfl) (Go.nil (Trn.nx ⟨ds ++ [w.fmod 5040], _, _, by rw [List.length_append, List.length_singleton, hl], by rw [List.map_append]; rfl⟩))
    · rintro ρ ⟨ds, w, s7, hl, rfl⟩
      exact Go.retO rfl rfl (hK _ _ _ ⟨ds, hl, ans_ret⟩)
  · rw [decide_eq_false hbig] at ht
    refine Go.ifF ht ?_
    have m1 : ∀ i, mulOk i 48271 = true := fun i => by simp [mulOk]
    have m2 : ∀ i, mulOk 11 i = true := fun i => by simp [mulOk]
    have m3 : ∀ i, mulOk 69621 i = true := fun i => by simp [mulOk]
    refine Go.set (ρ1 := [S, .val (.int k), .val (.int c), .val (.int 5040), .val (.int v), .own (.lst []), .un, .un, .un]) (d0 := .int (v.fmod 2147483647 + 1)) (fr0 := true) (by simp [fin, owns, forTurn, lcTurn, dcTurn, asg, asgs, okTo, exB, exS, evT, evE, evO, evOs, evP, evI, evC, dns, rsv, rsvs, Sl.get, frz1, idxD, sliD, cmpD, eqD, inD, isNon, truD, binD, negD, biD, mtD, muTy, muD, setD, keyOf, keysOf, keyOkB, dicPairs, mkSl, isCont, wipeE, unwipe, itemsD, rngD, isTy, noLck, isOwn, mulOk]) (by rfl) ?_
    refine Go.rng (ρ1 := [S, .val (.int k), .val (.int c), .val (.int 5040), .val (.int v), .own (.lst []), .val (.int (v.fmod 2147483647 + 1)), .un, .un]) c (fun j ρ => ∃ (ds : List Int) (w : Int) (s7 s8 : Sl), ds.length = j ∧ ρ = [S, .val (.int k), .val (.int c), .val (.int 5040), .val (.int v), .own (.lst (ds.map .int)), .val (.int w), s7, s8]) (ev_rngP (by omega) rfl) rfl ⟨[], _, _, _, rfl, rfl⟩ ?_ ?_
    · rintro j ρ hj ⟨ds, w, s7, s8, hl, rfl⟩
      refine turn_of (ρ1 := [S, .val (.int k), .val (.int c), .val (.int 5040), .val (.int v), .own (.lst (ds.map .int)), .val (.int w), .val (.int j), s8]) (by simp [fin, owns, forTurn, lcTurn, dcTurn, asg, asgs, okTo, exB, exS, evT, evE, evO, evOs, evP, evI, evC, dns, rsv, rsvs, Sl.get, frz1, idxD, sliD, cmpD, eqD, inD, isNon, truD, binD, negD, biD, mtD, muTy, muD, setD, keyOf, keysOf, keyOkB, dicPairs, mkSl, isCont, wipeE, unwipe, itemsD, rngD, isTy, noLck, isOwn, mulOk]) ?_
      refine Go.set (ρ1 := [S, .val (.int k), .val (.int c), .val (.int 5040), .val (.int v), .own (.lst (ds.map .int)), .val (.int w), .val (.int j), s8]) (d0 := .int ((w * 48271 + 11 * (j : Int) + 7).fmod 2147483647)) (fr0 := true) (by simp [fin, owns, forTurn, lcTurn, dcTurn, asg, asgs, okTo, exB, exS, evT, evE, evO, evOs, evP, evI, evC, dns, rsv, rsvs, Sl.get, frz1, idxD, sliD, cmpD, eqD, inD, isNon, truD, binD, negD, biD, mtD, muTy, muD, setD, keyOf, keysOf, keyOkB, dicPairs, mkSl, isCont, wipeE, unwipe, itemsD, rngD, isTy, noLck, isOwn, mulOk, m1, m2]) (by rfl) ?_
      have b1 : 0 ≤ (w * 48271 + 11 * (j : Int) + 7).fmod 2147483647 := Int.fmod_nonneg_of_pos _ (by decide)
      have b2 : (w * 48271 + 11 * (j : Int) + 7).fmod 2147483647 < 2147483647 := Int.fmod_lt_of_pos _ (by decide)
      show Go _ _ _ [S, .val (.int k), .val (.int c), .val (.int 5040), .val (.int v), .own (.lst (ds.map .int)), .val (.int ((w * 48271 + 11 * (j : Int) + 7).fmod 2147483647)), .val (.int j), s8] _
      generalize (w * 48271 + 11 * (j : Int) + 7).fmod 2147483647 = w2 at *
      have b3 : -18446744073709551616 < w2 ∧ w2 < 18446744073709551616 := by omega
      refine Go.set (ρ1 := [S, .val (.int k), .val (.int c), .val (.int 5040), .val (.int v), .own (.lst (ds.map .int)), .val (.int w2), .val (.int j), s8]) (d0 := .int ((w2 * w2 + 69621 * (j : Int) + 5).fmod 2147483629)) (fr0 := true) (by simp [fin, owns, forTurn, lcTurn, dcTurn, asg, asgs, okTo, exB, exS, evT, evE, evO, evOs, evP, evI, evC, dns, rsv, rsvs, Sl.get, frz1, idxD, sliD, cmpD, eqD, inD, isNon, truD, binD, negD, biD, mtD, muTy, muD, setD, keyOf, keysOf, keyOkB, dicPairs, mkSl, isCont, wipeE, unwipe, itemsD, rngD, isTy, noLck, isOwn, mulOk, b3]) (by rfl) ?_
      refine Go.app (d := .int ((((w2 * w2 + 69621 * (j : Int) + 5).fmod 2147483629).fdiv 64).fmod 5040)) (fr := true) (by rfl) (ρ1 := [S, .val (.int k), .val (.int c), .val (.int 5040), .val (.int v), .own (.lst (ds.map .int)), .val (.int w2), .val (.int j), .val (.int ((w2 * w2 + 69621 * (j : Int) + 5).fmod 2147483629))]) (by simp [fin, owns, forTurn, lcTurn, dcTurn, asg, asgs, okTo, exB, exS, evT, evE, evO, evOs, evP, evI, evC, dns, rsv, rsvs, Sl.get, frz1, idxD, sliD, cmpD, eqD, inD, isNon, truD, binD, negD, biD, mtD, muTy, muD, setD, keyOf, keysOf, keyOkB, dicPairs, mkSl, isCont, wipeE, unwipe, itemsD, rngD, isTy, noLck, isOwn, mulOk]) (by rfl) (by rw [List.length_map]; show _ < 16777216; omega) (Go.nil (Trn.nx ⟨ds ++ [(((w2 * w2 + 69621 * (j : Int) + 5).fmod 2147483629).fdiv 64).fmod 5040], _, _, _, by rw [List.length_append, List.length_singleton, hl], by rw [List.map_append]; rfl⟩))
    · rintro ρ ⟨ds, w, s7, s8, hl, rfl⟩
      exact Go.retO rfl rfl ⟨ds, hl, ans_ret⟩
theorem r_picks (n : Nat) (ns : List Int) (k c : Nat) (hc : c ≤ 1000) : DrwP c (run T (n + 3) 14 [.val (.lst (ns.map .int)), .val (.int k), .val (.int c)]) := by
  obtain ⟨ds, hl, hd⟩ := r_draws n ns k c hc
  refine ⟨ds.reverse, by rw [List.length_reverse]; exact hl, Go.run (df := df14) rfl rfl ?_⟩
  refine Go.set (ρ1 := [.val (.lst (ns.map .int)), .val (.int k), .val (.int c), .un]) (ev_call (ds := [.lst (ns.map .int), .int k, .int c, .int 5040]) (by simp [fin, owns, forTurn, lcTurn, dcTurn, asg, asgs, okTo, exB, exS, evT, evE, evO, evOs, evP, evI, evC, dns, rsv, rsvs, Sl.get, frz1, idxD, sliD, cmpD, eqD, inD, isNon, truD, binD, negD, biD, mtD, muTy, muD, setD, keyOf, keysOf, keyOkB, dicPairs, mkSl, isCont, wipeE, unwipe, itemsD, rngD, isTy, noLck, isOwn, mulOk, df14]) hd) (by rfl) ?_
  refine Go.nxt [.val (.lst (ns.map .int)), .val (.int k), .val (.int c), .own (.lst (ds.reverse.map .int))] (by simp [fin, owns, forTurn, lcTurn, dcTurn, asg, asgs, okTo, exB, exS, evT, evE, evO, evOs, evP, evI, evC, dns, rsv, rsvs, Sl.get, frz1, idxD, sliD, cmpD, eqD, inD, isNon, truD, binD, negD, biD, mtD, muTy, muD, setD, keyOf, keysOf, keyOkB, dicPairs, mkSl, isCont, wipeE, unwipe, itemsD, rngD, isTy, noLck, isOwn, mulOk]) ?_
  exact Go.retO rfl rfl ans_ret
end L2.PL
end
section
set_option maxRecDepth 100000
set_option maxHeartbeats 2000000
/-! k59, part ZE: drawn tables. -/
namespace L2.PL
open PySem
section
variable {Φ : Fn} {io : List Nat} {ρ ρ1 : EV} {x y : IE} {d d' p q : D} {fr : Bool} {i j : Nat} {o : BOp}
theorem ev_pkpk (h1 : ρ[i]? = some (.val p)) (h2 : ρ[j]? = some (.val q)) (hb : binD o p q = some d) : evE Φ io (.bin o (.pk i) (.pk j)) ρ = some (d, true, ρ) := by
  rw [evE, evO, h1]
  simp only
  rw [evO, h2]
  simp only [rsv, h1, h2, Sl.get, hb, Option.map_some]
theorem ev_epk (h : evE Φ io x ρ = some (d, fr, ρ1)) (h2 : ρ1[j]? = some (.val q)) (hb : binD o d q = some d') : evE Φ io (.bin o (.e x) (.pk j)) ρ = some (d', true, ρ1) := by
  rw [evE, evO, h]
  simp only [Option.map_some]
  rw [evO, h2]
  simp only [rsv, h2, Sl.get, hb, Option.map_some]
theorem ev_idxP (h1 : ρ[i]? = some (.own p)) (h : evE Φ io y ρ = some (d, fr, ρ)) (hb : idxD p d = some d') : evE Φ io (.idx (.pk i) (.e y)) ρ = some (d', false, ρ) := by
  rw [evE, evO, h1]
  simp only
  rw [evO, h]
  simp only [Option.map_some, rsv, h1, Sl.get, hb]
end
theorem r_rows (n : Nat) (ns : List Int) (k c : Nat) (cols : List D) (hc : c ≤ 5) (hw : cols.length ≤ 3) : ∃ rows : List (List Int), rows.length = c ∧ (∀ r ∈ rows, r.length = cols.length) ∧ AnsE (run T (n + 3) 15 [.val (.lst (ns.map .int)), .val (.int k), .val (.int c), .val (.tup cols), .val (.int 2)]) (.lst (rows.map tI)) := by
  have hcw : c * cols.length ≤ 15 := Nat.mul_le_mul hc hw
  obtain ⟨ds, hl, hd⟩ := r_draws n ns k (c * cols.length) (by omega)
  refine ⟨(List.range c).map fun j => (List.range cols.length).map fun i => (ds.getD (cols.length * j + i) 0).fmod 2, by simp, fun r hr => ?_, Go.runE (df := df15) rfl rfl ?_⟩
  · obtain ⟨j, _, rfl⟩ := List.mem_map.mp hr
    simp
  have small : ∀ (a b : Nat), a ≤ 100 → b ≤ 100 → mulOk (a : Int) (b : Int) = true := fun a b ha hb => by
    simp [mulOk]
    omega
  have eM : evE (run T (n + 2)) [] (.bin .mul (.pk 2) (.e (.bi .len (.pk 3)))) [.val (.lst (ns.map .int)), .val (.int k), .val (.int c), .val (.tup cols), .val (.int 2), .un, .un, .un, .un] = some (.int ((c * cols.length : Nat) : Int), true, [.val (.lst (ns.map .int)), .val (.int k), .val (.int c), .val (.tup cols), .val (.int 2), .un, .un, .un, .un]) := by
    have z := small c cols.length (by omega) (by omega)
    have e1 : evE (run T (n + 2)) [] (.bi .len (.pk 3)) [.val (.lst (ns.map .int)), .val (.int k), .val (.int c), .val (.tup cols), .val (.int 2), .un, .un, .un, .un] = some (.int cols.length, true, [.val (.lst (ns.map .int)), .val (.int k), .val (.int c), .val (.tup cols), .val (.int 2), .un, .un, .un, .un]) := by simp [fin, owns, forTurn, lcTurn, dcTurn, asg, asgs, okTo, exB, exS, evT, evE, evO, evOs, evP, evI, evC, dns, rsv, rsvs, Sl.get, frz1, idxD, sliD, cmpD, eqD, inD, isNon, truD, binD, negD, biD, mtD, muTy, muD, setD, keyOf, keysOf, keyOkB, dicPairs, mkSl, isCont, wipeE, unwipe, itemsD, rngD, isTy, noLck, isOwn, mulOk]
    rw [evE, evO]
    simp only [List.getElem?_cons_succ, List.getElem?_cons_zero]
    rw [evO, e1]
    simp only [Option.map_some, rsv, List.getElem?_cons_succ, List.getElem?_cons_zero, Sl.get, binD, z, if_true]
    rw [Int.natCast_mul]
  show Go (run T (n + 2)) [] df15.body [.val (.lst (ns.map .int)), .val (.int k), .val (.int c), .val (.tup cols), .val (.int 2), .un, .un, .un, .un] _
  refine Go.set (ev_call (ds := [.lst (ns.map .int), .int k, .int ((c * cols.length : Nat) : Int), .int 5040]) (ρ1 := [.val (.lst (ns.map .int)), .val (.int k), .val (.int c), .val (.tup cols), .val (.int 2), .un, .un, .un, .un]) ?_ hd) (by rfl) ?_
  · rw [evOs, evO, ev_val rfl]
    simp only [Option.map_some]
    rw [evOs, evO, ev_val rfl]
    simp only [Option.map_some]
    rw [evOs, evO, eM]
    simp only [Option.map_some]
    rw [evOs, evO, ev_cst]
    simp only [Option.map_some, evOs]
    rfl
  refine Go.set (d0 := .int cols.length) (fr0 := true) (ρ1 := [.val (.lst (ns.map .int)), .val (.int k), .val (.int c), .val (.tup cols), .val (.int 2), .own (.lst (ds.map .int)), .un, .un, .un]) (by simp [fin, owns, forTurn, lcTurn, dcTurn, asg, asgs, okTo, exB, exS, evT, evE, evO, evOs, evP, evI, evC, dns, rsv, rsvs, Sl.get, frz1, idxD, sliD, cmpD, eqD, inD, isNon, truD, binD, negD, biD, mtD, muTy, muD, setD, keyOf, keysOf, keyOkB, dicPairs, mkSl, isCont, wipeE, unwipe, itemsD, rngD, isTy, noLck, isOwn, mulOk]) (by rfl) ?_
  show Go _ _ _ [.val (.lst (ns.map .int)), .val (.int k), .val (.int c), .val (.tup cols), .val (.int 2), .own (.lst (ds.map .int)), .val (.int cols.length), .un, .un] _
  have inner : ∀ j, j < c → evE (run T (n + 2)) [] (.bi .tuple (.e (.lc [8] (.nm 8) (.rng (.cons (.pk 6) .nil)) .no (.bin .mod (.e (.idx (.pk 5) (.e (.bin .add (.e (.bin .mul (.pk 6) (.pk 7))) (.pk 8))))) (.pk 4))))) [.val (.lst (ns.map .int)), .val (.int k), .val (.int c), .val (.tup cols), .val (.int 2), .own (.lst (ds.map .int)), .val (.int cols.length), .val (.int (0 + (j : Int))), .un] = some (tI ((List.range cols.length).map fun i => (ds.getD (cols.length * j + i) 0).fmod 2), true, [.val (.lst (ns.map .int)), .val (.int k), .val (.int c), .val (.tup cols), .val (.int 2), .own (.lst (ds.map .int)), .val (.int cols.length), .val (.int (0 + (j : Int))), .un]) := fun j hj => by
    refine ev_bi (ev_lcM (ρ1 := [.val (.lst (ns.map .int)), .val (.int k), .val (.int c), .val (.tup cols), .val (.int 2), .own (.lst (ds.map .int)), .val (.int cols.length), .val (.int (0 + (j : Int))), .un]) (fun i : Nat => D.int (0 + (i : Int))) (fun i => .int ((ds.getD (cols.length * j + i) 0).fmod 2)) (List.range cols.length) (ev_rngP (by omega) rfl) (by rfl) (by simp; omega) (fun i hi => ?_)) ?_
    · have hi := List.mem_range.mp hi
      have hlt : cols.length * j + i < ds.length := by
        rw [hl, Nat.mul_comm c]
        have : cols.length * j + cols.length ≤ cols.length * c := by rw [← Nat.mul_succ]; exact Nat.mul_le_mul_left _ hj
        omega
      have z := small cols.length j (by omega) (by omega)
      have g : ds.getD (cols.length * j + i) 0 = ds[cols.length * j + i] := by rw [List.getD_eq_getElem?_getD, List.getElem?_eq_getElem hlt]; rfl
      have g2 := getI hlt
      rw [g]
      have e1 : (cols.length : Int) * (0 + (j : Int)) + (0 + (i : Int)) = ((cols.length * j + i : Nat) : Int) := by rw [Int.natCast_add, Int.natCast_mul, Int.zero_add, Int.zero_add]
      have z2 : mulOk (cols.length : Int) (0 + (j : Int)) = true := by rw [Int.zero_add]; exact z
      refine lc_no (ρ1 := [.val (.lst (ns.map .int)), .val (.int k), .val (.int c), .val (.tup cols), .val (.int 2), .own (.lst (ds.map .int)), .val (.int cols.length), .val (.int (0 + (j : Int))), .val (.int (0 + (i : Int)))]) (fr := true) (ρ2 := [.val (.lst (ns.map .int)), .val (.int k), .val (.int c), .val (.tup cols), .val (.int 2), .own (.lst (ds.map .int)), .val (.int cols.length), .val (.int (0 + (j : Int))), .val (.int (0 + (i : Int)))]) (by simp [fin, owns, forTurn, lcTurn, dcTurn, asg, asgs, okTo, exB, exS, evT, evE, evO, evOs, evP, evI, evC, dns, rsv, rsvs, Sl.get, frz1, idxD, sliD, cmpD, eqD, inD, isNon, truD, binD, negD, biD, mtD, muTy, muD, setD, keyOf, keysOf, keyOkB, dicPairs, mkSl, isCont, wipeE, unwipe, itemsD, rngD, isTy, noLck, isOwn, mulOk]) ?_ (by rfl)
      have bm : binD .mul (.int cols.length) (.int (0 + (j : Int))) = some (.int ((cols.length : Int) * (0 + (j : Int)))) := by simp only [binD]; rw [if_pos z2]
      have ba : binD .add (.int ((cols.length : Int) * (0 + (j : Int)))) (.int (0 + (i : Int))) = some (.int ((cols.length * j + i : Nat) : Int)) := by simp only [binD]; rw [e1]
      have bi : idxD (.lst (ds.map .int)) (.int ((cols.length * j + i : Nat) : Int)) = some (.int ds[cols.length * j + i]) := by simp only [idxD]; exact g2
      have bf : ∀ x : Int, binD .mod (.int x) (.int 2) = some (.int (x.fmod 2)) := fun x => by simp [binD]
      exact ev_epk (ev_idxP rfl (ev_epk (ev_pkpk rfl rfl bm) rfl ba) bi) rfl (bf _)
    · simp only [biD, tI, List.map_map]
      rfl
  have outer := ev_lcM (Φ := run T (n + 2)) (io := []) (vs := [7]) (g := .nm 7) (it := .rng (.cons (.pk 2) .nil)) (c := .no) (x := .bi .tuple (.e (.lc [8] (.nm 8) (.rng (.cons (.pk 6) .nil)) .no (.bin .mod (.e (.idx (.pk 5) (.e (.bin .add (.e (.bin .mul (.pk 6) (.pk 7))) (.pk 8))))) (.pk 4))))) (ρ := [.val (.lst (ns.map .int)), .val (.int k), .val (.int c), .val (.tup cols), .val (.int 2), .own (.lst (ds.map .int)), .val (.int cols.length), .un, .un]) (ρ1 := [.val (.lst (ns.map .int)), .val (.int k), .val (.int c), .val (.tup cols), .val (.int 2), .own (.lst (ds.map .int)), .val (.int cols.length), .un, .un]) (fun i : Nat => D.int (0 + (i : Int))) (fun j => tI ((List.range cols.length).map fun i => (ds.getD (cols.length * j + i) 0).fmod 2)) (List.range c) (ev_rngP (by omega) rfl) (by rfl) (by simp; omega) (fun j hj => lc_no (ρ1 := [.val (.lst (ns.map .int)), .val (.int k), .val (.int c), .val (.tup cols), .val (.int 2), .own (.lst (ds.map .int)), .val (.int cols.length), .val (.int (0 + (j : Int))), .un]) (by simp [fin, owns, forTurn, lcTurn, dcTurn, asg, asgs, okTo, exB, exS, evT, evE, evO, evOs, evP, evI, evC, dns, rsv, rsvs, Sl.get, frz1, idxD, sliD, cmpD, eqD, inD, isNon, truD, binD, negD, biD, mtD, muTy, muD, setD, keyOf, keysOf, keyOkB, dicPairs, mkSl, isCont, wipeE, unwipe, itemsD, rngD, isTy, noLck, isOwn, mulOk]) (inner j (List.mem_range.mp hj)) (by rfl))
  have e : (List.range c).map (fun j => tI ((List.range cols.length).map fun i => (ds.getD (cols.length * j + i) 0).fmod 2)) = ((List.range c).map fun j => (List.range cols.length).map fun i => (ds.getD (cols.length * j + i) 0).fmod 2).map tI := by rw [List.map_map]; rfl
  rw [e] at outer
  exact Go.retE outer ansE_ret
end L2.PL
end
section
set_option maxRecDepth 100000
set_option maxHeartbeats 2000000
/-! k59, part ZF: _law_table. -/
namespace L2.PL
open PySem
theorem putC_len (cs : CV) (k : List Int) (v : Int) : (putC cs k v).length ≤ cs.length + 1 := by
  unfold putC
  split
  · rw [List.length_map]; omega
  · rw [List.length_append, List.length_singleton]; exact Nat.le_refl _
theorem putC_keys {cs : CV} {k : List Int} {v : Int} {q : List Int × Int} (h : q ∈ putC cs k v) : q.1 = k ∨ ∃ p ∈ cs, p.1 = q.1 := by
  unfold putC at h
  split at h
  · obtain ⟨p, hp, e⟩ := List.mem_map.mp h
    refine .inr ⟨p, hp, ?_⟩
    rw [← e]
    split <;> rfl
  · rcases List.mem_append.mp h with z | z
    · exact .inr ⟨q, z, rfl⟩
    · rw [List.mem_singleton] at z; subst z; exact .inl rfl
theorem mrg_rows : ∀ (rows : List (List Int)) (cs : CV), ∃ cs' : CV, mrg (dC cs) (rows.map fun r => (tk r, D.int 0)) = dC cs' ∧ cs'.length ≤ cs.length + rows.length ∧ ∀ q ∈ cs', (∃ p ∈ cs, p.1 = q.1) ∨ q.1 ∈ rows
  | [], cs => ⟨cs, rfl, by simp, fun q hq => .inl ⟨q, hq, rfl⟩⟩
  | r :: rows, cs => by
    obtain ⟨cs', e, hl, hk⟩ := mrg_rows rows (putC cs r 0)
    refine ⟨cs', ?_, ?_, fun q hq => ?_⟩
    · rw [← e, ← put_dC]; rfl
    · have := putC_len cs r 0
      rw [List.length_cons]; omega
    · rcases hk q hq with ⟨p, hp, z⟩ | z
      · rcases putC_keys hp with w | ⟨p', hp', w⟩
        · exact .inr (by rw [← z, w]; exact List.mem_cons_self)
        · exact .inl ⟨p', hp', by rw [w, z]⟩
      · exact .inr (List.mem_cons_of_mem _ z)
theorem toD_tk (l : List Int) : toD (tk l) = tI l := by
  have : ∀ l : List Int, toDs (l.map NestedKey.num) = l.map D.int := fun l => by
    induction l with
    | nil => rfl
    | cons x l ih => simp [toDs, toD, ih]
  simp [tk, toD, this]
theorem pairsD_rows : ∀ rows : List (List Int), pairsD true (rows.map fun r => .tup [tI r, .int 0]) = some (rows.map fun r => (tk r, D.int 0))
  | [] => rfl
  | r :: rows => by
    have ih := pairsD_rows rows
    have k1 := keyOf_tI r
    have k2 := ok_tk r
    simp only [List.map_cons, pairsD, pairD, k1, k2, if_true, ih]
theorem sortD_rows {rows : List (List Int)} (hne : ∀ r ∈ rows, r ≠ []) (hl : rows.length ≤ 1000) : ∃ rows' : List (List Int), sortD (rows.map tI) = some (rows'.map tI) ∧ rows'.Perm rows := by
  have hp := List.mergeSort_perm (rows.map tI) leD
  have all : ∀ x ∈ (rows.map tI).mergeSort leD, ∃ i, x = tI i := fun x hx => by
    obtain ⟨i, _, rfl⟩ := List.mem_map.mp (hp.mem_iff.mp hx)
    exact ⟨i, rfl⟩
  have key : ∀ xs : List D, (∀ x ∈ xs, ∃ i, x = tI i) → ∃ l' : List (List Int), xs = l'.map tI := fun xs => by
    induction xs with
    | nil => exact fun _ => ⟨[], rfl⟩
    | cons x xs ih =>
      intro h
      obtain ⟨i, rfl⟩ := h x List.mem_cons_self
      obtain ⟨l', rfl⟩ := ih fun y hy => h y (List.mem_cons_of_mem _ hy)
      exact ⟨i :: l', rfl⟩
  obtain ⟨l', e⟩ := key _ all
  refine ⟨l', ?_, perm_map_inj (fun _ _ => tI_inj) (by rw [← e]; exact hp)⟩
  rw [← e]
  refine sortD_of ⟨fun x hx => by obtain ⟨p, _, rfl⟩ := List.mem_map.mp hx; exact (Pl.tI (k := 0)).1, fun x hx y hy => by
    obtain ⟨p, _, rfl⟩ := List.mem_map.mp hx
    obtain ⟨q, _, rfl⟩ := List.mem_map.mp hy
    exact alike_tI p q⟩ (fun x hx => by obtain ⟨p, _, rfl⟩ := List.mem_map.mp hx; exact Nat.le_trans (Pl.tI (k := 0)).2 (by omega)) (bign _ (by rw [List.length_map]; omega)) ?_
  unfold sortableB
  rw [Bool.or_eq_true]
  left
  rw [List.all_eq_true]
  intro a ha
  obtain ⟨x, hx, rfl⟩ := List.mem_map.mp ha
  obtain ⟨p, hp, rfl⟩ := List.mem_map.mp hx
  cases p with
  | nil => exact absurd rfl (hne _ hp)
  | cons a b => simp [toPy, toPys]
theorem r_table (n : Nat) (ns : List Int) (k c : Nat) (cols : List D) (hc : c ≤ 5) (hw : cols.length ≤ 3) (hpos : 0 < cols.length) : ∃ rows : List (List Int), rows.length ≤ c ∧ (∀ r ∈ rows, r.length = cols.length) ∧ AnsE (run T (n + 4) 16 [.val (.lst (ns.map .int)), .val (.int k), .val (.int c), .val (.tup cols), .val (.int 2)]) (.tup [.tup cols, .tup (rows.map tI)]) := by
  obtain ⟨rows, hl, hwd, fr, hr⟩ := r_rows n ns k c cols hc hw
  obtain ⟨cs, em, hcl, hck⟩ := mrg_rows rows []
  have hkw : ∀ r ∈ cs.map (·.1), r.length = cols.length := fun r h => by
    obtain ⟨q, hq, rfl⟩ := List.mem_map.mp h
    rcases hck q hq with ⟨p, hp, _⟩ | z
    · cases hp
    · exact hwd _ z
  rw [List.length_nil, Nat.zero_add, hl] at hcl
  obtain ⟨rows', es, hp⟩ := sortD_rows (rows := cs.map (·.1)) (fun r h z => by have := hkw r h; rw [z] at this; simp at this; omega) (by rw [List.length_map]; omega)
  refine ⟨rows', by rw [hp.length_eq, List.length_map]; exact hcl, fun r h => hkw r (hp.mem_iff.mp h), Go.runE (df := df16) rfl rfl ?_⟩
  show Go (run T (n + 3)) [] df16.body [.val (.lst (ns.map .int)), .val (.int k), .val (.int c), .val (.tup cols), .val (.int 2), .un] _
  have hcall : evE (run T (n + 3)) [] (.call 15 (.cons (.e (.var 0)) (.cons (.e (.var 1)) (.cons (.e (.var 2)) (.cons (.e (.var 3)) (.cons (.e (.var 4)) .nil)))))) [.val (.lst (ns.map .int)), .val (.int k), .val (.int c), .val (.tup cols), .val (.int 2), .un] = some (.lst (rows.map tI), fr, [.val (.lst (ns.map .int)), .val (.int k), .val (.int c), .val (.tup cols), .val (.int 2), .un]) :=
    ev_call (ds := [.lst (ns.map .int), .int k, .int c, .tup cols, .int 2]) (by simp [fin, owns, forTurn, lcTurn, dcTurn, asg, asgs, okTo, exB, exS, evT, evE, evO, evOs, evP, evI, evC, dns, rsv, rsvs, Sl.get, frz1, idxD, sliD, cmpD, eqD, inD, isNon, truD, binD, negD, biD, mtD, muTy, muD, setD, keyOf, keysOf, keyOkB, dicPairs, mkSl, isCont, wipeE, unwipe, itemsD, rngD, isTy, noLck, isOwn, mulOk]) hr
  have l1 := ev_lcM (Φ := run T (n + 3)) (io := []) (vs := [5]) (g := .nm 5) (c := .no) (x := .tup (.cons (.e (.var 5)) (.cons (.e (.cst (.int 0))) .nil))) tI (fun r => D.tup [tI r, .int 0]) rows (ev_it hcall rfl) (by rfl) (by omega) (fun r _ => lc_no (ρ1 := [.val (.lst (ns.map .int)), .val (.int k), .val (.int c), .val (.tup cols), .val (.int 2), .val (tI r)]) (by simp [fin, owns, forTurn, lcTurn, dcTurn, asg, asgs, okTo, exB, exS, evT, evE, evO, evOs, evP, evI, evC, dns, rsv, rsvs, Sl.get, frz1, idxD, sliD, cmpD, eqD, inD, isNon, truD, binD, negD, biD, mtD, muTy, muD, setD, keyOf, keysOf, keyOkB, dicPairs, mkSl, isCont, wipeE, unwipe, itemsD, rngD, isTy, noLck, isOwn, mulOk]) (ev_tup2 (ev_val rfl) ev_cst) (by rfl))
  have b1 := ev_bi (b := .dict true) l1 (d' := .dic true (dC cs)) (by
    have e0 : mrg [] (rows.map fun r => (tk r, D.int 0)) = dC cs := em
    simp only [biD, pairsD_rows, Option.map_some, e0])
  have b2 := ev_bi (b := .list) b1 (d' := .lst ((cs.map (·.1)).map tI)) (by
    simp only [biD, dC, List.map_map, Option.some.injEq, D.lst.injEq]
    exact List.map_congr_left fun q _ => toD_tk q.1)
  have b3 := ev_bi (b := .sorted) b2 (d' := .lst (rows'.map tI)) (by simp only [biD, es, Option.map_some])
  have b4 := ev_bi (b := .tuple) b3 (d' := .tup (rows'.map tI)) rfl
  exact Go.retE (ev_tup2 (ev_val rfl) b4) ansE_ret
end L2.PL
end
section
set_option maxRecDepth 100000
set_option maxHeartbeats 2000000
/-! k59, part ZG: _law_tables. -/
namespace L2.PL
open PySem
def NM : List (Str × List String) := [(sR, ["a", "b", "c"]), (sS, ["c", "d"]), (sT, ["b", "d", "e"])]
abbrev entS (p : Str × List String) : D := .tup [.str p.1, strsD p.2, .tup []]
abbrev sch3 : D := .tup [.tup (NM.map entS), .tup []]
def tk3 (tabs : List (List (List Int))) : List (NestedKey × D) := (NM.zip tabs).map fun p => (.text p.1.1, .tup [strsD p.1.2, .tup (p.2.map tI)])
def TabsOk (tabs : List (List (List Int))) : Prop := ∀ p ∈ NM.zip tabs, p.2.length ≤ 5 ∧ ∀ r ∈ p.2, r.length = p.1.2.length
theorem put_tk3 {tabs : List (List (List Int))} {j : Nat} {p : Str × List String} {t : List (List Int)} (hj : tabs.length = j) (hp : NM[j]? = some p) : put (tk3 tabs) (.text p.1) (.tup [strsD p.2, .tup (t.map tI)]) = tk3 (tabs ++ [t]) := by
  have rs : sR ≠ sS := str_ne (by decide)
  have rt : sR ≠ sT := str_ne (by decide)
  have st : sS ≠ sT := str_ne (by decide)
  match tabs, j, hj with
  | [], 0, _ => simp [NM] at hp; subst hp; simp [put, look, tk3, NM]
  | [a], 1, _ => simp [NM] at hp; subst hp; simp [put, look, tk3, NM, rs]
  | [a, b], 2, _ => simp [NM] at hp; subst hp; simp [put, look, tk3, NM, rt, st]
  | a :: b :: c :: r, j, h => subst h; simp [NM] at hp
theorem ok_tk3 {tabs : List (List (List Int))} {j : Nat} {p : Str × List String} {t : List (List Int)} (hj : tabs.length = j) (hp : NM[j]? = some p) (h : TabsOk tabs) (h1 : t.length ≤ 5) (h2 : ∀ r ∈ t, r.length = p.2.length) : TabsOk (tabs ++ [t]) := by
  match tabs, j, hj with
  | [], 0, _ => simp [NM] at hp; subst hp; simp [TabsOk, NM] at h ⊢; exact ⟨h1, h2⟩
  | [a], 1, _ => simp [NM] at hp; subst hp; simp [TabsOk, NM] at h ⊢; exact ⟨h, h1, h2⟩
  | [a, b], 2, _ => simp [NM] at hp; subst hp; simp [TabsOk, NM] at h ⊢; exact ⟨h.1, h.2, h1, h2⟩
  | a :: b :: c :: r, j, h => subst h; simp [NM] at hp
theorem Go.setI {Φ : Fn} {io : List Nat} {b : IB} {P : Out → Prop} {ρ ρ1 ρ2 : EV} {i : Nat} {x kx : IE} {d kd o o' : D} {fr fr2 : Bool} (h : evE Φ io x ρ = some (d, fr, ρ1)) (e1 : ρ1[i]? = some (.own o)) (hk : evE Φ io kx ρ1 = some (kd, fr2, ρ2)) (e2 : ρ2[i]? = some (.own o)) (hs : setD o kd d = some o') (k : Go Φ io b (ρ2.set i (.own o')) P) : Go Φ io (.cons (.setI i (.e kx) x) b) ρ P := by
  refine Go.nxt _ ?_ k
  rw [exS, h]
  simp only [e1]
  rw [evO, hk]
  simp only [Option.map_some, e2, rsv, hs]
theorem r_tables (n : Nat) (ns : List Int) (k : Nat) : ∃ tabs : List (List (List Int)), tabs.length = 3 ∧ TabsOk tabs ∧ AnsE (run T (n + 5) 18 [.val (.lst (ns.map .int)), .val (.int k), .val sch3, .val (.int 2)]) (.dic false (tk3 tabs)) := by
  suffices h : (fun r : RV => ∃ tabs : List (List (List Int)), tabs.length = 3 ∧ TabsOk tabs ∧ AnsE r (.dic false (tk3 tabs))) (run T (n + 5) 18 [.val (.lst (ns.map .int)), .val (.int k), .val sch3, .val (.int 2)]) from h
  rw [run_at (d := df18) rfl rfl]
  show Go (run T (n + 4)) [] df18.body [.val (.lst (ns.map .int)), .val (.int k), .val sch3, .val (.int 2), .un, .un, .un] (fun o => ∃ tabs : List (List (List Int)), tabs.length = 3 ∧ TabsOk tabs ∧ AnsE (fin [.val (.lst (ns.map .int)), .val (.int k), .val sch3, .val (.int 2)] o) (.dic false (tk3 tabs)))
  generalize hS : Sl.val (.lst (ns.map .int)) = S at *
  refine Go.set (ρ1 := [S, .val (.int k), .val sch3, .val (.int 2), .un, .un, .un]) (d0 := .dic false []) (fr0 := true) (by simp [fin, owns, forTurn, lcTurn, dcTurn, asg, asgs, okTo, exB, exS, evT, evE, evO, evOs, evP, evI, evC, dns, rsv, rsvs, Sl.get, frz1, idxD, sliD, cmpD, eqD, inD, isNon, truD, binD, negD, biD, mtD, muTy, muD, setD, keyOf, keysOf, keyOkB, dicPairs, mkSl, isCont, wipeE, unwipe, itemsD, rngD, isTy, noLck, isOwn, mulOk, mrg]) (by rfl) ?_
  refine Go.rng 3 (fun j ρ => ∃ (tabs : List (List (List Int))) (s5 s6 : Sl), tabs.length = j ∧ TabsOk tabs ∧ ρ = [S, .val (.int k), .val sch3, .val (.int 2), .own (.dic false (tk3 tabs)), s5, s6]) (ev_rng (x := .bi .len (.e (.idx (.pk 2) (.e (.cst (.int 0)))))) (fr := true) (ρ1 := [S, .val (.int k), .val sch3, .val (.int 2), .own (.dic false []), .un, .un]) (by decide) (by simp [fin, owns, forTurn, lcTurn, dcTurn, asg, asgs, okTo, exB, exS, evT, evE, evO, evOs, evP, evI, evC, dns, rsv, rsvs, Sl.get, frz1, idxD, sliD, cmpD, eqD, inD, isNon, truD, binD, negD, biD, mtD, muTy, muD, setD, keyOf, keysOf, keyOkB, dicPairs, mkSl, isCont, wipeE, unwipe, itemsD, rngD, isTy, noLck, isOwn, mulOk, atI_0, NM])) rfl ⟨[], _, _, rfl, fun p hp => by simp at hp, rfl⟩ ?_ ?_
  · rintro j ρ hj ⟨tabs, s5, s6, hl, hok, rfl⟩
    obtain ⟨p, hp⟩ : ∃ p, NM[j]? = some p := ⟨NM[j]'(hj), List.getElem?_eq_getElem hj⟩
    have hpw : p.2.length ≤ 3 ∧ 0 < p.2.length := by
      have hm : p ∈ NM := List.mem_of_getElem? hp
      simp only [NM, List.mem_cons, List.not_mem_nil, or_false] at hm
      rcases hm with rfl | rfl | rfl <;> simp
    refine turn_of (ρ1 := [S, .val (.int k), .val sch3, .val (.int 2), .own (.dic false (tk3 tabs)), .val (.int j), s6]) (by simp [fin, owns, forTurn, lcTurn, dcTurn, asg, asgs, okTo, exB, exS, evT, evE, evO, evOs, evP, evI, evC, dns, rsv, rsvs, Sl.get, frz1, idxD, sliD, cmpD, eqD, inD, isNon, truD, binD, negD, biD, mtD, muTy, muD, setD, keyOf, keysOf, keyOkB, dicPairs, mkSl, isCont, wipeE, unwipe, itemsD, rngD, isTy, noLck, isOwn, mulOk]) ?_
    obtain ⟨ds, hdl, hd⟩ := r_draws (n + 2) ns (k + j) 1 (by decide)
    have eKJ : ∀ s6 : Sl, evE (run T (n + 4)) [] (.bin .add (.pk 1) (.pk 5)) [S, .val (.int k), .val sch3, .val (.int 2), .own (.dic false (tk3 tabs)), .val (.int j), s6] = some (.int ((k + j : Nat) : Int), true, [S, .val (.int k), .val sch3, .val (.int 2), .own (.dic false (tk3 tabs)), .val (.int j), s6]) := fun s6 => ev_pkpk rfl rfl (by simp only [binD, Int.natCast_add])
    have vS : ∀ r : EV, r[0]? = some S → evE (run T (n + 4)) [] (.var 0) r = some (.lst (ns.map .int), false, r) := fun r h => ev_val (by rw [h, ← hS])
    have hd' : Ans (run T (n + 4) 12 ([D.lst (ns.map .int), .int ((k + j : Nat) : Int), .int 1, .int 5040].map .val)) (.lst (ds.map .int)) true := hd
    refine Go.set (ev_call (ds := [.lst (ns.map .int), .int ((k + j : Nat) : Int), .int 1, .int 5040]) (ρ1 := [S, .val (.int k), .val sch3, .val (.int 2), .own (.dic false (tk3 tabs)), .val (.int j), s6]) ?_ hd') (by rfl) ?_
    · rw [evOs, evO, vS _ rfl]
      simp only [Option.map_some]
      rw [evOs, evO, eKJ]
      simp only [Option.map_some]
      rw [evOs, evO, ev_cst]
      simp only [Option.map_some]
      rw [evOs, evO, ev_cst]
      simp only [Option.map_some, evOs, List.map_cons, List.map_nil]
    obtain ⟨v, rfl⟩ : ∃ v, ds = [v] := by
      match ds, hdl with
      | [v], _ => exact ⟨v, rfl⟩
    show Go _ _ _ [S, .val (.int k), .val sch3, .val (.int 2), .own (.dic false (tk3 tabs)), .val (.int j), .own (.lst [.int v])] _
    obtain ⟨c, hc, hcv⟩ : ∃ c : Nat, c ≤ 5 ∧ (c : Int) = v.fmod 6 := ⟨(v.fmod 6).toNat, by have := Int.fmod_lt_of_pos v (b := 6) (by decide); omega, by have := Int.fmod_nonneg_of_pos v (b := 6) (by decide); omega⟩
    obtain ⟨rows, h1, h2, fr, h3⟩ := r_table n ns (k + 5 + j) c (p.2.map fun x => D.str (Str.ofString x)) hc (by rw [List.length_map]; exact hpw.1) (by rw [List.length_map]; exact hpw.2)
    have ent : evE (run T (n + 4)) [] (.idx (.e (.idx (.pk 2) (.e (.cst (.int 0))))) (.pk 5)) [S, .val (.int k), .val sch3, .val (.int 2), .own (.dic false (tk3 tabs)), .val (.int j), .own (.lst [.int v])] = some (entS p, false, [S, .val (.int k), .val sch3, .val (.int 2), .own (.dic false (tk3 tabs)), .val (.int j), .own (.lst [.int v])]) := by
      have a1 : L2.atI (NM.map entS) (j : Int) = some (entS p) := by rw [atI_nat, List.getElem?_map, hp]; rfl
      simp [fin, owns, forTurn, lcTurn, dcTurn, asg, asgs, okTo, exB, exS, evT, evE, evO, evOs, evP, evI, evC, dns, rsv, rsvs, Sl.get, frz1, idxD, sliD, cmpD, eqD, inD, isNon, truD, binD, negD, biD, mtD, muTy, muD, setD, keyOf, keysOf, keyOkB, dicPairs, mkSl, isCont, wipeE, unwipe, itemsD, rngD, isTy, noLck, isOwn, mulOk, atI_0, a1]
    have nm := ev_idx (Φ := run T (n + 4)) (io := []) ent (ev_cst (d := .int 0)) (d' := .str p.1) (by simp only [idxD]; exact atI_0 _ _)
    have cl := ev_idx (Φ := run T (n + 4)) (io := []) ent (ev_cst (d := .int 1)) (d' := strsD p.2) (by simp only [idxD]; exact atI_1 _ _ _)
    have cnt : evE (run T (n + 4)) [] (.bin .mod (.e (.idx (.pk 6) (.e (.cst (.int 0))))) (.e (.cst (.int 6)))) [S, .val (.int k), .val sch3, .val (.int 2), .own (.dic false (tk3 tabs)), .val (.int j), .own (.lst [.int v])] = some (.int c, true, [S, .val (.int k), .val sch3, .val (.int 2), .own (.dic false (tk3 tabs)), .val (.int j), .own (.lst [.int v])]) :=
      ev_bin (ev_idxP rfl ev_cst (d' := .int v) (by simp only [idxD]; exact atI_0 _ _)) ev_cst (by rw [hcv]; simp [binD])
    have e5 : evE (run T (n + 4)) [] (.bin .add (.pk 1) (.e (.cst (.int 5)))) [S, .val (.int k), .val sch3, .val (.int 2), .own (.dic false (tk3 tabs)), .val (.int j), .own (.lst [.int v])] = some (.int ((k : Int) + 5), true, [S, .val (.int k), .val sch3, .val (.int 2), .own (.dic false (tk3 tabs)), .val (.int j), .own (.lst [.int v])]) := by simp [fin, owns, forTurn, lcTurn, dcTurn, asg, asgs, okTo, exB, exS, evT, evE, evO, evOs, evP, evI, evC, dns, rsv, rsvs, Sl.get, frz1, idxD, sliD, cmpD, eqD, inD, isNon, truD, binD, negD, biD, mtD, muTy, muD, setD, keyOf, keysOf, keyOkB, dicPairs, mkSl, isCont, wipeE, unwipe, itemsD, rngD, isTy, noLck, isOwn, mulOk]
    have e5j := ev_epk (Φ := run T (n + 4)) (io := []) e5 (j := 5) rfl (o := .add) (d' := .int ((k + 5 + j : Nat) : Int)) (by simp only [binD, Int.natCast_add]; rfl)
    have hcs : (p.2.map fun x => D.str (Str.ofString x)).length = p.2.length := List.length_map _
    have call := ev_call (io := []) (es := .cons (.e (.var 0)) (.cons (.e (.bin .add (.e (.bin .add (.pk 1) (.e (.cst (.int 5))))) (.pk 5))) (.cons (.e (.bin .mod (.e (.idx (.pk 6) (.e (.cst (.int 0))))) (.e (.cst (.int 6))))) (.cons (.e (.idx (.e (.idx (.e (.idx (.pk 2) (.e (.cst (.int 0))))) (.pk 5))) (.e (.cst (.int 1))))) (.cons (.e (.var 3)) .nil))))) (ρ := [S, .val (.int k), .val sch3, .val (.int 2), .own (.dic false (tk3 tabs)), .val (.int j), .own (.lst [.int v])]) (ρ1 := [S, .val (.int k), .val sch3, .val (.int 2), .own (.dic false (tk3 tabs)), .val (.int j), .own (.lst [.int v])]) (ds := [.lst (ns.map .int), .int ((k + 5 + j : Nat) : Int), .int c, strsD p.2, .int 2]) (by
      rw [evOs, evO, vS _ rfl]
      simp only [Option.map_some]
      rw [evOs, evO, e5j]
      simp only [Option.map_some]
      rw [evOs, evO, cnt]
      simp only [Option.map_some]
      rw [evOs, evO, cl]
      simp only [Option.map_some]
      rw [evOs, evO, ev_val rfl]
      simp only [Option.map_some, evOs, List.map_cons, List.map_nil]) h3
    have hlen : (tk3 tabs).length ≤ 3 := by unfold tk3; rw [List.length_map, List.length_zip]; simp only [NM, List.length_cons, List.length_nil]; omega
    refine Go.setI call rfl nm rfl (o' := .dic false (tk3 (tabs ++ [rows]))) ?_ (Go.nil (Trn.nx ⟨tabs ++ [rows], _, _, by rw [List.length_append, List.length_singleton, hl], ok_tk3 hl hp hok (by omega) (fun r hr => by rw [h2 r hr, hcs]), rfl⟩))
    have hz : (tk3 tabs).length < bigN := by show _ < 16777216; omega
    have := put_tk3 (t := rows) hl hp
    simp only [setD, keyOf, keyOkB, hz, decide_true, Bool.and_self, if_true]
    rw [← this]
  · rintro ρ ⟨tabs, s5, s6, hl, hok, rfl⟩
    exact Go.retO rfl rfl ⟨tabs, hl, hok, ansE_ret⟩
end L2.PL
end
section
set_option maxRecDepth 100000
set_option maxHeartbeats 2000000
/-! k59, part ZH: facts on drawn patterns. -/
namespace L2.PL
open PySem
theorem nodup_le : ∀ (l m : List Int), l.Nodup → (∀ x ∈ l, x ∈ m) → l.length ≤ m.length
  | [], m, _, _ => Nat.zero_le _
  | x :: l, m, n, h => by
    rw [List.nodup_cons] at n
    have hx := h x List.mem_cons_self
    have ih := nodup_le l (m.erase x) n.2 fun y hy => by
      have hne : y ≠ x := fun e => n.1 (e ▸ hy)
      exact (List.mem_erase_of_ne hne).mpr (h y (List.mem_cons_of_mem _ hy))
    rw [List.length_erase_of_mem hx] at ih
    have := List.length_pos_of_mem hx
    rw [List.length_cons]
    omega
theorem drawn_vars {p : Pat} (h : DrawnOk p) : (∀ m ∈ vars p, m ∈ [(-1 : Int), -2, -3]) ∧ (vars p).length ≤ 3 := by
  have key : ∀ m ∈ vars p, m ∈ [(-1 : Int), -2, -3] := fun m hm => by
    obtain ⟨hm, h0⟩ := mem_vars.mp hm
    have fromL : ∀ l ∈ p.lines, m ∈ l.2 → m ∈ [(-1 : Int), -2, -3] := fun l hl hml => by
      have := h.marks l hl m hml
      simp only [List.mem_cons, List.not_mem_nil, or_false] at this ⊢
      omega
    rcases List.mem_append.mp hm with z | z
    · rcases h.bound m z with w | ⟨l, hl, hml⟩
      · omega
      · exact fromL l hl hml
    · obtain ⟨l, hl, hml⟩ := List.mem_flatMap.mp z
      exact fromL l hl hml
  exact ⟨key, nodup_le _ _ (vars_nodup p) key⟩
theorem look_tk3 {tabs : List (List (List Int))} (h3 : tabs.length = 3) (ok : TabsOk tabs) {nm : Str} (h : nm = sR ∨ nm = sS ∨ nm = sT) : ∃ (cols : D) (rows : List (List Int)), look (tk3 tabs) (.text nm) = some (.tup [cols, .tup (rows.map tI)]) ∧ rows.length ≤ 5 ∧ ∀ r ∈ rows, r.length = if nm = sS then 2 else 3 := by
  have rs : sR ≠ sS := str_ne (by decide)
  have rt : sR ≠ sT := str_ne (by decide)
  have st : sS ≠ sT := str_ne (by decide)
  match tabs, h3 with
  | [a, b, c], _ =>
    simp [TabsOk, NM] at ok
    obtain ⟨o1, o2, o3⟩ := ok
    rcases h with rfl | rfl | rfl
    · exact ⟨strsD ["a", "b", "c"], a, by simp [look, tk3, NM], o1.1, by rw [if_neg rs]; exact o1.2⟩
    · exact ⟨strsD ["c", "d"], b, by simp [look, tk3, NM, rs], o2.1, by rw [if_pos rfl]; exact o2.2⟩
    · exact ⟨strsD ["b", "d", "e"], c, by simp [look, tk3, NM, rt, st], o3.1, by rw [if_neg st.symm]; exact o3.2⟩
open Classical in
/-- the rows of a table by its name -/
noncomputable def rwOf (tabs : List (List (List Int))) (nm : Str) : List (List Int) := if h : ∃ rows : List (List Int), ∃ cols, look (tk3 tabs) (.text nm) = some (.tup [cols, .tup (rows.map tI)]) then h.choose else []
theorem rwOf_eq {tabs : List (List (List Int))} {nm : Str} {cols : D} {rows : List (List Int)} (h : look (tk3 tabs) (.text nm) = some (.tup [cols, .tup (rows.map tI)])) : rwOf tabs nm = rows := by
  have hx : ∃ rows : List (List Int), ∃ cols, look (tk3 tabs) (.text nm) = some (.tup [cols, .tup (rows.map tI)]) := ⟨rows, cols, h⟩
  unfold rwOf
  rw [dif_pos hx]
  obtain ⟨c2, e⟩ := hx.choose_spec
  have e2 := Option.some.inj (h.symm.trans e)
  have e3 := D.tup.inj e2
  simp only [List.cons.injEq, and_true] at e3
  have inj : ∀ a b : List (List Int), a.map tI = b.map tI → a = b := fun a => by
    induction a with
    | nil => intro b h; cases b with
      | nil => rfl
      | cons _ _ => simp at h
    | cons x a ih => intro b h; cases b with
      | nil => simp at h
      | cons y b =>
        rw [List.map_cons, List.map_cons, List.cons.injEq] at h
        rw [tI_inj h.1, ih b h.2]
  exact (inj _ _ (D.tup.inj e3.2)).symm
theorem tab_ok {tabs : List (List (List Int))} (h3 : tabs.length = 3) (ok : TabsOk tabs) {p : Pat} (d : DrawnOk p) : TabOk (tk3 tabs) (rwOf tabs) p.lines where
  few := by have := d.four; omega
  look := fun l hl => by
    obtain ⟨cols, rows, e, _, _⟩ := look_tk3 h3 ok (d.names l hl)
    exact ⟨cols, by rw [rwOf_eq e]; exact e⟩
  rows := fun l hl => by
    obtain ⟨cols, rows, e, h1, h2⟩ := look_tk3 h3 ok (d.names l hl)
    rw [rwOf_eq e]
    exact ⟨h1, fun r hr => by rw [h2 r hr]; exact d.wd l hl⟩
  wide := d.wide
end L2.PL
end
section
set_option maxRecDepth 100000
set_option maxHeartbeats 2000000
/-! k59, part ZI: fillings bind the marks of the lines. -/
namespace L2.PL
open PySem
theorem fit_bind : ∀ {ms rs : List Int} {kv kv' : KV'}, ms.length = rs.length → fitGo kv ms rs = some kv' → (∀ m, (kv.lookup m).isSome = true → (kv'.lookup m).isSome = true) ∧ ∀ m ∈ ms, m < 0 → (kv'.lookup m).isSome = true
  | [], [], kv, kv', _, e => by simp only [fitGo] at e; cases e; exact ⟨fun _ h => h, fun m hm => by cases hm⟩
  | [], _ :: _, _, _, h, _ => by cases h
  | _ :: _, [], _, _, h, _ => by cases h
  | m :: ms, r :: rs, kv, kv', hl, e => by
    have hl2 : ms.length = rs.length := Nat.succ.inj hl
    rw [fitGo] at e
    split at e
    · rename_i h0
      split at e
      · obtain ⟨h1, h2⟩ := fit_bind hl2 e
        refine ⟨h1, fun k hk hn => ?_⟩
        rcases List.mem_cons.mp hk with z | z
        · subst z; omega
        · exact h2 k z hn
      · cases e
    · split at e
      · rename_i v hv
        split at e
        · obtain ⟨h1, h2⟩ := fit_bind hl2 e
          refine ⟨h1, fun k hk hn => ?_⟩
          rcases List.mem_cons.mp hk with z | z
          · subst z; exact h1 k (by rw [hv]; rfl)
          · exact h2 k z hn
        · cases e
      · rename_i hv
        obtain ⟨h1, h2⟩ := fit_bind hl2 e
        obtain ⟨q1, q2⟩ := lookup_snoc (v := r) hv
        refine ⟨fun k hk => h1 k ?_, fun k hk hn => ?_⟩
        · cases q : kv.lookup k with
          | none => rw [q] at hk; cases hk
          | some w => rw [q2 k w q]; rfl
        · rcases List.mem_cons.mp hk with z | z
          · subst z; exact h1 k (by rw [q1]; rfl)
          · exact h2 k z hn
theorem fills_bind {rw' : Str → List (List Int)} : ∀ (ls : List Ln) (fs : List KV') (S : Int → Prop), (∀ l ∈ ls, ∀ r ∈ rw' l.1, l.2.length = r.length) → (∀ f ∈ fs, ∀ m, S m → (f.lookup m).isSome = true) → ∀ f ∈ fills rw' ls fs, (∀ m, S m → (f.lookup m).isSome = true) ∧ ∀ l ∈ ls, ∀ m ∈ l.2, m < 0 → (f.lookup m).isSome = true
  | [], fs, S, _, h, f, hf => ⟨h f hf, fun l hl => by cases hl⟩
  | l :: ls, fs, S, hw, h, f, hf => by
    have := fills_bind ls (stepF rw' fs l) (fun m => S m ∨ (m ∈ l.2 ∧ m < 0)) (fun x hx => hw x (List.mem_cons_of_mem _ hx)) (fun g hg m hm => by
      obtain ⟨g0, hg0, hg⟩ := List.mem_flatMap.mp hg
      obtain ⟨r, hr, e⟩ := List.mem_filterMap.mp hg
      obtain ⟨h1, h2⟩ := fit_bind (hw l List.mem_cons_self r hr) e
      rcases hm with z | ⟨z, z2⟩
      · exact h1 m (h g0 hg0 m z)
      · exact h2 m z z2) f hf
    refine ⟨fun m hm => this.1 m (.inl hm), fun x hx m hm h0 => ?_⟩
    rcases List.mem_cons.mp hx with z | z
    · subst z; exact this.1 m (.inr ⟨hm, h0⟩)
    · exact this.2 x z m hm h0
theorem drawn_bnd {tabs : List (List (List Int))} (h3 : tabs.length = 3) (ok : TabsOk tabs) {p : Pat} (d : DrawnOk p) : Bnd (allF (rwOf tabs) p.lines) p.told := fun f hf m hm h0 => by
  have := fills_bind p.lines [[]] (fun _ => False) (fun l hl r hr => ((tab_ok h3 ok d).rows l hl).2 r hr) (fun _ _ _ h => h.elim) f hf
  rcases d.bound m hm with z | ⟨l, hl, hml⟩
  · omega
  · exact this.2 l hl m hml h0
end L2.PL
end
section
set_option maxRecDepth 100000
set_option maxHeartbeats 2000000
/-! k59, part ZJ: counts have each key once. -/
namespace L2.PL
open PySem
theorem lookC_none {cs : CV} {k : List Int} (h : lookC cs k = none) : k ∉ cs.map (·.1) := fun hk => by
  obtain ⟨p, hp, e⟩ := List.mem_map.mp hk
  unfold lookC at h
  rw [Option.map_eq_none_iff, List.find?_eq_none] at h
  exact h p hp (by simp [e])
theorem putC_nodup {cs : CV} {k : List Int} {v : Int} (n : (cs.map (·.1)).Nodup) : ((putC cs k v).map (·.1)).Nodup := by
  unfold putC
  cases h : lookC cs k with
  | some w =>
    rw [if_pos (show (some w).isSome = true from rfl), List.map_map]
    have : cs.map ((·.1) ∘ fun p : List Int × Int => if p.1 = k then (p.1, v) else p) = cs.map (·.1) := List.map_congr_left fun p _ => by simp only [Function.comp]; split <;> rfl
    rw [this]
    exact n
  | none =>
    have hk := lookC_none h
    rw [if_neg (by simp), List.map_append, List.nodup_append]
    exact ⟨n, by simp, fun a ha b hb e => by simp at hb; subst hb e; exact hk ha⟩
theorem counts_nodup (fs : List KV') (told : List Int) : ((counts fs told).map (·.1)).Nodup := by
  unfold counts
  have : ∀ (ks : List (List Int)) (cs : CV), (cs.map (·.1)).Nodup → ((ks.foldl bump cs).map (·.1)).Nodup := fun ks => by
    induction ks with
    | nil => exact fun _ h => h
    | cons k ks ih => exact fun cs h => ih _ (putC_nodup h)
  exact this _ _ List.nodup_nil
theorem lookC_mem {cs : CV} (n : (cs.map (·.1)).Nodup) {p : List Int × Int} (h : p ∈ cs) : lookC cs p.1 = some p.2 := by
  unfold lookC
  induction cs with
  | nil => cases h
  | cons q cs ih =>
    rw [List.map_cons, List.nodup_cons] at n
    rcases List.mem_cons.mp h with z | z
    · subst z; simp
    · have e : ¬ q.1 = p.1 := fun e => n.1 (by rw [e]; exact List.mem_map.mpr ⟨p, z, rfl⟩)
      rw [List.find?_cons_of_neg (by simp [e])]
      exact ih n.2 z
theorem counts_len {fs : List KV'} {told : List Int} : (counts fs told).length ≤ fs.length := by
  unfold counts
  have : ∀ (ks : List (List Int)) (cs : CV), (ks.foldl bump cs).length ≤ cs.length + ks.length := fun ks => by
    induction ks with
    | nil => exact fun _ => by simp
    | cons k ks ih =>
      intro cs
      have h1 := ih (bump cs k)
      have h2 := bump_len cs k
      rw [List.foldl_cons, List.length_cons]
      omega
  have := this (fs.map fun f => rowOf f told) []
  rw [List.length_nil, Nat.zero_add, List.length_map] at this
  exact this
end L2.PL
end
section
set_option maxRecDepth 100000
set_option maxHeartbeats 2000000
/-! k59, part ZK: the tables' items are sorted. -/
namespace L2.PL
open PySem PySem.W
theorem alike_all {α β : Type} {f : α → D} {g : β → D} (h : ∀ a b, alike (toPy (f a)) (toPy (g b)) = true) : ∀ (xs : List α) (ys : List β), alikeAll (toPys (xs.map f)) (toPys (ys.map g)) = true
  | [], ys => by simp [toPys, alikeAll]
  | x :: xs, [] => by simp [toPys, alikeAll]
  | x :: xs, y :: ys => by
    have := alike_all h xs ys
    simp [toPys, alikeAll, h x y, this]
abbrev itD (p : (Str × List String) × List (List Int)) : D := .tup [.str p.1.1, .tup [strsD p.1.2, .tup (p.2.map tI)]]
theorem alike_it (p q : (Str × List String) × List (List Int)) : alike (toPy (itD p)) (toPy (itD q)) = true := by
  have h1 := alike_all (f := fun x : String => D.str (Str.ofString x)) (g := fun x : String => D.str (Str.ofString x)) (fun _ _ => by simp [toPy, alike]) p.1.2 q.1.2
  have h2 := alike_all (f := tI) (g := tI) alike_tI p.2 q.2
  simp only [itD, strsD, toPy, toPys, alike, alikeAll, h1, h2, Bool.and_self]
theorem pl_it (p : (Str × List String) × List (List Int)) (h : okS p.1.1) : Pl 4 (itD p) := Pl.tup (k := 3) fun x hx => by
  simp only [List.mem_cons, List.not_mem_nil, or_false] at hx
  rcases hx with rfl | rfl
  · exact .str h
  · refine Pl.tup (k := 2) fun x hx => ?_
    simp only [List.mem_cons, List.not_mem_nil, or_false] at hx
    rcases hx with rfl | rfl
    · exact Pl.tup (k := 1) fun x hx => by obtain ⟨c, _, rfl⟩ := List.mem_map.mp hx; exact .str (okS_of c)
    · exact Pl.tup (k := 1) fun x hx => by obtain ⟨c, _, rfl⟩ := List.mem_map.mp hx; exact Pl.tI (k := 0)
theorem sortD_its {ps : List ((Str × List String) × List (List Int))} (h : ∀ p ∈ ps, okS p.1.1) (hl : ps.length ≤ 1000) : sortD (ps.map itD) = some ((ps.map itD).mergeSort leD) := sortD_of ⟨fun x hx => by obtain ⟨p, hp, rfl⟩ := List.mem_map.mp hx; exact (pl_it p (h p hp)).1, fun x hx y hy => by
  obtain ⟨p, _, rfl⟩ := List.mem_map.mp hx
  obtain ⟨q, _, rfl⟩ := List.mem_map.mp hy
  exact alike_it p q⟩ (fun x hx => by obtain ⟨p, hp, rfl⟩ := List.mem_map.mp hx; exact Nat.le_trans (pl_it p (h p hp)).2 (by omega)) (bign _ (by rw [List.length_map]; omega)) (by
  unfold sortableB
  rw [Bool.or_eq_true]
  left
  rw [List.all_eq_true]
  intro a ha
  obtain ⟨x, hx, rfl⟩ := List.mem_map.mp ha
  obtain ⟨p, hp, rfl⟩ := List.mem_map.mp hx
  simp [toPy, toPys])
theorem items_tk3 (tabs : List (List (List Int))) : biD .litems (.dic false (tk3 tabs)) = some (.lst ((NM.zip tabs).map itD)) := by simp [biD, tk3, toD, Function.comp]
end L2.PL
end
section
set_option maxRecDepth 100000
set_option maxHeartbeats 2000000
/-! k59, part ZL: the second pattern. -/
namespace L2.PL
open PySem
def revP (p : Pat) : Pat := ⟨p.cols, p.told, p.lines.reverse⟩
theorem small_put {p : Pat} (h : Small p) (g : Int → Int) : Small (revP (putP g p)) :=
  { told := by show (p.told.map g).length ≤ 10; rw [List.length_map]; exact h.told
    lines := by show ((p.lines.map _).reverse).length ≤ 8; rw [List.length_reverse, List.length_map]; exact h.lines
    wide := fun l hl => by
      obtain ⟨x, hx, rfl⟩ := List.mem_map.mp (List.mem_reverse.mp hl)
      show (x.2.map g).length ≤ 3
      rw [List.length_map]
      exact h.wide x hx
    cok := h.cok
    cls := h.cls
    nms := fun l hl => by
      obtain ⟨x, hx, rfl⟩ := List.mem_map.mp (List.mem_reverse.mp hl)
      exact h.nms x hx
    ct := by show p.cols.length = (p.told.map g).length; rw [List.length_map]; exact h.ct
    wd := fun l hl => by
      obtain ⟨x, hx, rfl⟩ := List.mem_map.mp (List.mem_reverse.mp hl)
      show (x.2.map g).length = _
      rw [List.length_map]
      exact h.wd x hx
    seven := by show ((p.lines.map _).reverse).length ≤ 7; rw [List.length_reverse, List.length_map]; exact h.seven
    ne := fun e => h.ne (by
      have e2 : ((p.lines.map fun l => (l.1, l.2.map g)).reverse) = [] := e
      rw [List.reverse_eq_nil_iff, List.map_eq_nil_iff] at e2
      exact e2)
    two := h.two }
end L2.PL
end
section
set_option maxRecDepth 100000
set_option maxHeartbeats 2000000
/-! k59, part ZM: sums, the told dict, sorted entries. -/
namespace L2.PL
open PySem
theorem vals_dC (cs : CV) : intsD ((dC cs).map fun p => p.2) = some (cs.map (·.2)) := by
  have : (dC cs).map (fun p => p.2) = (cs.map (·.2)).map D.int := by simp [dC, Function.comp]
  rw [this, intsD_map]
theorem items_dC (cs : CV) : biD .litems (.dic true (dC cs)) = some (.lst (cs.map entD)) := by
  simp only [biD, dC, List.map_map, Option.some.injEq, D.lst.injEq]
  exact List.map_congr_left fun q _ => by show D.tup [toD (tk q.1), .int q.2] = _; rw [toD_tk]
theorem keys_dC (cs : CV) : itemsD (.dic true (dC cs)) = some (cs.map fun p => tI p.1) := by
  simp only [itemsD, dC, List.map_map, Option.some.injEq]
  exact List.map_congr_left fun q _ => toD_tk q.1
theorem idx_dC {cs : CV} (n : (cs.map (·.1)).Nodup) {p : List Int × Int} (h : p ∈ cs) : idxD (.dic true (dC cs)) (tI p.1) = some (.int p.2) := by
  have k1 := keyOf_tI p.1
  have k2 := ok_tk p.1
  simp only [idxD, k1, k2, if_true, look_dC, lookC_mem n h, Option.map_some]
theorem plain_ents {cs : CV} {xs : List D} (h : xs.Perm (cs.map entD)) (hl : cs.length ≤ 100000) (hw : ∀ p ∈ cs, p.1.length ≤ 1000) : plainD 4 (.lst xs) = true := by
  simp only [plainD, Bool.and_eq_true, decide_eq_true_eq]
  refine ⟨?_, by rw [h.length_eq, List.length_map]; omega⟩
  rw [List.all_eq_true]
  intro x hx
  obtain ⟨p, hp, rfl⟩ := List.mem_map.mp (h.mem_iff.mp hx)
  have := hw p hp
  simp [plainD]
  omega
end L2.PL
end
section
set_option maxRecDepth 100000
set_option maxHeartbeats 4000000
/-! k59, part ZN: the end of a turn of law. -/
namespace L2.PL
open PySem
def TrueP (r : RV) : Prop := ∃ fr o, r = some (.bl true, fr, o)
theorem ev_lst2 {Φ : Fn} {io : List Nat} {ρ ρ1 ρ2 : EV} {x y : IE} {d d2 : D} {fr fr2 : Bool} (h : evE Φ io x ρ = some (d, fr, ρ1)) (h2 : evE Φ io y ρ1 = some (d2, fr2, ρ2)) : evE Φ io (.lst (.cons (.e x) (.cons (.e y) .nil))) ρ = some (.lst [d, d2], true, ρ2) := by
  rw [evE, ev_os2 h h2]
  simp only [List.map_cons, List.map_nil, dns, Option.map_some, List.length_cons, List.length_nil]
  rw [if_pos (bign _ (by decide))]
theorem law_pairs (m : Nat) (hm : 14 ≤ m) {b : IB} {P : Out → Prop} {it : II} {ρ0 : EV} {p : Pat} (hp : POk p) (hv : (vars p).length ≤ 4) {kv : KV'} (nd : (kv.map (·.1)).Nodup) (hk : kv.length ≤ 900) {ps : List Pat} (hps : ∀ x ∈ ps, POk x) {l : List Int} {S s2 s3 s4 s5 s6 s8 s9 s10 s11 s13 s14 s15 s16 s17 : Sl}
    (hi : evI (run T (m + 1)) [] it ρ0 = some (ps.map patD, [S, pkS l, s2, s3, s4, s5, s6, .val (patD p), s8, s9, s10, s11, .val (fD kv), s13, s14, s15, s16, s17])) (hL : it.isL = false)
    (done : ∀ (l : List Int) (s14 : Sl), Go (run T (m + 1)) [] b [S, pkS l, s2, s3, s4, s5, s6, .val (patD p), s8, s9, s10, s11, .val (fD kv), s13, s14, s15, s16, s17] P) :
    Go (run T (m + 1)) [] (.cons (.for (.nm 14) it (.cons (.iff (.or (.not (.e (.e (.call 26 (.cons (.e (.var 7)) (.cons (.e (.var 14)) .nil)))))) (.not (.e (.e (.call 28 (.cons (.pk 1) (.cons (.e (.var 7)) (.cons (.e (.var 14)) (.cons (.e (.var 12)) .nil))))))))) (.cons (.ret (.cst (.bl false))) .nil) .nil) .nil)) b) ρ0 P := by
  refine Go.each patD ps (fun rest ρ => ∃ (l : List Int) (s14 : Sl), ρ = [S, pkS l, s2, s3, s4, s5, s6, .val (patD p), s8, s9, s10, s11, .val (fD kv), s13, s14, s15, s16, s17] ∧ ∀ x ∈ rest, POk x) hi hL ⟨l, s14, rfl, hps⟩ ?_ ?_
  · rintro x rest ρ ⟨l, s14, rfl, hx⟩
    have hx0 := hx x List.mem_cons_self
    refine turn_of (ρ1 := [S, pkS l, s2, s3, s4, s5, s6, .val (patD p), s8, s9, s10, s11, .val (fD kv), s13, .val (patD x), s15, s16, s17]) (by simp [fin, owns, forTurn, lcTurn, dcTurn, asg, asgs, okTo, exB, exS, evT, evE, evO, evOs, evP, evI, evC, dns, rsv, rsvs, Sl.get, frz1, idxD, sliD, cmpD, eqD, inD, isNon, truD, binD, negD, biD, mtD, muTy, muD, setD, keyOf, keysOf, keyOkB, dicPairs, mkSl, isCont, wipeE, unwipe, itemsD, rngD, isTy, noLck, isOwn, mulOk]) ?_
    obtain ⟨f1, h1⟩ := r_pair m p x hp hx0 hv hm
    obtain ⟨l', f2, h2⟩ := r_judged m l p x kv hp hx0 nd hk (by omega)
    have h1' : Ans (run T (m + 1) 26 ([patD p, patD x].map .val)) (.bl true) f1 := h1
    have e1 := ev_call (io := []) (es := .cons (.e (.var 7)) (.cons (.e (.var 14)) .nil)) (ρ := [S, pkS l, s2, s3, s4, s5, s6, .val (patD p), s8, s9, s10, s11, .val (fD kv), s13, .val (patD x), s15, s16, s17]) (ev_os2 (ev_val rfl) (ev_val rfl)) h1'
    have h2' : run T (m + 1) 28 (pkS l :: [patD p, patD x, fD kv].map .val) = some (.bl true, f2, pkS l' :: [.val (patD p), .val (patD x), .val (fD kv)]) := h2
    have e2 := ev_callL (io := []) (i := 1) (es := .cons (.e (.var 7)) (.cons (.e (.var 14)) (.cons (.e (.var 12)) .nil))) (ρ := [S, pkS l, s2, s3, s4, s5, s6, .val (patD p), s8, s9, s10, s11, .val (fD kv), s13, .val (patD x), s15, s16, s17]) rfl (ev_os3 (ev_val rfl) (ev_val rfl) (ev_val rfl)) rfl h2'
    have t := t_or (t_not (t_e e1 (k := true) rfl)) (fun _ => t_not (t_e e2 (k := true) rfl)) (fun h => by cases h)
    exact Go.ifF t (Go.nil (Trn.nx ⟨l', _, rfl, fun y hy => hx y (List.mem_cons_of_mem _ hy)⟩))
  · rintro ρ ⟨l, s14, rfl, _⟩
    exact done l s14
theorem law_list (m : Nat) {p q : Pat} (hp : Small p) (hq : Small q) {l : List Int} {S s3 s4 s5 s6 s8 s9 s10 s11 s12 s14 s15 s16 s17 : Sl} :
    ∃ (ps : List Pat) (l' : List Int), evI (run T (m + 2)) [] (.it (.bin .add (.e (.bin .add (.e (.lst (.cons (.e (.var 13)) (.cons (.e (.call 21 (.cons (.pk 1) (.cons (.e (.var 2)) .nil)))) .nil)))) (.e (.call 30 (.cons (.pk 1) (.cons (.e (.var 7)) .nil)))))) (.e (.call 30 (.cons (.pk 1) (.cons (.e (.var 13)) .nil)))))) [S, pkS l, .val schD, s3, s4, s5, s6, .val (patD p), s8, s9, s10, s11, s12, .val (patD q), s14, s15, s16, s17] = some (ps.map patD, [S, pkS l', .val schD, s3, s4, s5, s6, .val (patD p), s8, s9, s10, s11, s12, .val (patD q), s14, s15, s16, s17]) ∧ ∀ x ∈ ps, POk x := by
  obtain ⟨a, l1, f1, h1, ha⟩ := r_drawn m l
  obtain ⟨ps2, l2, f2, h2, k2, z2⟩ := r_near m l1 p hp
  obtain ⟨ps3, l3, f3, h3, k3, z3⟩ := r_near m l2 q hq
  refine ⟨[q, a] ++ ps2 ++ ps3, l3, ?_, ?_⟩
  · have e1 := ev_callL (io := []) (i := 1) (es := .cons (.e (.var 2)) .nil) (ds := [schD]) (ρ := [S, pkS l, .val schD, s3, s4, s5, s6, .val (patD p), s8, s9, s10, s11, s12, .val (patD q), s14, s15, s16, s17]) rfl (ev_os1 (ev_val rfl)) rfl h1
    have e2 := ev_callL (io := []) (i := 1) (es := .cons (.e (.var 7)) .nil) (ds := [patD p]) (ρ := [S, pkS l1, .val schD, s3, s4, s5, s6, .val (patD p), s8, s9, s10, s11, s12, .val (patD q), s14, s15, s16, s17]) rfl (ev_os1 (ev_val rfl)) rfl h2
    have e3 := ev_callL (io := []) (i := 1) (es := .cons (.e (.var 13)) .nil) (ds := [patD q]) (ρ := [S, pkS l2, .val schD, s3, s4, s5, s6, .val (patD p), s8, s9, s10, s11, s12, .val (patD q), s14, s15, s16, s17]) rfl (ev_os1 (ev_val rfl)) rfl h3
    have a1 := ev_lst2 (io := []) (x := .var 13) (ρ := [S, pkS l, .val schD, s3, s4, s5, s6, .val (patD p), s8, s9, s10, s11, s12, .val (patD q), s14, s15, s16, s17]) (ev_val rfl) e1
    have a2 := ev_bin (o := .add) (d' := .lst (([q, a] ++ ps2).map patD)) a1 e2 (by
      simp only [binD, List.length_map, List.length_cons, List.length_nil, List.map_append, List.map_cons, List.map_nil]
      rw [if_pos (bign _ (by omega))])
    have a3 := ev_bin (o := .add) (d' := .lst (([q, a] ++ ps2 ++ ps3).map patD)) a2 e3 (by
      simp only [binD, List.length_map, List.length_append, List.length_cons, List.length_nil, List.map_append (l₁ := [q, a] ++ ps2)]
      rw [if_pos (bign _ (by omega))])
    exact ev_it a3 rfl
  · intro x hx
    rcases List.mem_append.mp hx with z | z
    · rcases List.mem_append.mp z with z | z
      · simp only [List.mem_cons, List.not_mem_nil, or_false] at z
        rcases z with rfl | rfl
        · exact hq.toPOk
        · exact ha.toPOk
      · exact k2 x z
    · exact k3 x z
end L2.PL
end
section
set_option maxRecDepth 100000
set_option maxHeartbeats 4000000
/-! k59, part ZO: the variables exchanged. -/
namespace L2.PL
open PySem
def spL : List (List Int) := [[-1, -2, -3], [-3, -1, -2], [-20, -5, -1]]
abbrev spD : D := .lst (spL.map fun s => .lst (s.map .int))
abbrev spE : IE := .lst (.cons (.e (.lst (.cons (.e (.neg (.e (.cst (.int 1))))) (.cons (.e (.neg (.e (.cst (.int 2))))) (.cons (.e (.neg (.e (.cst (.int 3))))) .nil))))) (.cons (.e (.lst (.cons (.e (.neg (.e (.cst (.int 3))))) (.cons (.e (.neg (.e (.cst (.int 1))))) (.cons (.e (.neg (.e (.cst (.int 2))))) .nil))))) (.cons (.e (.lst (.cons (.e (.neg (.e (.cst (.int 20))))) (.cons (.e (.neg (.e (.cst (.int 5))))) (.cons (.e (.neg (.e (.cst (.int 1))))) .nil))))) .nil)))
theorem ev_sp (Φ : Fn) (io : List Nat) (ρ : EV) : evE Φ io spE ρ = some (spD, true, ρ) := by
  simp [fin, owns, forTurn, lcTurn, dcTurn, asg, asgs, okTo, exB, exS, evT, evE, evO, evOs, evP, evI, evC, dns, rsv, rsvs, Sl.get, frz1, idxD, sliD, cmpD, eqD, inD, isNon, truD, binD, negD, biD, mtD, muTy, muD, setD, keyOf, keysOf, keyOkB, dicPairs, mkSl, isCont, wipeE, unwipe, itemsD, rngD, isTy, noLck, isOwn, mulOk, bign, spL]
theorem idx_sp {k : Nat} (hk : k < 3) : ∃ sp : List Int, sp.length = 3 ∧ idxD spD (.int k) = some (.lst (sp.map .int)) := by
  have : k = 0 ∨ k = 1 ∨ k = 2 := by omega
  rcases this with rfl | rfl | rfl
  · exact ⟨[-1, -2, -3], rfl, by simp [idxD, spL, L2.atI, L2.ixN]⟩
  · exact ⟨[-3, -1, -2], rfl, by simp [idxD, spL, L2.atI, L2.ixN]⟩
  · exact ⟨[-20, -5, -1], rfl, by simp [idxD, spL, L2.atI, L2.ixN]⟩
theorem getD_at {l : List Int} {k : Nat} (h : k < l.length) : L2.atI (l.map D.int) (0 + (k : Int)) = some (.int (l.getD k 0)) := by
  rw [Int.zero_add, getI h]
  simp [List.getD, h]
theorem law_rest (m : Nat) (hm : 14 ≤ m) {P : Out → Prop} {p : Pat} (hp : DrawnOk p) {l : List Int} {S s3 s4 s5 s6 s8 s9 s10 s11 s12 s13 s14 s15 s16 s17 : Sl}
    (done : ∀ (l : List Int) (s10 s11 s12 s13 s14 s15 s16 s17 : Sl), P (.nxt [S, pkS l, .val schD, s3, s4, s5, s6, .val (patD p), s8, s9, s10, s11, s12, s13, s14, s15, s16, s17])) :
    Go (run T (m + 3)) [] (.cons (.set 10 (.call 22 (.cons (.e (.var 7)) .nil)))
  (.cons (.set 11 (.idx (.e spE) (.e (.bin .mod (.e (.call 13 (.cons (.pk 1) .nil))) (.e (.cst (.int 3)))))))
  (.cons (.set 12 (.bi (.dict false) (.e (.lc [16] (.nm 16) (.rng (.cons (.e (.bi .len (.pk 10))) .nil)) .no (.tup (.cons (.e (.idx (.pk 10) (.pk 16))) (.cons (.e (.idx (.pk 11) (.pk 16))) .nil)))))))
  (.cons (.set 13 (.call 23 (.cons (.e (.var 12)) (.cons (.e (.var 7)) .nil))))
  (.cons (.set 13 (.tup (.cons (.e (.idx (.pk 13) (.e (.cst (.int 0))))) (.cons (.e (.idx (.pk 13) (.e (.cst (.int 1))))) (.cons (.e (.rev (.e (.idx (.pk 13) (.e (.cst (.int 2))))))) .nil)))))
  (.cons (.for (.nm 14) (.it (.bin .add (.e (.bin .add (.e (.lst (.cons (.e (.var 13)) (.cons (.e (.call 21 (.cons (.pk 1) (.cons (.e (.var 2)) .nil)))) .nil)))) (.e (.call 30 (.cons (.pk 1) (.cons (.e (.var 7)) .nil)))))) (.e (.call 30 (.cons (.pk 1) (.cons (.e (.var 13)) .nil)))))) (.cons (.iff (.or (.not (.e (.e (.call 26 (.cons (.e (.var 7)) (.cons (.e (.var 14)) .nil)))))) (.not (.e (.e (.call 28 (.cons (.pk 1) (.cons (.e (.var 7)) (.cons (.e (.var 14)) (.cons (.e (.var 12)) .nil))))))))) (.cons (.ret (.cst (.bl false)))
  .nil) .nil)
  .nil))
  .nil)))))) [S, pkS l, .val schD, s3, s4, s5, s6, .val (patD p), s8, s9, s10, s11, s12, s13, s14, s15, s16, s17] P := by
  have hv3 := (drawn_vars hp).2
  have hs : Small p := hp.toSmall
  have hf : Few p := hp.toPOk.toFew
  have hvr : Ans (run T (m + 3) 22 ([patD p].map .val)) (.lst ((vars p).map .int)) true := r_vars (m + 1) p hf
  refine Go.set (ev_call (ρ1 := [S, pkS l, .val schD, s3, s4, s5, s6, .val (patD p), s8, s9, s10, s11, s12, s13, s14, s15, s16, s17]) (ev_os1 (ev_val rfl)) hvr) (by rfl) ?_
  show Go _ _ _ [S, pkS l, .val schD, s3, s4, s5, s6, .val (patD p), s8, s9, .own (.lst ((vars p).map .int)), s11, s12, s13, s14, s15, s16, s17] _
  obtain ⟨k, l1, hk, p1⟩ := ev_pickmod (n := m + 2) (io := []) (i := 1) (l := l) (ρ := [S, pkS l, .val schD, s3, s4, s5, s6, .val (patD p), s8, s9, .own (.lst ((vars p).map .int)), s11, s12, s13, s14, s15, s16, s17]) 3 (by decide) rfl
  obtain ⟨sp, hsp, hix⟩ := idx_sp hk
  refine Go.set (ev_idx (ev_sp _ _ _) p1 hix) (by rfl) ?_
  show Go _ _ _ [S, pkS l1, .val schD, s3, s4, s5, s6, .val (patD p), s8, s9, .own (.lst ((vars p).map .int)), .val (.lst (sp.map .int)), s12, s13, s14, s15, s16, s17] _
  generalize hvs : vars p = vs at *
  have r1 := ev_rng (Φ := run T (m + 3)) (io := []) (x := .bi .len (.pk 10)) (k := vs.length) (fr := true) (ρ := [S, pkS l1, .val schD, s3, s4, s5, s6, .val (patD p), s8, s9, .own (.lst (vs.map .int)), .val (.lst (sp.map .int)), s12, s13, s14, s15, s16, s17]) (ρ1 := [S, pkS l1, .val schD, s3, s4, s5, s6, .val (patD p), s8, s9, .own (.lst (vs.map .int)), .val (.lst (sp.map .int)), s12, s13, s14, s15, s16, s17]) (by omega) (by simp [fin, owns, forTurn, lcTurn, dcTurn, asg, asgs, okTo, exB, exS, evT, evE, evO, evOs, evP, evI, evC, dns, rsv, rsvs, Sl.get, frz1, idxD, sliD, cmpD, eqD, inD, isNon, truD, binD, negD, biD, mtD, muTy, muD, setD, keyOf, keysOf, keyOkB, dicPairs, mkSl, isCont, wipeE, unwipe, itemsD, rngD, isTy, noLck, isOwn, mulOk])
  have c1 := ev_lcM (Φ := run T (m + 3)) (io := []) (vs := [16]) (g := .nm 16) (c := .no) (x := .tup (.cons (.e (.idx (.pk 10) (.pk 16))) (.cons (.e (.idx (.pk 11) (.pk 16))) .nil))) (fun k : Nat => D.int (0 + (k : Int))) (fun k : Nat => prD (vs.getD k 0, sp.getD k 0)) (List.range vs.length) r1 (by rfl) (by rw [List.length_range]; omega) (fun k hk => by
    rw [List.mem_range] at hk
    have a1 := getD_at hk
    have a2 := getD_at (l := sp) (k := k) (by omega)
    refine lc_no (ρ1 := [S, pkS l1, .val schD, s3, s4, s5, s6, .val (patD p), s8, s9, .own (.lst (vs.map .int)), .val (.lst (sp.map .int)), s12, s13, s14, s15, .val (.int (0 + (k : Int))), s17]) (fr := false) (ρ2 := [S, pkS l1, .val schD, s3, s4, s5, s6, .val (patD p), s8, s9, .own (.lst (vs.map .int)), .val (.lst (sp.map .int)), s12, s13, s14, s15, .val (.int (0 + (k : Int))), s17]) (by rfl) ?_ (by rfl)
    refine ev_tup2 (d := .int (vs.getD k 0)) (fr := false) (d2 := .int (sp.getD k 0)) (fr2 := false) (ρ1 := [S, pkS l1, .val schD, s3, s4, s5, s6, .val (patD p), s8, s9, .own (.lst (vs.map .int)), .val (.lst (sp.map .int)), s12, s13, s14, s15, .val (.int (0 + (k : Int))), s17]) ?_ ?_
    · simp only [evE, evO, rsv, Sl.get, List.getElem?_cons_succ, List.getElem?_cons_zero, idxD, a1, Option.map_some]
    · simp only [evE, evO, rsv, Sl.get, List.getElem?_cons_succ, List.getElem?_cons_zero, idxD, a2, Option.map_some])
  have ep : (List.range vs.length).map (fun k : Nat => prD (vs.getD k 0, sp.getD k 0)) = ((List.range vs.length).map fun k : Nat => ((vs.getD k 0, sp.getD k 0) : Int × Int)).map prD := by rw [List.map_map]; rfl
  rw [ep] at c1
  have hnd := ofP_nodup ((List.range vs.length).map fun k : Nat => ((vs.getD k 0, sp.getD k 0) : Int × Int))
  have hln := ofP_len ((List.range vs.length).map fun k : Nat => ((vs.getD k 0, sp.getD k 0) : Int × Int))
  rw [List.length_map, List.length_range] at hln
  refine Go.set (ev_bi (b := .dict false) c1 (dict_prs _)) (by rfl) ?_
  generalize ofP ((List.range vs.length).map fun k : Nat => ((vs.getD k 0, sp.getD k 0) : Int × Int)) = kv at *
  show Go _ _ _ [S, pkS l1, .val schD, s3, s4, s5, s6, .val (patD p), s8, s9, .own (.lst (vs.map .int)), .val (.lst (sp.map .int)), .own (fD kv), s13, s14, s15, s16, s17] _
  have hpt : Ans (run T (m + 3) 23 ([fD kv, patD p].map .val)) (patD (putP (apI kv) p)) false := r_put (m + 2) kv p hf
  have v12 : evE (run T (m + 3)) [] (.var 12) [S, pkS l1, .val schD, s3, s4, s5, s6, .val (patD p), s8, s9, .own (.lst (vs.map .int)), .val (.lst (sp.map .int)), .own (fD kv), s13, s14, s15, s16, s17] = some (fD kv, false, [S, pkS l1, .val schD, s3, s4, s5, s6, .val (patD p), s8, s9, .own (.lst (vs.map .int)), .val (.lst (sp.map .int)), .val (fD kv), s13, s14, s15, s16, s17]) := by
    rw [evE, frz1]
    rfl
  refine Go.set (ev_call (ev_os2 v12 (ev_val rfl)) hpt) (by rfl) ?_
  have hq : Small (revP (putP (apI kv) p)) := small_put hs _
  have eq : patD (revP (putP (apI kv) p)) = .tup [.tup (p.cols.map .str), tI (p.told.map (apI kv)), .tup ((putP (apI kv) p).lines.reverse.map lineD)] := rfl
  show Go _ _ _ [S, pkS l1, .val schD, s3, s4, s5, s6, .val (patD p), s8, s9, .own (.lst (vs.map .int)), .val (.lst (sp.map .int)), .val (fD kv), .val (patD (putP (apI kv) p)), s14, s15, s16, s17] _
  have t13 : ∀ r : EV, r[13]? = some (.val (patD (putP (apI kv) p))) → evE (run T (m + 3)) [] (.tup (.cons (.e (.idx (.pk 13) (.e (.cst (.int 0))))) (.cons (.e (.idx (.pk 13) (.e (.cst (.int 1))))) (.cons (.e (.rev (.e (.idx (.pk 13) (.e (.cst (.int 2))))))) .nil)))) r = some (patD (revP (putP (apI kv) p)), false, r) := fun r h => by
    refine ev_tup3 (d := .tup (p.cols.map .str)) (fr := false) (ρ1 := r) (d2 := tI (p.told.map (apI kv))) (fr2 := false) (ρ2 := r) (d3 := .tup ((putP (apI kv) p).lines.reverse.map lineD)) (fr3 := true) ?_ ?_ ?_
    · simp only [evE, evO, h, rsv, Sl.get, idxD, atI_0, Option.map_some]; rfl
    · simp only [evE, evO, h, rsv, Sl.get, idxD, atI_1, Option.map_some]; rfl
    · simp only [evE, evO, h, rsv, Sl.get, idxD, atI_2, Option.map_some, revD, List.map_reverse]
  refine Go.set (t13 _ rfl) (by rfl) ?_
  show Go _ _ _ [S, pkS l1, .val schD, s3, s4, s5, s6, .val (patD p), s8, s9, .own (.lst (vs.map .int)), .val (.lst (sp.map .int)), .val (fD kv), .val (patD (revP (putP (apI kv) p))), s14, s15, s16, s17] _
  obtain ⟨ps, l2, hi, hok⟩ := law_list (m + 1) (l := l1) (S := S) (s3 := s3) (s4 := s4) (s5 := s5) (s6 := s6) (s8 := s8) (s9 := s9) (s10 := .own (.lst (vs.map .int))) (s11 := .val (.lst (sp.map .int))) (s12 := .val (fD kv)) (s14 := s14) (s15 := s15) (s16 := s16) (s17 := s17) hs hq
  exact law_pairs (m + 2) (by omega) hs.toPOk (by rw [hvs]; omega) hnd (by omega) hok hi rfl fun l s14 => Go.nil (done _ _ _ _ _ _ _ _ _)
end L2.PL
end
section
set_option maxRecDepth 100000
set_option maxHeartbeats 4000000
/-! k59, part ZP: law. -/
namespace L2.PL
open PySem
theorem counts_keys {fs : List KV'} {told : List Int} : ∀ q ∈ counts fs told, q.1.length = told.length := by
  unfold counts
  have : ∀ (ks : List (List Int)) (cs : CV), (∀ k ∈ ks, k.length = told.length) → (∀ q ∈ cs, q.1.length = told.length) → ∀ q ∈ ks.foldl bump cs, q.1.length = told.length := fun ks => by
    induction ks with
    | nil => exact fun cs _ h => h
    | cons k ks ih =>
      intro cs hk h
      refine ih _ (fun x hx => hk x (List.mem_cons_of_mem _ hx)) fun q hq => ?_
      unfold bump putC at hq
      split at hq
      · obtain ⟨x, hx, rfl⟩ := List.mem_map.mp hq
        split <;> exact h x hx
      · rcases List.mem_append.mp hq with z | z
        · exact h q z
        · rw [List.mem_singleton] at z
          subst z
          exact hk k List.mem_cons_self
  refine this _ [] (fun k hk => ?_) (fun q hq => by cases hq)
  obtain ⟨f, _, rfl⟩ := List.mem_map.mp hk
  unfold rowOf
  rw [List.length_map]
theorem r_law (n : Nat) (hn : 30 ≤ n) (ns : List Int) : TrueP (run T (n + 6) 31 [.val (.lst (ns.map .int))]) := by
  rw [run_at (d := df31) rfl rfl]
  show Go (run T (n + 5)) [] df31.body [.val (.lst (ns.map .int)), .un, .un, .un, .un, .un, .un, .un, .un, .un, .un, .un, .un, .un, .un, .un, .un, .un] (fun o => TrueP (fin [.val (.lst (ns.map .int))] o))
  generalize hS : Sl.val (.lst (ns.map .int)) = S at *
  have vS : ∀ (Φ : Fn) (io : List Nat) (r : EV), r[0]? = some S → evE Φ io (.var 0) r = some (.lst (ns.map .int), false, r) := fun Φ io r h => ev_val (by rw [h, ← hS])
  obtain ⟨ds, _, hds⟩ := r_picks (n + 2) ns 0 140 (by decide)
  have hds' : Ans (run T (n + 5) 14 ([D.lst (ns.map .int), .int 0, .int 140].map .val)) (.lst (ds.map .int)) true := hds
  refine Go.set (ev_call (ev_os3 (vS _ _ _ rfl) ev_cst ev_cst) hds') (by rfl) ?_
  show Go _ _ _ [S, pkS ds, .un, .un, .un, .un, .un, .un, .un, .un, .un, .un, .un, .un, .un, .un, .un, .un] _
  have e2 : evE (run T (n + 5)) [] (.dic false (.cons (.e (.cst (.str (Str.ofString "r")))) (.cons (.e (.tup (.cons (.e (.cst (.str (Str.ofString "a")))) (.cons (.e (.cst (.str (Str.ofString "b")))) (.cons (.e (.cst (.str (Str.ofString "c")))) .nil))))) (.cons (.e (.cst (.str (Str.ofString "s")))) (.cons (.e (.tup (.cons (.e (.cst (.str (Str.ofString "c")))) (.cons (.e (.cst (.str (Str.ofString "d")))) .nil)))) (.cons (.e (.cst (.str (Str.ofString "t")))) (.cons (.e (.tup (.cons (.e (.cst (.str (Str.ofString "b")))) (.cons (.e (.cst (.str (Str.ofString "d")))) (.cons (.e (.cst (.str (Str.ofString "e")))) .nil))))) .nil))))))) [S, pkS ds, .un, .un, .un, .un, .un, .un, .un, .un, .un, .un, .un, .un, .un, .un, .un, .un] = some (schD, true, [S, pkS ds, .un, .un, .un, .un, .un, .un, .un, .un, .un, .un, .un, .un, .un, .un, .un, .un]) := by
    have rs : sR ≠ sS := str_ne (by decide)
    have rt : sR ≠ sT := str_ne (by decide)
    have st : sS ≠ sT := str_ne (by decide)
    simp [fin, owns, forTurn, lcTurn, dcTurn, asg, asgs, okTo, exB, exS, evT, evE, evO, evOs, evP, evI, evC, dns, rsv, rsvs, Sl.get, frz1, idxD, sliD, cmpD, eqD, inD, isNon, truD, binD, negD, biD, mtD, muTy, muD, setD, keyOf, keysOf, keyOkB, dicPairs, mkSl, isCont, wipeE, unwipe, itemsD, rngD, isTy, noLck, isOwn, mulOk, bign, mrg, put, look, schK, rs, rt, st]
  refine Go.set e2 (by rfl) ?_
  show Go _ _ _ [S, pkS ds, .own schD, .un, .un, .un, .un, .un, .un, .un, .un, .un, .un, .un, .un, .un, .un, .un] _
  have l3 := ev_lcM (Φ := run T (n + 5)) (io := []) (vs := [15]) (g := .nm 15) (it := .it (.lst (.cons (.e (.cst (.str (Str.ofString "r")))) (.cons (.e (.cst (.str (Str.ofString "s")))) (.cons (.e (.cst (.str (Str.ofString "t")))) .nil))))) (c := .no) (x := .tup (.cons (.e (.var 15)) (.cons (.e (.idx (.pk 2) (.pk 15))) (.cons (.e (.tup .nil)) .nil)))) (ρ := [S, pkS ds, .own schD, .un, .un, .un, .un, .un, .un, .un, .un, .un, .un, .un, .un, .un, .un, .un]) (ρ1 := [S, pkS ds, .own schD, .un, .un, .un, .un, .un, .un, .un, .un, .un, .un, .un, .un, .un, .un, .un]) (fun p : Str × List String => D.str p.1) entS NM (by simp [fin, owns, forTurn, lcTurn, dcTurn, asg, asgs, okTo, exB, exS, evT, evE, evO, evOs, evP, evI, evC, dns, rsv, rsvs, Sl.get, frz1, idxD, sliD, cmpD, eqD, inD, isNon, truD, binD, negD, biD, mtD, muTy, muD, setD, keyOf, keysOf, keyOkB, dicPairs, mkSl, isCont, wipeE, unwipe, itemsD, rngD, isTy, noLck, isOwn, mulOk, bign, NM]) (by rfl) (by decide) (fun p hp => by
    have hl : look schK (.text p.1) = some (strsD p.2) := by
      have rs : sR ≠ sS := str_ne (by decide)
      have rt : sR ≠ sT := str_ne (by decide)
      have st : sS ≠ sT := str_ne (by decide)
      simp only [NM, List.mem_cons, List.not_mem_nil, or_false] at hp
      rcases hp with rfl | rfl | rfl <;> simp [look, schK, rs, rt, st]
    exact lc_no (ρ1 := [S, pkS ds, .own schD, .un, .un, .un, .un, .un, .un, .un, .un, .un, .un, .un, .un, .val (.str p.1), .un, .un]) (fr := false) (ρ2 := [S, pkS ds, .own schD, .un, .un, .un, .un, .un, .un, .un, .un, .un, .un, .un, .un, .val (.str p.1), .un, .un]) (by simp [fin, owns, forTurn, lcTurn, dcTurn, asg, asgs, okTo, exB, exS, evT, evE, evO, evOs, evP, evI, evC, dns, rsv, rsvs, Sl.get, frz1, idxD, sliD, cmpD, eqD, inD, isNon, truD, binD, negD, biD, mtD, muTy, muD, setD, keyOf, keysOf, keyOkB, dicPairs, mkSl, isCont, wipeE, unwipe, itemsD, rngD, isTy, noLck, isOwn, mulOk]) (by simp [fin, owns, forTurn, lcTurn, dcTurn, asg, asgs, okTo, exB, exS, evT, evE, evO, evOs, evP, evI, evC, dns, rsv, rsvs, Sl.get, frz1, idxD, sliD, cmpD, eqD, inD, isNon, truD, binD, negD, biD, mtD, muTy, muD, setD, keyOf, keysOf, keyOkB, dicPairs, mkSl, isCont, wipeE, unwipe, itemsD, rngD, isTy, noLck, isOwn, mulOk, bign, hl]) (by rfl))
  have b3 := ev_bi (b := .tuple) l3 (d' := .tup (NM.map entS)) rfl
  have t3 := ev_tup2 b3 (show evE (run T (n + 5)) [] (.tup .nil) _ = some (.tup [], false, _) by simp [evE, evOs, dns]; rfl)
  refine Go.set t3 (by rfl) ?_
  show Go _ _ _ [S, pkS ds, .own schD, .val sch3, .un, .un, .un, .un, .un, .un, .un, .un, .un, .un, .un, .un, .un, .un] _
  obtain ⟨tabs, h3, hok, ft, htab⟩ := r_tables n ns 1
  have htab' : Ans (run T (n + 5) 18 ([D.lst (ns.map .int), .int 1, sch3, .int 2].map .val)) (.dic false (tk3 tabs)) ft := htab
  refine Go.set (ev_call (ρ1 := [S, pkS ds, .own schD, .val sch3, .un, .un, .un, .un, .un, .un, .un, .un, .un, .un, .un, .un, .un, .un]) (by
    rw [evOs, evO, vS _ _ _ rfl]
    simp only [Option.map_some]
    exact congrArg _ (ev_os3 ev_cst (ev_val rfl) ev_cst)) htab') (by rfl) ?_
  have hs4 := mk_hold ft (.dic false (tk3 tabs))
  show Go _ _ _ [S, pkS ds, .own schD, .val sch3, mkSl ft (.dic false (tk3 tabs)), .un, .un, .un, .un, .un, .un, .un, .un, .un, .un, .un, .un, .un] _
  generalize mkSl ft (.dic false (tk3 tabs)) = s4 at *
  have hnmS : ∀ p ∈ NM.zip tabs, okS p.1.1 := fun p hp => by
    have := (List.of_mem_zip hp).1
    simp only [NM, List.mem_cons, List.not_mem_nil, or_false] at this
    rcases this with h | h | h <;> rw [h] <;> exact okS_of _
  have hzl : (NM.zip tabs).length ≤ 1000 := by rw [List.length_zip]; simp only [NM, List.length_cons, List.length_nil]; omega
  have hsort := sortD_its hnmS hzl
  have eSort : ∀ r : EV, (∃ s, r[4]? = some s ∧ Hold s (.dic false (tk3 tabs))) → evE (run T (n + 5)) [] (.bi .sorted (.e (.bi .litems (.pk 4)))) r = some (.lst (((NM.zip tabs).map itD).mergeSort leD), true, r) := fun r ⟨s, hr, hs⟩ => by
    have e1 := items_tk3 tabs
    refine ev_bi (d := .lst ((NM.zip tabs).map itD)) (fr := true) ?_ (by simp only [biD, hsort, Option.map_some])
    rcases hs with rfl | rfl <;> simp only [evE, evO, hr, rsv, Sl.get, e1, Option.map_some]
  have hMp : Pl 64 (.lst (((NM.zip tabs).map itD).mergeSort leD)) := Pl.lst (k := 63) fun x hx => by
    obtain ⟨p, hp, rfl⟩ := List.mem_map.mp ((List.mergeSort_perm _ _).mem_iff.mp hx)
    exact (pl_it p (hnmS p hp)).mono (by omega)
  refine Go.set (eSort _ ⟨_, rfl, hs4⟩) (by rfl) ?_
  show Go _ _ _ [S, pkS ds, .own schD, .val sch3, s4, .own (.lst (((NM.zip tabs).map itD).mergeSort leD)), .un, .un, .un, .un, .un, .un, .un, .un, .un, .un, .un, .un] _
  generalize (((NM.zip tabs).map itD).mergeSort leD) = M at *
  have r5 : evI (run T (n + 5)) [] (.rng (.cons (.e (.cst (.int 5))) .nil)) [S, pkS ds, .own schD, .val sch3, s4, .own (.lst M), .un, .un, .un, .un, .un, .un, .un, .un, .un, .un, .un, .un] = some (rangeD 0 5, [S, pkS ds, .own schD, .val sch3, s4, .own (.lst M), .un, .un, .un, .un, .un, .un, .un, .un, .un, .un, .un, .un]) := ev_rng (k := 5) (by decide) ev_cst
  refine Go.rng 5 (fun _ ρ => ∃ (l : List Int) (s2 s4 s6 s7 s8 s9 s10 s11 s12 s13 s14 s15 s16 s17 : Sl), ρ = [S, pkS l, s2, .val sch3, s4, .own (.lst M), s6, s7, s8, s9, s10, s11, s12, s13, s14, s15, s16, s17] ∧ Hold s2 schD ∧ Hold s4 (.dic false (tk3 tabs))) r5 rfl ⟨ds, _, _, _, _, _, _, _, _, _, _, _, _, _, _, rfl, .inl rfl, hs4⟩ ?_ ?_
  · rintro j ρ hj ⟨l, s2, s4, s6, s7, s8, s9, s10, s11, s12, s13, s14, s15, s16, s17, rfl, h2, h4⟩
    refine turn_of (ρ1 := [S, pkS l, s2, .val sch3, s4, .own (.lst M), .val (.int j), s7, s8, s9, s10, s11, s12, s13, s14, s15, s16, s17]) (by simp [fin, owns, forTurn, lcTurn, dcTurn, asg, asgs, okTo, exB, exS, evT, evE, evO, evOs, evP, evI, evC, dns, rsv, rsvs, Sl.get, frz1, idxD, sliD, cmpD, eqD, inD, isNon, truD, binD, negD, biD, mtD, muTy, muD, setD, keyOf, keysOf, keyOkB, dicPairs, mkSl, isCont, wipeE, unwipe, itemsD, rngD, isTy, noLck, isOwn, mulOk]) ?_
    obtain ⟨p, l1, f7, hdr, dr⟩ := r_drawn (n + 3) l
    have v2 : ∀ (l : List Int) (s4 s7 s8 s9 s10 s11 s12 s13 s14 s15 s16 s17 s2 : Sl), Hold s2 schD → evE (run T (n + 5)) [] (.var 2) [S, pkS l, s2, .val sch3, s4, .own (.lst M), .val (.int j), s7, s8, s9, s10, s11, s12, s13, s14, s15, s16, s17] = some (schD, false, [S, pkS l, .val schD, .val sch3, s4, .own (.lst M), .val (.int j), s7, s8, s9, s10, s11, s12, s13, s14, s15, s16, s17]) := fun l s4 s7 s8 s9 s10 s11 s12 s13 s14 s15 s16 s17 s2 h => by rcases h with rfl | rfl <;> simp [evE, frz1]
    refine Go.set (ev_callL (ds := [schD]) rfl (ev_os1 (v2 _ _ _ _ _ _ _ _ _ _ _ _ _ _ h2)) rfl hdr) (by rfl) ?_
    show Go _ _ _ [S, pkS l1, .val schD, .val sch3, s4, .own (.lst M), .val (.int j), mkSl f7 (patD p), s8, s9, s10, s11, s12, s13, s14, s15, s16, s17] _
    have e7 : mkSl f7 (patD p) = .val (patD p) := by cases f7 <;> rfl
    rw [e7]
    have tok := tab_ok h3 hok dr
    have bnd := drawn_bnd h3 hok dr
    have htl : p.told.length ≤ 1000 := by have := dr.told; omega
    have hct := r_counted (n := n + 2) p tok bnd htl
    have hwy := r_ways (n := n + 3) p tok bnd htl
    obtain ⟨okF, lenF⟩ := allF_ok tok
    have nodC := counts_nodup (allF (rwOf tabs) p.lines) p.told
    have lenC := counts_len (fs := allF (rwOf tabs) p.lines) (told := p.told)
    have htt := r_total (n := n + 2) p tok bnd htl
    have hkl : ∀ q ∈ counts (allF (rwOf tabs) p.lines) p.told, q.1.length ≤ 1000 := fun q hq => by rw [counts_keys q hq]; exact htl
    generalize allF (rwOf tabs) p.lines = F at *
    generalize counts F p.told = cs at *
    have klen : ∀ q ∈ cs, q.1.length ≤ 1000 := hkl
    have lenC2 : cs.length ≤ 100000 := by omega
    have hct' : Ans (run T (n + 5) 29 ([D.dic false (tk3 tabs), patD p].map .val)) (.dic true (dC cs)) true := hct
    have hwy' : Ans (run T (n + 5) 2 ([D.dic false (tk3 tabs), patD p].map .val)) (.dic true (dC cs)) true := hwy
    have htt' : Ans (run T (n + 5) 8 ([D.dic false (tk3 tabs), patD p].map .val)) (.int (cs.map (·.2)).sum) true := htt
    have hsE := sortD_ents (cs := cs) lenC2
    have plE := plain_ents (List.mergeSort_perm (cs.map entD) leD) lenC2 klen
    have hE : Pl 64 (.lst ((cs.map entD).mergeSort leD)) := Pl.lst (k := 63) fun x hx => by
      obtain ⟨q, hq, rfl⟩ := List.mem_map.mp ((List.mergeSort_perm _ _).mem_iff.mp hx)
      exact (pl_ent (p := q)).mono (by omega)
    generalize hME : (cs.map entD).mergeSort leD = ME at *
    have v4 : evE (run T (n + 5)) [] (.var 4) [S, pkS l1, .val schD, .val sch3, s4, .own (.lst M), .val (.int j), .val (patD p), s8, s9, s10, s11, s12, s13, s14, s15, s16, s17] = some (.dic false (tk3 tabs), false, [S, pkS l1, .val schD, .val sch3, .val (.dic false (tk3 tabs)), .own (.lst M), .val (.int j), .val (patD p), s8, s9, s10, s11, s12, s13, s14, s15, s16, s17]) := by rcases h4 with rfl | rfl <;> rw [evE, frz1] <;> rfl
    refine Go.set (ev_call (ev_os2 v4 (ev_val rfl)) hct') (by rfl) ?_
    show Go _ _ _ [S, pkS l1, .val schD, .val sch3, .val (.dic false (tk3 tabs)), .own (.lst M), .val (.int j), .val (patD p), .own (.dic true (dC cs)), s9, s10, s11, s12, s13, s14, s15, s16, s17] _
    refine Go.set (ev_call (ρ1 := [S, pkS l1, .val schD, .val sch3, .val (.dic false (tk3 tabs)), .own (.lst M), .val (.int j), .val (patD p), .own (.dic true (dC cs)), s9, s10, s11, s12, s13, s14, s15, s16, s17]) (ev_os2 (ev_val rfl) (ev_val rfl)) hwy') (by rfl) ?_
    show Go _ _ _ [S, pkS l1, .val schD, .val sch3, .val (.dic false (tk3 tabs)), .own (.lst M), .val (.int j), .val (patD p), .own (.dic true (dC cs)), .own (.dic true (dC cs)), s10, s11, s12, s13, s14, s15, s16, s17] _
    have eS : ∀ (i : Nat) (r : EV), r[i]? = some (.own (.dic true (dC cs))) → evE (run T (n + 5)) [] (.bi .sorted (.e (.bi .litems (.pk i)))) r = some (.lst ME, true, r) := fun i r h => by
      have e1 := items_dC cs
      refine ev_bi (d := .lst (cs.map entD)) (fr := true) ?_ (by simp only [biD, hsE, Option.map_some])
      simp only [evE, evO, h, rsv, Sl.get, e1, Option.map_some]
    obtain ⟨f1, q1⟩ := r_same 4 (n + 5) _ plE (by omega)
    have q1' : Ans (run T (n + 5) 10 ([D.lst ME, .lst ME].map .val)) (.bl true) f1 := q1
    have i9 : ∀ r : EV, r[9]? = some (.own (.dic true (dC cs))) → evE (run T (n + 5)) [] (.bi (.isi .dict) (.pk 9)) r = some (.bl true, true, r) := fun r h => by
      simp only [evE, evO, h, rsv, Sl.get, biD, isTy, Option.map_some]
    have t1 := t_or (t_not (t_e (i9 [S, pkS l1, .val schD, .val sch3, .val (.dic false (tk3 tabs)), .own (.lst M), .val (.int j), .val (patD p), .own (.dic true (dC cs)), .own (.dic true (dC cs)), s10, s11, s12, s13, s14, s15, s16, s17] rfl) (k := true) rfl)) (fun _ => t_not (t_e (ev_call (ev_os2 (eS 9 _ rfl) (eS 8 _ rfl)) q1') (k := true) rfl)) (fun h => by cases h)
    refine Go.ifF t1 ?_
    clear t1
    have hz : (dC cs).length < bigN := by unfold dC; rw [List.length_map]; show _ < 16777216; omega
    refine Go.setI (d := .int 5) (fr := false) (kd := tI []) (fr2 := false) (o := .dic true (dC cs)) (o' := .dic true (put (dC cs) (tk []) (.int 5))) (ρ1 := [S, pkS l1, .val schD, .val sch3, .val (.dic false (tk3 tabs)), .own (.lst M), .val (.int j), .val (patD p), .own (.dic true (dC cs)), .own (.dic true (dC cs)), s10, s11, s12, s13, s14, s15, s16, s17]) (ρ2 := [S, pkS l1, .val schD, .val sch3, .val (.dic false (tk3 tabs)), .own (.lst M), .val (.int j), .val (patD p), .own (.dic true (dC cs)), .own (.dic true (dC cs)), s10, s11, s12, s13, s14, s15, s16, s17]) ev_cst rfl (by simp [evE, evOs, dns]) rfl (by
      have k1 := keyOf_tI []
      have k2 := ok_tk []
      simp only [setD, k1, k2, hz, decide_true, Bool.and_self, if_true]) ?_
    generalize (D.dic true (put (dC cs) (tk []) (.int 5))) = T9 at *
    show Go _ _ _ [S, pkS l1, .val schD, .val sch3, .val (.dic false (tk3 tabs)), .own (.lst M), .val (.int j), .val (patD p), .own (.dic true (dC cs)), .own T9, s10, s11, s12, s13, s14, s15, s16, s17] _
    have w1 := ev_call (io := []) (es := .cons (.e (.var 4)) (.cons (.e (.var 7)) .nil)) (ρ := [S, pkS l1, .val schD, .val sch3, .val (.dic false (tk3 tabs)), .own (.lst M), .val (.int j), .val (patD p), .own (.dic true (dC cs)), .own T9, s10, s11, s12, s13, s14, s15, s16, s17]) (ev_os2 (ev_val rfl) (ev_val rfl)) hwy'
    have w2 := ev_bi (b := .sorted) (ev_bi (b := .litems) w1 (items_dC cs)) (d' := .lst ME) (by simp only [biD, hsE, Option.map_some])
    refine Go.ifF (t_cmp (k := false) w2 (eS 8 _ rfl) (by simp only [cmpD, eqD_same hE, Option.map_some, Bool.not_true])) ?_
    clear w1 w2
    have w3 := ev_call (io := []) (es := .cons (.e (.var 4)) (.cons (.e (.var 7)) .nil)) (ρ := [S, pkS l1, .val schD, .val sch3, .val (.dic false (tk3 tabs)), .own (.lst M), .val (.int j), .val (patD p), .own (.dic true (dC cs)), .own T9, s10, s11, s12, s13, s14, s15, s16, s17]) (ev_os2 (ev_val rfl) (ev_val rfl)) htt'
    have i8 : evI (run T (n + 5)) [] (.it (.var 8)) [S, pkS l1, .val schD, .val sch3, .val (.dic false (tk3 tabs)), .own (.lst M), .val (.int j), .val (patD p), .own (.dic true (dC cs)), .own T9, s10, s11, s12, s13, s14, s15, s16, s17] = some (cs.map fun q => tI q.1, [S, pkS l1, .val schD, .val sch3, .val (.dic false (tk3 tabs)), .own (.lst M), .val (.int j), .val (patD p), .val (.dic true (dC cs)), .own T9, s10, s11, s12, s13, s14, s15, s16, s17]) := by
      refine ev_it (d := .dic true (dC cs)) (fr := false) ?_ (keys_dC cs)
      rw [evE, frz1]
      rfl
    have c8 := ev_lcM (Φ := run T (n + 5)) (io := []) (vs := [17]) (g := .nm 17) (c := .no) (x := .idx (.pk 8) (.pk 17)) (fun q : List Int × Int => tI q.1) (fun q => D.int q.2) cs i8 (by rfl) (by omega) (fun q hq => by
      have e := idx_dC nodC hq
      refine lc_no (fr := false) (ρ1 := [S, pkS l1, .val schD, .val sch3, .val (.dic false (tk3 tabs)), .own (.lst M), .val (.int j), .val (patD p), .val (.dic true (dC cs)), .own T9, s10, s11, s12, s13, s14, s15, s16, .val (tI q.1)]) (ρ2 := [S, pkS l1, .val schD, .val sch3, .val (.dic false (tk3 tabs)), .own (.lst M), .val (.int j), .val (patD p), .val (.dic true (dC cs)), .own T9, s10, s11, s12, s13, s14, s15, s16, .val (tI q.1)]) (by rfl) ?_ (by rfl)
      simp only [evE, evO, rsv, Sl.get, List.getElem?_cons_succ, List.getElem?_cons_zero, e, Option.map_some])
    have s8' := ev_bi (b := .sum) c8 (d' := .int (cs.map (·.2)).sum) (by
      have : cs.map (fun q => D.int q.2) = (cs.map (·.2)).map D.int := by simp [Function.comp]
      simp only [biD, this, intsD_map, Option.map_some])
    obtain ⟨f2, q2⟩ := r_same 4 (n + 5) (.int (cs.map (·.2)).sum) rfl (by omega)
    have q2' : Ans (run T (n + 5) 10 ([D.int (cs.map (·.2)).sum, .int (cs.map (·.2)).sum].map .val)) (.bl true) f2 := q2
    refine Go.ifF (t_not (t_e (ev_call (ev_os2 w3 s8') q2') (k := true) rfl)) ?_
    show Go _ _ _ [S, pkS l1, .val schD, .val sch3, .val (.dic false (tk3 tabs)), .own (.lst M), .val (.int j), .val (patD p), .val (.dic true (dC cs)), .own T9, s10, s11, s12, s13, s14, s15, s16, s17] _
    exact law_rest (n + 2) (by omega) dr fun l s10 s11 s12 s13 s14 s15 s16 s17 => Trn.nx ⟨l, _, _, _, _, _, _, _, _, _, _, _, _, _, _, rfl, .inr rfl, .inr rfl⟩
  · rintro ρ ⟨l, s2, s4, s6, s7, s8, s9, s10, s11, s12, s13, s14, s15, s16, s17, rfl, h2, h4⟩
    refine Go.retE (d := .bl true) (fr := true) (ρ1 := [S, pkS l, s2, .val sch3, s4, .own (.lst M), s6, s7, s8, s9, s10, s11, s12, s13, s14, s15, s16, s17]) ?_ ⟨_, _, rfl⟩
    have e := eqD_same hMp
    rw [evE, evO, eSort _ ⟨_, rfl, h4⟩]
    simp only [Option.map_some]
    rw [evO]
    simp only [List.getElem?_cons_succ, List.getElem?_cons_zero, rsv, Sl.get, cmpD, e, Option.map_some]
theorem law_ok (ns : List Int) (_ : ns.length ≤ 63) : ∃ fr outs, run T 40 31 [.val (.lst (ns.map .int))] = some (.bl true, fr, outs) := r_law 34 (by decide) ns
end L2.PL
end
set_option maxRecDepth 100000 in
set_option maxHeartbeats 8000000 in
theorem PySem.Challenge.cw_columnlaws_k59_ways_and_exchanges_holds : PySem.Challenge.rw_columnlaws_k59_ways_and_exchanges.Holds :=
  L2.PL.holds L2.PL.law_ok
