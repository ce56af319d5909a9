import PyProof.Rows.All
import Wide.All
import OpenK.AllK
import Wide.FinOn
import HandS.ForMost
import HandS.ForExc
import HandS.Lambda
import HandS.TupAny
import HandS.TupLe
import HandS.TupMul
import HandS.Wide
import HandS.Deep
import HandS.Flow
import HandS.Star
import HandS.Style
import HandS.More
import HandS.SetFor
import HandS.Comp
import KE.GoesZip
import KE.GoesEnum
import KE.GoesMore
import HandS.Rev
import HandS.Zip
import HandS.IsInst
import HandS.WordsDict
import HandS.SortInts
import PyProof.P3In
import KE.KDictZip
import PyProof.ListNew
import HandS.HeadEnd
import HandS.HeadNt
import HandS.HeadHook2
import HandS.ExcInit
import HandS.Nested
import KE.KExcSuper
import HandS.ExcField
import HandS.HeadHook4
import HandS.HeadWalk
import HandS.Conv
import PyProof.TupleOfSeq
import HandS.TryMany
import HandS.Small
import HandS.NamedTupSort
import KE.LtSeq
import KE.KDictKeyed
import HandS.DictComp
import KE.SortData
import HandS.TupSets
import KE.DataMinMax
import HandS.Head0
import HandS.Head1
import HandS.Head2
import PySem.Challenge.RW_yardpasses_k49_cuts_of_rows
set_option Elab.async false
set_option linter.all false
set_option maxRecDepth 100000
namespace VL
open PySem PySem.Spec PyProof.Rows L2
abbrev Da := PyData
/-- no table of code objects -/
abbrev NTb (o : HO) : Prop := ∀ ps, o ≠ .tbl ps
abbrev AS := Addr → Prop
/-- one address more -/
def AS.with (O : AS) (p : Addr) : AS := fun a => O a ∨ a = p
/-- a tuple of the written part -/
def KTup (K : PySem.W.Frag) (a : Addr) (xs : List V) : Prop :=
  ∃ (o : Obj) (its : Array Value) (n : Nat), K.lookup a = some o ∧ o.cls = .type "tuple" ∧ o.data = .seq its n ∧ its.size ≤ sizeLine ∧ Vals xs its.toList
/-! a dict whose keys are tuples of ints: its entries (key, the key's tuple, value) -/
abbrev TkE := List Int × Addr × Value
def tkHash (ns : List Int) : Int := reduceHash (Builtin.Tuple.tupleHashOf (ns.map hashInt))
def tkEntry (x : TkE) : DictEntry := ⟨tkHash x.1, .ref x.2.1, x.2.2⟩
def DkO (a : Addr) (xs : List TkE) : HO := .ext fun h => ∃ (o : Obj) (es : Array DictEntry) (ep : Nat), h.get? a = some o ∧ o.ExactDict ∧ o.data = .dict es ep ∧ es.toList = xs.map tkEntry
structure TkOk (a : Addr) (xs : List TkE) : Prop where
  ne : xs ≠ []
  nd : (xs.map (·.1)).Nodup
  len : xs.length ≤ 16777216
  sys : (a == sysModules) = false
/-- some key is a tuple -/
def tkD : Da → Bool
  | .dict kvs => kvs.any fun p => match p.1 with
    | .tuple _ => true
    | _ => false
  | _ => false
def keyD : Key → Da
  | .inl i => .int i
  | .inr s => .str s
mutual
/-- the value v stands for the datum, apart from the addresses O -/
def Rp (K : PySem.W.Frag) (O : AS) (H : Hp) : Da → V → Prop
  | .none, v => v = .non
  | .bool b, v => v = .bl b
  | .int i, v => v = .int i
  | .str s, v => v = .str s
  | .list ds, v => ∃ a xs, v = .ref a ∧ H a = some (.lst xs) ∧ ¬ O a ∧ RpL K O H ds xs
  | .tuple ds, v => ∃ a xs, v = .ref a ∧ ((H a = some (.tup xs) ∧ ¬ O a) ∨ KTup K a xs) ∧ RpL K O H ds xs
  | .dict kvs, v => ∃ a, v = .ref a ∧ ¬ O a ∧ ((∃ ks, H a = some (.dK ks) ∧ RpD K O H kvs ks) ∨ ∃ xs, H a = some (DkO a xs) ∧ TkOk a xs ∧ RpT K O H kvs xs)
def RpL (K : PySem.W.Frag) (O : AS) (H : Hp) : List Da → List V → Prop
  | [], vs => vs = []
  | d :: ds, vs => ∃ w ws, vs = w :: ws ∧ Rp K O H d w ∧ RpL K O H ds ws
def RpD (K : PySem.W.Frag) (O : AS) (H : Hp) : List (Da × Da) → List (Key × V) → Prop
  | [], ks => ks = []
  | (k, d) :: r, ks => ∃ key w ws, ks = (key, w) :: ws ∧ k = keyD key ∧ Rp K O H d w ∧ RpD K O H r ws
def RpT (K : PySem.W.Frag) (O : AS) (H : Hp) : List (Da × Da) → List TkE → Prop
  | [], xs => xs = []
  | (k, d) :: r, xs => ∃ ns b u w ws, xs = (ns, b, u) :: ws ∧ k = .tuple (ns.map PyData.int) ∧ ((H b = some (.tup (ns.map V.int)) ∧ ¬ O b) ∨ KTup K b (ns.map V.int)) ∧ RelV w u ∧ Rp K O H d w ∧ RpT K O H r ws
end
theorem Rd.mono {H H' : Hp} {O : AS} {a : Addr} {u : HO} (h : Rd H a u) (hu : NTb u) (hH : ∀ a o, H a = some o → NTb o → ¬ O a → H' a = some o) (n : ¬ O a) : Rd H' a u := by
  rcases h with h | ⟨o, h⟩
  · exact .inl (hH _ _ h hu n)
  · exact .inr ⟨o, hH _ _ h (fun _ z => nomatch z) n⟩
theorem Rd.there {H : Hp} {a : Addr} {u : HO} (h : Rd H a u) : H a ≠ none := by
  rcases h with h | ⟨o, h⟩ <;> (rw [h]; exact fun z => nomatch z)
section
variable {K : PySem.W.Frag} {O O' : AS} {H H' : Hp}
mutual
theorem Rp.mono (hO : ∀ a, O' a → O a ∨ H a = none) (hH : ∀ a o, H a = some o → NTb o → ¬ O a → H' a = some o) : ∀ (d : Da) (v : V), Rp K O H d v → Rp K O' H' d v
  | .none, v, h => by simpa only [Rp] using h
  | .bool b, v, h => by simpa only [Rp] using h
  | .int i, v, h => by simpa only [Rp] using h
  | .str s, v, h => by simpa only [Rp] using h
  | .list ds, v, h => by
    simp only [Rp] at h ⊢
    obtain ⟨a, xs, e, r, n, q⟩ := h
    exact ⟨a, xs, e, hH _ _ r (fun _ z => nomatch z) n, fun z => (hO a z).elim n (fun q => by rw [r] at q; cases q), RpL.mono hO hH ds xs q⟩
  | .tuple ds, v, h => by
    simp only [Rp] at h ⊢
    obtain ⟨a, xs, e, r, q⟩ := h
    refine ⟨a, xs, e, ?_, RpL.mono hO hH ds xs q⟩
    rcases r with ⟨r, n⟩ | r
    · exact .inl ⟨hH _ _ r (fun _ z => nomatch z) n, fun z => (hO a z).elim n (fun q => by rw [r] at q; cases q)⟩
    · exact .inr r
  | .dict kvs, v, h => by
    simp only [Rp] at h ⊢
    obtain ⟨a, e, n, h⟩ := h
    refine ⟨a, e, fun z => (hO a z).elim n (fun q => ?_), h.imp (fun ⟨ks, r, q⟩ => ⟨ks, hH _ _ r (fun _ z => nomatch z) n, RpD.mono hO hH kvs ks q⟩) fun ⟨xs, r, k, q⟩ => ⟨xs, hH _ _ r (fun _ z => nomatch z) n, k, RpT.mono hO hH kvs xs q⟩⟩
    rcases h with ⟨ks, r, _⟩ | ⟨xs, r, _⟩ <;> (rw [r] at q; cases q)
theorem RpL.mono (hO : ∀ a, O' a → O a ∨ H a = none) (hH : ∀ a o, H a = some o → NTb o → ¬ O a → H' a = some o) : ∀ (ds : List Da) (vs : List V), RpL K O H ds vs → RpL K O' H' ds vs
  | [], vs, h => by simpa only [RpL] using h
  | d :: ds, vs, h => by
    simp only [RpL] at h ⊢
    obtain ⟨w, ws, e, r, q⟩ := h
    exact ⟨w, ws, e, Rp.mono hO hH d w r, RpL.mono hO hH ds ws q⟩
theorem RpD.mono (hO : ∀ a, O' a → O a ∨ H a = none) (hH : ∀ a o, H a = some o → NTb o → ¬ O a → H' a = some o) : ∀ (ds : List (Da × Da)) (ks : List (Key × V)), RpD K O H ds ks → RpD K O' H' ds ks
  | [], vs, h => by simpa only [RpD] using h
  | (k, d) :: ds, vs, h => by
    simp only [RpD] at h ⊢
    obtain ⟨key, w, ws, e, ek, r, q⟩ := h
    exact ⟨key, w, ws, e, ek, Rp.mono hO hH d w r, RpD.mono hO hH ds ws q⟩
theorem RpT.mono (hO : ∀ a, O' a → O a ∨ H a = none) (hH : ∀ a o, H a = some o → NTb o → ¬ O a → H' a = some o) : ∀ (ds : List (Da × Da)) (xs : List TkE), RpT K O H ds xs → RpT K O' H' ds xs
  | [], xs, h => by simpa only [RpT] using h
  | (k, d) :: ds, xs, h => by
    simp only [RpT] at h ⊢
    obtain ⟨ns, b, u, w, ws, e, ek, r, rv, q, t⟩ := h
    refine ⟨ns, b, u, w, ws, e, ek, ?_, rv, Rp.mono hO hH d w q, RpT.mono hO hH ds ws t⟩
    rcases r with ⟨r, n⟩ | r
    · exact .inl ⟨hH _ _ r (fun _ z => nomatch z) n, fun z => (hO b z).elim n (fun q => by rw [r] at q; cases q)⟩
    · exact .inr r
end
mutual
/-- no dict within -/
theorem Rp.dp : ∀ (d : Da) (v : V), d.canLay0 = true → Rp K O H d v → Dp K H v d
  | .none, v, _, h => by simp only [Rp] at h; subst h; exact .non
  | .bool b, v, _, h => by simp only [Rp] at h; subst h; exact .bl b
  | .int i, v, _, h => by simp only [Rp] at h; subst h; exact .int i
  | .str s, v, _, h => by simp only [Rp] at h; subst h; exact .str s
  | .list ds, v, c, h => by
    simp only [Rp] at h
    obtain ⟨a, xs, rfl, r, n, q⟩ := h
    simp only [PyData.canLay0] at c
    exact .lst (.of r) (RpL.dp ds xs c q)
  | .tuple ds, v, c, h => by
    simp only [Rp] at h
    obtain ⟨a, xs, rfl, r, q⟩ := h
    simp only [PyData.canLay0] at c
    refine .tup ?_ (RpL.dp ds xs c q)
    rcases r with ⟨r, _⟩ | r
    · exact .of r
    · exact .inr r
  | .dict kvs, v, c, h => by simp only [PyData.canLay0] at c; cases c
theorem RpL.dp : ∀ (ds : List Da) (vs : List V), PyData.canLayAll0 ds = true → RpL K O H ds vs → DpAll K H vs ds
  | [], vs, _, h => by simp only [RpL] at h; subst h; exact .nil
  | d :: ds, vs, c, h => by
    simp only [RpL] at h
    obtain ⟨w, ws, rfl, r, q⟩ := h
    simp only [PyData.canLayAll0, Bool.and_eq_true] at c
    exact .cons (Rp.dp d w c.1 r) (RpL.dp ds ws c.2 q)
end
theorem tkD_no : ∀ {kvs : List (Da × Da)} {xs : List TkE}, tkD (.dict kvs) = false → RpT K O H kvs xs → xs = []
  | [], xs, _, h => by simpa only [RpT] using h
  | (k, d) :: kvs, xs, e, h => by
    simp only [RpT] at h
    obtain ⟨ns, b, u, w, ws, _, rfl, _⟩ := h
    have e : (true || kvs.any fun p => match p.1 with
      | .tuple _ => true
      | _ => false) = false := e
    cases e
theorem RpL.length : ∀ {ds : List Da} {vs : List V}, RpL K O H ds vs → ds.length = vs.length
  | [], vs, h => by simp only [RpL] at h; subst h; rfl
  | d :: ds, vs, h => by
    simp only [RpL] at h
    obtain ⟨w, ws, rfl, r, q⟩ := h
    rw [List.length_cons, List.length_cons, RpL.length q]
theorem RpL.get : ∀ {ds : List Da} {vs : List V} {i : Nat} {d : Da}, RpL K O H ds vs → ds[i]? = some d → ∃ w, vs[i]? = some w ∧ Rp K O H d w
  | [], vs, i, d, h, e => by simp at e
  | d :: ds, vs, 0, x, h, e => by
    simp only [RpL] at h
    obtain ⟨w, ws, rfl, r, q⟩ := h
    simp at e; subst e
    exact ⟨w, rfl, r⟩
  | d :: ds, vs, i + 1, x, h, e => by
    simp only [RpL] at h
    obtain ⟨w, ws, rfl, r, q⟩ := h
    obtain ⟨u, a, b⟩ := RpL.get q (show ds[i]? = some x by simpa using e)
    exact ⟨u, by simpa using a, b⟩
theorem RpL.append : ∀ {ds es : List Da} {vs ws : List V}, RpL K O H ds vs → RpL K O H es ws → RpL K O H (ds ++ es) (vs ++ ws)
  | [], es, vs, ws, h, g => by simp only [RpL] at h; subst h; exact g
  | d :: ds, es, vs, ws, h, g => by
    simp only [RpL] at h
    obtain ⟨w, r, rfl, a, b⟩ := h
    simp only [List.cons_append, RpL]
    exact ⟨w, r ++ ws, rfl, a, RpL.append b g⟩
theorem RpL.one {d : Da} {v : V} (h : Rp K O H d v) : RpL K O H [d] [v] := by
  simp only [RpL]; exact ⟨v, [], rfl, h, rfl⟩
theorem RpL.nil : RpL K O H [] [] := by simp only [RpL]
theorem RpL.cons {d : Da} {v : V} {ds : List Da} {vs : List V} (h : Rp K O H d v) (t : RpL K O H ds vs) : RpL K O H (d :: ds) (v :: vs) := by
  simp only [RpL]; exact ⟨v, vs, rfl, h, t⟩
theorem RpL.take (n : Nat) : ∀ {ds : List Da} {vs : List V}, RpL K O H ds vs → RpL K O H (ds.take n) (vs.take n) := by
  induction n with
  | zero => intro ds vs h; simp only [List.take_zero]; exact .nil
  | succ n ih =>
    intro ds vs h
    cases ds with
    | nil => simp only [RpL] at h; subst h; exact .nil
    | cons d ds =>
      simp only [RpL] at h
      obtain ⟨w, r, rfl, a, b⟩ := h
      exact .cons a (ih b)
theorem RpL.drop (n : Nat) : ∀ {ds : List Da} {vs : List V}, RpL K O H ds vs → RpL K O H (ds.drop n) (vs.drop n) := by
  induction n with
  | zero => intro ds vs h; simpa only [List.drop_zero] using h
  | succ n ih =>
    intro ds vs h
    cases ds with
    | nil => simp only [RpL] at h; subst h; exact .nil
    | cons d ds =>
      simp only [RpL] at h
      obtain ⟨w, r, rfl, a, b⟩ := h
      exact ih b
theorem RpL.reverse : ∀ {ds : List Da} {vs : List V}, RpL K O H ds vs → RpL K O H ds.reverse vs.reverse
  | [], vs, h => by simp only [RpL] at h; subst h; exact .nil
  | d :: ds, vs, h => by
    simp only [RpL] at h
    obtain ⟨w, r, rfl, a, b⟩ := h
    rw [List.reverse_cons, List.reverse_cons]
    exact (RpL.reverse b).append (.one a)
theorem RpL.set {d : Da} {v : V} (i : Nat) (x : Rp K O H d v) : ∀ {ds : List Da} {vs : List V}, RpL K O H ds vs → RpL K O H (ds.set i d) (vs.set i v) := by
  induction i with
  | zero =>
    intro ds vs h
    cases ds with
    | nil => simp only [RpL] at h; subst h; exact .nil
    | cons e ds =>
      simp only [RpL] at h
      obtain ⟨w, r, rfl, a, b⟩ := h
      exact .cons x b
  | succ n ih =>
    intro ds vs h
    cases ds with
    | nil => simp only [RpL] at h; subst h; exact .nil
    | cons e ds =>
      simp only [RpL] at h
      obtain ⟨w, r, rfl, a, b⟩ := h
      exact .cons a (ih b)
theorem RpL.ints : ∀ {ns : List Int} {vs : List V}, RpL K O H (ns.map PyData.int) vs → vs = ns.map V.int
  | [], vs, h => by simpa only [List.map_nil, RpL] using h
  | n :: ns, vs, h => by
    simp only [List.map_cons, RpL, Rp] at h
    obtain ⟨w, ws, rfl, rfl, q⟩ := h
    rw [RpL.ints q]; rfl
theorem RpL.ofInts : ∀ (ns : List Int), RpL K O H (ns.map PyData.int) (ns.map V.int)
  | [] => .nil
  | n :: ns => by
    rw [List.map_cons, List.map_cons]
    exact .cons (by simp only [Rp]) (RpL.ofInts ns)
end
/-! ### frames -/
/-- what a list or dict that stands by itself holds -/
inductive OC where
  | l (xs : List Da)
  | m (kvs : List (Da × Da))
def OC.data : OC → Da
  | .l xs => .list xs
  | .m kvs => .dict kvs
/-- what a name holds: nothing; a datum; a list of its own; one of its own that is a parameter's, to be given back; one that is locked -/
inductive SV where
  | un
  | d (x : Da)
  | own (c : OC)
  | io (c : OC)
  | lk (c : OC)
  | rd (xs : List Da)
abbrev VS := List SV
def Cont (K : PySem.W.Frag) (O : AS) (H : Hp) (p : Addr) : OC → Prop
  | .l xs => ∃ vs, H p = some (.lst vs) ∧ RpL K O H xs vs
  | .m kvs => ∃ ks, H p = some (.dK ks) ∧ RpD K O H kvs ks
/-- a list that one reads: of the heap, of the written part -/
def RdK (K : PySem.W.Frag) (O : AS) (H : Hp) (a : Addr) (vs : List V) : Prop := (Rd H a (.lst vs) ∧ ¬ O a) ∨
  ∃ (o : Obj) (its : Array Value) (n : Nat), K.lookup a = some o ∧ o.cls = .type "list" ∧ o.dict = none ∧ o.data = .seq its n ∧ its.size ≤ sizeLine ∧ Vals vs its.toList
theorem RdK.sq {K : PySem.W.Frag} {O : AS} {H : Hp} {a : Addr} {vs : List V} (h : RdK K O H a vs) : SqL K H a vs := h.imp And.left id
theorem RdK.mono {K : PySem.W.Frag} {O O' : AS} {H H' : Hp} {a : Addr} {vs : List V} (h : RdK K O H a vs) (hO : ∀ a, O' a → O a ∨ H a = none) (hH : ∀ a o, H a = some o → NTb o → ¬ O a → H' a = some o) : RdK K O' H' a vs :=
  h.imp (fun ⟨r, n⟩ => ⟨Rd.mono r (fun _ z => nomatch z) hH n, fun z => (hO a z).elim n (Rd.there r)⟩) id
def SlotOk (K : PySem.W.Frag) (O : AS) (H : Hp) : SV → Option V → Prop
  | .un, _ => True
  | .d x, v => ∃ w, v = some w ∧ Rp K O H x w
  | .own c, v => ∃ p, v = some (.ref p) ∧ Cont K O H p c
  | .io c, v => ∃ p, v = some (.ref p) ∧ Cont K O H p c
  | .lk c, v => ∃ p, v = some (.ref p) ∧ Cont K O H p c
  | .rd xs, v => ∃ a vs, v = some (.ref a) ∧ RdK K O H a vs ∧ RpL K O H xs vs
/-- the slot i holds an object of its own, at p -/
def OwnAt (st : VS) (σ : L2.St) (i : Nat) (p : Addr) : Prop := σ[i]? = some (some (.ref p)) ∧ ∃ c, st[i]? = some (.own c) ∨ st[i]? = some (.io c) ∨ st[i]? = some (.lk c)
def Own (st : VS) (σ : L2.St) : AS := fun p => ∃ i, OwnAt st σ i p
/-- .. one that may change -/
def MutAt (st : VS) (σ : L2.St) (i : Nat) (p : Addr) : Prop := σ[i]? = some (some (.ref p)) ∧ ∃ c, st[i]? = some (.own c) ∨ st[i]? = some (.io c)
def MutO (st : VS) (σ : L2.St) : AS := fun p => ∃ i, MutAt st σ i p
theorem MutO.own {st : VS} {σ : L2.St} {p : Addr} : MutO st σ p → Own st σ p := fun ⟨i, e, c, h⟩ => ⟨i, e, c, h.elim .inl fun h => .inr (.inl h)⟩
/-- the addresses that data keep away from -/
def Av (O : AS) (st : VS) (σ : L2.St) : AS := fun a => O a ∨ Own st σ a
structure FR (Tb : List (Addr × Str)) (K : PySem.W.Frag) (O : AS) (st : VS) (σ : L2.St) (H : Hp) : Prop where
  len : st.length = σ.length
  slot : ∀ (i : Nat) (sv : SV), st[i]? = some sv → ∃ v, σ[i]? = some v ∧ SlotOk K (Av O st σ) H sv v
  inj : ∀ (i j : Nat) (p : Addr), OwnAt st σ i p → OwnAt st σ j p → i = j
  avoid : ∀ (p : Addr), Own st σ p → ¬ O p
  odom : ∀ (p : Addr), O p → H p ≠ none
  tabs : LamX.Tabs Tb H
theorem Cont.there {K : PySem.W.Frag} {O : AS} {H : Hp} {p : Addr} {c : OC} (h : Cont K O H p c) : H p ≠ none := by
  cases c with
  | l xs => obtain ⟨_, e, _⟩ := h; rw [e]; exact fun z => nomatch z
  | m xs => obtain ⟨_, e, _⟩ := h; rw [e]; exact fun z => nomatch z
theorem Cont.mono {K : PySem.W.Frag} {O O' : AS} {H H' : Hp} {p : Addr} (hO : ∀ a, O' a → O a ∨ H a = none) (hH : ∀ a o, H a = some o → NTb o → ¬ O a → H' a = some o) (hp : H' p = H p) {c : OC} (h : Cont K O H p c) : Cont K O' H' p c := by
  cases c with
  | l xs => obtain ⟨vs, e, r⟩ := h; exact ⟨vs, hp.trans e, RpL.mono hO hH _ _ r⟩
  | m xs => obtain ⟨vs, e, r⟩ := h; exact ⟨vs, hp.trans e, RpD.mono hO hH _ _ r⟩
theorem tabs_upd {T : List (Addr × Str)} {H : Hp} {p : Addr} {o : HO} (t : LamX.Tabs T H) (hp : ∀ u, H p = some u → (∃ xs, u = .lst xs) ∨ ∃ ks, u = .dK ks) : LamX.Tabs T (L2.upd H p o) := by
  have ne1 : ∀ (a : Addr) (u : HO), H a = some u → (∀ xs, u ≠ .lst xs) → (∀ ks, u ≠ .dK ks) → L2.upd H p o a = some u := fun a u e h1 h2 => by
    rw [upd_ne fun z => ?_]
    · exact e
    · rcases hp u (z ▸ e) with ⟨xs, q⟩ | ⟨ks, q⟩
      · exact h1 xs q
      · exact h2 ks q
  intro q hq
  obtain ⟨ps, h1, h2, h3⟩ := t q hq
  refine ⟨ps, ne1 _ _ h1 (fun _ z => nomatch z) (fun _ z => nomatch z), h2, fun pos cv hc => ?_⟩
  obtain ⟨c, e1, e2⟩ := h3 pos cv hc
  exact ⟨c, e1, ne1 _ _ e2 (fun _ z => by unfold LamX.CodeO at z; cases z) (fun _ z => by unfold LamX.CodeO at z; cases z)⟩
theorem Cont.kind {K : PySem.W.Frag} {O : AS} {H : Hp} {p : Addr} {c : OC} (h : Cont K O H p c) : ∀ u, H p = some u → (∃ xs, u = .lst xs) ∨ ∃ ks, u = .dK ks := fun u e => by
  cases c with
  | l xs => obtain ⟨vs, e1, _⟩ := h; rw [e1] at e; cases e; exact .inl ⟨_, rfl⟩
  | m xs => obtain ⟨vs, e1, _⟩ := h; rw [e1] at e; cases e; exact .inr ⟨_, rfl⟩
theorem Cont.ntb {K : PySem.W.Frag} {O : AS} {H : Hp} {p : Addr} {c : OC} (h : Cont K O H p c) {u : HO} (e : H p = some u) : NTb u := fun ps z => by
  rcases h.kind u e with ⟨xs, q⟩ | ⟨ks, q⟩ <;> (rw [q] at z; cases z)
theorem FR.ownc {K : PySem.W.Frag} {O : AS} {st : VS} {σ : L2.St} {H : Hp} (F : FR Tb K O st σ H) {i : Nat} {p : Addr} (h : OwnAt st σ i p) : ∃ c, (st[i]? = some (.own c) ∨ st[i]? = some (.io c) ∨ st[i]? = some (.lk c)) ∧ Cont K (Av O st σ) H p c := by
  obtain ⟨e, c, h⟩ := h
  refine ⟨c, h, ?_⟩
  rcases h with h | h | h
  all_goals
    obtain ⟨v, ev, q, eq, r⟩ := F.slot i _ h
    rw [e] at ev; cases ev; cases eq
    exact r
theorem FR.ownSome {K : PySem.W.Frag} {O : AS} {st : VS} {σ : L2.St} {H : Hp} (F : FR Tb K O st σ H) {p : Addr} (h : Own st σ p) : H p ≠ none := by
  obtain ⟨i, h⟩ := h
  obtain ⟨c, _, r⟩ := F.ownc h
  exact r.there
/-- from one state of a frame to a later one -/
structure Step (Tb : List (Addr × Str)) (K : PySem.W.Frag) (O : AS) (st : VS) (σ : L2.St) (H : Hp) (st' : VS) (σ' : L2.St) (H' : Hp) : Prop where
  fr : FR Tb K O st' σ' H'
  keep : ∀ (a : Addr) (o : HO), H a = some o → NTb o → ¬ MutO st σ a → H' a = some o
  new : ∀ (a : Addr), Own st' σ' a → Own st σ a ∨ H a = none
  mnew : ∀ (a : Addr), MutO st' σ' a → MutO st σ a ∨ H a = none
  dom : ∀ (a : Addr), H' a = none → H a = none
  len : σ'.length = σ.length
  io : ∀ (i : Nat) (c : OC), st[i]? = some (.io c) → (∃ c', st'[i]? = some (.io c')) ∧ σ'[i]? = σ[i]?
  lk : ∀ (i : Nat) (c : OC), st[i]? = some (.lk c) → st'[i]? = some (.lk c) ∧ σ'[i]? = σ[i]?
section
variable {K : PySem.W.Frag} {O : AS} {st st1 st2 : VS} {σ σ1 σ2 : L2.St} {H H1 H2 : Hp}
theorem Step.refl (F : FR Tb K O st σ H) : Step Tb K O st σ H st σ H := ⟨F, fun _ _ h _ _ => h, fun _ h => .inl h, fun _ h => .inl h, fun _ h => h, rfl, fun _ c h => ⟨⟨c, h⟩, rfl⟩, fun _ _ h => ⟨h, rfl⟩⟩
theorem Step.trans (a : Step Tb K O st σ H st1 σ1 H1) (b : Step Tb K O st1 σ1 H1 st2 σ2 H2) : Step Tb K O st σ H st2 σ2 H2 where
  fr := b.fr
  keep := fun x o h t n => b.keep x o (a.keep x o h t n) t fun z => (a.mnew x z).elim n fun q => by rw [h] at q; cases q
  new := fun x h => (b.new x h).elim (a.new x) fun q => .inr (a.dom x q)
  mnew := fun x h => (b.mnew x h).elim (a.mnew x) fun q => .inr (a.dom x q)
  dom := fun x h => a.dom x (b.dom x h)
  len := b.len.trans a.len
  io := fun i c h => by
    obtain ⟨⟨c', h'⟩, e⟩ := a.io i c h
    obtain ⟨q, e'⟩ := b.io i c' h'
    exact ⟨q, e'.trans e⟩
  lk := fun i c h => by
    obtain ⟨h', e⟩ := a.lk i c h
    obtain ⟨q, e'⟩ := b.lk i c h'
    exact ⟨q, e'.trans e⟩
/-- data stay -/
theorem Step.rp (a : Step Tb K O st σ H st1 σ1 H1) {d : Da} {v : V} (h : Rp K (Av O st σ) H d v) : Rp K (Av O st1 σ1) H1 d v :=
  Rp.mono (fun x hx => hx.elim (fun q => .inl (.inl q)) fun q => (a.new x q).elim (fun q => .inl (.inr q)) .inr) (fun x o e t n => a.keep x o e t fun z => n (.inr z.own)) _ _ h
theorem Step.rpl (a : Step Tb K O st σ H st1 σ1 H1) {d : List Da} {v : List V} (h : RpL K (Av O st σ) H d v) : RpL K (Av O st1 σ1) H1 d v :=
  RpL.mono (fun x hx => hx.elim (fun q => .inl (.inl q)) fun q => (a.new x q).elim (fun q => .inl (.inr q)) .inr) (fun x o e t n => a.keep x o e t fun z => n (.inr z.own)) _ _ h
/-- new objects alone -/
theorem FR.ext (F : FR Tb K O st σ H) (k : Same H H1) : FR Tb K O st σ H1 := by
  refine ⟨F.len, fun i sv h => ?_, F.inj, F.avoid, fun p h z => F.odom p h (k.free z), F.tabs.ext k⟩
  obtain ⟨v, e, r⟩ := F.slot i sv h
  refine ⟨v, e, ?_⟩
  have hp : ∀ p c, Cont K (Av O st σ) H p c → Cont K (Av O st σ) H1 p c := fun p c q => by
    refine q.mono (fun _ h => .inl h) (fun a o e _ _ => k a o e) ?_
    cases e : H p with
    | none => exact absurd e q.there
    | some o => exact k _ _ e
  cases sv with
  | un => trivial
  | d x => obtain ⟨w, e, r⟩ := r; exact ⟨w, e, Rp.mono (fun _ h => .inl h) (fun a o e _ _ => k a o e) _ _ r⟩
  | own c => obtain ⟨p, e, r⟩ := r; exact ⟨p, e, hp p c r⟩
  | io c => obtain ⟨p, e, r⟩ := r; exact ⟨p, e, hp p c r⟩
  | lk c => obtain ⟨p, e, r⟩ := r; exact ⟨p, e, hp p c r⟩
  | rd xs =>
    obtain ⟨a, vs, e, r, q⟩ := r
    exact ⟨a, vs, e, r.mono (fun _ h => .inl h) (fun a o e _ _ => k a o e), RpL.mono (fun _ h => .inl h) (fun a o e _ _ => k a o e) _ _ q⟩
theorem Step.ext (F : FR Tb K O st σ H) (k : Same H H1) : Step Tb K O st σ H st σ H1 :=
  ⟨F.ext k, fun a o h _ _ => k a o h, fun _ h => .inl h, fun _ h => .inl h, fun a h => k.free h, rfl, fun _ c h => ⟨⟨c, h⟩, rfl⟩, fun _ _ h => ⟨h, rfl⟩⟩
/-- a new address is kept away from -/
theorem FR.away (F : FR Tb K O st σ H) {p : Addr} (hp : H p = none) (k : Same H H1) (hp1 : H1 p ≠ none) : FR Tb K (O.with p) st σ H1 := by
  have F1 := F.ext k
  have no : ¬ Own st σ p := fun z => F.ownSome z hp
  have mo : ∀ a, Av (O.with p) st σ a → Av O st σ a ∨ H a = none := fun a h => by
    rcases h with (h | h) | h
    · exact .inl (.inl h)
    · exact .inr (by rw [h]; exact hp)
    · exact .inl (.inr h)
  refine ⟨F.len, fun i sv h => ?_, F.inj, fun q h z => z.elim (F.avoid q h) fun e => no (e ▸ h), fun q h z => h.elim (fun h => F.odom q h (k.free z)) fun e => hp1 (e ▸ z), F.tabs.ext k⟩
  obtain ⟨v, e, r⟩ := F.slot i sv h
  refine ⟨v, e, ?_⟩
  have hpc : ∀ q c, Cont K (Av O st σ) H q c → Cont K (Av (O.with p) st σ) H1 q c := fun q c r => by
    refine r.mono mo (fun a o e _ _ => k a o e) ?_
    cases e : H q with
    | none => exact absurd e r.there
    | some o => exact k _ _ e
  cases sv with
  | un => trivial
  | d x => obtain ⟨w, e, r⟩ := r; exact ⟨w, e, Rp.mono mo (fun a o e _ _ => k a o e) _ _ r⟩
  | own c => obtain ⟨p, e, r⟩ := r; exact ⟨p, e, hpc p c r⟩
  | io c => obtain ⟨p, e, r⟩ := r; exact ⟨p, e, hpc p c r⟩
  | lk c => obtain ⟨p, e, r⟩ := r; exact ⟨p, e, hpc p c r⟩
  | rd xs =>
    obtain ⟨a, vs, e, r, q⟩ := r
    exact ⟨a, vs, e, r.mono mo (fun a o e _ _ => k a o e), RpL.mono mo (fun a o e _ _ => k a o e) _ _ q⟩
end
/-! ### results -/
inductive Err where
  | exc (C : Str) (fs : List (Str × Da)) (st : VS)
  | stuck
abbrev Res := Except Err
/-- what an expression gives: a datum; a new list or dict; the one that the slot i holds -/
inductive EV where
  | d (x : Da)
  | own (c : OC)
  | loan (i : Nat)
abbrev VM (α : Type) := VS → Res (α × VS)
/-- H0: the heap ahead -/
def ER (Tb : List (Addr × Str)) (K : PySem.W.Frag) (O : AS) (H0 : Hp) (st : VS) (σ : L2.St) (H : Hp) (v : V) : EV → Prop
  | .d x => Rp K (Av O st σ) H x v
  | .own c => ∃ p, v = .ref p ∧ H0 p = none ∧ ¬ O p ∧ FR Tb K (O.with p) st σ H ∧ Cont K (Av (O.with p) st σ) H p c
  | .loan i => σ[i]? = some (some v)
/-- the own dict of an exception: its fields; none where it has none -/
def ExD (H : Hp) (d : Option Addr) (ws : List (Str × V)) : Prop := match d with
  | some d => H d = some (.xd ws)
  | none => ws = []
/-- what is wanted of an exception that leaves: the class by its name, its fields in its own dict -/
def XW (Tb : List (Addr × Str)) (K : PySem.W.Frag) (mg : Str → Option Value) (W : WX) (O : AS) (st : VS) (σ : L2.St) (H : Hp) (C : Str) (fs : List (Str × Da)) (st' : VS) : Prop :=
  ∀ (Ca : Addr) (d : Option Addr) (σ' : L2.St) (H' : Hp) (ws : List (Str × V)), mg C = some (.ref Ca) → Step Tb K O st σ H st' σ' H' → ExD H' d ws →
    RpL K (Av O st' σ') H' (fs.map (·.2)) (ws.map (·.2)) → fs.map (·.1) = ws.map (·.1) → W (.ref Ca) d σ' H'
/-- what a run comes to -/
def VRun (Tb : List (Addr × Str)) {α : Type} (K : PySem.W.Frag) (mg : Str → Option Value) (W : WX) (O : AS) (st : VS) (σ : L2.St) (H : Hp) (r : Res (α × VS)) (k : α → VS → Prop) : Prop :=
  match r with
  | .ok (a, st') => k a st'
  | .error (.exc C fs st') => XW Tb K mg W O st σ H C fs st'
  | .error .stuck => False
theorem VRun.step {α : Type} {K : PySem.W.Frag} {mg : Str → Option Value} {W : WX} {O : AS} {st st1 : VS} {σ σ1 : L2.St} {H H1 : Hp} {r : Res (α × VS)} {k : α → VS → Prop} (S : Step Tb K O st σ H st1 σ1 H1) (h : VRun Tb K mg W O st σ H r k) : VRun Tb K mg W O st1 σ1 H1 r k := by
  match r, h with
  | .ok (a, st'), h => exact h
  | .error (.exc C fs st'), h => exact fun Ca d σ' H' ws e S' => h Ca d σ' H' ws e (S.trans S')
  | .error .stuck, h => exact h.elim
/-- the reading of an expression -/
def tV (Tb : List (Addr × Str)) (K : PySem.W.Frag) (mg : Str → Option Value) (W : WX) (f : VM EV) : TE := fun σ H Q =>
  ∃ O st, FR Tb K O st σ H ∧ VRun Tb K mg W O st σ H (f st) fun r st' => ∀ v H', Step Tb K O st σ H st' σ H' → ER Tb K O H st' σ H' v r → Q v H'
/-- of a test -/
def tVT (Tb : List (Addr × Str)) (K : PySem.W.Frag) (mg : Str → Option Value) (W : WX) (f : VM Bool) : TT := fun σ H Q =>
  ∃ O st, FR Tb K O st σ H ∧ VRun Tb K mg W O st σ H (f st) fun b st' => ∀ H', Step Tb K O st σ H st' σ H' → Q b H'
end VL
set_option Elab.async false
set_option linter.all false
set_option maxRecDepth 100000
namespace VL
open PySem PySem.Spec PyProof.Rows L2
/-! ### running one behind the other -/
def vb {α β : Type} (f : VM α) (g : α → VM β) : VM β := fun s =>
  match f s with
  | .ok (a, s1) => g a s1
  | .error e => .error e
def vr {α : Type} (a : α) : VM α := fun s => .ok (a, s)
def vStuck {α : Type} : VM α := fun _ => .error .stuck
def vOpt {α : Type} : Option α → VM α
  | some a => vr a
  | none => vStuck
/-- .. read as a datum or as what a slot owns -/
def Ro (K : PySem.W.Frag) (O : AS) (H : Hp) (x : Da) (v : V) : Prop := Rp K O H x v ∨ ∃ p c, v = .ref p ∧ x = OC.data c ∧ Cont K O H p c
def RoL (K : PySem.W.Frag) (O : AS) (H : Hp) : List Da → List V → Prop
  | [], vs => vs = []
  | d :: ds, vs => ∃ w ws, vs = w :: ws ∧ Ro K O H d w ∧ RoL K O H ds ws
/-- a new result -/
def NR (K : PySem.W.Frag) (O : AS) (H H' : Hp) (u : V) : EV → Prop
  | .d x => Rp K O H' x u
  | .own c => ∃ p, u = .ref p ∧ H p = none ∧ Cont K (O.with p) H' p c
  | .loan _ => False
def settle : EV → EV
  | .own c => .d c.data
  | r => r
def vRd (r : EV) : VM Da := fun s =>
  match r with
  | .d x => .ok (x, s)
  | .own c => .ok (c.data, s)
  | .loan i =>
    match s[i]? with
    | some (.own c) => .ok (c.data, s)
    | some (.io c) => .ok (c.data, s)
    | some (.lk c) => .ok (c.data, s)
    | _ => .error .stuck
section
variable {K : PySem.W.Frag} {mg : Str → Option Value} {W : WX} {O : AS} {st st1 st2 : VS} {σ σ1 σ2 : L2.St} {H H0 H1 H2 : Hp} {v : V} {r : EV}
theorem Cont.sub {O' : AS} {p : Addr} {c : OC} (hO : ∀ a, O' a → O a) (h : Cont K O H p c) : Cont K O' H p c := h.mono (fun a z => .inl (hO a z)) (fun _ _ e _ _ => e) rfl
theorem Rp.sub {O' : AS} {d : Da} (hO : ∀ a, O' a → O a) (h : Rp K O H d v) : Rp K O' H d v := Rp.mono (fun a z => .inl (hO a z)) (fun _ _ e _ _ => e) _ _ h
theorem RpL.sub {O' : AS} {ds : List Da} {vs : List V} (hO : ∀ a, O' a → O a) (h : RpL K O H ds vs) : RpL K O' H ds vs := RpL.mono (fun a z => .inl (hO a z)) (fun _ _ e _ _ => e) _ _ h
theorem Cont.rp {p : Addr} {c : OC} (h : Cont K O H p c) (n : ¬ O p) : Rp K O H c.data (.ref p) := by
  cases c with
  | l xs => obtain ⟨vs, e, r⟩ := h; simp only [OC.data, Rp]; exact ⟨p, vs, rfl, e, n, r⟩
  | m kvs => obtain ⟨vs, e, r⟩ := h; simp only [OC.data, Rp]; exact ⟨p, rfl, n, .inl ⟨vs, e, r⟩⟩
theorem Av.with_sub {p : Addr} : ∀ a, Av O st σ a → Av (O.with p) st σ a := fun a h => h.elim (fun h => .inl (.inl h)) .inr
theorem ER.settle (h : ER Tb K O H0 st σ H v r) : ER Tb K O H1 st σ H v (settle r) := by
  cases r with
  | d x => exact h
  | loan i => exact h
  | own c =>
    obtain ⟨p, rfl, _, n, F, C⟩ := h
    exact (C.sub Av.with_sub).rp fun z => z.elim n fun z => F.avoid p z (.inr rfl)
/-- a settled result at a later state -/
theorem ER.later (h : ER Tb K O H0 st σ H v (VL.settle r)) (S : Step Tb K O st σ H st1 σ H1) : ER Tb K O H2 st1 σ H1 v (VL.settle r) := by
  cases r with
  | d x => exact S.rp h
  | loan i => exact h
  | own c => exact S.rp (d := c.data) h
theorem ER.back (h : ER Tb K O H1 st σ H v r) (d : ∀ a, H1 a = none → H0 a = none) : ER Tb K O H0 st σ H v r := by
  cases r with
  | d x => exact h
  | loan i => exact h
  | own c =>
    obtain ⟨p, e, n, r⟩ := h
    exact ⟨p, e, d p n, r⟩
theorem vRd_ok {x : Da} (F : FR Tb K O st σ H) (h : ER Tb K O H0 st σ H v r) (e : vRd r st = .ok (x, st1)) : st1 = st ∧ Ro K (Av O st σ) H x v := by
  cases r with
  | d y => cases e; exact ⟨rfl, .inl h⟩
  | own c =>
    cases e
    obtain ⟨p, ev, _, n, F', C⟩ := h
    exact ⟨rfl, .inr ⟨p, c, ev, rfl, C.sub Av.with_sub⟩⟩
  | loan i =>
    have h : σ[i]? = some (some v) := h
    unfold vRd at e
    dsimp only at e
    cases q : st[i]? with
    | none => rw [q] at e; cases e
    | some sv =>
      rw [q] at e
      obtain ⟨w, ew, sl⟩ := F.slot i sv q
      rw [h] at ew; cases ew
      cases sv with
      | un => cases e
      | d x => cases e
      | rd x => cases e
      | own c => cases e; obtain ⟨p, e, C⟩ := sl; cases e; exact ⟨rfl, .inr ⟨p, c, rfl, rfl, C⟩⟩
      | io c => cases e; obtain ⟨p, e, C⟩ := sl; cases e; exact ⟨rfl, .inr ⟨p, c, rfl, rfl, C⟩⟩
      | lk c => cases e; obtain ⟨p, e, C⟩ := sl; cases e; exact ⟨rfl, .inr ⟨p, c, rfl, rfl, C⟩⟩
theorem NR.er {z : EV} (F : FR Tb K O st σ H) (k : Same H H1) (h : NR K (Av O st σ) H H1 v z) : ER Tb K O H st σ H1 v z := by
  cases z with
  | d x => exact h
  | loan i => exact h.elim
  | own c =>
    obtain ⟨p, e, n, C⟩ := h
    refine ⟨p, e, n, fun z => F.odom p z n, F.away n k C.there, C.sub fun a h => ?_⟩
    rcases h with (h | h) | h
    · exact .inl (.inl h)
    · exact .inr h
    · exact .inl (.inr h)
theorem FR.avdom (F : FR Tb K O st σ H) : ∀ a, Av O st σ a → H a ≠ none := fun a h => h.elim (F.odom a) F.ownSome
/-- one expression, then the rest -/
theorem tV.bind {α : Type} {fa : VM EV} {g : EV → VM α} {k : α → VS → Prop} {Q : VK} (F : FR Tb K O st σ H) (h : VRun Tb K mg W O st σ H (vb fa g st) k)
    (cont : ∀ r s1 v H1, Step Tb K O st σ H s1 σ H1 → ER Tb K O H s1 σ H1 v r → VRun Tb K mg W O s1 σ H1 (g r s1) k → Q v H1) : tV Tb K mg W fa σ H Q := by
  refine ⟨O, st, F, ?_⟩
  unfold vb at h
  cases e : fa st with
  | ok p =>
    obtain ⟨r, s1⟩ := p
    rw [e] at h
    exact fun v H1 S E => cont r s1 v H1 S E (h.step S)
  | error er =>
    rw [e] at h
    cases er with
    | exc C fs s1 => exact h
    | stuck => exact h
theorem tVT.bind {α : Type} {fa : VM Bool} {g : Bool → VM α} {k : α → VS → Prop} {Q : Bool → Hp → Prop} (F : FR Tb K O st σ H) (h : VRun Tb K mg W O st σ H (vb fa g st) k)
    (cont : ∀ b s1 H1, Step Tb K O st σ H s1 σ H1 → VRun Tb K mg W O s1 σ H1 (g b s1) k → Q b H1) : tVT Tb K mg W fa σ H Q := by
  refine ⟨O, st, F, ?_⟩
  unfold vb at h
  cases e : fa st with
  | ok p =>
    obtain ⟨r, s1⟩ := p
    rw [e] at h
    exact fun H1 S => cont r s1 H1 S (h.step S)
  | error er =>
    rw [e] at h
    cases er with
    | exc C fs s1 => exact h
    | stuck => exact h
/-- a pure step -/
theorem VRun.rd {α : Type} {g : Da → VM α} {k : α → VS → Prop} (F : FR Tb K O st σ H) (E : ER Tb K O H0 st σ H v r) (h : VRun Tb K mg W O st σ H (vb (vRd r) g st) k) :
    ∃ x, Ro K (Av O st σ) H x v ∧ VRun Tb K mg W O st σ H (g x st) k := by
  unfold vb at h
  cases e : vRd r st with
  | ok p =>
    obtain ⟨x, s1⟩ := p
    rw [e] at h
    obtain ⟨rfl, R⟩ := vRd_ok F E e
    exact ⟨x, R, h⟩
  | error er =>
    rw [e] at h
    have : er = .stuck := by
      cases r with
      | d x => cases e
      | own c => cases e
      | loan i =>
        unfold vRd at e
        dsimp only at e
        split at e <;> cases e
        rfl
    subst this
    exact h.elim
theorem VRun.opt {α β : Type} {o : Option α} {g : α → VM β} {k : β → VS → Prop} (h : VRun Tb K mg W O st σ H (vb (vOpt o) g st) k) : ∃ a, o = some a ∧ VRun Tb K mg W O st σ H (g a st) k := by
  cases o with
  | none => exact h.elim
  | some a => exact ⟨a, rfl, h⟩
theorem VRun.opt1 {α : Type} {o : Option α} {k : α → VS → Prop} (h : VRun Tb K mg W O st σ H (vOpt o st) k) : ∃ a, o = some a ∧ k a st := by
  cases o with
  | none => exact h.elim
  | some a => exact ⟨a, rfl, h⟩
end
theorem PE.wk {X : Cx} {e : Expr} {t t' : TE} (h : PE X e t) (w : ∀ σ H Q, t' σ H Q → t σ H Q) : PE X e t' := ⟨fun pins s σ H Q I q => h.run pins s σ H Q I (w σ H Q q)⟩
theorem PT.wk {X : Cx} {e : Expr} {t t' : TT} (h : PT X e t) (w : ∀ σ H Q, t' σ H Q → t σ H Q) : PT X e t' := ⟨fun pins s σ H Q I q => h.run pins s σ H Q I (w σ H Q q)⟩
theorem PW.wk {X : Cx} {e : Expr} {t t' : TT} (h : PW X e t) (w : ∀ σ H Q, t' σ H Q → t σ H Q) : PW X e t' := ⟨fun wh pins s σ H Q I q => h.run wh pins s σ H Q I (w σ H Q q)⟩
theorem PA.wk {X : Cx} {es : List Expr} {t t' : TA} (h : PA X es t) (w : ∀ σ H Q, t' σ H Q → t σ H Q) : PA X es t' := ⟨fun pos pins s σ H Q I q => h.run pos pins s σ H Q I (w σ H Q q)⟩
/-! ### judgements -/
abbrev VE (Tb : List (Addr × Str)) (X : Cx) (W : WX) (e : Expr) (f : VM EV) : Prop := PE X e (tV Tb X.K X.mg W f)
abbrev VT (Tb : List (Addr × Str)) (X : Cx) (W : WX) (e : Expr) (f : VM Bool) : Prop := PT X e (tVT Tb X.K X.mg W f)
abbrev VW (Tb : List (Addr × Str)) (X : Cx) (W : WX) (e : Expr) (f : VM Bool) : Prop := PW X e (tVT Tb X.K X.mg W f)
section
variable {X : Cx} {W : WX} {a b c : Expr} {pos : Pos} {fa fb fc : VM EV} {ga gb : VM Bool}
/-! names and constants -/
def vVar (i : Nat) : VM EV := fun s =>
  match s[i]? with
  | some (.d x) => .ok (.d x, s)
  | some (.own _) => .ok (.loan i, s)
  | some (.io _) => .ok (.loan i, s)
  | some (.lk _) => .ok (.loan i, s)
  | some (.rd _) => .ok (.loan i, s)
  | _ => .error .stuck
def vC (x : Da) : VM EV := vr (.d x)
theorem ve_wkVar {e : Expr} {i : Nat} (h : PE X e (tVar i)) : VE Tb X W e (vVar i) := by
  refine PE.wk h fun σ H Q h => ?_
  obtain ⟨O, st, F, h⟩ := h
  unfold vVar at h
  cases q : st[i]? with
  | none => rw [q] at h; exact h.elim
  | some sv =>
    rw [q] at h
    obtain ⟨w, ew, sl⟩ := F.slot i sv q
    cases sv with
    | un => exact h.elim
    | d x => obtain ⟨u, rfl, r⟩ := sl; exact ⟨u, ew, h u H (Step.refl F) r⟩
    | own c => obtain ⟨p, rfl, r⟩ := sl; exact ⟨_, ew, h _ H (Step.refl F) ew⟩
    | io c => obtain ⟨p, rfl, r⟩ := sl; exact ⟨_, ew, h _ H (Step.refl F) ew⟩
    | lk c => obtain ⟨p, rfl, r⟩ := sl; exact ⟨_, ew, h _ H (Step.refl F) ew⟩
    | rd xs => obtain ⟨a, vs, rfl, r⟩ := sl; exact ⟨_, ew, h _ H (Step.refl F) ew⟩
theorem vv (i : Nat) {x : Str} {pos : Pos} (hN : X.N[i]? = some x := by rfl) (hv : Vis X.env.scope x := by first | exact Or.inl rfl | exact Or.inr (Or.inl rfl) | exact Or.inr (Or.inr rfl)) (hd : (x == ("__debug__" : Str)) = false := by decide)
    (hcd : (x == ("__classdict__" : Str)) = false := by decide) : VE Tb X W (.Name x pos) (vVar i) := ve_wkVar (pe_var hN hv hd hcd)
theorem ve_c {e : Expr} {v : V} {x : Da} (h : PE X e (tC v)) (r : ∀ O H, Rp X.K O H x v) : VE Tb X W e (vC x) := by
  refine PE.wk h fun σ H Q h => ?_
  obtain ⟨O, st, F, h⟩ := h
  exact h v H (Step.refl F) (r _ _)
theorem ve_int {i j pos} : VE Tb X W (.Constant (.int i) j pos) (vC (.int i)) := ve_c pe_int fun _ _ => by simp only [Rp]
theorem ve_bl {b j pos} : VE Tb X W (.Constant (.bool b) j pos) (vC (.bool b)) := ve_c pe_bl fun _ _ => by simp only [Rp]
theorem ve_non {j pos} : VE Tb X W (.Constant .none j pos) (vC .none) := ve_c pe_non fun _ _ => by simp only [Rp]
theorem ve_str {x j pos} : VE Tb X W (.Constant (.str x) j pos) (vC (.str x)) := ve_c pe_str fun _ _ => by simp only [Rp]
/-! operators -/
/-- f gives what g says of the data -/
def Op2 (X : Cx) (f : Value → Value → Sem Value) (g : Da → Da → Option EV) : Prop :=
  ∃ r, OpR X f r ∧ ∀ O H x y v w z (Q : VK), (∀ a, O a → H a ≠ none) → Ro X.K O H x v → Ro X.K O H y w → g x y = some z → (∀ u H', Same H H' → NR X.K O H H' u z → Q u H') → r v w H Q
def vBin (g : Da → Da → Option EV) (fa fb : VM EV) : VM EV := vb fa fun ra => vb fb fun rb => vb (vRd (settle ra)) fun x => vb (vRd rb) fun y => vOpt (g x y)
theorem bin_wk {r : R2} {g : Da → Da → Option EV} {σ : L2.St} {H : Hp} {Q : VK} (hg : ∀ O H x y v w z (Q : VK), (∀ a, O a → H a ≠ none) → Ro X.K O H x v → Ro X.K O H y w → g x y = some z → (∀ u H', Same H H' → NR X.K O H H' u z → Q u H') → r v w H Q)
    (h : tV Tb X.K X.mg W (vBin g fa fb) σ H Q) : tOp r (tV Tb X.K X.mg W fa) (tV Tb X.K X.mg W fb) σ H Q := by
  obtain ⟨O, st, F, h⟩ := h
  refine tV.bind F h fun ra s1 v H1 S1 E1 h => ?_
  refine tV.bind S1.fr h fun rb s2 w H2 S2 E2 h => ?_
  obtain ⟨x, Rx, h⟩ := h.rd S2.fr ((E1.settle (H1 := H)).later S2 (H2 := H))
  obtain ⟨y, Ry, h⟩ := h.rd S2.fr E2
  obtain ⟨z, ez, h⟩ := h.opt1
  refine hg (Av O s2 σ) H2 x y v w z Q S2.fr.avdom Rx Ry ez fun u H' k n => ?_
  have S := S1.trans S2
  exact h u H' (S.trans (Step.ext S.fr k)) ((NR.er S.fr k n).back S.dom)
theorem ve_bin {op : Operator} {g : Da → Da → Option EV} (ho : Op2 X (binaryOp op) g) (ha : VE Tb X W a fa) (hb : VE Tb X W b fb) : VE Tb X W (.BinOp a op b pos) (vBin g fa fb) := by
  obtain ⟨r, hr, hg⟩ := ho
  exact PE.wk (pe_op hr ha hb) fun σ H Q h => bin_wk hg h
/-- a bool that an expression gives -/
def evB : EV → Option Bool
  | .d (.bool b) => some b
  | _ => none
def vBool (f : VM EV) : VM Bool := vb f fun r => vOpt (evB r)
theorem bool_wk {fe : VM EV} {σ : L2.St} {H : Hp} {Q : Bool → Hp → Prop} (h : tVT Tb X.K X.mg W (vBool fe) σ H Q) : tV Tb X.K X.mg W fe σ H (fun x H' => ∃ k, x = .bl k ∧ Q k H') := by
  obtain ⟨O, st, F, h⟩ := h
  refine tV.bind F h fun r s1 v H1 S1 E1 h => ?_
  obtain ⟨k, e, h⟩ := h.opt1
  cases r with
  | d x =>
    cases x with
    | bool b' =>
      cases e
      have E1 : Rp X.K (Av O s1 σ) H1 (.bool k) v := E1
      simp only [Rp] at E1
      exact ⟨k, E1, h H1 S1⟩
    | _ => cases e
  | _ => cases e
theorem vt_cmp {op : CmpOp} {g : Da → Da → Option EV} (ho : Op2 X (compareOp op) g) (ha : VE Tb X W a fa) (hb : VE Tb X W b fb) (hm : behindInMarks op b = false := by first | exact nomark _ | rfl | with_unfolding_all rfl) : VT Tb X W (.Compare a [op] [b] pos) (vBool (vBin g fa fb)) := by
  obtain ⟨r, hr, hg⟩ := ho
  exact PT.wk (pt_cmpR hr ha hb hm) fun σ H Q h => bin_wk hg (bool_wk h)
def Op1 (X : Cx) (f : Value → Sem Value) (g : Da → Option EV) : Prop :=
  ∃ r, UnR X f r ∧ ∀ O H x v z (Q : VK), (∀ a, O a → H a ≠ none) → Ro X.K O H x v → g x = some z → (∀ u H', Same H H' → NR X.K O H H' u z → Q u H') → r v H Q
def vUn (g : Da → Option EV) (fa : VM EV) : VM EV := vb fa fun ra => vb (vRd ra) fun x => vOpt (g x)
theorem ve_un {op : UnaryOp} {g : Da → Option EV} (ho : Op1 X (unaryOp op) g) (ha : VE Tb X W a fa) : VE Tb X W (.UnaryOp op a pos) (vUn g fa) := by
  obtain ⟨r, hr, hg⟩ := ho
  refine PE.wk (pe_un hr ha) fun σ H Q h => ?_
  obtain ⟨O, st, F, h⟩ := h
  refine tV.bind F h fun ra s1 v H1 S1 E1 h => ?_
  obtain ⟨x, Rx, h⟩ := h.rd S1.fr E1
  obtain ⟨z, ez, h⟩ := h.opt1
  refine hg (Av O s1 σ) H1 x v z Q S1.fr.avdom Rx ez fun u H' k n => ?_
  exact h u H' (S1.trans (Step.ext S1.fr k)) ((NR.er S1.fr k n).back S1.dom)
/-- a op1 b op2 c -/
def vChain (g g' : Da → Da → Option EV) (fa fb fc : VM EV) : VM EV := vb fa fun ra => vb fb fun rb => vb (vRd (settle ra)) fun x => vb (vRd (settle rb)) fun y => vb (vOpt ((g x y).bind evB)) fun k =>
  if k = true then vb fc fun rc => vb (vRd (settle rb)) fun y => vb (vRd rc) fun z => vOpt (g' y z) else vC (.bool false)
/-! tests -/
/-- the truth of a datum -/
def truD : Da → Option Bool
  | .none => some false
  | .bool b => some b
  | .int i => some (i != 0)
  | .str y => if y.length ≤ 16777216 then some ((y.length : Int) != 0) else none
  | .list xs => some (!xs.isEmpty)
  | .tuple xs => some (!xs.isEmpty)
  | .dict kvs => if tkD (.dict kvs) = true then none else some (!kvs.isEmpty)
def vTru (f : VM EV) : VM Bool := vb f fun r => vb (vRd r) fun x => vOpt (truD x)
theorem RpD.isEmpty {K : PySem.W.Frag} {O : AS} {H : Hp} : ∀ {ds : List (Da × Da)} {ks : List (Key × V)}, RpD K O H ds ks → ds.isEmpty = ks.isEmpty
  | [], ks, h => by simp only [RpD] at h; subst h; rfl
  | (k, d) :: r, ks, h => by simp only [RpD] at h; obtain ⟨_, _, _, rfl, _⟩ := h; rfl
theorem RpL.isEmpty {K : PySem.W.Frag} {O : AS} {H : Hp} : ∀ {ds : List Da} {ks : List V}, RpL K O H ds ks → ds.isEmpty = ks.isEmpty
  | [], ks, h => by simp only [RpL] at h; subst h; rfl
  | d :: r, ks, h => by simp only [RpL] at h; obtain ⟨_, _, rfl, _⟩ := h; rfl
theorem truV_of {K : PySem.W.Frag} {O : AS} {H : Hp} {x : Da} {v : V} {k : Bool} (R : Ro K O H x v) (e : truD x = some k) : TruV K v H k := by
  rcases R with R | ⟨p, c, rfl, rfl, C⟩
  · cases x with
    | none => simp only [Rp] at R; subst R; cases e; exact rfl
    | bool b => simp only [Rp] at R; subst R; cases e; exact rfl
    | int i => simp only [Rp] at R; subst R; cases e; exact rfl
    | str s =>
      simp only [Rp] at R; subst R
      unfold truD at e
      dsimp only at e
      split at e
      · rename_i hl; cases e; exact ⟨by rw [sizeLine_eq]; exact hl, rfl⟩
      · cases e
    | list xs => simp only [Rp] at R; obtain ⟨a, vs, rfl, r, n, q⟩ := R; cases e; exact .inl ⟨vs, .of r, by rw [q.isEmpty]⟩
    | tuple xs =>
      simp only [Rp] at R; obtain ⟨a, vs, rfl, r, q⟩ := R; cases e
      exact .inr (.inl ⟨vs, r.elim (fun r => .of r.1) .inr, by rw [q.isEmpty]⟩)
    | dict xs =>
      simp only [Rp] at R; obtain ⟨a, rfl, n, R⟩ := R
      unfold truD at e; dsimp only at e
      split at e
      · cases e
      · rename_i hk; cases e
        rcases R with ⟨vs, r, q⟩ | ⟨ys, r, k, q⟩
        · exact .inr (.inr ⟨vs, r, by rw [q.isEmpty]⟩)
        · exact absurd (tkD_no (Bool.eq_false_iff.mpr hk) q) k.ne
  · cases c with
    | l xs => obtain ⟨vs, r, q⟩ := C; cases e; exact .inl ⟨vs, .of r, by rw [q.isEmpty]⟩
    | m xs =>
      obtain ⟨vs, r, q⟩ := C
      have e : (if tkD (.dict xs) = true then none else some (!xs.isEmpty)) = some k := e
      split at e
      · cases e
      · cases e; exact .inr (.inr ⟨vs, r, by rw [q.isEmpty]⟩)
theorem vt_tru {e : Expr} {fe : VM EV} (h : VE Tb X W e fe) (he : ∀ whole, isTrue e X.env whole = (do let v ← whole; standAt e.pos; holding [v] (truthy v)) := by intro _; rfl) : VT Tb X W e (vTru fe) := by
  refine PT.wk (pt_truth h he) fun σ H Q h => ?_
  obtain ⟨O, st, F, h⟩ := h
  refine tV.bind F h fun r s1 v H1 S1 E1 h => ?_
  obtain ⟨x, Rx, h⟩ := h.rd S1.fr E1
  obtain ⟨k, ek, h⟩ := h.opt1
  exact ⟨k, truV_of Rx ek, h H1 S1⟩
def vAnd (ga gb : VM Bool) : VM Bool := vb ga fun c => if c = true then gb else vr false
def vOr (ga gb : VM Bool) : VM Bool := vb ga fun c => if c = true then vr true else gb
def vNot (ga : VM Bool) : VM Bool := vb ga fun c => vr (!c)
theorem vt_not (ha : VT Tb X W a ga) : VT Tb X W (.UnaryOp .Not a pos) (vNot ga) := by
  refine PT.wk (pt_not ha) fun σ H Q h => ?_
  obtain ⟨O, st, F, h⟩ := h
  exact tVT.bind F h fun b s1 H1 S1 h => h H1 S1
theorem vw_and1 (ha : VT Tb X W a ga) : VW Tb X W (.BoolOp .And [a] pos) ga := pw_and1 ha
theorem vw_or1 (ha : VT Tb X W a ga) : VW Tb X W (.BoolOp .Or [a] pos) ga := pw_or1 ha
theorem vw_and {rest : List Expr} (ha : VT Tb X W a ga) (hb : VW Tb X W (.BoolOp .And (b :: rest) pos) gb) : VW Tb X W (.BoolOp .And (a :: b :: rest) pos) (vAnd ga gb) := by
  refine PW.wk (pw_and ha hb) fun σ H Q h => ?_
  obtain ⟨O, st, F, h⟩ := h
  refine tVT.bind F h fun b s1 H1 S1 h => ?_
  cases b with
  | true => exact iteT ⟨O, s1, S1.fr, by
      rw [if_pos rfl] at h
      revert h
      cases gb s1 with
      | ok p => exact fun h H' S' => h H' (S1.trans S')
      | error er => cases er <;> exact fun h => h⟩
  | false => exact iteF (h H1 S1)
theorem vw_or {rest : List Expr} (ha : VT Tb X W a ga) (hb : VW Tb X W (.BoolOp .Or (b :: rest) pos) gb) : VW Tb X W (.BoolOp .Or (a :: b :: rest) pos) (vOr ga gb) := by
  refine PW.wk (pw_or ha hb) fun σ H Q h => ?_
  obtain ⟨O, st, F, h⟩ := h
  refine tVT.bind F h fun b s1 H1 S1 h => ?_
  cases b with
  | false => exact iteF ⟨O, s1, S1.fr, by
      rw [if_neg Bool.false_ne_true] at h
      revert h
      cases gb s1 with
      | ok p => exact fun h H' S' => h H' (S1.trans S')
      | error er => cases er <;> exact fun h => h⟩
  | true => exact iteT (h H1 S1)
theorem vt_w {e : Expr} (h : VW Tb X W e ga) : VT Tb X W e ga := PW.pt h
/-- the same as values, of bools -/
def vOfB (g : VM Bool) : VM EV := vb g fun b => vC (.bool b)
end
end VL
set_option Elab.async false
set_option linter.all false
set_option maxRecDepth 100000
namespace VL
open PySem PySem.Spec PyProof.Rows L2
section
variable {K : PySem.W.Frag} {O : AS} {H : Hp} {v w : V}
theorem Ro.none (h : Ro K O H .none v) : v = .non := by
  rcases h with h | ⟨p, c, _, e, _⟩
  · simpa only [Rp] using h
  · cases c <;> cases e
theorem Ro.bool {b : Bool} (h : Ro K O H (.bool b) v) : v = .bl b := by
  rcases h with h | ⟨p, c, _, e, _⟩
  · simpa only [Rp] using h
  · cases c <;> cases e
theorem Ro.int {i : Int} (h : Ro K O H (.int i) v) : v = .int i := by
  rcases h with h | ⟨p, c, _, e, _⟩
  · simpa only [Rp] using h
  · cases c <;> cases e
theorem Ro.str {s : Str} (h : Ro K O H (.str s) v) : v = .str s := by
  rcases h with h | ⟨p, c, _, e, _⟩
  · simpa only [Rp] using h
  · cases c <;> cases e
theorem Ro.list {xs : List Da} (h : Ro K O H (.list xs) v) : ∃ a vs, v = .ref a ∧ H a = some (.lst vs) ∧ RpL K O H xs vs := by
  rcases h with h | ⟨p, c, e1, e, C⟩
  · simp only [Rp] at h
    obtain ⟨a, vs, e, r, n, q⟩ := h
    exact ⟨a, vs, e, r, q⟩
  · cases c with
    | l ys => cases e; obtain ⟨vs, r, q⟩ := C; exact ⟨p, vs, e1, r, q⟩
    | m _ => cases e
theorem Ro.tup {xs : List Da} (h : Ro K O H (.tuple xs) v) : Rp K O H (.tuple xs) v := by
  rcases h with h | ⟨p, c, _, e, _⟩
  · exact h
  · cases c <;> cases e
theorem Rp.tupT {xs : List Da} (h : Rp K O H (.tuple xs) v) : ∃ a vs, v = .ref a ∧ SqT K H a vs ∧ RpL K O H xs vs := by
  simp only [Rp] at h
  obtain ⟨a, vs, e, r, q⟩ := h
  exact ⟨a, vs, e, r.elim (fun r => .of r.1) .inr, q⟩
theorem Ro.tupT {xs : List Da} (h : Ro K O H (.tuple xs) v) : ∃ a vs, v = .ref a ∧ SqT K H a vs ∧ RpL K O H xs vs := h.tup.tupT
theorem Ro.dictE {kvs : List (Da × Da)} (h : Ro K O H (.dict kvs) v) : ∃ a, v = .ref a ∧ ((∃ ks, H a = some (.dK ks) ∧ RpD K O H kvs ks) ∨ ∃ xs, H a = some (DkO a xs) ∧ TkOk a xs ∧ RpT K O H kvs xs) := by
  rcases h with h | ⟨p, c, e1, e, C⟩
  · simp only [Rp] at h
    obtain ⟨a, e, n, r⟩ := h
    exact ⟨a, e, r⟩
  · cases c with
    | m ys => cases e; obtain ⟨vs, r, q⟩ := C; exact ⟨p, e1, .inl ⟨vs, r, q⟩⟩
    | l _ => cases e
theorem Ro.dict {kvs : List (Da × Da)} (hk : tkD (.dict kvs) = false) (h : Ro K O H (.dict kvs) v) : ∃ a ks, v = .ref a ∧ H a = some (.dK ks) ∧ RpD K O H kvs ks := by
  obtain ⟨a, e, ⟨ks, r, q⟩ | ⟨xs, r, k, q⟩⟩ := h.dictE
  · exact ⟨a, ks, e, r, q⟩
  · exact absurd (tkD_no hk q) k.ne
/-- a list or a tuple -/
def seqD : Da → Option (List Da)
  | .list xs => some xs
  | .tuple xs => some xs
  | _ => .none
theorem Ro.seq {x : Da} {xs : List Da} (h : Ro K O H x v) (e : seqD x = some xs) : ∃ a vs, v = .ref a ∧ (SqL K H a vs ∨ SqT K H a vs) ∧ RpL K O H xs vs := by
  cases x with
  | list ys => cases e; obtain ⟨a, vs, e, r, q⟩ := h.list; exact ⟨a, vs, e, .inl (.of r), q⟩
  | tuple ys => cases e; obtain ⟨a, vs, e, r, q⟩ := h.tupT; exact ⟨a, vs, e, .inr r, q⟩
  | _ => cases e
theorem Ro.dp {x : Da} (c : x.canLay0 = true) (h : Ro K O H x v) : Dp K H v x := by
  rcases h with h | ⟨p, o, rfl, rfl, C⟩
  · exact h.dp x v c
  · cases o with
    | l xs => obtain ⟨vs, r, q⟩ := C; simp only [OC.data, PyData.canLay0] at c; exact .lst (.of r) (q.dp _ _ c)
    | m xs => simp only [OC.data, PyData.canLay0] at c; cases c
/-- the items' addresses are old -/
theorem Same.upd {p : Addr} {o : HO} (hp : H p = Option.none) : Same H (upd H p o) := fun b u e => by rw [upd_ne (ne_of_none e hp)]; exact e
theorem RpL.new {p : Addr} {o : HO} {xs : List Da} {vs : List V} (h : RpL K O H xs vs) (hp : H p = Option.none) : RpL K (O.with p) (L2.upd H p o) xs vs :=
  RpL.mono (fun a z => z.elim .inl fun z => .inr (by rw [z]; exact hp)) (fun a o e _ _ => Same.upd hp a o e) _ _ h
theorem RpL.same {H' : Hp} {xs : List Da} {vs : List V} (h : RpL K O H xs vs) (k : Same H H') : RpL K O H' xs vs :=
  RpL.mono (fun a z => .inl z) (fun a o e _ _ => k a o e) _ _ h
theorem Rp.same {H' : Hp} {x : Da} (h : Rp K O H x v) (k : Same H H') : Rp K O H' x v :=
  Rp.mono (fun a z => .inl z) (fun a o e _ _ => k a o e) _ _ h
theorem NR.lst {p : Addr} {xs : List Da} {vs : List V} (h : RpL K O H xs vs) (hp : H p = Option.none) : NR K O H (L2.upd H p (.lst vs)) (.ref p) (.own (.l xs)) :=
  ⟨p, rfl, hp, vs, upd_same, h.new hp⟩
theorem NR.tup {p : Addr} {xs : List Da} {vs : List V} (hd : ∀ a, O a → H a ≠ Option.none) (h : RpL K O H xs vs) (hp : H p = Option.none) : NR K O H (L2.upd H p (.tup vs)) (.ref p) (.d (.tuple xs)) := by
  show Rp _ _ _ _ _
  simp only [Rp]
  exact ⟨p, vs, rfl, .inl ⟨upd_same, fun z => hd p z hp⟩, h.same (Same.upd hp)⟩
end
def ints? : List Da → Option (List Int)
  | [] => some []
  | .int i :: r => (ints? r).map (i :: ·)
  | _ => none
theorem ints?_some : ∀ {xs : List Da} {ns : List Int}, ints? xs = some ns → xs = ns.map PyData.int
  | [], ns, h => by cases h; rfl
  | .int i :: r, ns, h => by
    unfold ints? at h
    obtain ⟨ms, e, rfl⟩ := Option.map_eq_some_iff.mp h
    rw [ints?_some e]; rfl
  | .none :: r, ns, h => by cases h
  | .bool _ :: r, ns, h => by cases h
  | .str _ :: r, ns, h => by cases h
  | .list _ :: r, ns, h => by cases h
  | .tuple _ :: r, ns, h => by cases h
  | .dict _ :: r, ns, h => by cases h
/-! ### operators by the data -/
def addD : Da → Da → Option EV
  | .int i, .int j => some (.d (.int (i + j)))
  | .str a, .str b => if a.length + b.length ≤ 16777216 then some (.d (.str (a ++ b))) else none
  | .list a, .list b => if a.length + b.length ≤ 16777216 then some (.own (.l (a ++ b))) else none
  | .tuple a, .tuple b => if a.length + b.length ≤ 16777216 then some (.d (.tuple (a ++ b))) else none
  | _, _ => none
def subD : Da → Da → Option EV
  | .int i, .int j => some (.d (.int (i - j)))
  | _, _ => none
def mulD : Da → Da → Option EV
  | .int i, .int j => if i.natAbs.log2 + j.natAbs.log2 < 1000000 then some (.d (.int (i * j))) else none
  | .list xs, .int k => if -(2 ^ 63) ≤ k ∧ k < 2 ^ 63 ∧ xs.length * k.toNat ≤ 16777216 then some (.own (.l (List.replicate k.toNat xs).flatten)) else none
  | .tuple xs, .int k => if xs ≠ [] ∧ 2 ≤ k ∧ k ≤ 1000 ∧ xs.length ≤ 1000 then some (.d (.tuple (List.replicate k.toNat xs).flatten)) else none
  | _, _ => none
def fdivD : Da → Da → Option EV
  | .int i, .int j => if 0 < j ∧ j.natAbs.log2 < 9000 then some (.d (.int (i / j))) else none
  | _, _ => none
def modD : Da → Da → Option EV
  | .int i, .int j => if 0 < j then some (.d (.int (i % j))) else none
  | _, _ => none
def powD : Da → Da → Option EV
  | .int i, .int j => if 0 ≤ j ∧ j ≤ 1000000 ∧ i.natAbs < 2 ^ 64 then some (.d (.int (i ^ j.toNat))) else none
  | _, _ => none
def eqD (x y : Da) : Option EV := if SeqAt.shaped x = true ∧ SeqAt.shaped y = true then some (.d (.bool (PyData.eqv x y))) else none
def neD (x y : Da) : Option EV := if SeqAt.shaped x = true ∧ SeqAt.shaped y = true then some (.d (.bool (!PyData.eqv x y))) else none
def isNoneD : Da → Bool
  | .none => true
  | _ => false
def isD : Da → Da → Option EV
  | x, .none => some (.d (.bool (isNoneD x)))
  | _, _ => none
def isnotD : Da → Da → Option EV
  | x, .none => some (.d (.bool (!isNoneD x)))
  | _, _ => none
def negD : Da → Option EV
  | .int i => some (.d (.int (-i)))
  | _ => none
theorem OpR.or {X : Cx} {f : Value → Value → Sem Value} {r r' : R2} (h : OpR X f r) (h' : OpR X f r') : OpR X f (fun x y H Q => r x y H Q ∨ r' x y H Q) := by
  intro pins s σ H x y v u Q I rx ry q
  rcases q with q | q
  · exact h pins s σ H x y v u Q I rx ry q
  · exact h' pins s σ H x y v u Q I rx ry q
section
variable {X : Cx}
theorem RpL.reps {K : PySem.W.Frag} {O : AS} {H : Hp} {xs : List Da} {vs : List V} (h : RpL K O H xs vs) : ∀ n : Nat, RpL K O H (List.replicate n xs).flatten (List.replicate n vs).flatten
  | 0 => .nil
  | n + 1 => by
    rw [List.replicate_succ, List.replicate_succ, List.flatten_cons, List.flatten_cons]
    exact h.append (RpL.reps h n)
theorem o_add : Op2 X (binaryOp .Add) addD := by
  refine ⟨_, OpR.or op_add (OpR.or op_add_str (OpR.or op_cat op_catA)), fun O H x y v w z Q hd hx hy e q => ?_⟩
  cases x with
  | int i =>
    cases y with
    | int j => cases e; obtain rfl := hx.int; obtain rfl := hy.int; exact .inl ⟨i, j, rfl, rfl, q _ H (Same.refl H) (by show Rp _ _ _ _ _; simp only [Rp])⟩
    | _ => cases e
  | str i =>
    cases y with
    | str j =>
      obtain rfl := hx.str; obtain rfl := hy.str
      unfold addD at e; dsimp only at e
      split at e
      · rename_i hl; cases e
        exact .inr (.inl ⟨i, j, rfl, rfl, by rw [sizeLine_eq]; exact hl, q _ H (Same.refl H) (by show Rp _ _ _ _ _; simp only [Rp])⟩)
      · cases e
    | _ => cases e
  | list a =>
    cases y with
    | list b =>
      unfold addD at e; dsimp only at e
      split at e
      · rename_i hl; cases e
        obtain ⟨l, vs, rfl, h1, r1⟩ := hx.list
        obtain ⟨m, ws, rfl, h2, r2⟩ := hy.list
        exact .inr (.inr (.inl ⟨l, m, vs, ws, rfl, rfl, h1, h2, by rw [← r1.length, ← r2.length, sizeLine_eq]; exact hl, fun p hp => q _ _ (Same.upd hp) (NR.lst (r1.append r2) hp)⟩))
      · cases e
    | _ => cases e
  | tuple a =>
    cases y with
    | tuple b =>
      unfold addD at e; dsimp only at e
      split at e
      · rename_i hl; cases e
        have hx' := hx.tup
        have hy' := hy.tup
        obtain ⟨l, vs, rfl, h1, r1⟩ := hx.tupT
        obtain ⟨m, ws, rfl, h2, r2⟩ := hy.tupT
        refine .inr (.inr (.inr ⟨l, m, vs, ws, rfl, rfl, h1, h2, by rw [← r1.length, ← r2.length, sizeLine_eq]; exact hl, fun ev => ?_, fun _ ew => ?_, fun _ _ p hp => q _ _ (Same.upd hp) (NR.tup hd (r1.append r2) hp)⟩))
        · subst ev
          have ea : a = [] := List.eq_nil_of_length_eq_zero r1.length
          subst ea
          exact q _ H (Same.refl H) hy'
        · subst ew
          have eb : b = [] := List.eq_nil_of_length_eq_zero r2.length
          subst eb
          refine q _ H (Same.refl H) ?_
          rw [List.append_nil]; exact hx'
      · cases e
    | _ => cases e
  | _ => cases e
theorem o_sub : Op2 X (binaryOp .Sub) subD := by
  refine ⟨_, op_sub, fun O H x y v w z Q hd hx hy e q => ?_⟩
  cases x with
  | int i =>
    cases y with
    | int j => cases e; obtain rfl := hx.int; obtain rfl := hy.int; exact ⟨i, j, rfl, rfl, q _ H (Same.refl H) (by show Rp _ _ _ _ _; simp only [Rp])⟩
    | _ => cases e
  | _ => cases e
theorem o_mul : Op2 X (binaryOp .Mult) mulD := by
  refine ⟨_, OpR.or op_mulW (OpR.or op_rep op_repT), fun O H x y v w z Q hd hx hy e q => ?_⟩
  cases x with
  | int i =>
    cases y with
    | int j =>
      unfold mulD at e; dsimp only at e
      split at e
      · rename_i hc; cases e; obtain rfl := hx.int; obtain rfl := hy.int
        exact .inl ⟨i, j, rfl, rfl, hc, q _ H (Same.refl H) (by show Rp _ _ _ _ _; simp only [Rp])⟩
      · cases e
    | _ => cases e
  | list a =>
    cases y with
    | int k =>
      unfold mulD at e; dsimp only at e
      split at e
      · rename_i hc; cases e; obtain rfl := hy.int
        obtain ⟨l, vs, rfl, h1, r1⟩ := hx.list
        exact .inr (.inl ⟨l, k, vs, rfl, rfl, h1, hc.1, hc.2.1, by rw [← r1.length, sizeLine_eq]; exact hc.2.2, fun p hp => q _ _ (Same.upd hp) (NR.lst (r1.reps _) hp)⟩)
      · cases e
    | _ => cases e
  | tuple a =>
    cases y with
    | int k =>
      unfold mulD at e; dsimp only at e
      split at e
      · rename_i hc; cases e; obtain rfl := hy.int
        obtain ⟨l, vs, rfl, h1, r1⟩ := hx.tupT
        exact .inr (.inr ⟨l, k, vs, rfl, rfl, h1, fun z => hc.1 (List.eq_nil_of_length_eq_zero (by rw [r1.length, z]; rfl)), hc.2.1, hc.2.2.1, by rw [← r1.length]; exact hc.2.2.2, fun p hp => q _ _ (Same.upd hp) (NR.tup hd (r1.reps _) hp)⟩)
      · cases e
    | _ => cases e
  | _ => cases e
theorem o_fdiv : Op2 X (binaryOp .FloorDiv) fdivD := by
  refine ⟨_, op_fdivW, fun O H x y v w z Q hd hx hy e q => ?_⟩
  cases x with
  | int i =>
    cases y with
    | int j =>
      unfold fdivD at e; dsimp only at e
      split at e
      · rename_i hc; cases e; obtain rfl := hx.int; obtain rfl := hy.int
        exact ⟨i, j, rfl, rfl, hc, q _ H (Same.refl H) (by show Rp _ _ _ _ _; simp only [Rp])⟩
      · cases e
    | _ => cases e
  | _ => cases e
theorem o_mod : Op2 X (binaryOp .Mod) modD := by
  refine ⟨_, op_mod, fun O H x y v w z Q hd hx hy e q => ?_⟩
  cases x with
  | int i =>
    cases y with
    | int j =>
      unfold modD at e; dsimp only at e
      split at e
      · rename_i hc; cases e; obtain rfl := hx.int; obtain rfl := hy.int
        exact ⟨i, j, rfl, rfl, hc, q _ H (Same.refl H) (by show Rp _ _ _ _ _; simp only [Rp])⟩
      · cases e
    | _ => cases e
  | _ => cases e
theorem o_pow : Op2 X (binaryOp .Pow) powD := by
  refine ⟨_, op_pow, fun O H x y v w z Q hd hx hy e q => ?_⟩
  cases x with
  | int i =>
    cases y with
    | int j =>
      unfold powD at e; dsimp only at e
      split at e
      · rename_i hc; cases e; obtain rfl := hx.int; obtain rfl := hy.int
        exact ⟨i, j, rfl, rfl, hc, q _ H (Same.refl H) (by show Rp _ _ _ _ _; simp only [Rp])⟩
      · cases e
    | _ => cases e
  | _ => cases e
theorem o_eq (hu : X.A.units + 64 < cLine) : Op2 X (compareOp .Eq) eqD := by
  refine ⟨_, op_eqD hu, fun O H x y v w z Q hd hx hy e q => ?_⟩
  unfold eqD at e
  split at e
  · rename_i hc; cases e
    exact ⟨x, y, hx.dp (SeqAt.canLay_of_shaped hc.1), hy.dp (SeqAt.canLay_of_shaped hc.2), hc.1, hc.2, q _ H (Same.refl H) (by show Rp _ _ _ _ _; simp only [Rp])⟩
  · cases e
theorem o_ne (hu : X.A.units + 64 < cLine) : Op2 X (compareOp .NotEq) neD := by
  refine ⟨_, op_neD hu, fun O H x y v w z Q hd hx hy e q => ?_⟩
  unfold neD at e
  split at e
  · rename_i hc; cases e
    exact ⟨x, y, hx.dp (SeqAt.canLay_of_shaped hc.1), hy.dp (SeqAt.canLay_of_shaped hc.2), hc.1, hc.2, q _ H (Same.refl H) (by show Rp _ _ _ _ _; simp only [Rp])⟩
  · cases e
theorem Ro.isNone {K : PySem.W.Frag} {O : AS} {H : Hp} {x : Da} {v : V} (h : Ro K O H x v) : decide (v = .non) = isNoneD x := by
  cases x with
  | none => rw [h.none]; rfl
  | bool b => rw [h.bool]; rfl
  | int b => rw [h.int]; rfl
  | str b => rw [h.str]; rfl
  | list b => obtain ⟨a, vs, rfl, _⟩ := h.list; rfl
  | tuple b => obtain ⟨a, vs, rfl, _⟩ := h.tupT; rfl
  | dict b => obtain ⟨a, rfl, _⟩ := h.dictE; rfl
theorem o_is : Op2 X (compareOp .Is) isD := by
  refine ⟨_, op_isN, fun O H x y v w z Q hd hx hy e q => ?_⟩
  cases y with
  | none =>
    have e : some (EV.d (.bool (isNoneD x))) = some z := by cases x <;> exact e
    cases e
    exact ⟨hy.none, by rw [hx.isNone]; exact q _ H (Same.refl H) (by show Rp _ _ _ _ _; simp only [Rp])⟩
  | _ => cases x <;> cases e
theorem o_neg : Op1 X (unaryOp .USub) negD := by
  refine ⟨_, un_neg, fun O H x v z Q hd hx e q => ?_⟩
  cases x with
  | int i => cases e; obtain rfl := hx.int; exact ⟨i, rfl, q _ H (Same.refl H) (by show Rp _ _ _ _ _; simp only [Rp])⟩
  | _ => cases e
/-! order: ints, texts, tuples of ints -/
def ordD (pi : Int → Int → Bool) (ps : Str → Str → Bool) (pt : List Int → List Int → Bool) : Da → Da → Option EV
  | .int i, .int j => some (.d (.bool (pi i j)))
  | .str a, .str b => some (.d (.bool (ps a b)))
  | .tuple a, .tuple b => (ints? a).bind fun x => (ints? b).map fun y => .d (.bool (pt x y))
  | _, _ => none
theorem o_ord {f : Value → Value → Sem Value} {pi : Int → Int → Bool} {ps : Str → Str → Bool} {pt : List Int → List Int → Bool}
    (h1 : OpR X f (rI0 fun i j => .bl (pi i j))) (h2 : OpR X f (fun x y H Q => ∃ i j, x = .str i ∧ y = .str j ∧ Q (.bl (ps i j)) H))
    (h3 : OpR X f (fun x y H Q => ∃ a b ns ms, x = .ref a ∧ y = .ref b ∧ SqT X.K H a (ns.map V.int) ∧ SqT X.K H b (ms.map V.int) ∧ Q (.bl (pt ns ms)) H)) : Op2 X f (ordD pi ps pt) := by
  refine ⟨_, OpR.or h1 (OpR.or h2 h3), fun O H x y v w z Q hd hx hy e q => ?_⟩
  cases x with
  | int i =>
    cases y with
    | int j => cases e; obtain rfl := hx.int; obtain rfl := hy.int; exact .inl ⟨i, j, rfl, rfl, q _ H (Same.refl H) (by show Rp _ _ _ _ _; simp only [Rp])⟩
    | _ => cases e
  | str i =>
    cases y with
    | str j => cases e; obtain rfl := hx.str; obtain rfl := hy.str; exact .inr (.inl ⟨i, j, rfl, rfl, q _ H (Same.refl H) (by show Rp _ _ _ _ _; simp only [Rp])⟩)
    | _ => cases e
  | tuple a =>
    cases y with
    | tuple b =>
      obtain ⟨ns, e1, e⟩ := Option.bind_eq_some_iff.mp (show (ints? a).bind _ = some z from e)
      obtain ⟨ms, e2, e⟩ := Option.map_eq_some_iff.mp e
      subst e
      have := ints?_some e1; subst this
      have := ints?_some e2; subst this
      obtain ⟨l, vs, rfl, t1, r1⟩ := hx.tupT
      obtain ⟨m, ws, rfl, t2, r2⟩ := hy.tupT
      rw [r1.ints] at t1
      rw [r2.ints] at t2
      exact .inr (.inr ⟨l, m, ns, ms, rfl, rfl, t1, t2, q _ H (Same.refl H) (by show Rp _ _ _ _ _; simp only [Rp])⟩)
    | _ => cases e
  | _ => cases e
theorem OpR.no {f : Value → Value → Sem Value} {r : R2} (h : ∀ x y H Q, ¬ r x y H Q) : OpR X f r := fun _ _ _ H x y _ _ Q _ _ _ q => (h x y H Q q).elim
end
def ltD : Da → Da → Option EV := ordD (fun i j => decide (i < j)) (fun i j => decide (i.cps.toList < j.cps.toList)) HT.lexLt
theorem o_lt {X : Cx} (hu : X.A.units < cLine) : Op2 X (compareOp .Lt) ltD := o_ord op_lt op_lt_str (op_ltT hu)
end VL
set_option Elab.async false
set_option linter.all false
set_option maxRecDepth 100000
namespace VL
open PySem PySem.Spec PyProof.Rows L2
section
variable {K : PySem.W.Frag} {mg : Str → Option Value} {W : WX} {O O' : AS} {st st1 st2 : VS} {σ σ1 σ2 : L2.St} {H H0 H1 H2 : Hp} {v : V} {r : EV}
theorem SlotOk.sub (hO : ∀ a, O' a → O a) {sv : SV} {ov : Option V} (h : SlotOk K O H sv ov) : SlotOk K O' H sv ov := by
  cases sv with
  | un => trivial
  | d x => obtain ⟨w, e, r⟩ := h; exact ⟨w, e, r.sub hO⟩
  | own c => obtain ⟨p, e, r⟩ := h; exact ⟨p, e, r.sub hO⟩
  | io c => obtain ⟨p, e, r⟩ := h; exact ⟨p, e, r.sub hO⟩
  | lk c => obtain ⟨p, e, r⟩ := h; exact ⟨p, e, r.sub hO⟩
  | rd xs => obtain ⟨a, vs, e, r, q⟩ := h; exact ⟨a, vs, e, r.mono (fun a z => .inl (hO a z)) (fun _ _ e _ _ => e), q.sub hO⟩
theorem FR.sub (hO : ∀ a, O' a → O a) (F : FR Tb K O st σ H) : FR Tb K O' st σ H := by
  refine ⟨F.len, fun i sv h => ?_, F.inj, fun p h z => F.avoid p h (hO p z), fun p h => F.odom p (hO p h), F.tabs⟩
  obtain ⟨v, e, s⟩ := F.slot i sv h
  exact ⟨v, e, s.sub fun a z => z.elim (fun z => .inl (hO a z)) .inr⟩
theorem Step.sub (hO : ∀ a, O' a → O a) (S : Step Tb K O st σ H st1 σ1 H1) : Step Tb K O' st σ H st1 σ1 H1 := ⟨S.fr.sub hO, S.keep, S.new, S.mnew, S.dom, S.len, S.io, S.lk⟩
theorem VRun.more {α : Type} {r : Res (α × VS)} {k : α → VS → Prop} (hO : ∀ a, O a → O' a) (h : VRun Tb K mg W O st σ H r k) : VRun Tb K mg W O' st σ H r k := by
  match r, h with
  | .ok (a, st'), h => exact h
  | .error (.exc C fs st'), h =>
    exact fun Ca d σ' H' ws e S' hd hr he => h Ca d σ' H' ws e (S'.sub hO) hd (hr.sub fun a z => z.elim (fun z => .inl (hO a z)) .inr) he
  | .error .stuck, h => exact h.elim
theorem VRun.mono {α : Type} {r : Res (α × VS)} {k k' : α → VS → Prop} (h : VRun Tb K mg W O st σ H r k) (hk : ∀ a s, k a s → k' a s) : VRun Tb K mg W O st σ H r k' := by
  match r, h with
  | .ok (a, st'), h => exact hk _ _ h
  | .error (.exc C fs st'), h => exact h
  | .error .stuck, h => exact h.elim
/-- a slot that may be written -/
def wrOk : Option SV → Bool
  | some (.io _) => false
  | some (.lk _) => false
  | some _ => true
  | none => false
theorem OwnAt.set {i j : Nat} {sv : SV} {ov : Option V} {q : Addr} (h : OwnAt (st.set i sv) (σ.set i ov) j q) : (j = i ∧ ov = some (.ref q) ∧ ∃ c, sv = .own c ∨ sv = .io c ∨ sv = .lk c) ∨ (j ≠ i ∧ OwnAt st σ j q) := by
  obtain ⟨e, c, h⟩ := h
  by_cases hj : j = i
  · subst hj
    refine .inl ⟨rfl, ?_, c, ?_⟩
    · by_cases hl : j < σ.length
      · rw [List.getElem?_set_self hl] at e; exact Option.some.inj e
      · rw [List.getElem?_eq_none (by rw [List.length_set]; omega)] at e; cases e
    · by_cases hl : j < st.length
      · rw [List.getElem?_set_self hl] at h
        exact h.imp Option.some.inj (fun h => h.imp Option.some.inj Option.some.inj)
      · rw [List.getElem?_eq_none (by rw [List.length_set]; omega)] at h
        rcases h with h | h | h <;> cases h
  · refine .inr ⟨hj, ?_, c, ?_⟩
    · rwa [List.getElem?_set_ne (Ne.symm hj)] at e
    · rwa [List.getElem?_set_ne (Ne.symm hj)] at h
theorem MutAt.set {i j : Nat} {sv : SV} {ov : Option V} {q : Addr} (h : MutAt (st.set i sv) (σ.set i ov) j q) : (j = i ∧ ov = some (.ref q) ∧ ∃ c, sv = .own c ∨ sv = .io c) ∨ (j ≠ i ∧ MutAt st σ j q) := by
  obtain ⟨e, c, h⟩ := h
  by_cases hj : j = i
  · subst hj
    refine .inl ⟨rfl, ?_, c, ?_⟩
    · by_cases hl : j < σ.length
      · rw [List.getElem?_set_self hl] at e; exact Option.some.inj e
      · rw [List.getElem?_eq_none (by rw [List.length_set]; omega)] at e; cases e
    · by_cases hl : j < st.length
      · rw [List.getElem?_set_self hl] at h
        exact h.imp Option.some.inj Option.some.inj
      · rw [List.getElem?_eq_none (by rw [List.length_set]; omega)] at h
        rcases h with h | h <;> cases h
  · refine .inr ⟨hj, ?_, c, ?_⟩
    · rwa [List.getElem?_set_ne (Ne.symm hj)] at e
    · rwa [List.getElem?_set_ne (Ne.symm hj)] at h
theorem wr_io {i j : Nat} {sv : SV} (hw : wrOk st[i]? = true) {c : OC} (h : st[j]? = some (.io c)) : (st.set i sv)[j]? = some (.io c) ∧ j ≠ i := by
  have hj : j ≠ i := fun z => by subst z; rw [h] at hw; cases hw
  exact ⟨by rw [List.getElem?_set_ne (Ne.symm hj)]; exact h, hj⟩
theorem wr_lk {i j : Nat} {sv : SV} (hw : wrOk st[i]? = true) {c : OC} (h : st[j]? = some (.lk c)) : (st.set i sv)[j]? = some (.lk c) ∧ j ≠ i := by
  have hj : j ≠ i := fun z => by subst z; rw [h] at hw; cases hw
  exact ⟨by rw [List.getElem?_set_ne (Ne.symm hj)]; exact h, hj⟩
theorem wr_lt {i : Nat} (hw : wrOk st[i]? = true) : i < st.length := by
  by_cases h : i < st.length
  · exact h
  · rw [List.getElem?_eq_none (by omega)] at hw; cases hw
/-- a slot is set to what owns nothing -/
theorem FR.setN {i : Nat} {sv : SV} {ov : Option V} (F : FR Tb K O st σ H) (hsv : SlotOk K (Av O st σ) H sv ov) (hn : ∀ c, sv ≠ .own c ∧ sv ≠ .io c ∧ sv ≠ .lk c) : FR Tb K O (st.set i sv) (σ.set i ov) H := by
  have own : ∀ j q, OwnAt (st.set i sv) (σ.set i ov) j q → OwnAt st σ j q := fun j q h => by
    rcases h.set with ⟨_, _, c, h⟩ | ⟨_, h⟩
    · rcases h with h | h | h
      · exact absurd h (hn c).1
      · exact absurd h (hn c).2.1
      · exact absurd h (hn c).2.2
    · exact h
  have av : ∀ a, Av O (st.set i sv) (σ.set i ov) a → Av O st σ a := fun a h => h.imp id fun ⟨j, h⟩ => ⟨j, own j a h⟩
  refine ⟨by rw [List.length_set, List.length_set]; exact F.len, fun j sv' h => ?_, fun a b p h1 h2 => F.inj a b p (own _ _ h1) (own _ _ h2), fun p ⟨j, h⟩ => F.avoid p ⟨j, own j p h⟩, F.odom, F.tabs⟩
  by_cases hj : j = i
  · subst hj
    have hl : j < st.length := by
      by_cases hl : j < st.length
      · exact hl
      · rw [List.getElem?_eq_none (by rw [List.length_set]; omega)] at h; cases h
    rw [List.getElem?_set_self hl] at h
    cases h
    exact ⟨ov, List.getElem?_set_self (by rw [← F.len]; exact hl), hsv.sub av⟩
  · rw [List.getElem?_set_ne (Ne.symm hj)] at h
    obtain ⟨v, e, s⟩ := F.slot j sv' h
    exact ⟨v, by rw [List.getElem?_set_ne (Ne.symm hj)]; exact e, s.sub av⟩
theorem Step.setN {i : Nat} {sv : SV} {ov : Option V} (S : Step Tb K O st σ H st1 σ1 H1) (hw : wrOk st1[i]? = true) (hsv : SlotOk K (Av O st1 σ1) H1 sv ov) (hn : ∀ c, sv ≠ .own c ∧ sv ≠ .io c ∧ sv ≠ .lk c) :
    Step Tb K O st σ H (st1.set i sv) (σ1.set i ov) H1 := by
  refine S.trans ⟨S.fr.setN hsv hn, fun _ _ h _ _ => h, fun a ⟨j, h⟩ => ?_, fun a ⟨j, h⟩ => ?_, fun _ h => h, List.length_set, fun j c h => ?_, fun j c h => ?_⟩
  · rcases h.set with ⟨_, _, c, h⟩ | ⟨_, h⟩
    · rcases h with h | h | h
      · exact absurd h (hn c).1
      · exact absurd h (hn c).2.1
      · exact absurd h (hn c).2.2
    · exact .inl ⟨j, h⟩
  · rcases h.set with ⟨_, _, c, h⟩ | ⟨_, h⟩
    · rcases h with h | h
      · exact absurd h (hn c).1
      · exact absurd h (hn c).2.1
    · exact .inl ⟨j, h⟩
  · obtain ⟨a, b⟩ := wr_io (sv := sv) hw h
    exact ⟨⟨c, a⟩, List.getElem?_set_ne (Ne.symm b)⟩
  · obtain ⟨a, b⟩ := wr_lk (sv := sv) hw h
    exact ⟨a, List.getElem?_set_ne (Ne.symm b)⟩
/-- a slot is given a new list of its own -/
theorem FR.setOwn {i : Nat} {p : Addr} {c : OC} (F : FR Tb K (O.with p) st σ H) (n : ¬ O p) (C : Cont K (Av (O.with p) st σ) H p c) (hi : i < st.length) : FR Tb K O (st.set i (.own c)) (σ.set i (some (.ref p))) H := by
  have np : ∀ j, ¬ OwnAt st σ j p := fun j h => F.avoid p ⟨j, h⟩ (.inr rfl)
  have own : ∀ j q, OwnAt (st.set i (.own c)) (σ.set i (some (.ref p))) j q → (j = i ∧ q = p) ∨ OwnAt st σ j q := fun j q h => by
    rcases h.set with ⟨a, b, _⟩ | ⟨_, h⟩
    · cases b; exact .inl ⟨a, rfl⟩
    · exact .inr h
  have av : ∀ a, Av O (st.set i (.own c)) (σ.set i (some (.ref p))) a → Av (O.with p) st σ a := fun a h => by
    rcases h with h | ⟨j, h⟩
    · exact .inl (.inl h)
    · rcases own j a h with ⟨_, e⟩ | h
      · exact .inl (.inr e)
      · exact .inr ⟨j, h⟩
  refine ⟨by rw [List.length_set, List.length_set]; exact F.len, fun j sv' h => ?_, fun a b q h1 h2 => ?_, fun q ⟨j, h⟩ z => ?_, fun q h => F.odom q (.inl h), F.tabs⟩
  · by_cases hj : j = i
    · subst hj
      rw [List.getElem?_set_self hi] at h
      cases h
      exact ⟨_, List.getElem?_set_self (by rw [← F.len]; exact hi), p, rfl, C.sub av⟩
    · rw [List.getElem?_set_ne (Ne.symm hj)] at h
      obtain ⟨v, e, s⟩ := F.slot j sv' h
      exact ⟨v, by rw [List.getElem?_set_ne (Ne.symm hj)]; exact e, s.sub av⟩
  · rcases own a q h1 with ⟨e1, e2⟩ | h1
    · rcases own b q h2 with ⟨e3, _⟩ | h2
      · rw [e1, e3]
      · rw [e2] at h2; exact absurd h2 (np b)
    · rcases own b q h2 with ⟨_, e2⟩ | h2
      · rw [e2] at h1; exact absurd h1 (np a)
      · exact F.inj a b q h1 h2
  · rcases own j q h with ⟨_, e⟩ | h
    · rw [e] at z; exact n z
    · exact F.avoid q ⟨j, h⟩ (.inl z)
theorem Step.setOwn {i : Nat} {p : Addr} {c : OC} (S : Step Tb K O st σ H st1 σ1 H1) (hw : wrOk st1[i]? = true) (hp : H p = none) (n : ¬ O p) (F : FR Tb K (O.with p) st1 σ1 H1) (C : Cont K (Av (O.with p) st1 σ1) H1 p c) :
    Step Tb K O st σ H (st1.set i (.own c)) (σ1.set i (some (.ref p))) H1 := by
  refine ⟨F.setOwn n C (wr_lt hw), S.keep, fun a ⟨j, h⟩ => ?_, fun a ⟨j, h⟩ => ?_, S.dom, List.length_set.trans S.len, fun j c h => ?_, fun j c h => ?_⟩
  · rcases h.set with ⟨_, e, _⟩ | ⟨_, h⟩
    · cases e; exact .inr hp
    · exact S.new a ⟨j, h⟩
  · rcases h.set with ⟨_, e, _⟩ | ⟨_, h⟩
    · cases e; exact .inr hp
    · exact S.mnew a ⟨j, h⟩
  · obtain ⟨⟨c', h'⟩, e⟩ := S.io j c h
    obtain ⟨a, b⟩ := wr_io (sv := .own c) hw h'
    exact ⟨⟨c', (wr_io hw h').1⟩, by rw [List.getElem?_set_ne (Ne.symm b)]; exact e⟩
  · obtain ⟨h', e⟩ := S.lk j c h
    obtain ⟨a, b⟩ := wr_lk (sv := .own c) hw h'
    exact ⟨(wr_lk hw h').1, by rw [List.getElem?_set_ne (Ne.symm b)]; exact e⟩
/-! ### statements -/
inductive Ctl where
  | nx | bk | ct
  | rt (r : EV)
def CtlK (Tb : List (Addr × Str)) (K : PySem.W.Frag) (O : AS) (st : VS) (σ : L2.St) (H : Hp) (D : Ends) (c : Ctl) (st' : VS) : Prop :=
  match c with
  | .nx => ∀ σ' H', Step Tb K O st σ H st' σ' H' → D.nx σ' H'
  | .bk => ∀ σ' H', Step Tb K O st σ H st' σ' H' → D.bk σ' H'
  | .ct => ∀ σ' H', Step Tb K O st σ H st' σ' H' → D.ct σ' H'
  | .rt r => ∀ v σ' H', Step Tb K O st σ H st' σ' H' → ER Tb K O H st' σ' H' v r → D.rt v H'
theorem CtlK.step {D : Ends} {c : Ctl} {st' : VS} (S : Step Tb K O st σ H st1 σ1 H1) (h : CtlK Tb K O st σ H D c st') : CtlK Tb K O st1 σ1 H1 D c st' := by
  cases c with
  | nx => exact fun σ' H' S' => h σ' H' (S.trans S')
  | bk => exact fun σ' H' S' => h σ' H' (S.trans S')
  | ct => exact fun σ' H' S' => h σ' H' (S.trans S')
  | rt r => exact fun v σ' H' S' E => h v σ' H' (S.trans S') (E.back S.dom)
def tVS (Tb : List (Addr × Str)) (K : PySem.W.Frag) (mg : Str → Option Value) (W : WX) (g : VM Ctl) : TS := fun D σ H => ∃ O st, FR Tb K O st σ H ∧ VRun Tb K mg W O st σ H (g st) (CtlK Tb K O st σ H D)
/-- from a state on -/
theorem tVS.of {g : VM Ctl} {D : Ends} (F : FR Tb K O st σ H) (h : VRun Tb K mg W O st σ H (g st) (CtlK Tb K O st σ H D)) : tVS Tb K mg W g D σ H := ⟨O, st, F, h⟩
def vSeq (f g : VM Ctl) : VM Ctl := vb f fun c => match c with
  | .nx => g
  | c => vr c
theorem vrun_vb {α β : Type} {f : VM α} {g : α → VM β} {k : β → VS → Prop} (h : VRun Tb K mg W O st σ H (vb f g st) k) : VRun Tb K mg W O st σ H (f st) fun a s => VRun Tb K mg W O st σ H (g a s) k := by
  unfold vb at h
  cases e : f st with
  | ok p => rw [e] at h; exact h
  | error er =>
    rw [e] at h
    cases er with
    | exc C fs s1 => exact h
    | stuck => exact h
theorem tVS.seq {f g : VM Ctl} {D : Ends} (h : tVS Tb K mg W (vSeq f g) D σ H) : tVS Tb K mg W f { D with nx := tVS Tb K mg W g D } σ H := by
  obtain ⟨O, st, F, h⟩ := h
  refine ⟨O, st, F, (vrun_vb h).mono fun c s q => ?_⟩
  cases c with
  | nx => exact fun σ' H' S => ⟨O, s, S.fr, (VRun.step S q).mono fun c s' z => z.step S⟩
  | bk => exact q
  | ct => exact q
  | rt r => exact q
end
abbrev VSt (Tb : List (Addr × Str)) (X : Cx) (W : WX) (s : Stmt) (g : VM Ctl) : Prop := PS X s (tVS Tb X.K X.mg W g)
abbrev VSs (Tb : List (Addr × Str)) (X : Cx) (W : WX) (ss : List Stmt) (g : VM Ctl) : Prop := PSs X ss (tVS Tb X.K X.mg W g)
theorem PS.wk {X : Cx} {s : Stmt} {t t' : TS} (h : PS X s t) (w : ∀ D σ H, t' D σ H → t D σ H) : PS X s t' := ⟨fun pins s σ H D I q => h.run pins s σ H D I (w D σ H q)⟩
theorem PSs.wk {X : Cx} {s : List Stmt} {t t' : TS} (h : PSs X s t) (w : ∀ D σ H, t' D σ H → t D σ H) : PSs X s t' := ⟨fun pins s σ H D I q => h.run pins s σ H D I (w D σ H q)⟩
section
variable {X : Cx} {W : WX} {a b c e : Expr} {pos : Pos} {fa fb fc fe : VM EV} {ga gb : VM Bool} {s : Stmt} {ss sb : List Stmt} {g g' : VM Ctl}
def vNx : VM Ctl := vr .nx
theorem vs_nil : VSs Tb X W [] vNx := PSs.wk pss_nil fun D σ H ⟨O, st, F, h⟩ => h σ H (Step.refl F)
theorem vs_cons (h1 : VSt Tb X W s g) (h2 : VSs Tb X W ss g') : VSs Tb X W (s :: ss) (vSeq g g') := PSs.wk (pss_cons h1 h2) fun D σ H h => h.seq
theorem vs_one (h1 : VSt Tb X W s g) : VSs Tb X W [s] g := pss_one h1
theorem vs_break : VSt Tb X W (.Break pos) (vr .bk) := PS.wk ps_break fun D σ H ⟨O, st, F, h⟩ => h σ H (Step.refl F)
/-- a ghost: what a slot owns is let go, to be shared as a datum -/
def frz1 (i : Nat) (s : VS) : VS := match s[i]? with
  | some (.own c) => s.set i (.d c.data)
  | _ => s
def vFrz (is : List Nat) (g : VM α) : VM α := fun s => g (is.foldl (fun s i => frz1 i s) s)
theorem Own.frz {K : PySem.W.Frag} {O : AS} {st : VS} {σ : L2.St} {H : Hp} (F : FR Tb K O st σ H) (i : Nat) : Step Tb K O st σ H (frz1 i st) σ H := by
  unfold frz1
  split
  · rename_i c hc
    obtain ⟨ov, eov, p, epv, C⟩ := F.slot i _ hc
    subst epv
    have hi : i < st.length := by
      by_cases h : i < st.length
      · exact h
      · rw [List.getElem?_eq_none (by omega)] at hc; cases hc
    have ip : OwnAt st σ i p := ⟨eov, c, .inl hc⟩
    have hσ : σ.set i (some (.ref p)) = σ := by
      apply List.ext_getElem?
      intro j
      by_cases hj : j = i
      · subst hj; rw [List.getElem?_set_self (by rw [← F.len]; exact hi), eov]
      · rw [List.getElem?_set_ne (Ne.symm hj)]
    -- the other slots keep away from p, the slot itself too
    have own : ∀ j q, OwnAt (st.set i (.d c.data)) σ j q → j ≠ i ∧ OwnAt st σ j q := fun j q h => by
      rw [← hσ] at h
      rcases h.set with ⟨_, _, c, h⟩ | ⟨a, h⟩
      · rcases h with h | h | h <;> cases h
      · exact ⟨a, h⟩
    have mut_ : ∀ j q, MutAt (st.set i (.d c.data)) σ j q → j ≠ i ∧ MutAt st σ j q := fun j q h => by
      rw [← hσ] at h
      rcases h.set with ⟨_, _, c, h⟩ | ⟨a, h⟩
      · rcases h with h | h <;> cases h
      · exact ⟨a, h⟩
    have av : ∀ a, Av O (st.set i (.d c.data)) σ a → Av O st σ a := fun a h => h.imp id fun ⟨j, h⟩ => ⟨j, (own j a h).2⟩
    have FF : FR Tb K O (st.set i (.d c.data)) σ H := by
      refine ⟨by rw [List.length_set]; exact F.len, fun j sv' h => ?_, fun a b q h1 h2 => F.inj a b q (own a q h1).2 (own b q h2).2, fun q ⟨j, h⟩ => F.avoid q ⟨j, (own j q h).2⟩, F.odom, F.tabs⟩
      by_cases hj : j = i
      · subst hj
        rw [List.getElem?_set_self hi] at h
        cases h
        refine ⟨_, eov, .ref p, rfl, (C.sub av).rp fun z => ?_⟩
        rcases z with z | ⟨j', z⟩
        · exact F.avoid p ⟨j, ip⟩ z
        · obtain ⟨n, z⟩ := own j' p z
          exact n (F.inj j' j p z ip)
      · rw [List.getElem?_set_ne (Ne.symm hj)] at h
        obtain ⟨v, e, s⟩ := F.slot j sv' h
        exact ⟨v, e, s.sub av⟩
    refine ⟨FF, fun _ _ h _ _ => h, fun a ⟨j, h⟩ => .inl ⟨j, (own j a h).2⟩, fun a ⟨j, h⟩ => .inl ⟨j, (mut_ j a h).2⟩, fun _ h => h, rfl, fun j c' h => ⟨⟨c', ?_⟩, rfl⟩, fun j c' h => ⟨?_, rfl⟩⟩
    · have hj : j ≠ i := fun z => by subst z; rw [h] at hc; cases hc
      rw [List.getElem?_set_ne (Ne.symm hj)]; exact h
    · have hj : j ≠ i := fun z => by subst z; rw [h] at hc; cases hc
      rw [List.getElem?_set_ne (Ne.symm hj)]; exact h
  · exact Step.refl F
theorem Step.frzs {K : PySem.W.Frag} {O : AS} {σ : L2.St} {H : Hp} : ∀ (is : List Nat) {st : VS}, FR Tb K O st σ H → Step Tb K O st σ H (is.foldl (fun s i => frz1 i s) st) σ H
  | [], st, F => Step.refl F
  | i :: is, st, F => by
    have a := Own.frz F i
    exact a.trans (Step.frzs is a.fr)
theorem vs_frz (is : List Nat) (h : VSt Tb X W s g) : VSt Tb X W s (vFrz is g) := PS.wk h fun D σ H ⟨O, st, F, q⟩ => by
  have S := Step.frzs is F
  exact ⟨O, _, S.fr, (VRun.step S q).mono fun c s z => z.step S⟩
/-- an expression as a statement -/
def vDrop (f : VM EV) : VM Ctl := vb f fun _ => vNx
theorem tVS.expr {f : VM EV} {g : EV → VM Ctl} {D : Ends} {σ : L2.St} {H : Hp} {K : PySem.W.Frag} {mg : Str → Option Value} {Q : VK} (h : tVS Tb K mg W (vb f g) D σ H)
    (cont : ∀ O st r s1 v H1, Step Tb K O st σ H s1 σ H1 → ER Tb K O H s1 σ H1 v r → VRun Tb K mg W O s1 σ H1 (g r s1) (CtlK Tb K O st σ H D) → Q v H1) : tV Tb K mg W f σ H Q := by
  obtain ⟨O, st, F, h⟩ := h
  exact tV.bind F h fun r s1 v H1 S E h => cont O st r s1 v H1 S E h
theorem vs_expr (he : VE Tb X W e fe) (hs : swapsWith e none pos.line X.env = pure false := by rfl) : VSt Tb X W (.Expr e pos) (vDrop fe) :=
  PS.wk (ps_expr he hs) fun D σ H h => h.expr fun O st r s1 v H1 S E h => h σ H1 S
/-- return -/
def vRet (f : VM EV) : VM Ctl := vb f fun r => vr (.rt r)
theorem vs_ret (he : VE Tb X W e fe) : VSt Tb X W (.Return (some e) pos) (vRet fe) :=
  PS.wk (ps_ret he) fun D σ H h => h.expr fun O st r s1 v H1 S E h => h v σ H1 S E
/-- if -/
def vIf (c : VM Bool) (a b : VM Ctl) : VM Ctl := vb c fun k => if k = true then a else b
theorem vs_if {e : Expr} {sa : List Stmt} (hc : VT Tb X W e ga) (ha : VSs Tb X W sa g) (hb : VSs Tb X W sb g') : VSt Tb X W (.If e sa sb pos) (vIf ga g g') := by
  refine PS.wk (ps_if hc ha hb) fun D σ H h => ?_
  obtain ⟨O, st, F, h⟩ := h
  refine tVT.bind F h fun k s1 H1 S h => ?_
  cases k with
  | true => rw [if_pos rfl] at h; exact iteT ⟨O, s1, S.fr, h.mono fun c s z => z.step S⟩
  | false => rw [if_neg Bool.false_ne_true] at h; exact iteF ⟨O, s1, S.fr, h.mono fun c s z => z.step S⟩
/-- a if c else b -/
def vIte (c : VM Bool) (a b : VM EV) : VM EV := vb c fun k => if k = true then a else b
theorem ve_ite {c a b : Expr} (hc : VT Tb X W c ga) (ha : VE Tb X W a fa) (hb : VE Tb X W b fb) : VE Tb X W (.IfExp c a b pos) (vIte ga fa fb) := by
  refine PE.wk (pe_ifExp hc ha hb) fun σ H Q h => ?_
  obtain ⟨O, st, F, h⟩ := h
  refine tVT.bind F h fun k s1 H1 S h => ?_
  cases k with
  | true => rw [if_pos rfl] at h; exact iteT ⟨O, s1, S.fr, h.mono fun r s z v H' S' E => z v H' (S.trans S') (E.back S.dom)⟩
  | false => rw [if_neg Bool.false_ne_true] at h; exact iteF ⟨O, s1, S.fr, h.mono fun r s z v H' S' E => z v H' (S.trans S') (E.back S.dom)⟩
/-! ### targets -/
/-- it comes to an end, and then k -/
def okK {α : Type} (r : Res (α × VS)) (k : α → VS → Prop) : Prop := match r with
  | .ok (a, st') => k a st'
  | .error _ => False
/-- storing a result -/
def gVT (Tb : List (Addr × Str)) (K : PySem.W.Frag) (f : EV → VM Unit) : TG := fun v σ H Q => ∃ O st0 σ0 H0 st r, Step Tb K O st0 σ0 H0 st σ H ∧ ER Tb K O H0 st σ H v r ∧
  okK (f r st) fun _ st' => ∀ σ' H', Step Tb K O st0 σ0 H0 st' σ' H' → Q σ' H'
abbrev VG (Tb : List (Addr × Str)) (X : Cx) (t : Expr) (f : EV → VM Unit) : Prop := PG X t (gVT Tb X.K f)
theorem PG.wk {X : Cx} {e : Expr} {t t' : TG} (h : PG X e t) (w : ∀ v σ H Q, t' v σ H Q → t v σ H Q) : PG X e t' := ⟨fun pins s σ H v u Q I r q => h.run pins s σ H v u Q I r (w v σ H Q q)⟩
def vSet (i : Nat) (r : EV) : VM Unit := fun s =>
  if wrOk s[i]? = true then
    match r with
    | .d x => .ok ((), s.set i (.d x))
    | .own c => .ok ((), s.set i (.own c))
    | .loan _ => .error .stuck
  else .error .stuck
theorem gVT.name {K : PySem.W.Frag} {i : Nat} {v : V} {σ : L2.St} {H : Hp} {Q : L2.St → Hp → Prop} (h : gVT Tb K (vSet i) v σ H Q) : gName i v σ H Q := by
  obtain ⟨O, st0, σ0, H0, st, r, S, E, h⟩ := h
  unfold vSet at h
  by_cases hw : wrOk st[i]? = true
  · rw [if_pos hw] at h
    cases r with
    | d x => exact h _ _ (S.setN hw ⟨v, rfl, E⟩ fun c => ⟨(fun z => by cases z), (fun z => by cases z), (fun z => by cases z)⟩)
    | own c =>
      obtain ⟨p, rfl, hp, n, F, C⟩ := E
      exact h _ _ (S.setOwn hw hp n F C)
    | loan j => exact h.elim
  · rw [if_neg hw] at h; exact h.elim
/-- what raises is left out -/
def vNoX {α : Type} (m : VM α) : VM α := fun s => match m s with
  | .ok p => .ok p
  | .error _ => .error .stuck
def vAsg (f : VM EV) (g : EV → VM Unit) : VM Ctl := vb f fun r => vb (vNoX (g r)) fun _ => vNx
theorem asg_wk {fe : VM EV} {gt : EV → VM Unit} {K : PySem.W.Frag} {mg : Str → Option Value} {D : Ends} {σ : L2.St} {H : Hp} (h : tVS Tb K mg W (vAsg fe gt) D σ H) : tAsg (tV Tb K mg W fe) (gVT Tb K gt) D σ H := by
  refine h.expr fun O st r s1 v H1 S E h => ?_
  refine ⟨O, st, σ, H, s1, r, S, E, ?_⟩
  unfold vb vNoX at h
  cases q : gt r s1 with
  | ok p =>
    obtain ⟨_, s2⟩ := p
    rw [q] at h
    exact fun σ' H' S' => h σ' H' S'
  | error er =>
    rw [q] at h
    exact h.elim
theorem vs_set {i : Nat} {x : Str} {pos' : Pos} (hN : X.N.Nodup) (hi : X.N[i]? = some x) (hx : Loc X.env.scope x) (he : VE Tb X W e fe) (hs : swapsWith e (some (.Name x pos')) pos.line X.env = pure false := by rfl) (hf : X.fn x = true ∨ X.env.scope.names.lookup x = some .local := by first | exact .inl rfl | exact .inr rfl | assumption) :
    VSt Tb X W (.Assign [.Name x pos'] e pos) (vAsg fe (vSet i)) := by
  refine PS.wk (ps_set hN hi hx he hs hf) fun D σ H h => ?_
  exact (asg_wk h).imp fun O ⟨st, F, q⟩ => ⟨st, F, q.mono fun r s z v H' S E => (z v H' S E).name⟩
end
end VL
set_option Elab.async false
set_option linter.all false
set_option maxRecDepth 100000
namespace VL
open PySem PySem.Spec PyProof.Rows L2
/-! ### argument lists -/
section
variable {K : PySem.W.Frag} {mg : Str → Option Value} {W : WX} {O O' : AS} {st st1 st2 : VS} {σ σ1 σ2 : L2.St} {H H0 H1 H2 : Hp} {v : V} {r : EV}
/-- results that are settled -/
def ERs (Tb : List (Addr × Str)) (K : PySem.W.Frag) (O : AS) (st : VS) (σ : L2.St) (H : Hp) : List V → List EV → Prop
  | [], [] => True
  | v :: vs, r :: rs => ER Tb K O H st σ H v (settle r) ∧ r = settle r ∧ ERs Tb K O st σ H vs rs
  | _, _ => False
theorem settle_settle (r : EV) : settle (settle r) = settle r := by cases r <;> rfl
theorem ERs.later : ∀ {vs : List V} {rs : List EV}, ERs Tb K O st σ H vs rs → Step Tb K O st σ H st1 σ H1 → ERs Tb K O st1 σ H1 vs rs
  | [], [], _, _ => trivial
  | v :: vs, r :: rs, h, S => ⟨h.1.later S, h.2.1, ERs.later h.2.2 S⟩
  | [], _ :: _, h, _ => h.elim
  | _ :: _, [], h, _ => h.elim
theorem ERs.append : ∀ {vs ws : List V} {rs qs : List EV}, ERs Tb K O st σ H vs rs → ERs Tb K O st σ H ws qs → ERs Tb K O st σ H (vs ++ ws) (rs ++ qs)
  | [], ws, [], qs, _, g => g
  | v :: vs, ws, r :: rs, qs, h, g => ⟨h.1, h.2.1, ERs.append h.2.2 g⟩
  | [], _, _ :: _, _, h, _ => h.elim
  | _ :: _, _, [], _, h, _ => h.elim
theorem ERs.length : ∀ {vs : List V} {rs : List EV}, ERs Tb K O st σ H vs rs → vs.length = rs.length
  | [], [], _ => rfl
  | v :: vs, r :: rs, h => by rw [List.length_cons, List.length_cons, ERs.length h.2.2]
  | [], _ :: _, h => h.elim
  | _ :: _, [], h => h.elim
/-- the data of results that are to be kept: no loan -/
def evD : EV → Option Da
  | .d x => some x
  | .own c => some c.data
  | .loan _ => none
def dts : List EV → Option (List Da)
  | [] => some []
  | r :: rs => (evD r).bind fun x => (dts rs).map (x :: ·)
theorem ERs.dts : ∀ {vs : List V} {rs : List EV} {xs : List Da}, ERs Tb K O st σ H vs rs → VL.dts rs = some xs → RpL K (Av O st σ) H xs vs
  | [], [], xs, _, e => by cases e; exact .nil
  | v :: vs, r :: rs, xs, h, e => by
    obtain ⟨x, e1, e⟩ := Option.bind_eq_some_iff.mp (show (evD r).bind _ = some xs from e)
    obtain ⟨ys, e2, rfl⟩ := Option.map_eq_some_iff.mp e
    have h1 := h.1
    rw [← h.2.1] at h1
    refine .cons ?_ (ERs.dts h.2.2 e2)
    cases r with
    | d y => cases e1; exact h1
    | own c => cases h.2.1
    | loan i => cases e1
  | [], _ :: _, _, h, _ => h.elim
  | _ :: _, [], _, h, _ => h.elim
/-- .. read, loans too -/
def vRds : List EV → VM (List Da)
  | [] => vr []
  | r :: rs => vb (vRd r) fun x => vb (vRds rs) fun xs => vr (x :: xs)
theorem ERs.rds {α : Type} {k : α → VS → Prop} : ∀ {vs : List V} {rs : List EV} {g : List Da → VM α}, FR Tb K O st σ H → ERs Tb K O st σ H vs rs → VRun Tb K mg W O st σ H (vb (vRds rs) g st) k →
    ∃ xs, RoL K (Av O st σ) H xs vs ∧ VRun Tb K mg W O st σ H (g xs st) k
  | [], [], g, F, _, h => ⟨[], by simp only [RoL], h⟩
  | v :: vs, r :: rs, g, F, E, h => by
    have h' : VRun Tb K mg W O st σ H (vb (vRd r) (fun x => vb (vRds rs) fun xs => g (x :: xs)) st) k := by
      have : vb (vRds (r :: rs)) g = vb (vRd r) (fun x => vb (vRds rs) fun xs => g (x :: xs)) := by
        funext s
        show vb (vb (vRd r) fun x => vb (vRds rs) fun xs => vr (x :: xs)) g s = _
        unfold vb
        cases vRd r s with
        | error e => rfl
        | ok p =>
          obtain ⟨x, s1⟩ := p
          dsimp only
          cases vRds rs s1 with
          | error e => rfl
          | ok q => rfl
      rw [this] at h; exact h
    have E1 := E.1
    rw [← E.2.1] at E1
    obtain ⟨x, Rx, h'⟩ := VRun.rd F E1 h'
    obtain ⟨xs, Rxs, h'⟩ := ERs.rds F E.2.2 h'
    refine ⟨x :: xs, ?_, h'⟩
    simp only [RoL]
    exact ⟨v, vs, rfl, Rx, Rxs⟩
  | [], _ :: _, _, _, h, _ => h.elim
  | _ :: _, [], _, _, h, _ => h.elim
def tVA (Tb : List (Addr × Str)) (K : PySem.W.Frag) (mg : Str → Option Value) (W : WX) (f : VM (List EV)) : TA := fun σ H Q =>
  ∃ O st, FR Tb K O st σ H ∧ VRun Tb K mg W O st σ H (f st) fun rs st' => ∀ vs H', Step Tb K O st σ H st' σ H' → ERs Tb K O st' σ H' vs rs → Q vs H'
theorem tVA.bind {α : Type} {fa : VM (List EV)} {g : List EV → VM α} {k : α → VS → Prop} {Q : List V → Hp → Prop} (F : FR Tb K O st σ H) (h : VRun Tb K mg W O st σ H (vb fa g st) k)
    (cont : ∀ rs s1 vs H1, Step Tb K O st σ H s1 σ H1 → ERs Tb K O s1 σ H1 vs rs → VRun Tb K mg W O s1 σ H1 (g rs s1) k → Q vs H1) : tVA Tb K mg W fa σ H Q :=
  ⟨O, st, F, (vrun_vb h).mono fun rs s q vs H' S E => cont rs s vs H' S E (VRun.step S q)⟩
def vCons (f : VM EV) (fs : VM (List EV)) : VM (List EV) := vb f fun r => vb fs fun rs => vr (settle r :: rs)
def vConsS (f : VM EV) (fs : VM (List EV)) : VM (List EV) := vb f fun r => vb (vRd r) fun x => vb (vOpt (seqD x)) fun xs => vb fs fun rs => vr (xs.map .d ++ rs)
end
abbrev VA (Tb : List (Addr × Str)) (X : Cx) (W : WX) (es : List Expr) (f : VM (List EV)) : Prop := PA X es (tVA Tb X.K X.mg W f)
section
variable {X : Cx} {W : WX} {a b c e o : Expr} {es : List Expr} {pos p : Pos} {fa fb fc fe fo : VM EV} {fs : VM (List EV)} {ga gb : VM Bool}
theorem va_nil : VA Tb X W [] (vr []) := PA.wk pa_nil fun σ H Q ⟨O, st, F, h⟩ => h [] H (Step.refl F) trivial
theorem va_cons (ha : VE Tb X W e fe) (hr : VA Tb X W es fs) (hs : starEach (e :: es) X.env = (false, eval e X.env) :: starEach es X.env := by rfl) : VA Tb X W (e :: es) (vCons fe fs) := by
  refine PA.wk (pa_cons ha hr hs) fun σ H Q h => ?_
  obtain ⟨O, st, F, h⟩ := h
  refine tV.bind F h fun r s1 v H1 S1 E1 h => ?_
  refine tVA.bind S1.fr h fun rs s2 vs H2 S2 E2 h => ?_
  refine h (v :: vs) H2 (S1.trans S2) ⟨?_, (settle_settle r).symm, E2⟩
  rw [settle_settle]
  exact (E1.settle (H1 := H)).later S2 (H2 := H2)
/-! displays -/
def vTuple (fs : VM (List EV)) : VM EV := vb fs fun rs => vb (vOpt (dts rs)) fun xs => if xs.length ≤ 16777216 then vr (.d (.tuple xs)) else vStuck
def vList (fs : VM (List EV)) : VM EV := vb fs fun rs => vb (vOpt (dts rs)) fun xs => if xs.length ≤ 16777216 then vr (.own (.l xs)) else vStuck
theorem ve_tup {k : Nat} (h : VA Tb X W es fs) : VE Tb X W (.Tuple es k pos) (vTuple fs) := by
  refine PE.wk (pe_tup h) fun σ H Q h => ?_
  obtain ⟨O, st, F, h⟩ := h
  refine tVA.bind F h fun rs s1 vs H1 S1 E1 h => ?_
  obtain ⟨xs, ex, h⟩ := h.opt
  have R := E1.dts ex
  split at h
  · rename_i hl
    refine ⟨by rw [← R.length, sizeLine_eq]; exact hl, fun p hp => ?_⟩
    exact h _ _ (S1.trans (Step.ext S1.fr (Same.upd hp))) ((NR.er S1.fr (Same.upd hp) (NR.tup S1.fr.avdom R hp)).back S1.dom)
  · exact h.elim
theorem ve_lst (h : VA Tb X W es fs) : VE Tb X W (.List es pos) (vList fs) := by
  refine PE.wk (pe_lst h) fun σ H Q h => ?_
  obtain ⟨O, st, F, h⟩ := h
  refine tVA.bind F h fun rs s1 vs H1 S1 E1 h => ?_
  obtain ⟨xs, ex, h⟩ := h.opt
  have R := E1.dts ex
  split at h
  · rename_i hl
    refine ⟨by rw [← R.length, sizeLine_eq]; exact hl, fun p hp => ?_⟩
    exact h _ _ (S1.trans (Step.ext S1.fr (Same.upd hp))) ((NR.er S1.fr (Same.upd hp) (NR.lst R hp)).back S1.dom)
  · exact h.elim
/-! built-ins by values -/
/-- f gives what g says -/
def CallV (X : Cx) (f : Value) (g : List Da → Option EV) : Prop :=
  ∃ r, CallR X f r ∧ ∀ O H xs vs z (Q : VK), (∀ a, O a → H a ≠ none) → RoL X.K O H xs vs → g xs = some z → (∀ u H', Same H H' → NR X.K O H H' u z → Q u H') → r vs H Q
def vCall (g : List Da → Option EV) (fs : VM (List EV)) : VM EV := vb fs fun rs => vb (vRds rs) fun xs => vOpt (g xs)
theorem call_wk {r : List V → Hp → VK → Prop} {g : List Da → Option EV} {σ : L2.St} {H : Hp} {Q : VK}
    (hg : ∀ O H xs vs z (Q : VK), (∀ a, O a → H a ≠ none) → RoL X.K O H xs vs → g xs = some z → (∀ u H', Same H H' → NR X.K O H H' u z → Q u H') → r vs H Q)
    (h : tV Tb X.K X.mg W (vCall g fs) σ H Q) : tCB r (tVA Tb X.K X.mg W fs) σ H Q := by
  obtain ⟨O, st, F, h⟩ := h
  refine tVA.bind F h fun rs s1 vs H1 S1 E1 h => ?_
  obtain ⟨xs, R, h⟩ := E1.rds S1.fr h
  obtain ⟨z, ez, h⟩ := h.opt1
  refine hg (Av O s1 σ) H1 xs vs z Q S1.fr.avdom R ez fun u H' k n => ?_
  exact h u H' (S1.trans (Step.ext S1.fr k)) ((NR.er S1.fr k n).back S1.dom)
theorem ve_callB {x : Str} {id : String} {g : List Da → Option EV} (hc : CallV X (.builtin id) g) (hm : X.mg x = none) (ha : VA Tb X W (e :: es) fs) (hg : Gl X x := by rfl) (hv : bootBuiltins x = some (.builtin id) := by decide +kernel) (hn : x ≠ "__name__" := by decide) (hdb : (x == ("__debug__" : Str)) = false := by decide)
    (he : starEach (e :: es) X.env = (false, eval e X.env) :: starEach es X.env := by rfl) (hpl : (backTo pos (starEach es X.env)).any (·.1) = false := by rfl) : VE Tb X W (.Call (.Name x p) (e :: es) [] pos) (vCall g fs) := by
  obtain ⟨r, hr, hgg⟩ := hc
  exact PE.wk (pe_callB hr hg hm hv ha hn hdb he hpl) fun σ H Q h => call_wk hgg h
theorem ve_callT {x : Str} {T : String} {g : List Da → Option EV} (hc : CallV X (.type T) g) (hm : X.mg x = none) (ha : VA Tb X W (e :: es) fs) (hg : Gl X x := by rfl) (hv : bootBuiltins x = some (.type T) := by decide +kernel) (hn : x ≠ "__name__" := by decide) (hdb : (x == ("__debug__" : Str)) = false := by decide)
    (he : starEach (e :: es) X.env = (false, eval e X.env) :: starEach es X.env := by rfl) (hpl : (backTo pos (starEach es X.env)).any (·.1) = false := by rfl) : VE Tb X W (.Call (.Name x p) (e :: es) [] pos) (vCall g fs) := by
  obtain ⟨r, hr, hgg⟩ := hc
  exact PE.wk (pe_callTy hr hg hm hv ha hn hdb he hpl) fun σ H Q h => call_wk hgg h
/-! subscripts -/
def ixD : Da → Da → Option EV
  | .list xs, .int i => (atI xs i).map .d
  | .tuple xs, .int i => (atI xs i).map .d
  | .str z, .int i => if z.length ≤ 16777216 then (atI z.cps.toList i).map fun c => .d (.str ⟨#[c]⟩) else none
  | _, _ => none
theorem atI_rel {K : PySem.W.Frag} {O : AS} {H : Hp} {xs : List Da} {vs : List V} (R : RpL K O H xs vs) {i : Int} {x : Da} (e : atI xs i = some x) : ∃ w, atI vs i = some w ∧ Rp K O H x w := by
  unfold atI at e ⊢
  rw [← R.length]
  obtain ⟨j, e1, e2⟩ := Option.bind_eq_some_iff.mp e
  rw [e1]
  exact R.get e2
theorem ve_ix (ha : VE Tb X W a fa) (hb : VE Tb X W b fb) (hs : PlainIx b := by exact fun _ _ => rfl) : VE Tb X W (.Subscript a b pos) (vBin ixD fa fb) := by
  refine PE.wk (pe_ix ix_seq ha hb hs) fun σ H Q h => bin_wk (fun O H x y v w z Q hd hx hy e q => ?_) h
  cases y with
  | int i =>
    obtain rfl := hy.int
    cases x with
    | list xs =>
      obtain ⟨d, ed, rfl⟩ := Option.map_eq_some_iff.mp (show (atI xs i).map EV.d = some z from e)
      obtain ⟨l, vs, rfl, h1, r1⟩ := hx.list
      obtain ⟨u, e1, e2⟩ := atI_rel r1 ed
      exact .inl ⟨l, vs, i, u, rfl, rfl, .of h1, e1, q u H (Same.refl H) e2⟩
    | tuple xs =>
      obtain ⟨d, ed, rfl⟩ := Option.map_eq_some_iff.mp (show (atI xs i).map EV.d = some z from e)
      obtain ⟨l, vs, rfl, h1, r1⟩ := hx.tupT
      obtain ⟨u, e1, e2⟩ := atI_rel r1 ed
      exact .inr (.inl ⟨l, vs, i, u, rfl, rfl, h1, e1, q u H (Same.refl H) e2⟩)
    | str s =>
      obtain rfl := hx.str
      unfold ixD at e; dsimp only at e
      split at e
      · rename_i hl
        obtain ⟨d, ed, rfl⟩ := Option.map_eq_some_iff.mp e
        exact .inr (.inr ⟨s, i, d, rfl, rfl, by rw [sizeLine_eq]; exact hl, ed, q _ H (Same.refl H) (by show Rp _ _ _ _ _; simp only [Rp])⟩)
      · cases e
    | _ => cases e
  | _ => cases x <;> cases e
/-! slices -/
def vPart : Option (VM EV) → VM (Option Int)
  | none => vr none
  | some f => vb f fun r => match r with
    | .d (.int i) => vr (some i)
    | _ => vStuck
def tVO (Tb : List (Addr × Str)) (K : PySem.W.Frag) (mg : Str → Option Value) (W : WX) (f : VM (Option Int)) : TO := fun σ H Q =>
  ∃ O st, FR Tb K O st σ H ∧ VRun Tb K mg W O st σ H (f st) fun o st' => ∀ H', Step Tb K O st σ H st' σ H' → Q o H'
abbrev VO (Tb : List (Addr × Str)) (X : Cx) (W : WX) (e : Option Expr) (f : VM (Option Int)) : Prop := PO X e (tVO Tb X.K X.mg W f)
theorem PO.wk {X : Cx} {e : Option Expr} {t t' : TO} (h : PO X e t) (w : ∀ σ H Q, t' σ H Q → t σ H Q) : PO X e t' := ⟨fun pins s σ H Q I q => h.run pins s σ H Q I (w σ H Q q)⟩
theorem vo_none : VO Tb X W none (vPart none) := PO.wk po_none fun σ H Q ⟨O, st, F, h⟩ => h H (Step.refl F)
theorem vo_some (h : VE Tb X W e fe) : VO Tb X W (some e) (vPart (some fe)) := by
  refine PO.wk (po_some h) fun σ H Q h => ?_
  obtain ⟨O, st, F, h⟩ := h
  refine tV.bind F h fun r s1 v H1 S1 E1 h => ?_
  cases r with
  | d x =>
    cases x with
    | int i =>
      have E1 : Rp X.K (Av O s1 σ) H1 (.int i) v := E1
      simp only [Rp] at E1
      exact ⟨i, E1, h H1 S1⟩
    | _ => exact h.elim
  | _ => exact h.elim
def cutD (xs : List Da) (lo hi : Option Int) : List Da := (xs.drop (HT.sIx xs.length 0 lo)).take (HT.sIx xs.length xs.length hi - HT.sIx xs.length 0 lo)
def slD (x : Da) (lo hi : Option Int) : Option EV :=
  match x with
  | .list xs => some (.own (.l (cutD xs lo hi)))
  | .tuple xs => some (.d (.tuple (cutD xs lo hi)))
  | .str z => if z.length ≤ 16777216 then some (.d (.str (cutS z lo hi))) else none
  | _ => none
/-- what may be cut: a datum, a loan, the script -/
def vRdS (r : EV) : VM Da := fun s =>
  match r with
  | .loan i =>
    match s[i]? with
    | some (.rd xs) => .ok (.list xs, s)
    | _ => vRd (.loan i) s
  | r => vRd r s
def vSl (fe : VM EV) (lo hi : VM (Option Int)) : VM EV := vb fe fun r => vb lo fun l => vb hi fun h => vb (vRdS (settle r)) fun x => vOpt (slD x l h)
theorem RpL.cut {K : PySem.W.Frag} {O : AS} {H : Hp} {xs : List Da} {vs : List V} (R : RpL K O H xs vs) (lo hi : Option Int) : RpL K O H (cutD xs lo hi) (cutV vs lo hi) := by
  unfold cutD cutV
  rw [← R.length]
  exact (R.drop _).take _
theorem SlR.or3 {r r' r'' : V → Option Int → Option Int → Hp → VK → Prop} (h : SlR X r) (h' : SlR X r') (h'' : SlR X r'') : SlR X (fun x lo hi H Q => r x lo hi H Q ∨ r' x lo hi H Q ∨ r'' x lo hi H Q) := SlR.or h (SlR.or h' h'')
theorem ve_slice {lo hi : Option Expr} {p2 : Pos} {fl fh : VM (Option Int)} (he : VE Tb X W e fe) (hl : VO Tb X W lo fl) (hh : VO Tb X W hi fh) : VE Tb X W (.Subscript e (.Slice lo hi none p2) pos) (vSl fe fl fh) := by
  refine PE.wk (pe_slice (SlR.or3 sl_list sl_tupA sl_str) he hl hh) fun σ H Q h => ?_
  obtain ⟨O, st, F, h⟩ := h
  refine tV.bind F h fun r s1 v H1 S1 E1 h => ?_
  refine ⟨O, s1, S1.fr, (vrun_vb h).mono fun l s2 q H2 S2 => ?_⟩
  refine ⟨O, s2, S2.fr, (vrun_vb (VRun.step S2 q)).mono fun u s3 q H3 S3 => ?_⟩
  have h := VRun.step S3 q
  have S := (S1.trans S2).trans S3
  have E3 := ((E1.settle (H1 := H)).later S2 (H2 := H)).later S3 (H2 := H)
  -- the script
  by_cases hr : ∃ i xs, settle r = .loan i ∧ s3[i]? = some (.rd xs)
  · obtain ⟨i, xs, er, ei⟩ := hr
    have : vb (vRdS (settle r)) (fun x => vOpt (slD x l u)) s3 = vOpt (slD (.list xs) l u) s3 := by
      unfold vb vRdS
      rw [er]; dsimp only; rw [ei]
    rw [this] at h
    rw [er] at E3
    have E3 : σ[i]? = some (some v) := E3
    obtain ⟨ov, eov, ad, vs, eo, rd, R⟩ := S3.fr.slot i _ ei
    rw [E3] at eov
    cases eov
    cases eo
    exact .inl ⟨ad, vs, rfl, rd.sq, fun p hp => h _ _ (S.trans (Step.ext S.fr (Same.upd hp))) ((NR.er S3.fr (Same.upd hp) (NR.lst (R.cut l u) hp)).back S.dom)⟩
  · have : vRdS (settle r) s3 = vRd (settle r) s3 := by
      unfold vRdS
      split
      · rename_i i er
        split
        · rename_i xs ei; exact absurd ⟨i, xs, er, ei⟩ hr
        · rw [er]
      · rfl
    have h' : VRun Tb X.K X.mg W O s3 σ H3 (vb (vRd (settle r)) (fun x => vOpt (slD x l u)) s3) fun r st' => ∀ (v : V) (H' : Hp), Step Tb X.K O st σ H st' σ H' → ER Tb X.K O H st' σ H' v r → Q v H' := by
      unfold vb at h ⊢
      rw [this] at h; exact h
    obtain ⟨x, Rx, h'⟩ := h'.rd S3.fr E3
    obtain ⟨z, ez, h'⟩ := h'.opt1
    cases x with
    | list xs =>
      cases ez
      obtain ⟨ad, vs, rfl, h1, R⟩ := Rx.list
      exact .inl ⟨ad, vs, rfl, .of h1, fun p hp => h' _ _ (S.trans (Step.ext S.fr (Same.upd hp))) ((NR.er S3.fr (Same.upd hp) (NR.lst (R.cut l u) hp)).back S.dom)⟩
    | tuple xs =>
      cases ez
      have Rt := Rx.tup
      obtain ⟨ad, vs, rfl, h1, R⟩ := Rx.tupT
      refine .inr (.inl ⟨ad, vs, rfl, h1, fun hw => ?_, fun _ p hp => ?_⟩)
      · have e : cutD xs l u = xs := by
          unfold cutD
          rw [R.length, hw.1, hw.2, List.drop_zero, ← R.length, Nat.sub_zero, List.take_length]
        rw [e] at h'
        exact h' _ _ S Rt
      · exact h' _ _ (S.trans (Step.ext S.fr (Same.upd hp))) ((NR.er S3.fr (Same.upd hp) (NR.tup S3.fr.avdom (R.cut l u) hp)).back S.dom)
    | str z =>
      obtain rfl := Rx.str
      unfold slD at ez; dsimp only at ez
      split at ez
      · rename_i hz; cases ez
        exact .inr (.inr ⟨z, rfl, by rw [sizeLine_eq]; exact hz, h' _ _ S (by show Rp _ _ _ _ _; simp only [Rp])⟩)
      · cases ez
    | _ => cases ez
end
end VL
set_option Elab.async false
set_option linter.all false
set_option maxRecDepth 100000
namespace VL
open PySem PySem.Spec PyProof.Rows L2
/-! ### what a slot owns is changed -/
def putC (i : Nat) (c : OC) (s : VS) : VS := match s[i]? with
  | some (.own _) => s.set i (.own c)
  | some (.io _) => s.set i (.io c)
  | _ => s
/-- the list of its own that a result stands for, where it may be changed -/
def mutL (r : EV) (s : VS) : Option (Nat × List Da) := match r with
  | .loan i => match s[i]? with
    | some (.own (.l xs)) => some (i, xs)
    | some (.io (.l xs)) => some (i, xs)
    | _ => none
  | _ => none
def mutM (r : EV) (s : VS) : Option (Nat × List (Da × Da)) := match r with
  | .loan i => match s[i]? with
    | some (.own (.m xs)) => some (i, xs)
    | some (.io (.m xs)) => some (i, xs)
    | _ => none
  | _ => none
section
variable {K : PySem.W.Frag} {mg : Str → Option Value} {W : WX} {O O' : AS} {st st1 st2 : VS} {σ σ1 σ2 : L2.St} {H H0 H1 H2 : Hp} {v : V} {r : EV}
theorem FR.put {i : Nat} {p : Addr} {c c' : OC} {o : HO} (F : FR Tb K O st σ H) (hs : st[i]? = some (.own c) ∨ st[i]? = some (.io c)) (hp : σ[i]? = some (some (.ref p))) (hC : Cont K (Av O st σ) (upd H p o) p c') :
    Step Tb K O st σ H (putC i c' st) σ (upd H p o) := by
  have hi : i < st.length := by
    by_cases h : i < st.length
    · exact h
    · rw [List.getElem?_eq_none (by omega)] at hs; rcases hs with h | h <;> cases h
  have ip : OwnAt st σ i p := ⟨hp, c, hs.imp id .inl⟩
  obtain ⟨sv, hsv, hput, hkind⟩ : ∃ sv, (sv = .own c' ∨ sv = .io c') ∧ putC i c' st = st.set i sv ∧ ((sv = .own c' ∧ st[i]? = some (.own c)) ∨ (sv = .io c' ∧ st[i]? = some (.io c))) := by
    rcases hs with h | h
    · exact ⟨.own c', .inl rfl, by unfold putC; rw [h], .inl ⟨rfl, h⟩⟩
    · exact ⟨.io c', .inr rfl, by unfold putC; rw [h], .inr ⟨rfl, h⟩⟩
  rw [hput]
  have hσ : σ.set i (some (.ref p)) = σ := by
    apply List.ext_getElem?
    intro j
    by_cases hj : j = i
    · subst hj; rw [List.getElem?_set_self (by rw [← F.len]; exact hi), hp]
    · rw [List.getElem?_set_ne (Ne.symm hj)]
  have own : ∀ j q, OwnAt (st.set i sv) σ j q → OwnAt st σ j q := fun j q h => by
    rw [← hσ] at h
    rcases h.set with ⟨rfl, e, _⟩ | ⟨_, h⟩
    · cases e; exact ip
    · exact h
  have muto : ∀ j q, MutAt (st.set i sv) σ j q → MutAt st σ j q := fun j q h => by
    rw [← hσ] at h
    rcases h.set with ⟨rfl, e, _⟩ | ⟨_, h⟩
    · cases e; exact ⟨hp, c, hs⟩
    · exact h
  have own' : ∀ j q, OwnAt st σ j q → OwnAt (st.set i sv) σ j q := fun j q h => by
    by_cases hj : j = i
    · subst hj
      have : q = p := by
        have := h.1
        rw [hp] at this; cases this; rfl
      subst this
      exact ⟨hp, c', by rw [List.getElem?_set_self hi]; rcases hsv with rfl | rfl; exact .inl rfl; exact .inr (.inl rfl)⟩
    · obtain ⟨e, c, h⟩ := h
      exact ⟨e, c, by rw [List.getElem?_set_ne (Ne.symm hj)]; exact h⟩
  have av : ∀ a, Av O (st.set i sv) σ a → Av O st σ a := fun a h => h.imp id fun ⟨j, h⟩ => ⟨j, own j a h⟩
  have pAv : Av O st σ p := .inr ⟨i, ip⟩
  have hH : ∀ a o', H a = some o' → NTb o' → ¬ Av O st σ a → upd H p o a = some o' := fun a o' e _ n => by
    rw [upd_ne fun z => n (by rw [z]; exact pAv)]; exact e
  have old : ∀ a o', H a = some o' → a ≠ p → upd H p o a = some o' := fun a o' e n => by rw [upd_ne n]; exact e
  refine ⟨⟨by rw [List.length_set]; exact F.len, fun j sv' h => ?_, fun a b q h1 h2 => F.inj a b q (own a q h1) (own b q h2), fun q ⟨j, h⟩ => F.avoid q ⟨j, own j q h⟩, fun q h z => ?_, tabs_upd F.tabs (F.ownc ip).choose_spec.2.kind⟩, fun a o' e _ n => ?_, fun a ⟨j, h⟩ => .inl ⟨j, own j a h⟩, fun a ⟨j, h⟩ => .inl ⟨j, muto j a h⟩, fun a h => ?_, rfl, fun j c2 h => ?_, fun j c2 h => ?_⟩
  · by_cases hj : j = i
    · subst hj
      rw [List.getElem?_set_self hi] at h
      cases h
      refine ⟨_, hp, ?_⟩
      rcases hsv with rfl | rfl
      · exact ⟨p, rfl, hC.sub av⟩
      · exact ⟨p, rfl, hC.sub av⟩
    · rw [List.getElem?_set_ne (Ne.symm hj)] at h
      obtain ⟨v, e, s⟩ := F.slot j sv' h
      refine ⟨v, e, ?_⟩
      have hc : ∀ q cc, OwnAt st σ j q → Cont K (Av O st σ) H q cc → Cont K (Av O (st.set i sv) σ) (upd H p o) q cc := fun q cc hq C => by
        refine (C.mono (fun _ z => .inl z) hH ?_).sub av
        exact upd_ne fun z => hj (F.inj j i p (z ▸ hq) ip)
      cases sv' with
      | un => trivial
      | d x => obtain ⟨w, e, r⟩ := s; exact ⟨w, e, (Rp.mono (fun _ z => .inl z) hH _ _ r).sub av⟩
      | own cc => obtain ⟨q, eq, C⟩ := s; subst eq; exact ⟨q, rfl, hc q cc ⟨e, cc, .inl h⟩ C⟩
      | io cc => obtain ⟨q, eq, C⟩ := s; subst eq; exact ⟨q, rfl, hc q cc ⟨e, cc, .inr (.inl h)⟩ C⟩
      | lk cc => obtain ⟨q, eq, C⟩ := s; subst eq; exact ⟨q, rfl, hc q cc ⟨e, cc, .inr (.inr h)⟩ C⟩
      | rd xs =>
        obtain ⟨a, vs, e, r, q⟩ := s
        exact ⟨a, vs, e, r.mono (fun a z => .inl (av a z)) hH, (RpL.mono (fun _ z => .inl z) hH _ _ q).sub av⟩
  · by_cases hq : q = p
    · subst hq; rw [upd_same] at z; cases z
    · rw [upd_ne hq] at z; exact F.odom q h z
  · exact old a o' e fun z => n ⟨i, by rw [z]; exact ⟨hp, c, hs⟩⟩
  · by_cases hq : a = p
    · subst hq; rw [upd_same] at h; cases h
    · rw [upd_ne hq] at h; exact h
  · by_cases hj : j = i
    · subst hj
      rcases hkind with ⟨rfl, e⟩ | ⟨rfl, e⟩
      · rw [e] at h; cases h
      · exact ⟨⟨c', List.getElem?_set_self hi⟩, rfl⟩
    · exact ⟨⟨c2, by rw [List.getElem?_set_ne (Ne.symm hj)]; exact h⟩, rfl⟩
  · have hj : j ≠ i := fun z => by
      subst z
      rcases hs with q | q <;> (rw [q] at h; cases h)
    exact ⟨by rw [List.getElem?_set_ne (Ne.symm hj)]; exact h, rfl⟩
theorem mutL_ok {i : Nat} {xs : List Da} (F : FR Tb K O st σ H) (E : ER Tb K O H0 st σ H v r) (e : mutL r st = some (i, xs)) :
    ∃ p vs, v = .ref p ∧ σ[i]? = some (some (.ref p)) ∧ (st[i]? = some (.own (.l xs)) ∨ st[i]? = some (.io (.l xs))) ∧ H p = some (.lst vs) ∧ RpL K (Av O st σ) H xs vs := by
  unfold mutL at e
  cases r with
  | loan j =>
    have E : σ[j]? = some (some v) := E
    dsimp only at e
    split at e
    · rename_i xs' hs; cases e
      obtain ⟨ov, eo, p, ep, vs, h1, h2⟩ := F.slot _ _ hs
      rw [E] at eo; cases eo; cases ep
      exact ⟨p, vs, rfl, E, .inl hs, h1, h2⟩
    · rename_i xs' hs; cases e
      obtain ⟨ov, eo, p, ep, vs, h1, h2⟩ := F.slot _ _ hs
      rw [E] at eo; cases eo; cases ep
      exact ⟨p, vs, rfl, E, .inr hs, h1, h2⟩
    · cases e
  | _ => cases e
end
/-- a method that changes its list: g the list's new items and what comes back -/
def MutV (X : Cx) (id : String) (g : List Da → List Da → Option (List Da × Da)) : Prop :=
  ∃ r, MtR X id r ∧ ∀ O H p ws xs vs as ys z (Q : VK), H p = some (.lst ws) → RpL X.K O H xs ws → RpL X.K O H as vs → g xs as = some (ys, z) →
    (∀ u ws', RpL X.K O H ys ws' → Rp X.K O H z u → Q u (upd H p (.lst ws'))) → r (.ref p) vs H Q
/-- .. its arguments only read -/
def MutB (X : Cx) (id : String) (g : List Da → List Da → Option (List Da × Da)) : Prop :=
  ∃ r, MtR X id r ∧ ∀ O H p ws xs vs as ys z (Q : VK), H p = some (.lst ws) → RpL X.K O H xs ws → RoL X.K O H as vs → g xs as = some (ys, z) →
    (∀ u ws', RpL X.K O H ys ws' → Rp X.K O H z u → Q u (upd H p (.lst ws'))) → r (.ref p) vs H Q
/-- the receiver stands for a list that may be changed -/
def vIsL (r : EV) : VM Unit := fun s => if (mutL r s).isSome then .ok ((), s) else .error .stuck
def vApp (g : List Da → List Da → Option (List Da × Da)) (r : EV) (as : List Da) : VM EV := fun s =>
  match mutL r s with
  | some (i, xs) => match g xs as with
    | some (ys, z) => .ok (.d z, putC i (.l ys) s)
    | none => .error .stuck
  | none => .error .stuck
def vMut (g : List Da → List Da → Option (List Da × Da)) (fo : VM EV) (fs : VM (List EV)) : VM EV := vb fo fun ro => vb (vIsL ro) fun _ => vb fs fun rs => vb (vOpt (dts rs)) fun as => vApp g ro as
def vMutB (g : List Da → List Da → Option (List Da × Da)) (fo : VM EV) (fs : VM (List EV)) : VM EV := vb fo fun ro => vb (vIsL ro) fun _ => vb fs fun rs => vb (vRds rs) fun as => vApp g ro as
def vMut0 (g : List Da → List Da → Option (List Da × Da)) (fo : VM EV) : VM EV := vb fo fun ro => vb (vIsL ro) fun _ => vApp g ro []
section
variable {X : Cx} {W : WX} {a b c e o : Expr} {es : List Expr} {pos p : Pos} {fa fb fc fe fo : VM EV} {fs : VM (List EV)} {ga gb : VM Bool}
section
variable {K : PySem.W.Frag} {mg : Str → Option Value} {O : AS} {st s2 : VS} {σ : L2.St} {H H0 H1 H2 : Hp} {v : V} {r : EV} {Q : VK} {as : List Da} {g : List Da → List Da → Option (List Da × Da)}
theorem putL {i : Nat} {p : Addr} {xs ys : List Da} {ws' : List V} (F : FR Tb K O s2 σ H2) (hst : s2[i]? = some (.own (.l xs)) ∨ s2[i]? = some (.io (.l xs))) (hσ : σ[i]? = some (some (.ref p))) (R' : RpL K (Av O s2 σ) H2 ys ws') :
    Step Tb K O s2 σ H2 (putC i (.l ys) s2) σ (upd H2 p (.lst ws')) := by
  have pAv : Av O s2 σ p := .inr ⟨i, hσ, _, hst.imp id .inl⟩
  refine F.put hst hσ ⟨ws', upd_same, RpL.mono (fun _ z => .inl z) (fun a o' e _ n => ?_) _ _ R'⟩
  rw [upd_ne fun z => n (by rw [z]; exact pAv)]; exact e
theorem VRun.isL {α : Type} {k : α → VS → Prop} {f : Unit → VM α} (F : FR Tb K O st σ H) (E : ER Tb K O H0 st σ H v r) (h : VRun Tb K mg W O st σ H (vb (vIsL r) f st) k) :
    (∃ p vs, v = .ref p ∧ H p = some (.lst vs)) ∧ VRun Tb K mg W O st σ H (f () st) k := by
  unfold vb vIsL at h
  by_cases q : (mutL r st).isSome = true
  · rw [if_pos q] at h
    obtain ⟨⟨i, xs⟩, e⟩ := Option.isSome_iff_exists.mp q
    obtain ⟨p, vs, e1, _, _, e2, _⟩ := mutL_ok F E e
    exact ⟨⟨p, vs, e1, e2⟩, h⟩
  · rw [if_neg q] at h; exact h.elim
theorem VRun.app (S : Step Tb K O st σ H s2 σ H2) (E : ER Tb K O H0 s2 σ H2 v r)
    (h : VRun Tb K mg W O s2 σ H2 (vApp g r as s2) fun r st' => ∀ v H', Step Tb K O st σ H st' σ H' → ER Tb K O H st' σ H' v r → Q v H') :
    ∃ p ws xs ys z, v = .ref p ∧ H2 p = some (.lst ws) ∧ RpL K (Av O s2 σ) H2 xs ws ∧ g xs as = some (ys, z) ∧ (∀ u ws', RpL K (Av O s2 σ) H2 ys ws' → Rp K (Av O s2 σ) H2 z u → Q u (upd H2 p (.lst ws'))) := by
  unfold vApp at h
  cases em : mutL r s2 with
  | none => rw [em] at h; exact h.elim
  | some ix =>
    obtain ⟨i, xs⟩ := ix
    rw [em] at h
    dsimp only at h
    cases eg : g xs as with
    | none => rw [eg] at h; exact h.elim
    | some yz =>
      obtain ⟨ys, z⟩ := yz
      rw [eg] at h
      obtain ⟨p, ws, rfl, hσ, hst, hp, R⟩ := mutL_ok S.fr E em
      refine ⟨p, ws, xs, ys, z, rfl, hp, R, eg, fun u ws' R' Rz => ?_⟩
      have S2 := putL S.fr hst hσ R'
      exact h u _ (S.trans S2) (S2.rp Rz)
theorem ER.loan_later {s1 : VS} (E : ER Tb K O H0 s1 σ H v r) (S : Step Tb K O s1 σ H s2 σ H1) : ∃ H0 r', ER Tb K O H0 s2 σ H1 v r' ∧ (∀ as, vApp g r as = vApp g r' as) := by
  cases r with
  | loan i => exact ⟨H0, .loan i, E, fun _ => rfl⟩
  | d x => exact ⟨H0, .d x, S.rp E, fun _ => rfl⟩
  | own c => exact ⟨H0, .d c.data, (E.settle (H1 := H0)).later S (H2 := H0), fun _ => rfl⟩
end
theorem ve_mut {name : Str} {id : String} {apos cpos : Pos} {g : List Da → List Da → Option (List Da × Da)} (pa : PlainAttrs "list") (slot : Slot "list" name id) (hty : typeOf (.builtin id) = pure (.type "method_descriptor")) (hm : MutV X id g) (ho : VE Tb X W o fo) (ha : VA Tb X W (e :: es) fs)
    (hbase : attributeBase o name X.env (eval o X.env) = eval o X.env := by rfl)
    (hfew : ((backTo cpos (starEach (e :: es) X.env)).all (fun x => !x.1) && (backToKw cpos (keywordEach [] X.env)).all (fun x => x.1.isSome)
      && decide ((e :: es).length + ([] : List Keyword).length + (if ([] : List Keyword).isEmpty then 0 else 1) < 30)) = true := by rfl)
    (hline : (apos.endLine == cpos.line) = true := by rfl) (hs : starEach (e :: es) X.env = (false, eval e X.env) :: starEach es X.env := by rfl) (hplain : (backTo cpos (starEach es X.env)).any (·.1) = false := by rfl) :
    VE Tb X W (.Call (.Attribute o name apos) (e :: es) [] cpos) (vMut g fo fs) := by
  obtain ⟨r, hr, hg⟩ := hm
  refine PE.wk (pe_bm pa slot hty hr ho ha hbase hfew hline hs hplain) fun σ H Q h => ?_
  obtain ⟨O, st, F, h⟩ := h
  refine tV.bind F h fun ro s1 v H1 S1 E1 h => ?_
  obtain ⟨⟨p, vs, rfl, hp⟩, h⟩ := VRun.isL S1.fr E1 h
  refine ⟨.inl ⟨rfl, vs, .of hp⟩, tVA.bind S1.fr h fun rs s2 as H2 S2 E2 h => ?_⟩
  obtain ⟨xs, ea, h⟩ := h.opt
  obtain ⟨H0, r', E', em⟩ := E1.loan_later (g := g) S2
  rw [em] at h
  obtain ⟨p', ws, ys, zs, z, ep, hp', R, eg, q⟩ := VRun.app (S1.trans S2) E' h
  cases ep
  exact hg _ H2 p ws ys as xs zs z Q hp' R (E2.dts ea) eg q
theorem ve_mutB {name : Str} {id : String} {apos cpos : Pos} {g : List Da → List Da → Option (List Da × Da)} (pa : PlainAttrs "list") (slot : Slot "list" name id) (hty : typeOf (.builtin id) = pure (.type "method_descriptor")) (hm : MutB X id g) (ho : VE Tb X W o fo) (ha : VA Tb X W (e :: es) fs)
    (hbase : attributeBase o name X.env (eval o X.env) = eval o X.env := by rfl)
    (hfew : ((backTo cpos (starEach (e :: es) X.env)).all (fun x => !x.1) && (backToKw cpos (keywordEach [] X.env)).all (fun x => x.1.isSome)
      && decide ((e :: es).length + ([] : List Keyword).length + (if ([] : List Keyword).isEmpty then 0 else 1) < 30)) = true := by rfl)
    (hline : (apos.endLine == cpos.line) = true := by rfl) (hs : starEach (e :: es) X.env = (false, eval e X.env) :: starEach es X.env := by rfl) (hplain : (backTo cpos (starEach es X.env)).any (·.1) = false := by rfl) :
    VE Tb X W (.Call (.Attribute o name apos) (e :: es) [] cpos) (vMutB g fo fs) := by
  obtain ⟨r, hr, hg⟩ := hm
  refine PE.wk (pe_bm pa slot hty hr ho ha hbase hfew hline hs hplain) fun σ H Q h => ?_
  obtain ⟨O, st, F, h⟩ := h
  refine tV.bind F h fun ro s1 v H1 S1 E1 h => ?_
  obtain ⟨⟨p, vs, rfl, hp⟩, h⟩ := VRun.isL S1.fr E1 h
  refine ⟨.inl ⟨rfl, vs, .of hp⟩, tVA.bind S1.fr h fun rs s2 as H2 S2 E2 h => ?_⟩
  obtain ⟨xs, ea, h⟩ := E2.rds S2.fr h
  obtain ⟨H0, r', E', em⟩ := E1.loan_later (g := g) S2
  rw [em] at h
  obtain ⟨p', ws, ys, zs, z, ep, hp', R, eg, q⟩ := VRun.app (S1.trans S2) E' h
  cases ep
  exact hg _ H2 p ws ys as xs zs z Q hp' R ea eg q
/-! append, extend, pop, insert -/
theorem cap_lt {n m : Nat} (e : n = m) (h : n < 16777216) : m < sizeLine := by subst e; have := sizeLine_eq; omega
theorem cap_le {n m : Nat} (e : n = m) (h : n ≤ 16777216) : m ≤ sizeLine := by subst e; have := sizeLine_eq; omega
def appendD : List Da → List Da → Option (List Da × Da)
  | xs, [x] => if xs.length < 16777216 then some (xs ++ [x], .none) else none
  | _, _ => none
theorem m_append : MutV X "list.append" appendD := by
  refine ⟨rAppend, mt_append, fun O H p ws xs vs as ys z Q hp R Ra e q => ?_⟩
  match as, Ra, e with
  | [x], Ra, e =>
    unfold appendD at e; dsimp only at e
    split at e
    · rename_i hl; cases e
      simp only [RpL] at Ra
      obtain ⟨w, r, rfl, Rx, rfl⟩ := Ra
      exact ⟨p, ws, w, rfl, rfl, hp, cap_lt R.length hl, q .non _ (R.append (.one Rx)) (by simp only [Rp])⟩
    · cases e
def extendD : List Da → List Da → Option (List Da × Da)
  | xs, [.list zs] => if xs.length + zs.length ≤ 16777216 then some (xs ++ zs, .none) else none
  | xs, [.tuple zs] => if xs.length + zs.length ≤ 16777216 then some (xs ++ zs, .none) else none
  | _, _ => none
theorem list_extend_tup (l : Addr) (items : Array Value) (n : Nat) (b : Addr) (items2 : Array Value) (n2 : Nat) (dd : Option Addr) (sl : Array (Option Value)) (hs0 : ¬(!items.isEmpty && Builtin.List.listTooLong (items.size + items2.size)) = true) (hs1 : items.size ≤ sizeLine) (hs2 : items.size + items2.size ≤ sizeLine + 1) :
    Meets (Builtin.«list.extend» ⟨[.ref l, .ref b], []⟩) (fun _ R s => s.heap.get? l = some { cls := .type "list", dict := none, data := .seq items n, slots := #[] } ∧ s.heap.get? b = some { cls := .type "tuple", dict := dd, data := .seq items2 n2, slots := sl } ∧ R (.ok (.ret Value.none)) { s with heap := s.heap.update l (Obj.mapSeq fun x => x ++ items2), toks := s.toks }) :=
  .of_wp fun prog w A R s h => by
    obtain ⟨hp, g, d, tk, os⟩ := s; obtain ⟨hl, hb, h⟩ := h; have f1 := AutoSeq1.idx_int; have f2 := AutoSeq1.sub_tuple_tuple; have f3 := AutoSeq1.sub_list_list; have f4 := AutoSeq1.sub_tuple_list; have f5 := AutoSeq1.sub_list_tuple;
    have hz' : (items ++ items2).size ≤ sizeLine + 1 := by rw [Array.size_append]; exact hs2
    wp_walk using (wpAny_updateSeq hl rfl (hz := hs1) (_hz' := hz')), wpAny_loadPart' hl, wpAny_loadPart' hb; exact ⟨_, rfl, h⟩
def rExtendT (K : PySem.W.Frag) : V → List V → Hp → VK → Prop := fun x vs H Q => ∃ l b xs zs, x = .ref l ∧ vs = [.ref b] ∧ H l = some (.lst xs) ∧ SqT K H b zs ∧ xs.length + zs.length ≤ sizeLine ∧ Q .non (upd H l (.lst (xs ++ zs)))
theorem mt_extendT : MtR X "list.extend" (rExtendT X.K) := by
  intro pins s σ H x vs v us Q I rx rv h
  obtain ⟨l, b, xs, zs, rfl, rfl, hH, hB, hz, q⟩ := h
  cases rx
  obtain ⟨u, rfl, ru⟩ := rv.one
  cases ru
  obtain ⟨z, its, n, r, hl, e⟩ := I.lstM hH
  obtain ⟨its2, r2, ⟨⟨cls, dd, data, sl⟩, e2, hc, n2, hd⟩, hz2⟩ := I.tuple hB
  simp only at hc hd
  subst hc hd
  have hl2 := r2.length
  have hsz : its.toArray.size + its2.toArray.size ≤ sizeLine := by rw [List.size_toArray, List.size_toArray]; omega
  have hlong : ¬ (!its.toArray.isEmpty && Builtin.List.listTooLong (its.toArray.size + its2.toArray.size)) = true := by
    rw [notLongL hsz, Bool.and_false]
    exact Bool.false_ne_true
  refine call_meets F.slot_list_extend ⟨_, e, rfl⟩ F.entry_list_extend (F.args_list_extend_2 _ _)
    (list_extend_tup l its.toArray n b its2.toArray n2 dd sl hlong (by rw [List.size_toArray]; omega) (by omega)) ⟨e, e2, ?_⟩
  refine ⟨.non, _, I.lset (its' := its ++ its2) hH e (by simp) (r.append r2) ?_, rfl, q⟩
  rw [List.length_append]
  omega
theorem MtR.or {id : String} {r r' : V → List V → Hp → VK → Prop} (h : MtR X id r) (h' : MtR X id r') : MtR X id (fun x xs H Q => r x xs H Q ∨ r' x xs H Q) := by
  intro pins s σ H x xs v us Q I rx rv q
  rcases q with q | q
  · exact h pins s σ H x xs v us Q I rx rv q
  · exact h' pins s σ H x xs v us Q I rx rv q
theorem extendD_some {xs as ys : List Da} {z : Da} (e : extendD xs as = some (ys, z)) : ∃ zs, (as = [.list zs] ∨ as = [.tuple zs]) ∧ xs.length + zs.length ≤ 16777216 ∧ ys = xs ++ zs ∧ z = .none := by
  unfold extendD at e
  split at e
  · split at e
    · rename_i zs hl; cases e; exact ⟨zs, .inl rfl, hl, rfl, rfl⟩
    · cases e
  · split at e
    · rename_i zs hl; cases e; exact ⟨zs, .inr rfl, hl, rfl, rfl⟩
    · cases e
  · cases e
theorem m_extend : MutB X "list.extend" extendD := by
  refine ⟨_, MtR.or (show MtR X "list.extend" rExtend from mt_extend) mt_extendT, fun O H p ws xs vs as ys z Q hp R Ra e q => ?_⟩
  obtain ⟨zs, ea, hl, rfl, rfl⟩ := extendD_some e
  have hw := R.length
  rcases ea with rfl | rfl
  · simp only [RoL] at Ra
    obtain ⟨w, r, rfl, Rx, rfl⟩ := Ra
    obtain ⟨b, us, rfl, hb, Rz⟩ := Rx.list
    exact .inl ⟨p, b, ws, us, rfl, rfl, hp, hb, cap_le (by rw [hw, Rz.length]) hl, q .non _ (R.append Rz) (by simp only [Rp])⟩
  · simp only [RoL] at Ra
    obtain ⟨w, r, rfl, Rx, rfl⟩ := Ra
    obtain ⟨b, us, rfl, hb, Rz⟩ := Rx.tupT
    exact .inr ⟨p, b, ws, us, rfl, rfl, hp, hb, cap_le (by rw [hw, Rz.length]) hl, q .non _ (R.append Rz) (by simp only [Rp])⟩
def popD : List Da → List Da → Option (List Da × Da)
  | xs, [] => xs[xs.length - 1]?.map fun y => (xs.dropLast, y)
  | _, _ => none
theorem RpL.dropLast {K : PySem.W.Frag} {O : AS} {H : Hp} {xs : List Da} {vs : List V} (R : RpL K O H xs vs) : RpL K O H xs.dropLast vs.dropLast := by
  rw [List.dropLast_eq_take, List.dropLast_eq_take, ← R.length]; exact R.take _
theorem RpL.eraseIdx {K : PySem.W.Frag} {O : AS} {H : Hp} {xs : List Da} {vs : List V} (R : RpL K O H xs vs) (k : Nat) : RpL K O H (xs.eraseIdx k) (vs.eraseIdx k) := by
  rw [List.eraseIdx_eq_take_drop_succ, List.eraseIdx_eq_take_drop_succ]; exact (R.take _).append (R.drop _)
def popAtD : List Da → List Da → Option (List Da × Da)
  | xs, [.int i] => if -1000000000 ≤ i ∧ i < 1000000000 then (ixN xs.length i).bind fun k => xs[k]?.map fun y => (xs.eraseIdx k, y) else none
  | _, _ => none
def insertD : List Da → List Da → Option (List Da × Da)
  | xs, [.int i, y] => if xs.length < 16777216 ∧ 0 ≤ i ∧ i < 1000000000 then some (xs.take i.toNat ++ [y] ++ xs.drop i.toNat, .none) else none
  | _, _ => none
end
end VL
set_option Elab.async false
set_option linter.all false
set_option maxRecDepth 100000
namespace VL
open PySem PySem.Spec PyProof.Rows L2
/-! ### targets that are given data -/
def gVD (Tb : List (Addr × Str)) (K : PySem.W.Frag) (vs : List Nat) (f : Da → VM Unit) : TG := fun v σ H Q => ∃ O st x, FR Tb K O st σ H ∧ Rp K (Av O st σ) H x v ∧
  okK (f x st) fun _ st' => ∀ σ' H', Step Tb K O st σ H st' σ' H' → (∀ j, j ∉ vs → σ'[j]? = σ[j]?) → Q σ' H'
def gVDs (Tb : List (Addr × Str)) (K : PySem.W.Frag) (vs : List Nat) (f : List Da → VM Unit) : TGs := fun ws σ H Q => ∃ O st xs, FR Tb K O st σ H ∧ RpL K (Av O st σ) H xs ws ∧
  okK (f xs st) fun _ st' => ∀ σ' H', Step Tb K O st σ H st' σ' H' → (∀ j, j ∉ vs → σ'[j]? = σ[j]?) → Q σ' H'
abbrev VGD (Tb : List (Addr × Str)) (X : Cx) (vs : List Nat) (t : Expr) (f : Da → VM Unit) : Prop := PG X t (gVD Tb X.K vs f)
abbrev VGDs (Tb : List (Addr × Str)) (X : Cx) (vs : List Nat) (ts : List Expr) (f : List Da → VM Unit) : Prop := PGs X ts (gVDs Tb X.K vs f)
theorem PGs.wk {X : Cx} {e : List Expr} {t t' : TGs} (h : PGs X e t) (w : ∀ v σ H Q, t' v σ H Q → t v σ H Q) : PGs X e t' := ⟨fun pins s σ H v u Q I r q => h.run pins s σ H v u Q I r (w v σ H Q q)⟩
def vSetD (i : Nat) (x : Da) : VM Unit := fun s => if wrOk s[i]? = true then .ok ((), s.set i (.d x)) else .error .stuck
def vUnp : List (Da → VM Unit) → List Da → VM Unit
  | [], [] => vr ()
  | f :: fs, x :: xs => vb (f x) fun _ => vUnp fs xs
  | _, _ => vStuck
def tupD : Da → Option (List Da)
  | .tuple xs => some xs
  | _ => none
def vUnpT (fs : List (Da → VM Unit)) (x : Da) : VM Unit := vb (vOpt (tupD x)) fun xs => vUnp fs xs
section
variable {X : Cx} {W : WX} {a b c e o : Expr} {es ts : List Expr} {pos p : Pos} {fa fb fc fe fo : VM EV} {fs : VM (List EV)} {ga gb : VM Bool} {f : Da → VM Unit} {fl : List (Da → VM Unit)} {ix : List Nat}
theorem gVD.name {K : PySem.W.Frag} {i : Nat} {v : V} {σ : L2.St} {H : Hp} {Q : L2.St → Hp → Prop} (hv : i ∈ ix) (h : gVD Tb K ix (vSetD i) v σ H Q) : gName i v σ H Q := by
  obtain ⟨O, st, x, F, R, h⟩ := h
  unfold vSetD at h
  by_cases hw : wrOk st[i]? = true
  · rw [if_pos hw] at h
    exact h _ _ ((Step.refl F).setN hw ⟨v, rfl, R⟩ fun c => ⟨(fun z => by cases z), (fun z => by cases z), (fun z => by cases z)⟩) fun j hj => List.getElem?_set_ne fun z => hj (by rw [← z]; exact hv)
  · rw [if_neg hw] at h; exact h.elim
theorem vgd_name {i : Nat} {x : Str} (hN : X.N.Nodup) (hi : X.N[i]? = some x) (hx : Loc X.env.scope x) (hf : X.fn x = true ∨ X.env.scope.names.lookup x = some .local := by first | exact .inl rfl | exact .inr rfl | assumption) (hv : i ∈ ix := by decide) : VGD Tb X ix (.Name x pos) (vSetD i) :=
  PG.wk (pg_name hN hi hx hf) fun v σ H Q h => h.name hv
theorem vgds_nil : VGDs Tb X ix [] (vUnp []) := PGs.wk pgs_nil fun vs σ H Q ⟨O, st, xs, F, R, h⟩ => by
  cases xs with
  | nil => simp only [RpL] at R; exact ⟨R, h σ H (Step.refl F) fun _ _ => rfl⟩
  | cons x xs => exact h.elim
theorem vgds_cons (h1 : VGD Tb X ix e f) (h2 : VGDs Tb X ix es (vUnp fl)) (hs : (assignEach (e :: es) X.env).map (·.2) = assign e X.env :: (assignEach es X.env).map (·.2) := by rfl) : VGDs Tb X ix (e :: es) (vUnp (f :: fl)) := by
  refine PGs.wk (pgs_cons h1 h2 hs) fun vs σ H Q ⟨O, st, xs, F, R, h⟩ => ?_
  cases xs with
  | nil => exact h.elim
  | cons x xs =>
    simp only [RpL] at R
    obtain ⟨v, vr, rfl, Rv, Rr⟩ := R
    refine ⟨v, vr, rfl, O, st, x, F, Rv, ?_⟩
    have h : okK (vb (f x) (fun _ => vUnp fl xs) st) fun _ st' => ∀ σ' H', Step Tb X.K O st σ H st' σ' H' → (∀ j, j ∉ ix → σ'[j]? = σ[j]?) → Q σ' H' := h
    unfold vb at h
    cases q : f x st with
    | error er => rw [q] at h; exact h
    | ok p =>
      obtain ⟨_, s1⟩ := p
      rw [q] at h
      refine fun σ1 H1 S1 a1 => ⟨O, s1, xs, S1.fr, S1.rpl Rr, ?_⟩
      dsimp only at h
      cases q2 : vUnp fl xs s1 with
      | error er => rw [q2] at h; exact h
      | ok p => rw [q2] at h; exact fun σ' H' S' a' => h σ' H' (S1.trans S') fun j hj => (a' j hj).trans (a1 j hj)
theorem vgd_tup {k : Nat} {n : Nat} (hc : X.calm = true) (h : VGDs Tb X ix es (vUnp fl)) (hn : (assignEach es X.env).length = n := by rfl) (hst : (assignEach es X.env).findIdx? (·.1) = none := by rfl) (hl : fl.length = n := by rfl) : VGD Tb X ix (.Tuple es k pos) (vUnpT fl) := by
  refine PG.wk (pg_tup hc h hn hst) fun v σ H Q ⟨O, st, x, F, R, h⟩ => ?_
  cases x with
  | tuple xs =>
    obtain ⟨ad, vs, rfl, sq, Rl⟩ := R.tupT
    have h : okK (vUnp fl xs st) fun _ st' => ∀ σ' H', Step Tb X.K O st σ H st' σ' H' → (∀ j, j ∉ ix → σ'[j]? = σ[j]?) → Q σ' H' := h
    have len : ∀ {fl : List (Da → VM Unit)} {xs : List Da} {st : VS}, (∃ p, vUnp fl xs st = .ok p) → fl.length = xs.length := by
      intro fl
      induction fl with
      | nil =>
        intro xs st ⟨p, e⟩
        cases xs with
        | nil => rfl
        | cons _ _ => cases e
      | cons f fl ih =>
        intro xs st ⟨p, e⟩
        cases xs with
        | nil => cases e
        | cons x xs =>
          have e : vb (f x) (fun _ => vUnp fl xs) st = .ok p := e
          unfold vb at e
          split at e
          · rw [List.length_cons, List.length_cons, ih ⟨_, e⟩]
          · cases e
    have hlen : fl.length = xs.length := by
      cases q : vUnp fl xs st with
      | error er => rw [q] at h; exact h.elim
      | ok p => exact len ⟨p, q⟩
    exact ⟨ad, vs, rfl, sq, by rw [← Rl.length, ← hlen, hl], O, st, xs, F, Rl, h⟩
  | _ => exact h.elim
/-- data into a target -/
def vAsgD (f : VM EV) (g : Da → VM Unit) : VM Ctl := vb f fun r => vb (vOpt (evD r)) fun x => vb (vNoX (g x)) fun _ => vNx
theorem ER.evD {K : PySem.W.Frag} {O : AS} {H0 H : Hp} {st : VS} {σ : L2.St} {v : V} {r : EV} {x : Da} (E : ER Tb K O H0 st σ H v r) (e : VL.evD r = some x) : Rp K (Av O st σ) H x v := by
  cases r with
  | d y => cases e; exact E
  | own c => cases e; exact ER.settle (H1 := H0) E
  | loan i => cases e
theorem asgD_wk {gt : Da → VM Unit} {K : PySem.W.Frag} {mg : Str → Option Value} {D : Ends} {σ : L2.St} {H : Hp} (h : tVS Tb K mg W (vAsgD fe gt) D σ H) : tAsg (tV Tb K mg W fe) (gVD Tb K ix gt) D σ H := by
  refine h.expr fun O st r s1 v H1 S E h => ?_
  obtain ⟨x, ex, h⟩ := h.opt
  refine ⟨O, s1, x, S.fr, E.evD ex, ?_⟩
  unfold vb vNoX at h
  cases q : gt x s1 with
  | ok p =>
    obtain ⟨_, s2⟩ := p
    rw [q] at h
    exact fun σ' H' S' _ => h σ' H' (S.trans S')
  | error er => rw [q] at h; exact h.elim
theorem vs_asgD {tg : Expr} {gt : Da → VM Unit} (he : VE Tb X W e fe) (hg : VGD Tb X ix tg gt) (hs : swapsWithSole [tg] e pos.line X.env = pure false := by rfl) (hw : swappedStores [tg] e X.env = pure none := by rfl)
    (h1 : (assignEach [tg] X.env).map (·.2) = [assign tg X.env] := by rfl) : VSt Tb X W (.Assign [tg] e pos) (vAsgD fe gt) := PS.wk (ps_asg he hg hs hw h1) fun D σ H h => asgD_wk (ix := ix) h
/-! xs[i] = v -/
def setD : List Da → List Da → Option (List Da × Da)
  | xs, [.int k, v] => (ixN xs.length k).map fun j => (xs.set j v, .none)
  | _, _ => none
theorem setD_some {xs as ys : List Da} {z : Da} (e : setD xs as = some (ys, z)) : ∃ k v j, as = [.int k, v] ∧ ixN xs.length k = some j ∧ ys = xs.set j v ∧ z = .none := by
  unfold setD at e
  split at e
  · rename_i k v
    obtain ⟨j, e0, e1⟩ := Option.map_eq_some_iff.mp e
    cases e1
    exact ⟨k, v, j, rfl, e0, rfl, rfl⟩
  · cases e
def vSub (fo fi : VM EV) (x : Da) : VM Unit := vb fo fun ro => vb fi fun ri => vb (vRd ri) fun i => vb (vApp setD ro [i, x]) fun _ => vr ()
theorem tV.bind0 {α : Type} {K : PySem.W.Frag} {mg : Str → Option Value} {O : AS} {st : VS} {σ : L2.St} {H : Hp} {f : VM EV} {g : EV → VM α} {Q : VK} {k : α → VS → Prop} (F : FR Tb K O st σ H)
    (h : okK (vb f g st) k)
    (cont : ∀ r s1 v H1, Step Tb K O st σ H s1 σ H1 → ER Tb K O H s1 σ H1 v r → okK (g r s1) k → Q v H1) : tV Tb K mg W f σ H Q := by
  refine ⟨O, st, F, ?_⟩
  unfold vb at h
  cases e : f st with
  | ok p =>
    obtain ⟨r, s1⟩ := p
    rw [e] at h
    exact fun v H1 S E => cont r s1 v H1 S E h
  | error er => rw [e] at h; exact h.elim
theorem vgd_sub (ho : VE Tb X W o fo) (hi : VE Tb X W a fa) (ha : ∀ v, assign (.Subscript o a pos) X.env v = (do
      let ov ← holding [v] (eval o X.env)
      let iv ← holding [v, ov] (eval a X.env)
      standAt pos
      holding [v, ov, iv] (setItem ov iv v)
      release [v, ov, iv] []) := by intro _; rfl) : VGD Tb X ix (.Subscript o a pos) (vSub fo fa) := by
  refine PG.wk (pg_sub ho hi set_list ha) fun v σ H Q ⟨O, st, x, F, R, h⟩ => ?_
  refine tV.bind0 (g := fun ro => vb fa fun ri => vb (vRd ri) fun i => vb (vApp setD ro [i, x]) fun _ => vr ()) (k := fun _ st' => ∀ σ' H', Step Tb X.K O st σ H st' σ' H' → (∀ j, j ∉ ix → σ'[j]? = σ[j]?) → Q σ' H') F h fun ro s1 ov H1 S1 E1 h => ?_
  refine tV.bind0 (g := fun ri => vb (vRd ri) fun i => vb (vApp setD ro [i, x]) fun _ => vr ()) (k := fun _ st' => ∀ σ' H', Step Tb X.K O st σ H st' σ' H' → (∀ j, j ∉ ix → σ'[j]? = σ[j]?) → Q σ' H') S1.fr h fun ri s2 iv H2 S2 E2 h => ?_
  have S := S1.trans S2
  have Rx := S.rp R
  -- as a run
  have h' : VRun Tb X.K X.mg W O s2 σ H2 (vb (vRd ri) (fun i => vb (vApp setD ro [i, x]) fun _ => (vr () : VM Unit)) s2) fun _ st' => ∀ σ' H', Step Tb X.K O st σ H st' σ' H' → (∀ j, j ∉ ix → σ'[j]? = σ[j]?) → Q σ' H' := by
    cases q : vb (vRd ri) (fun i => vb (vApp setD ro [i, x]) fun _ => (vr () : VM Unit)) s2 with
    | ok p => rw [q] at h; exact h
    | error er => rw [q] at h; exact h.elim
  obtain ⟨i, Ri, h'⟩ := h'.rd S2.fr E2
  obtain ⟨H0, r', E', em⟩ := E1.loan_later (g := setD) S2
  have h2 := vrun_vb h'
  rw [em] at h2
  obtain ⟨p, ws, xs, ys, z, rfl, hp, Rl, eg, q⟩ := VRun.app (Q := fun _ H' => ∃ σ', σ' = σ ∧ Q σ' H') S E' (h2.mono fun r st' z v H' S' E => ⟨σ, rfl, z σ H' S' fun _ _ => rfl⟩)
  obtain ⟨k, v', j, e1, e2, rfl, rfl⟩ := setD_some eg
  cases e1
  obtain rfl := Ri.int
  refine ⟨p, ws, k, j, rfl, rfl, hp, by rw [← Rl.length]; exact e2, ?_⟩
  obtain ⟨σ', ee, qq⟩ := q .non _ (Rl.set j Rx) (by simp only [Rp])
  rw [ee] at qq
  exact qq
/-! x op= e -/
theorem ip_of {op : Operator} {r : R2} (h : OpR X (inplaceOp op) r) : PIp X op r := h
def vAug (i : Nat) (g : Da → Da → Option EV) (f : VM EV) : VM Ctl := vb (vVar i) fun r0 => vb f fun r => vb (vRd r0) fun x => vb (vRd r) fun y => vb (vOpt (g x y)) fun z => vb (vNoX (vSet i z)) fun _ => vNx
/-- the operator, in place, of what is no list -/
def flatD : Da → Bool
  | .int _ => true
  | .str _ => true
  | _ => false
theorem vs_aug {i : Nat} {x : Str} {op : Operator} {g : Da → Da → Option EV} {pos' : Pos} (hN : X.N.Nodup) (hi : X.N[i]? = some x) (hx : Loc X.env.scope x) (he : VE Tb X W e fe) (ho : Op2 X (inplaceOp op) g) (hf : X.fn x = true ∨ X.env.scope.names.lookup x = some .local := by first | exact .inl rfl | exact .inr rfl | assumption) :
    VSt Tb X W (.AugAssign (.Name x pos') op e pos) (vAug i g fe) := by
  obtain ⟨r, hr, hg⟩ := ho
  refine PS.wk (ps_aug hN hi hx he (ip_of hr) hf) fun D σ H h => ?_
  obtain ⟨O, st, F, h⟩ := h
  -- the name's value
  have h0 := vrun_vb h
  unfold vVar at h0
  cases q : st[i]? with
  | none => rw [q] at h0; exact h0.elim
  | some sv =>
    rw [q] at h0
    obtain ⟨w, ew, sl⟩ := F.slot i sv q
    have main : ∀ (u : V) (r0 : EV), w = some u → ER Tb X.K O H st σ H u r0 → VRun Tb X.K X.mg W O st σ H ((vb fe fun r => vb (vRd r0) fun x => vb (vRd r) fun y => vb (vOpt (g x y)) fun z => vb (vNoX (vSet i z)) fun _ => vNx) st) (CtlK Tb X.K O st σ H D) →
        (r0 = settle r0) → tAug i (tV Tb X.K X.mg W fe) r D σ H := fun u r0 eu E0 h er => by
      subst eu
      refine ⟨u, ew, tV.bind F h fun r1 s1 v H1 S1 E1 h => ?_⟩
      rw [er] at E0
      have E0' := E0.later S1 (H2 := H)
      rw [← er] at E0'
      obtain ⟨xd, Rx, h⟩ := h.rd S1.fr E0'
      obtain ⟨yd, Ry, h⟩ := h.rd S1.fr E1
      obtain ⟨z, ez, h⟩ := h.opt
      refine hg _ H1 xd yd u v z _ S1.fr.avdom Rx Ry ez fun zv H2 k n => ?_
      have S2 := S1.trans (Step.ext S1.fr k)
      have Ez := (NR.er S1.fr k n).back S1.dom
      refine gVT.name (K := X.K) ⟨O, st, σ, H, s1, z, S2, Ez, ?_⟩
      unfold vb vNoX at h
      cases q : vSet i z s1 with
      | ok p => rw [q] at h; exact fun σ' H' S' => h σ' H' S'
      | error er => rw [q] at h; exact h.elim
    cases sv with
    | un => exact h0.elim
    | d y => obtain ⟨u, e, R⟩ := sl; exact main u (.d y) e R h0 rfl
    | own c => obtain ⟨p, e, R⟩ := sl; exact main _ (.loan i) e (by rw [e] at ew; exact ew) h0 rfl
    | io c => obtain ⟨p, e, R⟩ := sl; exact main _ (.loan i) e (by rw [e] at ew; exact ew) h0 rfl
    | lk c => obtain ⟨p, e, R⟩ := sl; exact main _ (.loan i) e (by rw [e] at ew; exact ew) h0 rfl
    | rd xs => obtain ⟨p, vs, e, R⟩ := sl; exact main _ (.loan i) e (by rw [e] at ew; exact ew) h0 rfl
def iaddD : Da → Da → Option EV
  | .int i, .int j => some (.d (.int (i + j)))
  | .str a, .str b => if a.length + b.length ≤ 16777216 then some (.d (.str (a ++ b))) else none
  | _, _ => none
theorem i_add : Op2 X (inplaceOp .Add) iaddD := by
  refine ⟨_, OpR.or iop_add iop_add_str, fun O H x y v w z Q hd hx hy e q => ?_⟩
  cases x with
  | int i =>
    cases y with
    | int j => cases e; obtain rfl := hx.int; obtain rfl := hy.int; exact .inl ⟨i, j, rfl, rfl, q _ H (Same.refl H) (by show Rp _ _ _ _ _; simp only [Rp])⟩
    | _ => cases e
  | str i =>
    cases y with
    | str j =>
      obtain rfl := hx.str; obtain rfl := hy.str
      unfold iaddD at e; dsimp only at e
      split at e
      · rename_i hl; cases e
        exact .inr ⟨i, j, rfl, rfl, by rw [sizeLine_eq]; exact hl, q _ H (Same.refl H) (by show Rp _ _ _ _ _; simp only [Rp])⟩
      · cases e
    | _ => cases e
  | _ => cases e
/-! xs[i] op= e -/
theorem get_list : PGet X (rIxL X.K) := by
  intro pins s σ H x y v u Q I rx ry h
  obtain ⟨p, xs, i, z, rfl, rfl, hq, he, q⟩ := h
  cases rx
  obtain ⟨t, rfl⟩ := ry
  obtain ⟨its, r, pl, hz⟩ := I.list hq
  obtain ⟨j, hj, ej⟩ := Option.bind_eq_some_iff.mp (show (ixN xs.length i).bind _ = some z from he)
  obtain ⟨h1, h2, h3, h4⟩ := ixN_seq hj
  obtain ⟨w, ew, rw'⟩ := r.get ej
  have hl := r.length
  have hn := line63
  have fin : EP X pins σ Q w s := ⟨z, H, I, rw', q⟩
  by_cases h0 : 0 ≤ i
  · have hk : i.toNat = j := by
      rw [seqIndex_of h0 h4] at h1
      exact Option.some.inj h1
    exact PySem.wpAny_getItem_list pl.isList h0 (by omega) (by rw [hk]; simpa using ew) fin
  · have hk : (i + (its.toArray.size : Int)).toNat = j := by
      rw [seqIndex_neg (by omega) h3] at h1
      rw [List.size_toArray, ← hl]
      exact Option.some.inj h1
    exact wpAny_getItem_list_neg pl.isList (by omega) (by rw [List.size_toArray] <;> omega) (by omega) (by rw [hk]; simpa using ew) fin
def intD : Da → Option Int
  | .int i => some i
  | _ => none
def vCt (r : EV) : VM (List Da) := fun s => match mutL r s with
  | some (_, xs) => .ok (xs, s)
  | none => .error .stuck
theorem VRun.ct {α : Type} {K : PySem.W.Frag} {mg : Str → Option Value} {O : AS} {st : VS} {σ : L2.St} {H H0 : Hp} {v : V} {r : EV} {k : α → VS → Prop} {f : List Da → VM α} (F : FR Tb K O st σ H) (E : ER Tb K O H0 st σ H v r) (h : VRun Tb K mg W O st σ H (vb (vCt r) f st) k) :
    ∃ xs p vs, v = .ref p ∧ H p = some (.lst vs) ∧ RpL K (Av O st σ) H xs vs ∧ VRun Tb K mg W O st σ H (f xs st) k := by
  unfold vb vCt at h
  cases e : mutL r st with
  | none => rw [e] at h; exact h.elim
  | some ix =>
    obtain ⟨i, xs⟩ := ix
    rw [e] at h
    obtain ⟨p, vs, e1, _, _, e2, R⟩ := mutL_ok F E e
    exact ⟨xs, p, vs, e1, e2, R, h⟩
theorem ER.loan_later2 {K : PySem.W.Frag} {O : AS} {H0 H H1 : Hp} {s1 s2 : VS} {σ : L2.St} {v : V} {r : EV} (E : ER Tb K O H0 s1 σ H v r) (S : Step Tb K O s1 σ H s2 σ H1) : ∃ H0 r', ER Tb K O H0 s2 σ H1 v r' ∧ (∀ g as, vApp g r as = vApp g r' as) ∧ vCt r = vCt r' := by
  cases r with
  | loan i => exact ⟨H0, .loan i, E, fun _ _ => rfl, rfl⟩
  | d x => exact ⟨H0, .d x, S.rp E, fun _ _ => rfl, rfl⟩
  | own c => exact ⟨H0, .d c.data, (E.settle (H1 := H0)).later S (H2 := H0), fun _ _ => rfl, rfl⟩
def vAugS (g : Da → Da → Option EV) (fo fi fe : VM EV) : VM Ctl := vb fo fun ro => vb fi fun ri => vb (vRd ri) fun i => vb (vOpt (intD i)) fun k => vb (vCt ro) fun xs => vb (vOpt (atI xs k)) fun old => vb fe fun re => vb (vRd re) fun y =>
  vb (vOpt ((g old y).bind evD)) fun new => vb (vApp setD ro [.int k, new]) fun _ => vNx
theorem vs_augS {tpos : Pos} {op : Operator} {g : Da → Da → Option EV} (ho : VE Tb X W o fo) (hi : VE Tb X W a fa) (he : VE Tb X W e fe) (hop : Op2 X (inplaceOp op) g)
    (ha : ∀ ov iv new, augStore a ov iv new = (do holding [new, ov, iv] (setItem ov iv new); release [new, ov, iv] []; pure .next) := by intros; rfl) :
    VSt Tb X W (.AugAssign (.Subscript o a tpos) op e pos) (vAugS g fo fa fe) := by
  obtain ⟨r, hr, hg⟩ := hop
  refine PS.wk (ps_augS ho hi get_list he (ip_of hr) set_list ha) fun D σ H h => ?_
  obtain ⟨O, st, F, h⟩ := h
  refine tV.bind F h fun ro s1 ov H1 S1 E1 h => ?_
  refine tV.bind S1.fr h fun ri s2 iv H2 S2 E2 h => ?_
  obtain ⟨i, Ri, h⟩ := h.rd S2.fr E2
  obtain ⟨k, ek, h⟩ := h.opt
  obtain rfl : i = .int k := by
    cases i with
    | int j => cases ek; rfl
    | _ => cases ek
  obtain rfl := Ri.int
  obtain ⟨H0, r2, E', em, ec⟩ := E1.loan_later2 S2
  rw [ec] at h
  obtain ⟨xs, p, vs, rfl, hp, Rl, h⟩ := h.ct S2.fr E'
  obtain ⟨old, eo, h⟩ := h.opt
  obtain ⟨w, ew, Rw⟩ := atI_rel Rl eo
  refine ⟨p, vs, k, w, rfl, rfl, .of hp, ew, ?_⟩
  refine tV.bind S2.fr h fun re s3 y H3 S3 E3 h => ?_
  obtain ⟨yd, Ry, h⟩ := h.rd S3.fr E3
  obtain ⟨new, en, h⟩ := h.opt
  obtain ⟨z, ez1, ez2⟩ := Option.bind_eq_some_iff.mp en
  have Rw3 := S3.rp Rw
  refine hg _ H3 old yd w y z _ S3.fr.avdom (.inl Rw3) Ry ez1 fun u H4 k4 n4 => ?_
  have S4 := Step.ext S3.fr k4
  have E4 := NR.er S3.fr k4 n4
  have Rn := E4.evD ez2
  have h := VRun.step S4 h
  obtain ⟨H0', r3, E'', em3⟩ := E'.loan_later (g := setD) (S3.trans S4)
  have h2 := vrun_vb h
  rw [em, em3] at h2
  have S := ((S1.trans S2).trans S3).trans S4
  obtain ⟨p', ws, ys, zs, z', ep, hp', Rl', eg, q⟩ := VRun.app (Q := fun _ H' => D.nx σ H') S E'' (h2.mono fun r st' z v H' S' E => z σ H' S')
  cases ep
  obtain ⟨k', v', j, e1, e2, rfl, rfl⟩ := setD_some eg
  cases e1
  exact ⟨p, ws, k, j, rfl, rfl, hp', by rw [← Rl'.length]; exact e2, q .non _ (Rl'.set j Rn) (by simp only [Rp])⟩
end
end VL
set_option Elab.async false
set_option linter.all false
set_option maxRecDepth 100000
namespace VL
open PySem PySem.Spec PyProof.Rows L2
/-- what a body knows of where it stands -/
structure VC (X : Cx) (W : WX) (k : Nat) : Prop where
  calm : X.calm = true
  nd : X.N.Nodup
  tk : Takes X W
  rm : Room k X.A
theorem VC.hu {X : Cx} {W : WX} {k : Nat} (c : VC X W k) : X.A.units + 64 < cLine := c.rm.units
theorem VC.hu0 {X : Cx} {W : WX} {k : Nat} (c : VC X W k) : X.A.units < cLine := c.rm.units0
/-- what is wanted of an exception, whatever the slots; where they are the given ones -/
def WN (E : XK) : WX := fun cls d _ H => E cls d H
def WS (σ0 : L2.St) (E : XK) : WX := fun cls d σ H => σ = σ0 → E cls d H
abbrev FM := VS → Res (EV × VS)
/-- THE PROMISE of a def whose mirror is m -/
def spV (Tb : List (Addr × Str)) (K : PySem.W.Frag) (mg : Str → Option Value) (n : Nat) (m : FM) : Sp := fun vs H Q E => vs.length = n ∧ ∃ O st0, FR Tb K O st0 (vs.map some) H ∧ (∀ (i : Nat) (c : OC), st0[i]? ≠ some (.own c)) ∧
  VRun Tb K mg (WS (vs.map some) E) O st0 (vs.map some) H (m st0) fun r st' => ∀ v H', Step Tb K O st0 (vs.map some) H st' (vs.map some) H' → ER Tb K O H st' (vs.map some) H' v r → Q v H'
/-! ### the body -/
/-- what is given back: a datum, or a list of one's own -/
def retV (c : Ctl) (s : VS) : Option EV := match c with
  | .nx => some (.d .none)
  | .rt (.loan i) => match s[i]? with
    | some (.own c) => some (.own c)
    | _ => none
  | .rt r => some r
  | _ => none
/-- the parameters behind it -/
def outs : VS → VS → VS
  | .io _ :: st0, sv :: s => sv :: outs st0 s
  | x :: st0, _ :: s => x :: outs st0 s
  | st0, _ => st0
def runF (N : Nat) (g : VM Ctl) : FM := fun st0 =>
  match g (st0 ++ List.replicate (N - st0.length) .un) with
  | .ok (c, s) => match retV c s with
    | some r => .ok (r, outs st0 s)
    | none => .error .stuck
  | .error (.exc C fs s) => .error (.exc C fs (outs st0 s))
  | .error .stuck => .error .stuck
theorem outs_get : ∀ {st0 s : VS} {i : Nat} {sv : SV}, st0.length ≤ s.length → st0[i]? = some sv → ∃ sv', s[i]? = some sv' ∧ (outs st0 s)[i]? = some (match sv with
    | .io _ => sv'
    | x => x)
  | [], s, i, sv, _, h => by simp at h
  | x :: st0, [], i, sv, hl, h => by simp at hl
  | x :: st0, y :: s, 0, sv, hl, h => by
    simp at h; subst h
    refine ⟨y, rfl, ?_⟩
    cases x <;> rfl
  | x :: st0, y :: s, i + 1, sv, hl, h => by
    obtain ⟨sv', h1, h2⟩ := outs_get (st0 := st0) (s := s) (i := i) (sv := sv) (by simpa using hl) (by simpa using h)
    refine ⟨sv', by simpa using h1, ?_⟩
    cases x <;> (show (_ :: outs st0 s)[i + 1]? = _; simpa using h2)
theorem outs_len : ∀ {st0 s : VS}, st0.length ≤ s.length → (outs st0 s).length = st0.length
  | [], s, _ => by cases s <;> rfl
  | x :: st0, [], hl => by simp at hl
  | x :: st0, y :: s, hl => by
    have ih := outs_len (st0 := st0) (s := s) (by simpa using hl)
    cases x <;> (show (_ :: outs st0 s).length = _; simp [ih])
theorem start_map (N : List Str) (vs : List V) : L2.start N vs = vs.map some ++ List.replicate (N.length - vs.length) none := rfl
section
variable {K : PySem.W.Frag} {mg : Str → Option Value} {W : WX} {O : AS} {H H' : Hp} {vs : List V} {st0 : VS} {n : Nat}
theorem own_ext {i : Nat} {p : Addr} (hl : st0.length = vs.length) : OwnAt (st0 ++ List.replicate n .un) (vs.map some ++ List.replicate n none) i p ↔ OwnAt st0 (vs.map some) i p := by
  constructor
  · rintro ⟨e, c, h⟩
    by_cases hi : i < st0.length
    · rw [List.getElem?_append_left (by rw [List.length_map, ← hl]; exact hi)] at e
      rw [List.getElem?_append_left hi] at h
      exact ⟨e, c, h⟩
    · rw [List.getElem?_append_right (by omega), List.getElem?_replicate] at h
      rcases h with h | h | h <;> (split at h <;> cases h)
  · rintro ⟨e, c, h⟩
    have hi : i < st0.length := by
      by_cases hi : i < st0.length
      · exact hi
      · rw [List.getElem?_eq_none (by omega)] at h; rcases h with h | h | h <;> cases h
    exact ⟨by rw [List.getElem?_append_left (by rw [List.length_map, ← hl]; exact hi)]; exact e, c, by rw [List.getElem?_append_left hi]; exact h⟩
theorem FR.start (F : FR Tb K O st0 (vs.map some) H) : FR Tb K O (st0 ++ List.replicate n .un) (vs.map some ++ List.replicate n none) H := by
  have hl : st0.length = vs.length := by rw [F.len, List.length_map]
  have av : Av O (st0 ++ List.replicate n .un) (vs.map some ++ List.replicate n none) = Av O st0 (vs.map some) := by
    funext a
    exact propext ⟨fun h => h.imp id fun ⟨j, h⟩ => ⟨j, (own_ext hl).mp h⟩, fun h => h.imp id fun ⟨j, h⟩ => ⟨j, (own_ext hl).mpr h⟩⟩
  refine ⟨by simp [hl], fun i sv h => ?_, fun i j p h1 h2 => F.inj i j p ((own_ext hl).mp h1) ((own_ext hl).mp h2), fun p ⟨j, h⟩ => F.avoid p ⟨j, (own_ext hl).mp h⟩, F.odom, F.tabs⟩
  rw [av]
  by_cases hi : i < st0.length
  · rw [List.getElem?_append_left hi] at h
    obtain ⟨v, e, s⟩ := F.slot i sv h
    exact ⟨v, by rw [List.getElem?_append_left (by rw [List.length_map, ← hl]; exact hi)]; exact e, s⟩
  · rw [List.getElem?_append_right (by omega), List.getElem?_replicate] at h
    split at h
    · cases h
      rename_i hn
      refine ⟨none, ?_, trivial⟩
      rw [List.getElem?_append_right (by rw [List.length_map]; omega), List.getElem?_replicate, List.length_map, ← hl, if_pos hn]
    · cases h
/-- the parameters' slots behind the body -/
structure Outs (st0 s : VS) (σ0 σ' : L2.St) : Prop where
  len : (VL.outs st0 s).length = st0.length
  get : ∀ (i : Nat) (sv : SV), (VL.outs st0 s)[i]? = some sv → ∃ sv0, st0[i]? = some sv0 ∧ ((∃ c c', sv0 = SV.io c ∧ s[i]? = some (SV.io c') ∧ sv = SV.io c' ∧ σ'[i]? = σ0[i]?) ∨ (∃ c, sv0 = SV.lk c ∧ s[i]? = some (SV.lk c) ∧ sv = SV.lk c ∧ σ'[i]? = σ0[i]?) ∨
    ((∀ c, sv0 ≠ .io c ∧ sv0 ≠ .lk c ∧ sv0 ≠ .own c) ∧ sv = sv0))
  io : ∀ (i : Nat) (c : OC), st0[i]? = some (.io c) → ∃ c', s[i]? = some (.io c') ∧ (VL.outs st0 s)[i]? = some (.io c')
  lk : ∀ (i : Nat) (c : OC), st0[i]? = some (.lk c) → (VL.outs st0 s)[i]? = some (.lk c)
theorem Outs.of {s : VS} {σ' : L2.St} (F : FR Tb K O st0 (vs.map some) H) (hno : ∀ (i : Nat) (c : OC), st0[i]? ≠ some (.own c)) (S : Step Tb K O (st0 ++ List.replicate n .un) (vs.map some ++ List.replicate n none) H s σ' H') : Outs st0 s (vs.map some) σ' := by
  have hl : st0.length = vs.length := by rw [F.len, List.length_map]
  have hs : st0.length ≤ s.length := by rw [S.fr.len, S.len]; simp [hl]
  have io : ∀ (i : Nat) (c : OC), st0[i]? = some (.io c) → (∃ c', s[i]? = some (.io c')) ∧ σ'[i]? = (vs.map some)[i]? := fun i c h => by
    have hi : i < st0.length := by
      by_cases hi : i < st0.length
      · exact hi
      · rw [List.getElem?_eq_none (by omega)] at h; cases h
    obtain ⟨a, b⟩ := S.io i c (by rw [List.getElem?_append_left hi]; exact h)
    exact ⟨a, by rw [b, List.getElem?_append_left (by rw [List.length_map, ← hl]; exact hi)]⟩
  have lk : ∀ (i : Nat) (c : OC), st0[i]? = some (.lk c) → s[i]? = some (.lk c) ∧ σ'[i]? = (vs.map some)[i]? := fun i c h => by
    have hi : i < st0.length := by
      by_cases hi : i < st0.length
      · exact hi
      · rw [List.getElem?_eq_none (by omega)] at h; cases h
    obtain ⟨a, b⟩ := S.lk i c (by rw [List.getElem?_append_left hi]; exact h)
    exact ⟨a, by rw [b, List.getElem?_append_left (by rw [List.length_map, ← hl]; exact hi)]⟩
  refine ⟨outs_len hs, fun i sv h => ?_, fun i c h => ?_, fun i c h => ?_⟩
  · have hi : i < st0.length := by
      by_cases hi : i < st0.length
      · exact hi
      · rw [List.getElem?_eq_none (by rw [outs_len hs]; omega)] at h; cases h
    obtain ⟨sv0, h0⟩ : ∃ sv0, st0[i]? = some sv0 := ⟨_, List.getElem?_eq_getElem hi⟩
    obtain ⟨sv', h1, h2⟩ := outs_get hs h0
    refine ⟨sv0, h0, ?_⟩
    rw [h] at h2
    cases sv0 with
    | io c =>
      obtain ⟨⟨c', e⟩, e2⟩ := io i c h0
      rw [e] at h1; cases h1
      exact .inl ⟨c, c', rfl, e, Option.some.inj h2, e2⟩
    | lk c => obtain ⟨e, e2⟩ := lk i c h0; exact .inr (.inl ⟨c, rfl, e, Option.some.inj h2, e2⟩)
    | un => exact .inr (.inr ⟨fun c => ⟨(fun z => by cases z), (fun z => by cases z), (fun z => by cases z)⟩, Option.some.inj h2⟩)
    | d x => exact .inr (.inr ⟨fun c => ⟨(fun z => by cases z), (fun z => by cases z), (fun z => by cases z)⟩, Option.some.inj h2⟩)
    | rd x => exact .inr (.inr ⟨fun c => ⟨(fun z => by cases z), (fun z => by cases z), (fun z => by cases z)⟩, Option.some.inj h2⟩)
    | own x => exact absurd h0 (hno i x)
  · obtain ⟨⟨c', e⟩, _⟩ := io i c h
    obtain ⟨sv', h1, h2⟩ := outs_get hs h
    rw [e] at h1; cases h1
    exact ⟨c', e, h2⟩
  · obtain ⟨sv', h1, h2⟩ := outs_get hs h
    exact h2
theorem Outs.own {s : VS} {σ0 σ' : L2.St} (B : Outs st0 s σ0 σ') {i : Nat} {p : Addr} (h : OwnAt (outs st0 s) σ0 i p) : OwnAt s σ' i p ∧ OwnAt st0 σ0 i p := by
  obtain ⟨e, c, h⟩ := h
  have : ∃ sv, (outs st0 s)[i]? = some sv ∧ (sv = .own c ∨ sv = .io c ∨ sv = .lk c) := by
    rcases h with h | h | h
    · exact ⟨_, h, .inl rfl⟩
    · exact ⟨_, h, .inr (.inl rfl)⟩
    · exact ⟨_, h, .inr (.inr rfl)⟩
  obtain ⟨sv, h, hsv⟩ := this
  obtain ⟨sv0, h0, h1⟩ := B.get i sv h
  rcases h1 with ⟨c0, c', rfl, e1, rfl, e2⟩ | ⟨c0, rfl, e1, rfl, e2⟩ | ⟨hn, rfl⟩
  · exact ⟨⟨by rw [e2]; exact e, c', .inr (.inl e1)⟩, e, c0, .inr (.inl h0)⟩
  · exact ⟨⟨by rw [e2]; exact e, c0, .inr (.inr e1)⟩, e, c0, .inr (.inr h0)⟩
  · rcases hsv with rfl | rfl | rfl
    · exact absurd rfl (hn c).2.2
    · exact absurd rfl (hn c).1
    · exact absurd rfl (hn c).2.1
theorem Outs.mut {s : VS} {σ0 σ' : L2.St} (B : Outs st0 s σ0 σ') {i : Nat} {p : Addr} (h : MutAt (outs st0 s) σ0 i p) : MutAt st0 σ0 i p := by
  obtain ⟨e, c, h⟩ := h
  have : ∃ sv, (outs st0 s)[i]? = some sv ∧ (sv = .own c ∨ sv = .io c) := by
    rcases h with h | h
    · exact ⟨_, h, .inl rfl⟩
    · exact ⟨_, h, .inr rfl⟩
  obtain ⟨sv, h, hsv⟩ := this
  obtain ⟨sv0, h0, h1⟩ := B.get i sv h
  rcases h1 with ⟨c0, c', rfl, e1, rfl, e2⟩ | ⟨c0, rfl, e1, rfl, e2⟩ | ⟨hn, rfl⟩
  · exact ⟨e, c0, .inr h0⟩
  · rcases hsv with z | z <;> cases z
  · rcases hsv with rfl | rfl
    · exact absurd rfl (hn c).2.2
    · exact absurd rfl (hn c).1
theorem FR.outs {O2 : AS} {s : VS} {σ' : L2.St} (F : FR Tb K O st0 (vs.map some) H) (B : Outs st0 s (vs.map some) σ') (S : FR Tb K O s σ' H') (keep : ∀ a o, H a = some o → NTb o → ¬ MutO st0 (vs.map some) a → H' a = some o)
    (h1 : ∀ a, O2 a → O a ∨ H a = none) (h2 : ∀ a, O2 a → H' a ≠ none) (h3 : ∀ a, O2 a → ¬ Own (VL.outs st0 s) (vs.map some) a)
    (h4 : ∀ (i : Nat) (p : Addr) (c : OC), (s[i]? = some (.io c) ∨ s[i]? = some (.lk c)) → σ'[i]? = some (some (.ref p)) → Cont K (Av O2 (VL.outs st0 s) (vs.map some)) H' p c) : FR Tb K O2 (VL.outs st0 s) (vs.map some) H' := by
  have hl : st0.length = vs.length := by rw [F.len, List.length_map]
  have mo : ∀ a, Av O2 (VL.outs st0 s) (vs.map some) a → Av O st0 (vs.map some) a ∨ H a = none := fun a z => by
    rcases z with z | ⟨j, z⟩
    · exact (h1 a z).imp .inl id
    · exact .inl (.inr ⟨j, (B.own z).2⟩)
  have ke : ∀ a o, H a = some o → NTb o → ¬ Av O st0 (vs.map some) a → H' a = some o := fun a o e t nn => keep a o e t fun z => nn (.inr z.own)
  refine ⟨by rw [B.len, hl, List.length_map], fun i sv h => ?_, fun i j p h1 h2 => S.inj i j p (B.own h1).1 (B.own h2).1, fun p h z => h3 p z h, h2, S.tabs⟩
  obtain ⟨sv0, h0, hk⟩ := B.get i sv h
  obtain ⟨v, ev, s0⟩ := F.slot i sv0 h0
  refine ⟨v, ev, ?_⟩
  rcases hk with ⟨c0, c', rfl, e1, rfl, e2⟩ | ⟨c0, rfl, e1, rfl, e2⟩ | ⟨hn, rfl⟩
  · obtain ⟨p, ep, _⟩ := s0
    exact ⟨p, ep, h4 i p c' (.inl e1) (by rw [e2, ev, ep])⟩
  · obtain ⟨p, ep, _⟩ := s0
    exact ⟨p, ep, h4 i p c0 (.inr e1) (by rw [e2, ev, ep])⟩
  · cases sv with
    | un => trivial
    | d x => obtain ⟨w, ew, R⟩ := s0; exact ⟨w, ew, Rp.mono mo ke _ _ R⟩
    | own c => exact absurd rfl (hn c).2.2
    | io c => exact absurd rfl (hn c).1
    | lk c => exact absurd rfl (hn c).2.1
    | rd xs =>
      obtain ⟨a, ws, ew, R, Rl⟩ := s0
      exact ⟨a, ws, ew, R.mono mo ke, RpL.mono mo ke _ _ Rl⟩
theorem mut_start {p : Addr} (hl : st0.length = vs.length) (h : MutO (st0 ++ List.replicate n .un) (vs.map some ++ List.replicate n none) p) : MutO st0 (vs.map some) p := by
  obtain ⟨i, e, c, h⟩ := h
  by_cases hi : i < st0.length
  · rw [List.getElem?_append_left (by rw [List.length_map, ← hl]; exact hi)] at e
    rw [List.getElem?_append_left hi] at h
    exact ⟨i, e, c, h⟩
  · rw [List.getElem?_append_right (by omega), List.getElem?_replicate] at h
    rcases h with h | h <;> (split at h <;> cases h)
/-- back to the parameters -/
theorem Step.back {s : VS} {σ' : L2.St} (F : FR Tb K O st0 (vs.map some) H) (hno : ∀ (i : Nat) (c : OC), st0[i]? ≠ some (.own c)) (S : Step Tb K O (st0 ++ List.replicate n .un) (vs.map some ++ List.replicate n none) H s σ' H') :
    Step Tb K O st0 (vs.map some) H (outs st0 s) (vs.map some) H' := by
  have hl : st0.length = vs.length := by rw [F.len, List.length_map]
  have B := Outs.of F hno S
  have keep : ∀ a o, H a = some o → NTb o → ¬ MutO st0 (vs.map some) a → H' a = some o := fun a o e t n => S.keep a o e t fun z => n (mut_start hl z)
  refine ⟨FR.outs F B S.fr keep (fun _ z => .inl z) S.fr.odom (fun a z ⟨j, h⟩ => S.fr.avoid a ⟨j, (B.own h).1⟩ z) fun i p c h e => ?_, keep, fun a ⟨j, h⟩ => .inl ⟨j, (B.own h).2⟩, fun a ⟨j, h⟩ => .inl ⟨j, B.mut h⟩, S.dom, rfl, fun i c h => ?_, fun i c h => ⟨B.lk i c h, rfl⟩⟩
  · obtain ⟨c', hh, C⟩ := S.fr.ownc (i := i) (p := p) ⟨e, c, .inr h⟩
    have : c' = c := by
      rcases hh with q | q | q <;> rcases h with h | h <;> (rw [h] at q; cases q <;> rfl)
    subst this
    exact C.sub fun a z => z.imp id fun ⟨j, z⟩ => ⟨j, (B.own z).1⟩
  · obtain ⟨c', _, e⟩ := B.io i c h
    exact ⟨⟨c', e⟩, rfl⟩
/-- a def's body keeps the promise -/
theorem run_body {N : List Str} {g : VM Ctl} {Q : VK} {E : XK} (h : spV Tb K mg vs.length (runF N.length g) vs H Q E) : tVS Tb K mg (WN E) g { nx := fun _ H' => Q .non H', rt := Q } (L2.start N vs) H := by
  obtain ⟨_, O, st0, F, hno, h⟩ := h
  have hl : st0.length = vs.length := by rw [F.len, List.length_map]
  rw [start_map]
  refine ⟨O, st0 ++ List.replicate (N.length - vs.length) .un, F.start, ?_⟩
  unfold runF at h
  rw [hl] at h
  cases q : g (st0 ++ List.replicate (N.length - vs.length) .un) with
  | error er =>
    rw [q] at h
    cases er with
    | stuck => exact h
    | exc C fs s =>
      have h : XW Tb K mg (WS (vs.map some) E) O st0 (vs.map some) H C fs (outs st0 s) := h
      refine fun Ca d σ' H' ws e S hd hr he => ?_
      have B := Outs.of F hno S
      exact h Ca d (vs.map some) H' ws e (Step.back F hno S) hd (hr.sub fun a z => z.imp id fun ⟨j, z⟩ => ⟨j, (B.own z).1⟩) he rfl
  | ok p =>
    obtain ⟨c, s⟩ := p
    rw [q] at h
    dsimp only at h
    cases er : retV c s with
    | none => rw [er] at h; exact h.elim
    | some r =>
      rw [er] at h
      have h : ∀ v H', Step Tb K O st0 (vs.map some) H (outs st0 s) (vs.map some) H' → ER Tb K O H (outs st0 s) (vs.map some) H' v r → Q v H' := h
      have keep : ∀ {σ' : L2.St} {H' : Hp}, Step Tb K O (st0 ++ List.replicate (N.length - vs.length) .un) (vs.map some ++ List.replicate (N.length - vs.length) none) H s σ' H' → ∀ a o, H a = some o → NTb o → ¬ MutO st0 (vs.map some) a → H' a = some o := fun S a o e t n => S.keep a o e t fun z => n (mut_start hl z)
      cases c with
      | nx =>
        cases er
        exact fun σ' H' S => h .non H' (Step.back F hno S) (by show Rp _ _ _ _ _; simp only [Rp])
      | bk => cases er
      | ct => cases er
      | rt r0 =>
        refine fun v σ' H' S Er => ?_
        have B := Outs.of F hno S
        refine h v H' (Step.back F hno S) ?_
        cases r0 with
        | d x => cases er; exact Rp.sub (fun a z => z.imp id fun ⟨j, z⟩ => ⟨j, (B.own z).1⟩) Er
        | own c =>
          cases er
          obtain ⟨p, ev, hp, np, FF, C⟩ := Er
          refine ⟨p, ev, hp, np, FR.outs F B S.fr (keep S) (fun a z => z.imp id fun z => by rw [z]; exact hp) FF.odom (fun a z ⟨j, h⟩ => FF.avoid a ⟨j, (B.own h).1⟩ z) fun i q c' h e => ?_, C.sub fun a z => z.imp id fun ⟨j, z⟩ => ⟨j, (B.own z).1⟩⟩
          obtain ⟨c2, hh, C2⟩ := FF.ownc (i := i) (p := q) ⟨e, c', .inr h⟩
          have : c2 = c' := by
            rcases hh with q | q | q <;> rcases h with h | h <;> (rw [h] at q; cases q <;> rfl)
          subst this
          exact C2.sub fun a z => z.imp id fun ⟨j, z⟩ => ⟨j, (B.own z).1⟩
        | loan i =>
          have er : (match s[i]? with
            | some (.own c) => some (EV.own c)
            | _ => none) = some r := er
          split at er
          · rename_i c hc
            cases er
            have Er : σ'[i]? = some (some v) := Er
            obtain ⟨ov, eo, p, ep, C⟩ := S.fr.slot i _ hc
            rw [Er] at eo; cases eo; cases ep
            have hown : OwnAt s σ' i p := ⟨Er, c, .inl hc⟩
            have np : ¬ O p := S.fr.avoid p ⟨i, hown⟩
            -- no parameter lies there
            have nop : ∀ j, ¬ OwnAt (outs st0 s) (vs.map some) j p := fun j z => by
              have e := S.fr.inj j i p (B.own z).1 hown
              subst e
              obtain ⟨_, c', h'⟩ := z
              have : ∃ sv, (outs st0 s)[j]? = some sv ∧ (sv = .own c' ∨ sv = .io c' ∨ sv = .lk c') := by
                rcases h' with h | h | h
                · exact ⟨_, h, .inl rfl⟩
                · exact ⟨_, h, .inr (.inl rfl)⟩
                · exact ⟨_, h, .inr (.inr rfl)⟩
              obtain ⟨sv, h', hsv⟩ := this
              obtain ⟨sv0, h0, hk⟩ := B.get j sv h'
              rcases hk with ⟨c0, c1, rfl, e1, rfl, e2⟩ | ⟨c0, rfl, e1, rfl, e2⟩ | ⟨hn, rfl⟩
              · rw [hc] at e1; cases e1
              · rw [hc] at e1; cases e1
              · rcases hsv with rfl | rfl | rfl
                · exact (hn c').2.2 rfl
                · exact (hn c').1 rfl
                · exact (hn c').2.1 rfl
            have hp : H p = none := by
              rcases S.new p ⟨i, hown⟩ with ⟨j, z⟩ | z
              · have z := (own_ext hl).mp z
                exfalso
                obtain ⟨e, c', h'⟩ := z
                rcases h' with h' | h' | h'
                · exact hno j c' h'
                · obtain ⟨c1, _, h2⟩ := B.io j c' h'
                  exact nop j ⟨e, c1, .inr (.inl h2)⟩
                · exact nop j ⟨e, c', .inr (.inr (B.lk j c' h'))⟩
              · exact z
            have sub : ∀ a, Av (O.with p) (outs st0 s) (vs.map some) a → Av O s σ' a := fun a z => by
              rcases z with (z | z) | ⟨j, z⟩
              · exact .inl z
              · rw [z]; exact .inr ⟨i, hown⟩
              · exact .inr ⟨j, (B.own z).1⟩
            refine ⟨p, rfl, hp, np, FR.outs F B S.fr (keep S) (fun a z => z.imp id fun z => by rw [z]; exact hp) (fun a z => z.elim (S.fr.odom a) fun z => by rw [z]; exact C.there) (fun a z ⟨j, h⟩ => z.elim (S.fr.avoid a ⟨j, (B.own h).1⟩) fun z => nop j (z ▸ h)) fun j q c' h e => ?_, C.sub sub⟩
            obtain ⟨c2, hh, C2⟩ := S.fr.ownc (i := j) (p := q) ⟨e, c', .inr h⟩
            have : c2 = c' := by
              rcases hh with q | q | q <;> rcases h with h | h <;> (rw [h] at q; cases q <;> rfl)
            subst this
            exact C2.sub sub
          · cases er
end
end VL
set_option Elab.async false
set_option linter.all false
set_option maxRecDepth 100000
namespace VL
open PySem PySem.Spec PyProof.Rows L2
/-! ### a call of a def -/
def argSV1 (s : VS) : EV → Option SV
  | .d x => some (.d x)
  | .own c => some (.d c.data)
  | .loan i => match s[i]? with
    | some (.own c) => some (.io c)
    | some (.io c) => some (.io c)
    | some (.lk c) => some (.lk c)
    | some (.rd xs) => some (.rd xs)
    | _ => none
def argSV (s : VS) : List EV → Option VS
  | [] => some []
  | r :: rs => (argSV1 s r).bind fun a => (argSV s rs).map (a :: ·)
def loans : List EV → List Nat
  | [] => []
  | .loan i :: rs => i :: loans rs
  | _ :: rs => loans rs
def putOuts : List EV → VS → VS → VS
  | .loan i :: rs, .io c :: o, s => putOuts rs o (putC i c s)
  | _ :: rs, _ :: o, s => putOuts rs o s
  | _, _, s => s
def callF (m : FM) (rs : List EV) : VM EV := fun s =>
  if (loans rs).Nodup then
    match argSV s rs with
    | some st0 => match m st0 with
      | .ok (.loan _, _) => .error .stuck
      | .ok (r, o) => .ok (r, putOuts rs o s)
      | .error (.exc C fs o) => .error (.exc C fs (putOuts rs o s))
      | .error .stuck => .error .stuck
    | none => .error .stuck
  else .error .stuck
def vCallF (m : FM) (fs : VM (List EV)) : VM EV := vb fs fun rs => callF m rs
theorem putC_get (i : Nat) (c : OC) (s : VS) (j : Nat) : (j ≠ i ∧ (putC i c s)[j]? = s[j]?) ∨ (j = i ∧ ((∃ c0 : OC, s[i]? = some (.own c0) ∧ (putC i c s)[i]? = some (.own c)) ∨ (∃ c0 : OC, s[i]? = some (.io c0) ∧ (putC i c s)[i]? = some (.io c)) ∨ ((∀ c0 : OC, s[i]? ≠ some (.own c0) ∧ s[i]? ≠ some (.io c0)) ∧ putC i c s = s))) := by
  have hi : ∀ sv, s[i]? = some sv → i < s.length := fun sv h => by
    by_cases hi : i < s.length
    · exact hi
    · rw [List.getElem?_eq_none (by omega)] at h; cases h
  by_cases hj : j = i
  · refine .inr ⟨hj, ?_⟩
    unfold putC
    split
    · rename_i c0 h; exact .inl ⟨c0, h, List.getElem?_set_self (hi _ h)⟩
    · rename_i c0 h; exact .inr (.inl ⟨c0, h, List.getElem?_set_self (hi _ h)⟩)
    · rename_i h1 h2
      exact .inr (.inr ⟨fun c0 => ⟨fun z => h1 c0 z, fun z => h2 c0 z⟩, rfl⟩)
  · refine .inl ⟨hj, ?_⟩
    unfold putC
    split
    · exact List.getElem?_set_ne (Ne.symm hj)
    · exact List.getElem?_set_ne (Ne.symm hj)
    · rfl
theorem putC_len (i : Nat) (c : OC) (s : VS) : (putC i c s).length = s.length := by
  unfold putC; split <;> first | exact List.length_set | rfl
theorem putOuts_len : ∀ (rs : List EV) (o s : VS), (putOuts rs o s).length = s.length
  | [], o, s => by cases o <;> rfl
  | r :: rs, [], s => by cases r <;> rfl
  | r :: rs, x :: o, s => by
    cases r <;> cases x <;> first | exact putOuts_len rs o s | (show (putOuts rs o (putC _ _ s)).length = _; rw [putOuts_len, putC_len])
/-- what the slots are behind it -/
def PutP (rs : List EV) (o s s2 : VS) (i : Nat) : Prop :=
    (s2[i]? = s[i]? ∧ ∀ (j : Nat) (c : OC), rs[j]? = some (.loan i) → o[j]? = some (.io c) → ∀ (c0 : OC), s[i]? ≠ some (.own c0) ∧ s[i]? ≠ some (.io c0)) ∨
    (∃ (j : Nat) (c c0 : OC), rs[j]? = some (.loan i) ∧ o[j]? = some (.io c) ∧ ((s[i]? = some (.own c0) ∧ s2[i]? = some (.own c)) ∨ (s[i]? = some (.io c0) ∧ s2[i]? = some (.io c))))
theorem putOuts_get : ∀ (rs : List EV) (o s : VS), (loans rs).Nodup → ∀ (i : Nat), PutP rs o s (putOuts rs o s) i
  | [], o, s, _, i => .inl ⟨by cases o <;> rfl, fun j c h => by simp at h⟩
  | r :: rs, [], s, _, i => .inl ⟨by cases r <;> rfl, fun j c h g => by simp at g⟩
  | r :: rs, x :: o, s, nd, i => by
    have skip : (∀ (k : Nat) (c : OC), r = .loan k → x ≠ .io c) → (loans rs).Nodup → putOuts (r :: rs) (x :: o) s = putOuts rs o s → PutP (r :: rs) (x :: o) s (putOuts (r :: rs) (x :: o) s) i := fun hn nd' e => by
      rw [e]
      rcases putOuts_get rs o s nd' i with ⟨a, b⟩ | ⟨j, c, c0, a, b, d⟩
      · refine .inl ⟨a, fun j c h g => ?_⟩
        cases j with
        | zero => simp at h g; exact absurd g (hn i c h)
        | succ j => exact b j c (by simpa using h) (by simpa using g)
      · exact .inr ⟨j + 1, c, c0, by simpa using a, by simpa using b, d⟩
    cases r with
    | d y => exact skip (fun k c z => by cases z) nd (by cases x <;> rfl)
    | own y => exact skip (fun k c z => by cases z) nd (by cases x <;> rfl)
    | loan k =>
      have nd2 : (loans rs).Nodup := (List.nodup_cons.mp nd).2
      have nk : k ∉ loans rs := (List.nodup_cons.mp nd).1
      have nkj : ∀ j : Nat, rs[j]? ≠ some (.loan k) := fun j h => nk (mem_loans rs j k h)
      cases x with
      | io c =>
        have e : putOuts (.loan k :: rs) (.io c :: o) s = putOuts rs o (putC k c s) := rfl
        rw [e]
        rcases putOuts_get rs o (putC k c s) nd2 i with ⟨a, b⟩ | ⟨j, c', c0, a, b, d⟩
        · rcases putC_get k c s i with ⟨hik, e2⟩ | ⟨hik, e2⟩
          · refine .inl ⟨a.trans e2, fun j c' h g => ?_⟩
            cases j with
            | zero => simp at h; exact absurd h.symm hik
            | succ j => have := b j c' (by simpa using h) (by simpa using g); rw [e2] at this; exact this
          · subst hik
            rcases e2 with ⟨c0, h1, h2⟩ | ⟨c0, h1, h2⟩ | ⟨hn, e2⟩
            · exact .inr ⟨0, c, c0, rfl, rfl, .inl ⟨h1, a.trans h2⟩⟩
            · exact .inr ⟨0, c, c0, rfl, rfl, .inr ⟨h1, a.trans h2⟩⟩
            · exact .inl ⟨by rw [a, e2], fun _ _ _ _ => hn⟩
        · have hik : i ≠ k := fun z => by subst z; exact nkj j a
          rcases putC_get k c s i with ⟨_, e2⟩ | ⟨z, _⟩
          · rw [e2] at d
            exact .inr ⟨j + 1, c', c0, by simpa using a, by simpa using b, d⟩
          · exact absurd z hik
      | un => exact skip (fun k c _ z => by cases z) nd2 rfl
      | d y => exact skip (fun k c _ z => by cases z) nd2 rfl
      | own y => exact skip (fun k c _ z => by cases z) nd2 rfl
      | lk y => exact skip (fun k c _ z => by cases z) nd2 rfl
      | rd y => exact skip (fun k c _ z => by cases z) nd2 rfl
where
  mem_loans : ∀ (rs : List EV) (j k : Nat), rs[j]? = some (.loan k) → k ∈ loans rs
    | [], j, k, h => by simp at h
    | .d x :: rs, 0, k, h => by simp at h
    | .own x :: rs, 0, k, h => by simp at h
    | .loan i :: rs, 0, k, h => by simp at h; subst h; exact List.mem_cons_self
    | .d x :: rs, j + 1, k, h => mem_loans rs j k (by simpa using h)
    | .own x :: rs, j + 1, k, h => mem_loans rs j k (by simpa using h)
    | .loan i :: rs, j + 1, k, h => List.mem_cons_of_mem _ (mem_loans rs j k (by simpa using h))
theorem loans_inj : ∀ {rs : List EV} {i j k : Nat}, (loans rs).Nodup → rs[i]? = some (.loan k) → rs[j]? = some (.loan k) → i = j
  | [], i, j, k, _, h, _ => by simp at h
  | .d x :: rs, 0, j, k, _, h, _ => by simp at h
  | .own x :: rs, 0, j, k, _, h, _ => by simp at h
  | .d x :: rs, i + 1, 0, k, _, _, h => by simp at h
  | .own x :: rs, i + 1, 0, k, _, _, h => by simp at h
  | .d x :: rs, i + 1, j + 1, k, nd, h, g => congrArg Nat.succ (loans_inj (rs := rs) nd (by simpa using h) (by simpa using g))
  | .own x :: rs, i + 1, j + 1, k, nd, h, g => congrArg Nat.succ (loans_inj (rs := rs) nd (by simpa using h) (by simpa using g))
  | .loan l :: rs, 0, 0, k, _, _, _ => rfl
  | .loan l :: rs, 0, j + 1, k, nd, h, g => by
    simp at h; subst h
    exact absurd (putOuts_get.mem_loans rs j l (by simpa using g)) (List.nodup_cons.mp nd).1
  | .loan l :: rs, i + 1, 0, k, nd, h, g => by
    simp at g; subst g
    exact absurd (putOuts_get.mem_loans rs i l (by simpa using h)) (List.nodup_cons.mp nd).1
  | .loan l :: rs, i + 1, j + 1, k, nd, h, g => congrArg Nat.succ (loans_inj (rs := rs) (List.nodup_cons.mp nd).2 (by simpa using h) (by simpa using g))
theorem argSV_get : ∀ {rs : List EV} {s st0 : VS}, argSV s rs = some st0 → st0.length = rs.length ∧ ∀ (j : Nat) (r : EV), rs[j]? = some r → ∃ a, argSV1 s r = some a ∧ st0[j]? = some a
  | [], s, st0, h => by cases h; exact ⟨rfl, fun j r h => by simp at h⟩
  | r :: rs, s, st0, h => by
    obtain ⟨a, h1, h⟩ := Option.bind_eq_some_iff.mp (show (argSV1 s r).bind _ = some st0 from h)
    obtain ⟨t, h2, rfl⟩ := Option.map_eq_some_iff.mp h
    obtain ⟨l, g⟩ := argSV_get h2
    refine ⟨by rw [List.length_cons, List.length_cons, l], fun j r' hj => ?_⟩
    cases j with
    | zero => simp at hj; subst hj; exact ⟨a, h1, rfl⟩
    | succ j =>
      obtain ⟨b, e1, e2⟩ := g j r' (by simpa using hj)
      exact ⟨b, e1, by simpa using e2⟩
section
variable {K : PySem.W.Frag} {mg : Str → Option Value} {W : WX} {O : AS} {H H2 : Hp} {s st0 o : VS} {σ : L2.St} {vs : List V} {rs : List EV}
theorem ERs.get : ∀ {vs : List V} {rs : List EV} {j : Nat} {r : EV}, ERs Tb K O s σ H vs rs → rs[j]? = some r → ∃ v, vs[j]? = some v ∧ ER Tb K O H s σ H v r ∧ r = settle r
  | [], [], j, r, _, h => by simp at h
  | v :: vs, r' :: rs, 0, r, E, h => by
    simp at h; subst h
    have E1 := E.1
    rw [← E.2.1] at E1
    exact ⟨v, rfl, E1, E.2.1⟩
  | v :: vs, r' :: rs, j + 1, r, E, h => by
    obtain ⟨u, a, b⟩ := ERs.get (j := j) (r := r) E.2.2 (by simpa using h)
    exact ⟨u, by simpa using a, b⟩
  | [], _ :: _, _, _, h, _ => h.elim
  | _ :: _, [], _, _, h, _ => h.elim
/-- what the callee has to keep away from -/
def O2 (O : AS) (s : VS) (σ : L2.St) (st0 : VS) (vs : List V) : AS := fun a => O a ∨ (Own s σ a ∧ ¬ Own st0 (vs.map some) a)
structure ArgOk (Tb : List (Addr × Str)) (K : PySem.W.Frag) (O : AS) (s : VS) (σ : L2.St) (H : Hp) (rs : List EV) (vs : List V) (st0 : VS) : Prop where
  nd : (loans rs).Nodup
  lv : vs.length = rs.length
  ls : st0.length = rs.length
  /-- a parameter's own object is the one of the slot that was lent -/
  own : ∀ (j : Nat) (p : Addr), OwnAt st0 (vs.map some) j p → ∃ i, rs[j]? = some (.loan i) ∧ OwnAt s σ i p ∧ (MutAt st0 (vs.map some) j p → MutAt s σ i p)
  fr : FR Tb K (O2 O s σ st0 vs) st0 (vs.map some) H
  noown : ∀ (i : Nat) (c : OC), st0[i]? ≠ some (.own c)
theorem ArgOk.of (F : FR Tb K O s σ H) (E : ERs Tb K O s σ H vs rs) (nd : (loans rs).Nodup) (h : argSV s rs = some st0) : ArgOk Tb K O s σ H rs vs st0 := by
  obtain ⟨ls, get⟩ := argSV_get h
  have lv := E.length
  have each : ∀ (j : Nat) (sv : SV), st0[j]? = some sv → ∃ r v, rs[j]? = some r ∧ vs[j]? = some v ∧ argSV1 s r = some sv ∧ ER Tb K O H s σ H v r ∧ r = settle r := fun j sv hj => by
    have hl : j < rs.length := by
      by_cases hl : j < rs.length
      · exact hl
      · rw [List.getElem?_eq_none (by omega)] at hj; cases hj
    obtain ⟨r, hr⟩ : ∃ r, rs[j]? = some r := ⟨_, List.getElem?_eq_getElem hl⟩
    obtain ⟨v, hv, Er, es⟩ := E.get hr
    obtain ⟨a, e1, e2⟩ := get j r hr
    rw [hj] at e2; cases e2
    exact ⟨r, v, hr, hv, e1, Er, es⟩
  have noown : ∀ (i : Nat) (c : OC), st0[i]? ≠ some (.own c) := fun i c h => by
    obtain ⟨r, v, _, _, e, _⟩ := each i _ h
    cases r with
    | d x => cases e
    | own x => cases e
    | loan k => unfold argSV1 at e; dsimp only at e; split at e <;> cases e
  have own : ∀ (j : Nat) (p : Addr), OwnAt st0 (vs.map some) j p → ∃ i, rs[j]? = some (.loan i) ∧ OwnAt s σ i p ∧ (MutAt st0 (vs.map some) j p → MutAt s σ i p) := fun j p ⟨e, c, hc⟩ => by
    have : ∃ sv, st0[j]? = some sv ∧ (sv = .io c ∨ sv = .lk c) := by
      rcases hc with h | h | h
      · exact absurd h (noown j c)
      · exact ⟨_, h, .inl rfl⟩
      · exact ⟨_, h, .inr rfl⟩
    obtain ⟨sv, hsv, hk⟩ := this
    obtain ⟨r, v, hr, hv, ea, Er, _⟩ := each j sv hsv
    rw [List.getElem?_map, hv] at e
    cases e
    cases r with
    | d x => cases ea; rcases hk with z | z <;> cases z
    | own x => cases ea; rcases hk with z | z <;> cases z
    | loan i =>
      have Er : σ[i]? = some (some (.ref p)) := Er
      refine ⟨i, hr, ?_⟩
      unfold argSV1 at ea; dsimp only at ea
      split at ea
      · rename_i c' hs; exact ⟨⟨Er, c', .inl hs⟩, fun _ => ⟨Er, c', .inl hs⟩⟩
      · rename_i c' hs; exact ⟨⟨Er, c', .inr (.inl hs)⟩, fun _ => ⟨Er, c', .inr hs⟩⟩
      · rename_i c' hs
        cases ea
        refine ⟨⟨Er, c', .inr (.inr hs)⟩, fun ⟨_, c2, z⟩ => ?_⟩
        rcases z with z | z <;> (rw [hsv] at z; cases z)
      · cases ea; rcases hk with z | z <;> cases z
      · cases ea
  have av : ∀ a, Av (O2 O s σ st0 vs) st0 (vs.map some) a ↔ Av O s σ a := fun a => by
    constructor
    · rintro ((h | ⟨h, _⟩) | ⟨j, h⟩)
      · exact .inl h
      · exact .inr h
      · obtain ⟨i, _, h, _⟩ := own j a h; exact .inr ⟨i, h⟩
    · rintro (h | h)
      · exact .inl (.inl h)
      · by_cases q : Own st0 (vs.map some) a
        · exact .inr q
        · exact .inl (.inr ⟨h, q⟩)
  have sub : ∀ a, Av (O2 O s σ st0 vs) st0 (vs.map some) a → Av O s σ a := fun a h => (av a).mp h
  refine ⟨nd, lv, ls, own, ⟨by rw [ls, List.length_map, lv], fun j sv h => ?_, fun i j p h1 h2 => ?_, fun p hp z => ?_, fun p z => z.elim (F.odom p) fun z => F.ownSome z.1, F.tabs⟩, noown⟩
  · obtain ⟨r, v, hr, hv, ea, Er, _⟩ := each j sv h
    refine ⟨some v, by rw [List.getElem?_map, hv]; rfl, ?_⟩
    cases r with
    | d x => cases ea; exact ⟨v, rfl, Rp.sub sub Er⟩
    | own c => cases ea; exact ⟨v, rfl, Rp.sub sub (ER.settle (H1 := H) Er)⟩
    | loan i =>
      have Er : σ[i]? = some (some v) := Er
      unfold argSV1 at ea; dsimp only at ea
      split at ea
      · rename_i c hs; cases ea
        obtain ⟨ov, eo, p, ep, C⟩ := F.slot i _ hs
        rw [Er] at eo; cases eo
        exact ⟨p, ep, C.sub sub⟩
      · rename_i c hs; cases ea
        obtain ⟨ov, eo, p, ep, C⟩ := F.slot i _ hs
        rw [Er] at eo; cases eo
        exact ⟨p, ep, C.sub sub⟩
      · rename_i c hs; cases ea
        obtain ⟨ov, eo, p, ep, C⟩ := F.slot i _ hs
        rw [Er] at eo; cases eo
        exact ⟨p, ep, C.sub sub⟩
      · rename_i xs hs; cases ea
        obtain ⟨ov, eo, a, ws, ep, R, Rl⟩ := F.slot i _ hs
        rw [Er] at eo; cases eo
        exact ⟨a, ws, ep, R.mono (fun a z => .inl (sub a z)) (fun _ _ e _ _ => e), Rl.sub sub⟩
      · cases ea
  · obtain ⟨k, e1, o1, _⟩ := own i p h1
    obtain ⟨l, e2, o2, _⟩ := own j p h2
    have := F.inj k l p o1 o2
    subst this
    exact loans_inj nd e1 e2
  · rcases z with z | ⟨_, z⟩
    · obtain ⟨j, hp⟩ := hp
      obtain ⟨i, _, h, _⟩ := own j p hp
      exact F.avoid p ⟨i, h⟩ z
    · exact z hp
/-- behind the call -/
theorem ArgOk.step (A : ArgOk Tb K O s σ H rs vs st0) (F : FR Tb K O s σ H) (E : ERs Tb K O s σ H vs rs) (S : Step Tb K (O2 O s σ st0 vs) st0 (vs.map some) H o (vs.map some) H2) :
    Step Tb K O s σ H (putOuts rs o s) σ H2 ∧ ∀ a, Av O (putOuts rs o s) σ a → Av (O2 O s σ st0 vs) o (vs.map some) a := by
  have ownO : ∀ a, Own st0 (vs.map some) a → Own o (vs.map some) a := fun a ⟨j, h⟩ => by
    obtain ⟨e, c, h⟩ := h
    rcases h with h | h | h
    · exact absurd h (A.noown j c)
    · obtain ⟨⟨c', h'⟩, _⟩ := S.io j c h; exact ⟨j, e, c', .inr (.inl h')⟩
    · obtain ⟨h', _⟩ := S.lk j c h; exact ⟨j, e, c, .inr (.inr h')⟩
  have get := putOuts_get rs o s A.nd
  -- kinds
  have own : ∀ i p, OwnAt (putOuts rs o s) σ i p → OwnAt s σ i p := fun i p ⟨e, c, h⟩ => by
    rcases get i with ⟨g, _⟩ | ⟨j, c1, c0, _, _, g⟩
    · rw [g] at h; exact ⟨e, c, h⟩
    · rcases g with ⟨g, _⟩ | ⟨g, _⟩
      · exact ⟨e, c0, .inl g⟩
      · exact ⟨e, c0, .inr (.inl g)⟩
  have own' : ∀ i p, OwnAt s σ i p → OwnAt (putOuts rs o s) σ i p := fun i p ⟨e, c, h⟩ => by
    rcases get i with ⟨g, _⟩ | ⟨j, c1, c0, _, _, g⟩
    · rw [← g] at h; exact ⟨e, c, h⟩
    · rcases g with ⟨_, g⟩ | ⟨_, g⟩
      · exact ⟨e, c1, .inl g⟩
      · exact ⟨e, c1, .inr (.inl g)⟩
  have mut_ : ∀ i p, MutAt (putOuts rs o s) σ i p → MutAt s σ i p := fun i p ⟨e, c, h⟩ => by
    rcases get i with ⟨g, _⟩ | ⟨j, c1, c0, _, _, g⟩
    · rw [g] at h; exact ⟨e, c, h⟩
    · rcases g with ⟨g, _⟩ | ⟨g, _⟩
      · exact ⟨e, c0, .inl g⟩
      · exact ⟨e, c0, .inr g⟩
  have av : ∀ a, Av O (putOuts rs o s) σ a → Av (O2 O s σ st0 vs) o (vs.map some) a := fun a z => by
    rcases z with z | ⟨i, z⟩
    · exact .inl (.inl z)
    · by_cases q : Own st0 (vs.map some) a
      · exact .inr (ownO a q)
      · exact .inl (.inr ⟨⟨i, own i a z⟩, q⟩)
  have mutS : ∀ a, MutO st0 (vs.map some) a → MutO s σ a := fun a ⟨j, h⟩ => by
    have ho : OwnAt st0 (vs.map some) j a := let ⟨e, c, h⟩ := h; ⟨e, c, h.imp id .inl⟩
    obtain ⟨i, _, _, g⟩ := A.own j a ho
    exact ⟨i, g h⟩
  have keep : ∀ a ob, H a = some ob → NTb ob → ¬ MutO s σ a → H2 a = some ob := fun a ob e t n => S.keep a ob e t fun z => n (mutS a z)
  have mo : ∀ a, Av O (putOuts rs o s) σ a → Av O s σ a ∨ H a = none := fun a z => .inl (z.imp id fun ⟨i, z⟩ => ⟨i, own i a z⟩)
  have ke : ∀ a ob, H a = some ob → NTb ob → ¬ Av O s σ a → H2 a = some ob := fun a ob e t n => keep a ob e t fun z => n (.inr z.own)
  refine ⟨⟨⟨by rw [putOuts_len]; exact F.len, fun i sv h => ?_, fun i j p h1 h2 => F.inj i j p (own i p h1) (own j p h2), fun p ⟨i, h⟩ => F.avoid p ⟨i, own i p h⟩, fun p hp z => F.odom p hp (S.dom p z), S.fr.tabs⟩, keep, fun a ⟨i, h⟩ => .inl ⟨i, own i a h⟩, fun a ⟨i, h⟩ => .inl ⟨i, mut_ i a h⟩, S.dom, rfl, fun i c h => ?_, fun i c h => ?_⟩, av⟩
  · -- a slot
    rcases get i with ⟨g, gn⟩ | ⟨j, c1, c0, hr, ho, g⟩
    · rw [g] at h
      obtain ⟨v, ev, sl⟩ := F.slot i sv h
      refine ⟨v, ev, ?_⟩
      -- its object was not lent to be changed
      have stay : ∀ p c, OwnAt s σ i p → Cont K (Av O s σ) H p c → Cont K (Av O (putOuts rs o s) σ) H2 p c := fun p c hp C => by
        refine C.mono mo ke ?_
        have nm : ¬ MutO st0 (vs.map some) p := fun ⟨j, hj⟩ => by
          have hoj : OwnAt st0 (vs.map some) j p := let ⟨e, c, h⟩ := hj; ⟨e, c, h.imp id .inl⟩
          obtain ⟨i', er, o', gm⟩ := A.own j p hoj
          have := F.inj i' i p o' hp
          subst this
          obtain ⟨_, c2, hc2⟩ := hj
          rcases hc2 with hc2 | hc2
          · exact A.noown j c2 hc2
          · obtain ⟨⟨c3, ho3⟩, _⟩ := S.io j c2 hc2
            obtain ⟨_, c4, h4⟩ := gm ⟨hoj.1, c2, .inr hc2⟩
            rcases h4 with h4 | h4
            · exact (gn j c3 er ho3 c4).1 h4
            · exact (gn j c3 er ho3 c4).2 h4
        cases q : H p with
        | none => exact absurd q C.there
        | some ob => exact S.keep p ob q (C.ntb q) nm
      cases sv with
      | un => trivial
      | d x => obtain ⟨w, ew, R⟩ := sl; exact ⟨w, ew, Rp.mono mo ke _ _ R⟩
      | own c => obtain ⟨p, ep, C⟩ := sl; subst ep; exact ⟨p, rfl, stay p c ⟨ev, c, .inl h⟩ C⟩
      | io c => obtain ⟨p, ep, C⟩ := sl; subst ep; exact ⟨p, rfl, stay p c ⟨ev, c, .inr (.inl h)⟩ C⟩
      | lk c => obtain ⟨p, ep, C⟩ := sl; subst ep; exact ⟨p, rfl, stay p c ⟨ev, c, .inr (.inr h)⟩ C⟩
      | rd xs => obtain ⟨a, ws, ep, R, Rl⟩ := sl; exact ⟨a, ws, ep, R.mono mo ke, RpL.mono mo ke _ _ Rl⟩
    · -- lent and given back
      obtain ⟨v, hv, Er, _⟩ := E.get hr
      have Er : σ[i]? = some (some v) := Er
      obtain ⟨ov, eo, p, ep, C⟩ := S.fr.slot j _ ho
      rw [List.getElem?_map, hv] at eo
      cases eo
      cases ep
      refine ⟨_, Er, ?_⟩
      have C' := C.sub av
      rcases g with ⟨_, g⟩ | ⟨_, g⟩
      · rw [g] at h; cases h; exact ⟨p, rfl, C'⟩
      · rw [g] at h; cases h; exact ⟨p, rfl, C'⟩
  · rcases get i with ⟨g, _⟩ | ⟨j, c1, c0, _, _, g⟩
    · exact ⟨⟨c, by rw [g]; exact h⟩, rfl⟩
    · rcases g with ⟨g, _⟩ | ⟨_, g⟩
      · rw [h] at g; cases g
      · exact ⟨⟨c1, g⟩, rfl⟩
  · rcases get i with ⟨g, _⟩ | ⟨j, c1, c0, _, _, g⟩
    · exact ⟨by rw [g]; exact h, rfl⟩
    · rcases g with ⟨g, _⟩ | ⟨g, _⟩ <;> (rw [h] at g; cases g)
end
section
variable {X : Cx} {W : WX} {e : Expr} {es : List Expr} {pos p : Pos} {fs : VM (List EV)} {k j n : Nat} {f : Addr} {fd : FuncData} {ps : List Str} {m : FM} {x : Str}
/-- what is given back keeps away from the caller's own too -/
theorem FR.put2 {K : PySem.W.Frag} {O : AS} {s st0 o : VS} {σ : L2.St} {H H2 : Hp} {vs : List V} {rs : List EV} {q : Addr} (A : ArgOk Tb K O s σ H rs vs st0) (F : FR Tb K O s σ H) (E : ERs Tb K O s σ H vs rs)
    (S : Step Tb K (O2 O s σ st0 vs) st0 (vs.map some) H o (vs.map some) H2) (hq : H q = none) (FF : FR Tb K ((O2 O s σ st0 vs).with q) o (vs.map some) H2) : FR Tb K (O.with q) (putOuts rs o s) σ H2 := by
  obtain ⟨S', av⟩ := A.step F E S
  have av2 : ∀ a, Av (O.with q) (putOuts rs o s) σ a → Av ((O2 O s σ st0 vs).with q) o (vs.map some) a := fun a z => by
    rcases z with (z | z) | z
    · exact (av a (.inl z)).imp .inl id
    · exact .inl (.inr z)
    · exact (av a (.inr z)).imp .inl id
  have noq : ¬ Own (putOuts rs o s) σ q := fun z => (S'.new q z).elim (fun z => F.ownSome z hq) fun _ => by
    have := av q (.inr z)
    rcases this with z | z
    · exact (z.elim (F.odom q) fun z => F.ownSome z.1) hq
    · exact FF.avoid q z (.inr rfl)
  have mo : ∀ a, Av (O.with q) (putOuts rs o s) σ a → Av O s σ a ∨ H a = none := fun a z => by
    rcases z with (z | z) | z
    · exact .inl (.inl z)
    · exact .inr (by rw [z]; exact hq)
    · exact (S'.new a z).imp .inr id
  have ke : ∀ a ob, H a = some ob → NTb ob → ¬ Av O s σ a → H2 a = some ob := fun a ob e t n => S'.keep a ob e t fun z => n (.inr z.own)
  refine ⟨S'.fr.len, fun i sv h => ?_, S'.fr.inj, fun p hp z => z.elim (S'.fr.avoid p hp) fun z => noq (z ▸ hp), fun p z => z.elim (S'.fr.odom p) fun z => by rw [z]; exact FF.odom q (.inr rfl), S'.fr.tabs⟩
  have keepd : ∀ {d : Da} {w : V}, Rp K (Av O s σ) H d w → Rp K (Av (O.with q) (putOuts rs o s) σ) H2 d w := fun R => Rp.mono mo ke _ _ R
  -- a slot that owns, behind it
  have cont : ∀ p c, OwnAt (putOuts rs o s) σ i p → (putOuts rs o s)[i]? = some sv → Cont K (Av O (putOuts rs o s) σ) H2 p c → (sv = .own c ∨ sv = .io c ∨ sv = .lk c) → Cont K (Av (O.with q) (putOuts rs o s) σ) H2 p c := fun p c ow h C hk => by
    rcases putOuts_get rs o s A.nd i with ⟨g, gn⟩ | ⟨j, c1, c0, hr, ho, g⟩
    · rw [g] at h
      obtain ⟨v, ev, sl⟩ := F.slot i sv h
      have hp0 : OwnAt s σ i p ∧ Cont K (Av O s σ) H p c := by
        rcases hk with rfl | rfl | rfl
        · obtain ⟨p', ep, C0⟩ := sl
          have e := ow.1; rw [ev, ep] at e; cases e
          exact ⟨⟨ow.1, c, .inl h⟩, C0⟩
        · obtain ⟨p', ep, C0⟩ := sl
          have e := ow.1; rw [ev, ep] at e; cases e
          exact ⟨⟨ow.1, c, .inr (.inl h)⟩, C0⟩
        · obtain ⟨p', ep, C0⟩ := sl
          have e := ow.1; rw [ev, ep] at e; cases e
          exact ⟨⟨ow.1, c, .inr (.inr h)⟩, C0⟩
      refine hp0.2.mono mo ke ?_
      have nm : ¬ MutO st0 (vs.map some) p := fun ⟨j, hj⟩ => by
        have hoj : OwnAt st0 (vs.map some) j p := let ⟨e, c, h⟩ := hj; ⟨e, c, h.imp id .inl⟩
        obtain ⟨i', er, o', gm⟩ := A.own j p hoj
        have := F.inj i' i p o' hp0.1
        subst this
        obtain ⟨_, c2, hc2⟩ := hj
        rcases hc2 with hc2 | hc2
        · exact A.noown j c2 hc2
        · obtain ⟨⟨c3, ho3⟩, _⟩ := S.io j c2 hc2
          obtain ⟨_, c4, h4⟩ := gm ⟨hoj.1, c2, .inr hc2⟩
          rcases h4 with h4 | h4
          · exact (gn j c3 er ho3 c4).1 h4
          · exact (gn j c3 er ho3 c4).2 h4
      cases qq : H p with
      | none => exact absurd qq hp0.2.there
      | some ob => exact S.keep p ob qq (hp0.2.ntb qq) nm
    · obtain ⟨v, hv, Er, _⟩ := E.get hr
      have Er : σ[i]? = some (some v) := Er
      obtain ⟨ov, eo, p', ep, C2⟩ := FF.slot j _ ho
      rw [List.getElem?_map, hv] at eo
      cases eo
      cases ep
      have e := ow.1; rw [Er] at e; cases e
      have ec : c1 = c := by
        rcases g with ⟨_, g⟩ | ⟨_, g⟩ <;> (rw [g] at h; cases h; rcases hk with z | z | z <;> cases z <;> rfl)
      subst ec
      exact C2.sub av2
  obtain ⟨v, ev, sl⟩ := S'.fr.slot i sv h
  refine ⟨v, ev, ?_⟩
  cases sv with
  | un => trivial
  | own c => obtain ⟨p, ep, C⟩ := sl; subst ep; exact ⟨p, rfl, cont p c ⟨ev, c, .inl h⟩ h C (.inl rfl)⟩
  | io c => obtain ⟨p, ep, C⟩ := sl; subst ep; exact ⟨p, rfl, cont p c ⟨ev, c, .inr (.inl h)⟩ h C (.inr (.inl rfl))⟩
  | lk c => obtain ⟨p, ep, C⟩ := sl; subst ep; exact ⟨p, rfl, cont p c ⟨ev, c, .inr (.inr h)⟩ h C (.inr (.inr rfl))⟩
  | d x =>
    have h0 : s[i]? = some (.d x) := by
      rcases putOuts_get rs o s A.nd i with ⟨g, _⟩ | ⟨j, c1, c0, _, _, g⟩
      · rw [← g]; exact h
      · rcases g with ⟨_, g⟩ | ⟨_, g⟩ <;> (rw [h] at g; cases g)
    obtain ⟨v0, ev0, w, ew, R⟩ := F.slot i _ h0
    rw [ev] at ev0; cases ev0
    exact ⟨w, ew, keepd R⟩
  | rd xs =>
    have h0 : s[i]? = some (.rd xs) := by
      rcases putOuts_get rs o s A.nd i with ⟨g, _⟩ | ⟨j, c1, c0, _, _, g⟩
      · rw [← g]; exact h
      · rcases g with ⟨_, g⟩ | ⟨_, g⟩ <;> (rw [h] at g; cases g)
    obtain ⟨v0, ev0, a, ws, ew, R, Rl⟩ := F.slot i _ h0
    rw [ev] at ev0; cases ev0
    exact ⟨a, ws, ew, R.mono mo ke, RpL.mono mo ke _ _ Rl⟩
theorem callF_wk {σ : L2.St} {H : Hp} {Q : VK} (hn : ∀ s (rs : List EV) (r : List EV × VS), fs s = .ok r → r.1.length = n) (h : tV Tb X.K X.mg W (vCallF m fs) σ H Q) : tCallS (spV Tb X.K X.mg n m) (WE W) (tVA Tb X.K X.mg W fs) σ H Q := by
  obtain ⟨O, st, F, h⟩ := h
  have len : ∀ rs s1, fs st = .ok (rs, s1) → rs.length = n := fun rs s1 e => hn st rs (rs, s1) e
  refine ⟨O, st, F, ?_⟩
  have h := vrun_vb h
  cases efs : fs st with
  | error er => rw [efs] at h; cases er <;> exact h
  | ok q0 =>
  obtain ⟨rs, s1⟩ := q0
  rw [efs] at h
  refine fun vs H1 S1 E1 => ?_
  have hl : vs.length = n := E1.length.trans (len rs s1 efs)
  have h : VRun Tb X.K X.mg W O s1 σ H1 (callF m rs s1) _ := VRun.step S1 h
  unfold callF at h
  by_cases nd : (loans rs).Nodup
  · rw [if_pos nd] at h
    cases ea : argSV s1 rs with
    | none => rw [ea] at h; exact h.elim
    | some st0 =>
      rw [ea] at h
      dsimp only at h
      have A := ArgOk.of S1.fr E1 nd ea
      refine ⟨hl, _, st0, A.fr, A.noown, ?_⟩
      cases em : m st0 with
      | error er =>
        rw [em] at h
        cases er with
        | stuck => exact h
        | exc C fs o =>
          have h : XW Tb X.K X.mg W O s1 σ H1 C fs (putOuts rs o s1) := h
          refine fun Ca d σ' H' ws e S hd hr he eσ => ?_
          subst eσ
          obtain ⟨S', av⟩ := A.step S1.fr E1 S
          exact h Ca d σ H' ws e S' hd (hr.sub av) he
      | ok q =>
        obtain ⟨r, o⟩ := q
        rw [em] at h
        refine fun v H' S Er => ?_
        obtain ⟨S', av⟩ := A.step S1.fr E1 S
        have hL : ∀ i, r ≠ .loan i := fun i z => by subst z; exact h
        have h : ∀ v H', Step Tb X.K O st σ H (putOuts rs o s1) σ H' → ER Tb X.K O H (putOuts rs o s1) σ H' v r → Q v H' := by
          cases r with
          | loan i => exact absurd rfl (hL i)
          | d x => exact h
          | own c => exact h
        refine h v H' (S1.trans S') ?_
        cases r with
        | d x => exact Rp.sub av Er
        | own c =>
          obtain ⟨q, ev, hq, nq, FF, C⟩ := Er
          refine ⟨q, ev, S1.dom q hq, fun z => nq (.inl z), FR.put2 A S1.fr E1 S hq FF, C.sub fun a z => ?_⟩
          rcases z with (z | z) | z
          · exact (av a (.inl z)).imp .inl id
          · exact .inl (.inr z)
          · exact (av a (.inr z)).imp .inl id
        | loan i => exact absurd rfl (hL i)
  · rw [if_neg nd] at h; exact h.elim
/-- f(e, ..) -/
theorem ve_call {W : WX} (c : VC X W k) (G : FnOk X.prog X.w X.K X.mg X.base (L2.CX X.prog X.w) j f fd ps (spV Tb X.K X.mg n m)) (hj : j ≤ k) (hm : X.mg x = some (.ref f)) (hk : PySem.W.keepIn X.K (.ref f) = true) (hb : Binds X.K fd ps [])
    (ha : VA Tb X W (e :: es) fs) (hn : ∀ s (r : List EV × VS), fs s = .ok r → r.1.length = n) (hg : Gl X x := by rfl) (hdb : (x == ("__debug__" : Str)) = false := by decide)
    (he : starEach (e :: es) X.env = (false, eval e X.env) :: starEach es X.env := by rfl) (hpl : (backTo pos (starEach es X.env)).any (·.1) = false := by rfl) : VE Tb X W (.Call (.Name x p) (e :: es) [] pos) (vCallF m fs) :=
  PE.wk (pe_callS G (c.rm.mono hj) hg hm hk hb (fun σ => passAt c.tk σ) ha hdb he hpl) fun σ H Q h => callF_wk (fun s rs r e => hn s r e) h
theorem vcons_len {f : VM EV} {fs : VM (List EV)} {n : Nat} (h : ∀ s (r : List EV × VS), fs s = .ok r → r.1.length = n) : ∀ s (r : List EV × VS), vCons f fs s = .ok r → r.1.length = n + 1 := fun s r e => by
  unfold vCons vb at e
  split at e
  · dsimp only at e
    split at e
    · rename_i q
      cases e
      show _ + 1 = _
      rw [h _ _ q]
    · cases e
  · cases e
theorem vnil_len : ∀ s (r : List EV × VS), (vr [] : VM (List EV)) s = .ok r → r.1.length = 0 := fun s r e => by cases e; rfl
end
section
variable {P : Program} {w : World} {K : PySem.W.Frag} {mg : Str → Option Value} {base : Heap}
/-- A DEF: its body's derivation gives its promise -/
theorem fn_v {x qual : Str} {st : Stmt} {f : Addr} {fd : FuncData} {N ps : List Str} {k : Nat} {g : VM Ctl} (F : Fun K x qual st f fd) (S : FnScope N ps (defScope st))
    (hb : ∀ (cdv : Value) (A : Around) (outer : List Env) (s : Shared) (H : Hp) (E : XK), VC (cxOf (L2.CX P w) P w K mg base N qual (defScope st) f cdv A outer s H E) (WN E) k →
      VSs Tb (cxOf (L2.CX P w) P w K mg base N qual (defScope st) f cdv A outer s H E) (WN E) (defBody st) g) :
    FnOk P w K mg base (L2.CX P w) (k + 1) f fd ps (spV Tb K mg ps.length (runF N.length g)) := by
  refine F.okX S (fun vs H Q E h => h.1) (fun cdv A outer s H vs Q E hr h => ⟨_, hb cdv A outer s H E ⟨rfl, S.nd, takes_of rfl rfl rfl rfl, hr⟩, ?_⟩)
  have hl := h.1
  rw [← hl] at h
  exact run_body h
end
end VL
set_option Elab.async false
set_option linter.all false
set_option maxRecDepth 100000
namespace VL
open PySem PySem.Spec PyProof.Rows L2
/-! ### what is walked stands still: locks -/
/-- a slot that is locked, and whether it is a parameter's -/
abbrev Lks := List (Nat × Bool)
def ownB (b : Bool) (c : OC) : SV := if b then .io c else .own c
def unlock1 (i : Nat) (b : Bool) (s : VS) : VS := match s[i]? with
  | some (.lk c) => s.set i (ownB b c)
  | _ => s
def unlock : Lks → VS → VS
  | [], s => s
  | (i, b) :: L, s => unlock1 i b (unlock L s)
/-- s1 is s, locked -/
inductive LkS : Lks → VS → VS → Prop
  | nil {s : VS} : LkS [] s s
  | cons {i : Nat} {b : Bool} {c : OC} {L : Lks} {s s1 : VS} : s[i]? = some (ownB b c) → LkS L (s.set i (.lk c)) s1 → LkS ((i, b) :: L) s s1
section
variable {K : PySem.W.Frag} {mg : Str → Option Value} {W : WX} {O O' : AS} {s s1 s2 st : VS} {σ σ1 σ2 : L2.St} {H H0 H1 H2 : Hp} {v : V} {r : EV} {i : Nat} {b : Bool} {c : OC}
theorem ownB_cases (b : Bool) (c : OC) : (b = false ∧ ownB b c = .own c) ∨ (b = true ∧ ownB b c = .io c) := by cases b; exact .inl ⟨rfl, rfl⟩; exact .inr ⟨rfl, rfl⟩
theorem lt_of_get {sv : SV} (h : s[i]? = some sv) : i < s.length := by
  by_cases hi : i < s.length
  · exact hi
  · rw [List.getElem?_eq_none (by omega)] at h; cases h
/-- the kind of an owning slot does not matter to what stands -/
theorem FR.rekind {sv sv' : SV} (F : FR Tb K O s σ H) (h : s[i]? = some sv) (hk : ∃ c, (sv = .own c ∨ sv = .io c ∨ sv = .lk c) ∧ (sv' = .own c ∨ sv' = .io c ∨ sv' = .lk c)) : FR Tb K O (s.set i sv') σ H ∧ (∀ j p, OwnAt (s.set i sv') σ j p ↔ OwnAt s σ j p) := by
  obtain ⟨c, h1, h2⟩ := hk
  have hi := lt_of_get h
  have own : ∀ j p, OwnAt (s.set i sv') σ j p ↔ OwnAt s σ j p := fun j p => by
    by_cases hj : j = i
    · subst hj
      constructor
      · rintro ⟨e, _⟩
        exact ⟨e, c, by rw [h]; rcases h1 with z | z | z <;> subst z; exact .inl rfl; exact .inr (.inl rfl); exact .inr (.inr rfl)⟩
      · rintro ⟨e, _⟩
        exact ⟨e, c, by rw [List.getElem?_set_self hi]; rcases h2 with z | z | z <;> subst z; exact .inl rfl; exact .inr (.inl rfl); exact .inr (.inr rfl)⟩
    · constructor
      · rintro ⟨e, c', q⟩; rw [List.getElem?_set_ne (Ne.symm hj)] at q; exact ⟨e, c', q⟩
      · rintro ⟨e, c', q⟩; exact ⟨e, c', by rw [List.getElem?_set_ne (Ne.symm hj)]; exact q⟩
  have av : ∀ a, Av O (s.set i sv') σ a → Av O s σ a := fun a z => z.imp id fun ⟨j, z⟩ => ⟨j, (own j a).mp z⟩
  refine ⟨⟨by rw [List.length_set]; exact F.len, fun j sv0 hj => ?_, fun a b p x y => F.inj a b p ((own a p).mp x) ((own b p).mp y), fun p ⟨j, z⟩ => F.avoid p ⟨j, (own j p).mp z⟩, F.odom, F.tabs⟩, own⟩
  by_cases e : j = i
  · subst e
    rw [List.getElem?_set_self hi] at hj
    cases hj
    obtain ⟨v, ev, sl⟩ := F.slot j sv h
    refine ⟨v, ev, ?_⟩
    have : ∃ p, v = some (.ref p) ∧ Cont K (Av O s σ) H p c := by rcases h1 with z | z | z <;> (subst z; exact sl)
    obtain ⟨p, ep, C⟩ := this
    rcases h2 with z | z | z <;> (subst z; exact ⟨p, ep, C.sub av⟩)
  · rw [List.getElem?_set_ne (Ne.symm e)] at hj
    obtain ⟨v, ev, sl⟩ := F.slot j sv0 hj
    exact ⟨v, ev, sl.sub av⟩
theorem FR.lock (F : FR Tb K O s σ H) (h : s[i]? = some (ownB b c)) : FR Tb K O (s.set i (.lk c)) σ H ∧ (∀ j p, OwnAt (s.set i (.lk c)) σ j p ↔ OwnAt s σ j p) :=
  F.rekind h ⟨c, (ownB_cases b c).elim (fun z => .inl z.2) fun z => .inr (.inl z.2), .inr (.inr rfl)⟩
theorem FR.unlock1 (F : FR Tb K O s σ H) (b : Bool) (h : s[i]? = some (.lk c)) : FR Tb K O (s.set i (ownB b c)) σ H ∧ (∀ j p, OwnAt (s.set i (ownB b c)) σ j p ↔ OwnAt s σ j p) :=
  F.rekind h ⟨c, .inr (.inr rfl), (ownB_cases b c).elim (fun z => .inl z.2) fun z => .inr (.inl z.2)⟩
/-- a run from the locked state is one from the unlocked -/
theorem Step.unlock1 (F : FR Tb K O s σ H) (h : s[i]? = some (ownB b c)) (S : Step Tb K O (s.set i (.lk c)) σ H s2 σ2 H2) : Step Tb K O s σ H (VL.unlock1 i b s2) σ2 H2 ∧ (∀ j p, OwnAt (VL.unlock1 i b s2) σ2 j p ↔ OwnAt s2 σ2 j p) := by
  have hi := lt_of_get h
  obtain ⟨e2, eσ⟩ := S.lk i c (List.getElem?_set_self hi)
  have hu : VL.unlock1 i b s2 = s2.set i (ownB b c) := by unfold VL.unlock1; rw [e2]
  rw [hu]
  obtain ⟨FU, ou⟩ := S.fr.unlock1 b e2
  obtain ⟨FL, ol⟩ := F.lock h
  have ml : ∀ j p, MutAt (s.set i (.lk c)) σ j p → MutAt s σ j p := fun j p ⟨e, c', q⟩ => by
    by_cases hj : j = i
    · subst hj; rw [List.getElem?_set_self hi] at q; rcases q with q | q <;> cases q
    · rw [List.getElem?_set_ne (Ne.symm hj)] at q; exact ⟨e, c', q⟩
  have hi2 := lt_of_get e2
  refine ⟨⟨FU, fun a o e t n => S.keep a o e t fun ⟨j, z⟩ => n ⟨j, ml j a z⟩, fun a ⟨j, z⟩ => (S.new a ⟨j, (ou j a).mp z⟩).imp (fun ⟨k, z⟩ => ⟨k, (ol k a).mp z⟩) id, fun a ⟨j, z⟩ => ?_, S.dom, S.len, fun j c' hj => ?_, fun j c' hj => ?_⟩, ou⟩
  · by_cases hj : j = i
    · subst hj
      refine .inl ⟨j, ?_⟩
      obtain ⟨e, _⟩ := z
      rw [eσ] at e
      exact ⟨e, c, by rw [h]; rcases ownB_cases b c with ⟨_, q⟩ | ⟨_, q⟩ <;> rw [q]; exact .inl rfl; exact .inr rfl⟩
    · obtain ⟨e, c', q⟩ := z
      rw [List.getElem?_set_ne (Ne.symm hj)] at q
      exact (S.mnew a ⟨j, e, c', q⟩).imp (fun ⟨k, z⟩ => ⟨k, ml k a z⟩) id
  · by_cases e : j = i
    · subst e
      rw [h] at hj
      rcases ownB_cases b c with ⟨_, q⟩ | ⟨_, q⟩
      · rw [q] at hj; cases hj
      · rw [q] at hj; cases hj
        exact ⟨⟨c, by rw [List.getElem?_set_self hi2, q]⟩, eσ⟩
    · obtain ⟨⟨c2, q⟩, e3⟩ := S.io j c' (by rw [List.getElem?_set_ne (Ne.symm e)]; exact hj)
      exact ⟨⟨c2, by rw [List.getElem?_set_ne (Ne.symm e)]; exact q⟩, e3⟩
  · have e : j ≠ i := fun z => by
      subst z
      rw [h] at hj
      rcases ownB_cases b c with ⟨_, q⟩ | ⟨_, q⟩ <;> (rw [q] at hj; cases hj)
    obtain ⟨q, e3⟩ := S.lk j c' (by rw [List.getElem?_set_ne (Ne.symm e)]; exact hj)
    exact ⟨by rw [List.getElem?_set_ne (Ne.symm e)]; exact q, e3⟩
theorem LkS.fr {L : Lks} (h : LkS L s s1) : FR Tb K O s σ H → FR Tb K O s1 σ H := by
  induction h with
  | nil => exact id
  | cons e _ ih => exact fun F => ih (F.lock e).1
theorem LkS.step {L : Lks} (h : LkS L s s1) : ∀ {s2 : VS}, FR Tb K O s σ H → Step Tb K O s1 σ H s2 σ2 H2 → Step Tb K O s σ H (VL.unlock L s2) σ2 H2 ∧ (∀ j p, OwnAt (VL.unlock L s2) σ2 j p ↔ OwnAt s2 σ2 j p) := by
  induction h with
  | nil => exact fun _ S => ⟨S, fun _ _ => Iff.rfl⟩
  | cons e l ih =>
    intro s2 F S
    obtain ⟨S', o'⟩ := ih (F.lock e).1 S
    obtain ⟨S2, o2⟩ := Step.unlock1 F e S'
    exact ⟨S2, fun j p => (o2 j p).trans (o' j p)⟩
theorem LkS.own {L : Lks} (h : LkS L s s1) (F : FR Tb K O s σ H) : ∀ j p, OwnAt s1 σ j p ↔ OwnAt s σ j p := by
  induction h with
  | nil => exact fun _ _ => Iff.rfl
  | cons e l ih => exact fun j p => (ih (F.lock e).1 j p).trans ((F.lock e).2 j p)
/-- frames, unlocked -/
theorem FR.unl {L : Lks} : ∀ {s2 : VS}, FR Tb K O s2 σ H → (∀ p ∈ L, ∃ c, s2[p.1]? = some (.lk c)) → (L.map (·.1)).Nodup → FR Tb K O (VL.unlock L s2) σ H ∧ ∀ j, j ∉ L.map (·.1) → (VL.unlock L s2)[j]? = s2[j]? := by
  induction L with
  | nil => exact fun F _ _ => ⟨F, fun _ _ => rfl⟩
  | cons p L ih =>
    intro s2 F h nd
    obtain ⟨i, b⟩ := p
    obtain ⟨F', g⟩ := ih F (fun q hq => h q (List.mem_cons_of_mem _ hq)) (List.nodup_cons.mp nd).2
    obtain ⟨c, hc⟩ := h (i, b) List.mem_cons_self
    have hc' : (VL.unlock L s2)[i]? = some (.lk c) := by rw [g i (List.nodup_cons.mp nd).1]; exact hc
    have hu : VL.unlock ((i, b) :: L) s2 = (VL.unlock L s2).set i (ownB b c) := by
      show VL.unlock1 i b (VL.unlock L s2) = _
      unfold VL.unlock1; rw [hc']
    rw [hu]
    refine ⟨(F'.unlock1 b hc').1, fun j hj => ?_⟩
    have hji : j ≠ i := fun z => hj (by rw [z]; exact List.mem_cons_self)
    rw [List.getElem?_set_ne (Ne.symm hji)]
    exact g j fun z => hj (List.mem_cons_of_mem _ z)
theorem LkS.lks {L : Lks} (h : LkS L s s1) : (∀ p ∈ L, ∃ c, s1[p.1]? = some (.lk c)) ∧ (L.map (·.1)).Nodup ∧ (∀ (j : Nat) (c : OC), s[j]? = some (.lk c) → s1[j]? = some (.lk c) ∧ j ∉ L.map (·.1)) := by
  induction h with
  | nil => exact ⟨(fun _ h => by cases h), List.nodup_nil, fun j c h => ⟨h, by simp⟩⟩
  | cons e l ih =>
    rename_i i b c L s s1
    obtain ⟨a, nd, g⟩ := ih
    have hi := lt_of_get e
    obtain ⟨q, nq⟩ := g i c (List.getElem?_set_self hi)
    refine ⟨fun p hp => ?_, List.nodup_cons.mpr ⟨nq, nd⟩, fun j c' hj => ?_⟩
    · rcases List.mem_cons.mp hp with rfl | hp
      · exact ⟨c, q⟩
      · exact a p hp
    · have hji : j ≠ i := fun z => by
        subst z
        rw [e] at hj
        rcases ownB_cases b c with ⟨_, q⟩ | ⟨_, q⟩ <;> (rw [q] at hj; cases hj)
      obtain ⟨x, y⟩ := g j c' (by rw [List.getElem?_set_ne (Ne.symm hji)]; exact hj)
      exact ⟨x, fun z => by rcases List.mem_cons.mp z with z | z; exact hji z; exact y z⟩
theorem LkS.er {L : Lks} (h : LkS L s s1) (F : FR Tb K O s σ H) (S : Step Tb K O s1 σ H s2 σ2 H2) (E : ER Tb K O H0 s2 σ2 H2 v r) : ER Tb K O H0 (VL.unlock L s2) σ2 H2 v r := by
  obtain ⟨S', ow⟩ := h.step F S
  have av : ∀ {O : AS} a, Av O (VL.unlock L s2) σ2 a → Av O s2 σ2 a := fun a z => z.imp id fun ⟨j, z⟩ => ⟨j, (ow j a).mp z⟩
  cases r with
  | d x => exact Rp.sub (fun a z => av a z) E
  | loan i => exact E
  | own c =>
    obtain ⟨p, ev, hp, np, FF, C⟩ := E
    obtain ⟨l1, nd, _⟩ := h.lks
    refine ⟨p, ev, hp, np, (FR.unl FF (fun q hq => ?_) nd).1, C.sub fun a z => av a z⟩
    obtain ⟨c', hc⟩ := l1 q hq
    exact ⟨c', (S.lk q.1 c' hc).1⟩
/-- the way on, from the locked state -/
theorem CtlK.unlock {L : Lks} {D : Ends} {cc : Ctl} (h : LkS L s s1) (S0 : Step Tb K O st σ H s σ1 H1) (q : CtlK Tb K O st σ H D cc (VL.unlock L s2)) : CtlK Tb K O s1 σ1 H1 D cc s2 := by
  cases cc with
  | nx => exact fun σ' H' S => q σ' H' (S0.trans (h.step S0.fr S).1)
  | bk => exact fun σ' H' S => q σ' H' (S0.trans (h.step S0.fr S).1)
  | ct => exact fun σ' H' S => q σ' H' (S0.trans (h.step S0.fr S).1)
  | rt r => exact fun v σ' H' S E => q v σ' H' (S0.trans (h.step S0.fr S).1) ((h.er S0.fr S E).back S0.dom)
theorem XW.unlock {L : Lks} {C : Str} {fs : List (Str × Da)} (h : LkS L s s1) (S0 : Step Tb K O st σ H s σ1 H1) (q : XW Tb K mg W O st σ H C fs (VL.unlock L s2)) : XW Tb K mg W O s1 σ1 H1 C fs s2 := fun Ca d σ' H' ws e S hd hr he => by
  obtain ⟨S', ow⟩ := h.step S0.fr S
  exact q Ca d σ' H' ws e (S0.trans S') hd (hr.sub fun a z => z.imp id fun ⟨j, z⟩ => ⟨j, (ow j a).mp z⟩) he
/-- data and what is locked stand -/
structure Pres (K : PySem.W.Frag) (O : AS) (s : VS) (σ : L2.St) (H : Hp) (O' : AS) (s' : VS) (σ' : L2.St) (H' : Hp) : Prop where
  rp : ∀ (d : Da) (v : V), Rp K (Av O s σ) H d v → Rp K (Av O' s' σ') H' d v
  lk : ∀ (i : Nat) (c : OC) (p : Addr), s[i]? = some (.lk c) → σ[i]? = some (some (.ref p)) → Cont K (Av O' s' σ') H' p c
theorem Step.pres (S : Step Tb K O s σ H s2 σ2 H2) : Pres K O s σ H O s2 σ2 H2 := ⟨fun d v h => S.rp h, fun i c p h e => by
  obtain ⟨h2, e2⟩ := S.lk i c h
  obtain ⟨v, ev, q, eq, C⟩ := S.fr.slot i _ h2
  rw [e2, e] at ev; cases ev; cases eq
  exact C⟩
/-- the iterator J hands out xs, as long as they do -/
def JV (K : PySem.W.Frag) (O : AS) (s1 : VS) (σ1 : L2.St) (H1 : Hp) (J : It) (xs : List Da) : Prop := ∀ O' st' σ' H', Pres K O s1 σ1 H1 O' st' σ' H' →
  (∀ i x, xs[i]? = some x → J.go i H' ∧ ∀ v H2, J.yld i H' v H2 → Same H' H2 ∧ ((∀ a, Av O' st' σ' a → H' a ≠ none) → Rp K (Av O' st' σ') H2 x v)) ∧ (∀ i, xs.length ≤ i → J.stop i H')
def tVI (Tb : List (Addr × Str)) (K : PySem.W.Frag) (mg : Str → Option Value) (W : WX) (f : VM (List Da × Lks)) : TI := fun σ H R => ∃ O st, FR Tb K O st σ H ∧ VRun Tb K mg W O st σ H (f st) fun p s1 => ∀ J H1 s0, Step Tb K O st σ H s0 σ H1 → LkS p.2 s0 s1 → JV K O s1 σ H1 J p.1 → R J H1
end
abbrev VI (Tb : List (Addr × Str)) (X : Cx) (W : WX) (tg iter : Expr) (f : VM (List Da × Lks)) : Prop := PI X tg iter (tVI Tb X.K X.mg W f)
theorem PI.wk {X : Cx} {tg iter : Expr} {t t' : TI} (h : PI X tg iter t) (w : ∀ σ H R, t' σ H R → t σ H R) : PI X tg iter t' := ⟨fun pins s σ H R I q => h.run pins s σ H R I (w σ H R q)⟩
section
variable {X : Cx} {W : WX} {a b c e o tg iter : Expr} {es ts : List Expr} {pos p : Pos} {fa fb fc fe fo : VM EV} {fs : VM (List EV)} {ga gb : VM Bool} {f : Da → VM Unit} {ix : List Nat} {fi : VM (List Da × Lks)} {body : List Stmt} {g : VM Ctl}
/-! ### for -/
def vForL (gt : Da → VM Unit) (g : VM Ctl) : List Da → VM Ctl
  | [] => vNx
  | x :: xs => vb (vNoX (gt x)) fun _ => vb g fun c => match c with
    | .nx => vForL gt g xs
    | .ct => vForL gt g xs
    | .bk => vNx
    | .rt r => vr (.rt r)
def vFor (fi : VM (List Da × Lks)) (gt : Da → VM Unit) (g : VM Ctl) : VM Ctl := vb fi fun p => fun s => match vForL gt g p.1 s with
  | .ok (c, s2) => .ok (c, unlock p.2 s2)
  | .error (.exc C fs s2) => .error (.exc C fs (unlock p.2 s2))
  | .error .stuck => .error .stuck
theorem drop_cons {α : Type} {xs : List α} {i : Nat} {x : α} {r : List α} (h : xs.drop i = x :: r) : xs[i]? = some x ∧ xs.drop (i + 1) = r := by
  have h1 : (xs.drop i)[0]? = some x := by rw [h]; rfl
  rw [List.getElem?_drop] at h1
  refine ⟨by simpa using h1, ?_⟩
  rw [← List.drop_drop, h]; rfl
theorem vs_for (c : X.calm = true) (hi : VI Tb X W tg iter fi) (hg : VGD Tb X ix tg f) (hb : VSs Tb X W body g) (hs : ∀ x, foldedSetIterable iter X.env x = pure x := by intro _; rfl) (hp : PassesOwn (model X.prog X.w) X.A X.env X.xe) :
    VSt Tb X W (.For tg iter body [] pos) (vFor fi f g) := by
  refine PS.wk (ps_for hp c hi hg hb hs) fun D σ H h => ?_
  obtain ⟨O, st, F, h⟩ := h
  refine ⟨O, st, F, (vrun_vb h).mono fun p s1 q J H1 s0 S0 lk jv => ?_⟩
  obtain ⟨xs, L⟩ := p
  have F1 := lk.fr S0.fr
  -- from the locked state on
  have q1 : VRun Tb X.K X.mg W O s1 σ H1 (vForL f g xs s1) (CtlK Tb X.K O s1 σ H1 D) := by
    dsimp only at q
    cases e : vForL f g xs s1 with
    | ok r => obtain ⟨cc, s2⟩ := r; rw [e] at q; exact CtlK.unlock lk S0 q
    | error er =>
      rw [e] at q
      cases er with
      | stuck => exact q
      | exc C fs s2 => exact XW.unlock lk S0 q
  refine ⟨fun i m σ' H' => i + m = xs.length ∧ ∃ st', Step Tb X.K O s1 σ H1 st' σ' H' ∧ VRun Tb X.K X.mg W O st' σ' H' (vForL f g (xs.drop i) st') (CtlK Tb X.K O s1 σ H1 D), ⟨xs.length, by omega, s1, Step.refl F1, q1⟩, ?_⟩
  rintro i m σ' H' ⟨em, st', S, q⟩
  obtain ⟨jgo, jst⟩ := jv O st' σ' H' S.pres
  cases ed : xs.drop i with
  | nil =>
    have hl : xs.length ≤ i := List.drop_eq_nil_iff.mp ed
    rw [ed] at q
    exact .inl ⟨jst i hl, q σ' H' S⟩
  | cons x r =>
    obtain ⟨ex, er⟩ := drop_cons ed
    have hlt : i < xs.length := by
      by_cases hl : i < xs.length
      · exact hl
      · rw [List.getElem?_eq_none (by omega)] at ex; cases ex
    obtain ⟨go, yl⟩ := jgo i x ex
    rw [ed] at q
    refine .inr ⟨go, fun σ2 H2 => (i + 1) + (m - 1) = xs.length ∧ ∃ s2, Step Tb X.K O s1 σ H1 s2 σ2 H2 ∧ VRun Tb X.K X.mg W O s2 σ2 H2 (vForL f g (xs.drop (i + 1)) s2) (CtlK Tb X.K O s1 σ H1 D), fun σ2 H2 z => ⟨m - 1, by omega, z⟩, fun v H2 hy => ?_⟩
    obtain ⟨sm, rp⟩ := yl v H2 hy
    have Se := Step.ext S.fr sm
    refine ⟨O, st', x, Se.fr, rp S.fr.avdom, ?_⟩
    have q : VRun Tb X.K X.mg W O st' σ' H' (vb (vNoX (f x)) (fun _ => vb g fun c => match c with
      | .nx => vForL f g r
      | .ct => vForL f g r
      | .bk => vNx
      | .rt r => vr (.rt r)) st') (CtlK Tb X.K O s1 σ H1 D) := q
    unfold vb vNoX at q
    cases eg : f x st' with
    | error er => rw [eg] at q; exact q.elim
    | ok pr =>
      obtain ⟨_, s3⟩ := pr
      rw [eg] at q
      refine fun σ3 H3 S3 _ => ⟨O, s3, S3.fr, ?_⟩
      have S' := (S.trans Se).trans S3
      refine (vrun_vb (f := g) (VRun.step (Se.trans S3) q)).mono fun cc s4 z => ?_
      cases cc with
      | nx => exact fun σ4 H4 S4 => ⟨by omega, s4, S'.trans S4, by rw [er]; exact (VRun.step S4 z)⟩
      | ct => exact fun σ4 H4 S4 => ⟨by omega, s4, S'.trans S4, by rw [er]; exact (VRun.step S4 z)⟩
      | bk => exact fun σ4 H4 S4 => z σ4 H4 (S'.trans S4)
      | rt r0 => exact fun v4 σ4 H4 S4 E4 => z v4 σ4 H4 (S'.trans S4) (E4.back S'.dom)
/-! ### while -/
/-- so many turns at most -/
def fuel : Nat := 1000000000
def vWhileN (c : VM Bool) (g : VM Ctl) : Nat → VM Ctl
  | 0 => vStuck
  | n + 1 => vb c fun k => if k = true then vb g fun cc => match cc with
      | .nx => vWhileN c g n
      | .ct => vWhileN c g n
      | .bk => vNx
      | .rt r => vr (.rt r)
    else vNx
def vWhile (c : VM Bool) (g : VM Ctl) : VM Ctl := vWhileN c g fuel
theorem vs_while (hc : VT Tb X W e ga) (hb : VSs Tb X W body g) (hp : PassesOwn (model X.prog X.w) X.A X.env X.xe) : VSt Tb X W (.While e body [] pos) (vWhile ga g) := by
  refine PS.wk (ps_while hp hc hb) fun D σ H h => ?_
  obtain ⟨O, st, F, h⟩ := h
  refine ⟨fun m σ' H' => ∃ st', Step Tb X.K O st σ H st' σ' H' ∧ VRun Tb X.K X.mg W O st' σ' H' (vWhileN ga g m st') (CtlK Tb X.K O st σ H D), ⟨fuel, st, Step.refl F, h⟩, ?_⟩
  rintro m σ' H' ⟨st', S, q⟩
  cases m with
  | zero => exact q.elim
  | succ m =>
    refine tVT.bind S.fr q fun k s1 H1 S1 q => ?_
    cases k with
    | false => rw [if_neg Bool.false_ne_true] at q; exact iteF (q σ' H1 (S.trans S1))
    | true =>
      rw [if_pos rfl] at q
      refine iteT ⟨fun σ2 H2 => ∃ s2, Step Tb X.K O st σ H s2 σ2 H2 ∧ VRun Tb X.K X.mg W O s2 σ2 H2 (vWhileN ga g m s2) (CtlK Tb X.K O st σ H D), fun σ2 H2 z => ⟨m, Nat.lt_succ_self m, z⟩, O, s1, S1.fr, (vrun_vb q).mono fun cc s2 z => ?_⟩
      have S' := S.trans S1
      cases cc with
      | nx => exact fun σ4 H4 S4 => ⟨s2, S'.trans S4, VRun.step S4 z⟩
      | ct => exact fun σ4 H4 S4 => ⟨s2, S'.trans S4, VRun.step S4 z⟩
      | bk => exact fun σ4 H4 S4 => z σ4 H4 (S'.trans S4)
      | rt r0 => exact fun v4 σ4 H4 S4 E4 => z v4 σ4 H4 (S'.trans S4) (E4.back S'.dom)
end
end VL
set_option Elab.async false
set_option linter.all false
set_option maxRecDepth 100000
namespace VL
open PySem PySem.Spec PyProof.Rows L2
/-! ### what is walked -/
def iSeq (K : PySem.W.Frag) (tl : TE) : TI := fun σ H R => tl σ H fun x H1 => ∃ a, x = .ref a ∧ (((∃ xs, SqL K H1 a xs) ∧ R (Itl K a) H1) ∨ ((∃ xs, SqT K H1 a xs) ∧ R (Itt K a) H1))
section
variable {X : Cx} {W : WX} {a b c e o tg iter : Expr} {es ts : List Expr} {pos p : Pos} {fa fb fc fe fo : VM EV} {fs : VM (List EV)} {ga gb : VM Bool} {f : Da → VM Unit} {ix : List Nat} {fi : VM (List Da × Lks)} {body : List Stmt} {g : VM Ctl}
theorem pi_seq {l : Expr} {tl : TE} (hl : PE X l tl) : PI X tg l (iSeq X.K tl) := by
  refine ⟨fun pins s σ H R I h => ?_⟩
  refine thn (hl.run pins s σ H _ I h) fun v s1 ⟨x, H1, I1, r1, q1⟩ => ?_
  obtain ⟨a, e, q⟩ := q1
  subst e
  cases r1
  rcases q with ⟨⟨xs, hq⟩, q⟩ | ⟨⟨xs, hq⟩, q⟩
  · obtain ⟨its, rv, p, hz⟩ := I1.list hq
    refine wpAny_pyIter_list p.isList ?_
    refine ⟨s1.heap.objs.size, [s1.heap.objs.size], _, _, H1, rfl, I1.kept (t' := s1.toks) fun b o e => Heap.get?_push_of_some _ e, turn_list a _, ⟨_, Heap.get?_push_size _ rfl, rfl, rfl⟩, fun b hb => ?_, q⟩
    have e : b = s1.heap.objs.size := by simpa using hb
    subst e
    exact I1.fpOk (Nat.le_refl _) (I1.hok.fresh (Nat.le_refl _))
  · obtain ⟨its, rv, p, hz⟩ := I1.tuple hq
    refine wpAny_pyIter_tuple (show s1.heap.IsTuple a its.toArray from p) ?_
    refine ⟨s1.heap.objs.size, [s1.heap.objs.size], _, _, H1, rfl, I1.kept (t' := s1.toks) fun b o e => Heap.get?_push_of_some _ e, turn_tuple a _, ⟨_, Heap.get?_push_size _ rfl, rfl, rfl⟩, fun b hb => ?_, q⟩
    have e : b = s1.heap.objs.size := by simpa using hb
    subst e
    exact I1.fpOk (Nat.le_refl _) (I1.hok.fresh (Nat.le_refl _))
/-- what is walked: a datum, or the list of a slot, locked -/
def vSrc (r : EV) : VM (List Da × Lks) := fun s => match r with
  | .d x => match seqD x with
    | some xs => .ok ((xs, []), s)
    | none => .error .stuck
  | .own (.l xs) => .ok ((xs, []), s)
  | .own (.m _) => .error .stuck
  | .loan i => match s[i]? with
    | some (.own (.l xs)) => .ok ((xs, [(i, false)]), s.set i (.lk (.l xs)))
    | some (.io (.l xs)) => .ok ((xs, [(i, true)]), s.set i (.lk (.l xs)))
    | some (.lk (.l xs)) => .ok ((xs, []), s)
    | _ => .error .stuck
/-- a list that stands as long as the frame lives on -/
inductive SrcL (K : PySem.W.Frag) (O : AS) (s : VS) (σ : L2.St) (H : Hp) (a : Addr) (xs : List Da) : Prop where
  | dl (vs : List V) (h : H a = some (.lst vs)) (n : ¬ Av O s σ a) (R : RpL K (Av O s σ) H xs vs) : SrcL K O s σ H a xs
  | lk (i : Nat) (e : σ[i]? = some (some (.ref a))) (h : s[i]? = some (.lk (.l xs))) : SrcL K O s σ H a xs
/-- a tuple -/
abbrev SrcT (K : PySem.W.Frag) (O : AS) (s : VS) (σ : L2.St) (H : Hp) (a : Addr) (xs : List Da) : Prop := Rp K (Av O s σ) H (.tuple xs) (.ref a)
theorem SrcL.get {K : PySem.W.Frag} {O O' : AS} {s s' : VS} {σ σ' : L2.St} {H H' : Hp} {a : Addr} {xs : List Da} (h : SrcL K O s σ H a xs) (P : Pres K O s σ H O' s' σ' H') : ∃ vs, RpL K (Av O' s' σ') H' xs vs ∧ SqL K H' a vs := by
  cases h with
  | dl vs h n R =>
    have := P.rp (.list xs) (.ref a) (by simp only [Rp]; exact ⟨a, vs, rfl, h, n, R⟩)
    simp only [Rp] at this
    obtain ⟨a', ws, e, h', n', R'⟩ := this
    cases e
    exact ⟨ws, R', .of h'⟩
  | lk i e h =>
    obtain ⟨vs, h1, R⟩ := P.lk i _ a h e
    exact ⟨vs, R, .of h1⟩
theorem SrcL.jv {K : PySem.W.Frag} {O : AS} {s : VS} {σ : L2.St} {H : Hp} {a : Addr} {xs : List Da} (h : SrcL K O s σ H a xs) : JV K O s σ H (Itl K a) xs := fun O' st' σ' H' P => by
  obtain ⟨vs, R, g⟩ := h.get P
  refine ⟨fun i x hx => ?_, fun i hi => ⟨vs, g, by rw [← R.length]; exact hi⟩⟩
  obtain ⟨w, hw, Rw⟩ := R.get hx
  refine ⟨⟨vs, w, g, hw⟩, fun v H2 hy => ?_⟩
  obtain ⟨e, hy⟩ := hy
  subst e
  have := hy vs g
  rw [hw] at this; cases this
  exact ⟨Same.refl _, fun _ => Rw⟩
theorem SrcT.jv {K : PySem.W.Frag} {O : AS} {s : VS} {σ : L2.St} {H : Hp} {a : Addr} {xs : List Da} (h : SrcT K O s σ H a xs) : JV K O s σ H (Itt K a) xs := fun O' st' σ' H' P => by
  obtain ⟨a', vs, e, g, R⟩ := (P.rp _ _ h).tupT
  cases e
  refine ⟨fun i x hx => ?_, fun i hi => ⟨vs, g, by rw [← R.length]; exact hi⟩⟩
  obtain ⟨w, hw, Rw⟩ := R.get hx
  refine ⟨⟨vs, w, g, hw⟩, fun v H2 hy => ?_⟩
  obtain ⟨e, hy⟩ := hy
  subst e
  have := hy vs g
  rw [hw] at this; cases this
  exact ⟨Same.refl _, fun _ => Rw⟩
theorem vSrc_ok {K : PySem.W.Frag} {O : AS} {H0 : Hp} {s s1 : VS} {σ : L2.St} {H : Hp} {v : V} {r : EV} {xs : List Da} {L : Lks} (F : FR Tb K O s σ H) (E : ER Tb K O H0 s σ H v r) (h : vSrc r s = .ok ((xs, L), s1)) :
    ∃ a, v = .ref a ∧ LkS L s s1 ∧ (SrcL K O s1 σ H a xs ∨ SrcT K O s1 σ H a xs) := by
  unfold vSrc at h
  cases r with
  | d x =>
    dsimp only at h
    cases e : seqD x with
    | none => rw [e] at h; cases h
    | some ys =>
      rw [e] at h; cases h
      cases x with
      | list zs =>
        cases e
        have E : Rp K (Av O s σ) H (.list xs) v := E
        simp only [Rp] at E
        obtain ⟨a, vs, rfl, h, n, R⟩ := E
        exact ⟨a, rfl, .nil, .inl (.dl vs h n R)⟩
      | tuple zs =>
        cases e
        have E : Rp K (Av O s σ) H (.tuple xs) v := E
        obtain ⟨a, vs, rfl, _⟩ := E.tupT
        exact ⟨a, rfl, .nil, .inr E⟩
      | _ => cases e
  | own c =>
    cases c with
    | m _ => cases h
    | l ys =>
      cases h
      have E2 : Rp K (Av O s σ) H (.list xs) v := ER.settle (H1 := H0) E
      simp only [Rp] at E2
      obtain ⟨a, vs, rfl, h, n, R⟩ := E2
      exact ⟨a, rfl, .nil, .inl (.dl vs h n R)⟩
  | loan i =>
    have E : σ[i]? = some (some v) := E
    dsimp only at h
    split at h
    · rename_i ys hs; cases h
      obtain ⟨ov, eo, p, ep, _⟩ := F.slot i _ hs
      rw [E] at eo; cases eo; cases ep
      exact ⟨p, rfl, .cons (b := false) hs .nil, .inl (.lk i E (List.getElem?_set_self (lt_of_get hs)))⟩
    · rename_i ys hs; cases h
      obtain ⟨ov, eo, p, ep, _⟩ := F.slot i _ hs
      rw [E] at eo; cases eo; cases ep
      exact ⟨p, rfl, .cons (b := true) hs .nil, .inl (.lk i E (List.getElem?_set_self (lt_of_get hs)))⟩
    · rename_i ys hs; cases h
      obtain ⟨ov, eo, p, ep, _⟩ := F.slot i _ hs
      rw [E] at eo; cases eo; cases ep
      exact ⟨p, rfl, .nil, .inl (.lk i E hs)⟩
    · cases h
theorem vSrc_err {s : VS} {r : EV} {er : Err} (h : vSrc r s = .error er) : er = .stuck := by
  unfold vSrc at h
  split at h
  · split at h <;> cases h; rfl
  · cases h
  · cases h; rfl
  · split at h <;> cases h; rfl
/-- a list, a tuple, walked -/
def vItSeq (fe : VM EV) : VM (List Da × Lks) := vb fe vSrc
theorem vi_seq (he : VE Tb X W e fe) : VI Tb X W tg e (vItSeq fe) := by
  refine PI.wk (pi_seq he) fun σ H R h => ?_
  obtain ⟨O, st, F, h⟩ := h
  refine tV.bind F h fun r s1 v H1 S1 E1 h => ?_
  cases q : vSrc r s1 with
  | error er => rw [q] at h; rw [vSrc_err q] at h; exact h.elim
  | ok p =>
    obtain ⟨⟨xs, L⟩, s2⟩ := p
    rw [q] at h
    obtain ⟨a, rfl, lk, src⟩ := vSrc_ok S1.fr E1 q
    refine ⟨a, rfl, ?_⟩
    rcases src with src | src
    · obtain ⟨vs, _, g⟩ := src.get (Step.refl (lk.fr S1.fr)).pres
      exact .inl ⟨⟨vs, g⟩, h _ H1 s1 S1 lk src.jv⟩
    · obtain ⟨_, vs, e, g, _⟩ := Rp.tupT src
      cases e
      exact .inr ⟨⟨vs, g⟩, h _ H1 s1 S1 lk src.jv⟩
/-! range -/
def rngD (lo : Int) (n : Nat) (c : Int) : List Da := (List.range n).map fun i : Nat => PyData.int (lo + (i : Int) * c)
theorem rngD_get {lo : Int} {n : Nat} {c : Int} {i : Nat} {x : Da} (h : (rngD lo n c)[i]? = some x) : i < n ∧ x = .int (lo + (i : Int) * c) := by
  unfold rngD at h
  rw [List.getElem?_map] at h
  obtain ⟨j, e, rfl⟩ := Option.map_eq_some_iff.mp h
  obtain ⟨hi, e⟩ := List.getElem?_eq_some_iff.mp e
  rw [List.getElem_range] at e
  subst e
  exact ⟨by simpa using hi, rfl⟩
theorem rngD_len (lo : Int) (n : Nat) (c : Int) : (rngD lo n c).length = n := by unfold rngD; simp
theorem jv_rng {K : PySem.W.Frag} {O : AS} {s : VS} {σ : L2.St} {H : Hp} {lo : Int} {n : Nat} : JV K O s σ H (Itr lo n) (rngD lo n 1) := fun O' st' σ' H' S =>
  ⟨fun i x hx => by
    obtain ⟨hi, rfl⟩ := rngD_get hx
    refine ⟨hi, fun v H2 hy => ?_⟩
    obtain ⟨e, hy⟩ := hy
    subst e
    exact ⟨Same.refl _, fun _ => by simp only [Rp]; rw [hy, Int.mul_one]⟩, fun i hi => by rw [rngD_len] at hi; exact hi⟩
/-- the ints of a range: one, two or three arguments -/
def rangeD : List Da → Option (List Da)
  | [.int j] => if -1000000000 ≤ j ∧ j ≤ 1000000000 then some (rngD 0 j.toNat 1) else none
  | [.int i, .int j] => if -1000000000 ≤ i ∧ i ≤ 1000000000 ∧ -1000000000 ≤ j ∧ j ≤ 1000000000 then some (rngD i (j - i).toNat 1) else none
  | [.int i, .int j, .int c] => if -1000000000 ≤ i ∧ i ≤ 1000000000 ∧ -1000000000 ≤ j ∧ j ≤ 1000000000 ∧ c = -1 then some (rngD i (i - j).toNat (-1)) else none
  | _ => none
def vItRng (fs : VM (List EV)) : VM (List Da × Lks) := vb fs fun rs => vb (vRds rs) fun xs => vb (vOpt (rangeD xs)) fun ys => vr (ys, [])
theorem RoL.one {K : PySem.W.Frag} {O : AS} {H : Hp} {x : Da} {vs : List V} (h : RoL K O H [x] vs) : ∃ v, vs = [v] ∧ Ro K O H x v := by
  simp only [RoL] at h
  obtain ⟨w, ws, rfl, r, rfl⟩ := h
  exact ⟨w, rfl, r⟩
theorem RoL.two {K : PySem.W.Frag} {O : AS} {H : Hp} {x y : Da} {vs : List V} (h : RoL K O H [x, y] vs) : ∃ v w, vs = [v, w] ∧ Ro K O H x v ∧ Ro K O H y w := by
  simp only [RoL] at h
  obtain ⟨w, ws, rfl, r, w2, ws2, rfl, r2, rfl⟩ := h
  exact ⟨w, w2, rfl, r, r2⟩
theorem RoL.three {K : PySem.W.Frag} {O : AS} {H : Hp} {x y z : Da} {vs : List V} (h : RoL K O H [x, y, z] vs) : ∃ v w u, vs = [v, w, u] ∧ Ro K O H x v ∧ Ro K O H y w ∧ Ro K O H z u := by
  simp only [RoL] at h
  obtain ⟨w, ws, rfl, r, w2, ws2, rfl, r2, w3, ws3, rfl, r3, rfl⟩ := h
  exact ⟨w, w2, w3, rfl, r, r2, r3⟩
theorem vi_range1 (hm : X.mg "range" = none) (ha : VA Tb X W [a] fs) (hg : Gl X "range" := by rfl) (hs : starEach [a] X.env = [(false, eval a X.env)] := by rfl) (hl : ∀ s (r : List EV × VS), fs s = .ok r → r.1.length = 1) : VI Tb X W tg (.Call (.Name "range" p) [a] [] pos) (vItRng fs) := by
  refine PI.wk (pi_range1 hg hm ha hs) fun σ H R h => ?_
  obtain ⟨O, st, F, h⟩ := h
  have len := hl st
  refine ⟨O, st, F, ?_⟩
  have h := vrun_vb h
  cases ef : fs st with
  | error er => rw [ef] at h; cases er <;> exact h
  | ok q =>
    obtain ⟨rs, s1⟩ := q
    rw [ef] at h
    have l1 := len _ ef
    refine fun vs H1 S1 E1 => ?_
    obtain ⟨xs, Rx, h⟩ := E1.rds S1.fr (VRun.step S1 h)
    obtain ⟨ys, ey, h⟩ := h.opt
    unfold rangeD at ey
    split at ey
    · obtain ⟨v, rfl, R⟩ := Rx.one
      obtain rfl := R.int
      split at ey
      · rename_i j hj; cases ey
        exact ⟨j, rfl, by omega, by omega, h _ H1 s1 S1 .nil jv_rng⟩
      · cases ey
    · obtain ⟨v, w, rfl, _⟩ := Rx.two
      have := E1.length
      rw [show rs.length = 1 from l1] at this; cases this
    · obtain ⟨v, w, u, rfl, _⟩ := Rx.three
      have := E1.length
      rw [show rs.length = 1 from l1] at this; cases this
    · cases ey
theorem vi_range2 (hm : X.mg "range" = none) (ha : VA Tb X W [a, b] fs) (hg : Gl X "range" := by rfl) (hs : starEach [a, b] X.env = [(false, eval a X.env), (false, eval b X.env)] := by rfl) (hs2 : starEach [b] X.env = [(false, eval b X.env)] := by rfl) (hl : ∀ s (r : List EV × VS), fs s = .ok r → r.1.length = 2) : VI Tb X W tg (.Call (.Name "range" p) [a, b] [] pos) (vItRng fs) := by
  refine PI.wk (pi_range2 hg hm ha hs hs2) fun σ H R h => ?_
  obtain ⟨O, st, F, h⟩ := h
  have len := hl st
  refine ⟨O, st, F, ?_⟩
  have h := vrun_vb h
  cases ef : fs st with
  | error er => rw [ef] at h; cases er <;> exact h
  | ok q =>
    obtain ⟨rs, s1⟩ := q
    rw [ef] at h
    have l1 := len _ ef
    refine fun vs H1 S1 E1 => ?_
    obtain ⟨xs, Rx, h⟩ := E1.rds S1.fr (VRun.step S1 h)
    obtain ⟨ys, ey, h⟩ := h.opt
    unfold rangeD at ey
    split at ey
    · obtain ⟨v, rfl, R⟩ := Rx.one
      have := E1.length
      rw [show rs.length = 2 from l1] at this; cases this
    · obtain ⟨v, w, rfl, R, R2⟩ := Rx.two
      obtain rfl := R.int
      obtain rfl := R2.int
      split at ey
      · rename_i i j hj; cases ey
        exact ⟨i, j, rfl, ⟨by omega, by omega, by omega, by omega⟩, h _ H1 s1 S1 .nil jv_rng⟩
      · cases ey
    · obtain ⟨v, w, u, rfl, _⟩ := Rx.three
      have := E1.length
      rw [show rs.length = 2 from l1] at this; cases this
    · cases ey
end
end VL
set_option Elab.async false
set_option linter.all false
set_option maxRecDepth 100000
namespace VL
open PySem PySem.Spec PyProof.Rows L2
/-! ### comprehensions -/
/-- the slots of the block's own names, forgotten -/
def wipeV (ix : List Nat) (s : VS) : VS := ix.foldr (fun j s => s.set j .un) s
/-- .. given back -/
def restV (s0 : VS) (ix : List Nat) (s : VS) : VS := ix.foldr (fun j s => s.set j (s0[j]?.getD .un)) s
/-- a slot that owns nothing -/
def flatS : Option SV → Bool
  | some .un => true
  | some (.d _) => true
  | none => true
  | _ => false
def vWipe (ix : List Nat) : VM Unit := fun s => if ix.all (fun j => flatS s[j]?) = true then .ok ((), wipeV ix s) else .error .stuck
section
variable {K : PySem.W.Frag} {mg : Str → Option Value} {W : WX} {O O' : AS} {s s0 s1 s2 st : VS} {σ σ1 σ2 : L2.St} {H H0 H1 H2 : Hp} {v : V} {r : EV} {ix : List Nat}
theorem wipeV_len : ∀ (ix : List Nat) (s : VS), (wipeV ix s).length = s.length
  | [], s => rfl
  | j :: ix, s => by show ((wipeV ix s).set j .un).length = _; rw [List.length_set, wipeV_len]
theorem wipeV_get (j : Nat) : ∀ (ix : List Nat) (s : VS), (j ∉ ix → (wipeV ix s)[j]? = s[j]?) ∧ (j ∈ ix → ∀ sv, (wipeV ix s)[j]? = some sv → sv = .un)
  | [], s => ⟨fun _ => rfl, fun h => by cases h⟩
  | i :: ix, s => by
    obtain ⟨h1, h2⟩ := wipeV_get j ix s
    show (_ → ((wipeV ix s).set i .un)[j]? = _) ∧ (_ → ∀ sv, ((wipeV ix s).set i .un)[j]? = some sv → _)
    by_cases e : j = i
    · subst e
      refine ⟨fun h => absurd List.mem_cons_self h, fun _ sv h => ?_⟩
      have hl : j < (wipeV ix s).length := by
        by_cases hl : j < (wipeV ix s).length
        · exact hl
        · rw [List.getElem?_eq_none (by rw [List.length_set]; omega)] at h; cases h
      rw [List.getElem?_set_self hl] at h
      cases h; rfl
    · rw [List.getElem?_set_ne (Ne.symm e)]
      exact ⟨fun h => h1 fun z => h (List.mem_cons_of_mem _ z), fun h => h2 ((List.mem_cons.mp h).resolve_left e)⟩
theorem wipe_get (j : Nat) : ∀ (ix : List Nat) (σ : L2.St), j ∉ ix → (wipe σ ix)[j]? = σ[j]?
  | [], σ, _ => rfl
  | i :: ix, σ, h => by
    show ((wipe σ ix).set i none)[j]? = _
    rw [List.getElem?_set_ne fun z => h (by rw [z]; exact List.mem_cons_self)]
    exact wipe_get j ix σ fun z => h (List.mem_cons_of_mem _ z)
theorem wipe_some2 (j : Nat) : ∀ (ix : List Nat) (σ : L2.St), j < σ.length → ∃ v, (wipe σ ix)[j]? = some v := fun ix σ h => by
  have : j < (wipe σ ix).length := by rw [wipe_length]; exact h
  exact ⟨_, List.getElem?_eq_getElem this⟩
theorem flat_all (h : ix.all (fun j => flatS s[j]?) = true) {j : Nat} (hj : j ∈ ix) : flatS s[j]? = true := List.all_eq_true.mp h j hj
theorem flat_no {j : Nat} (h : flatS s[j]? = true) (c : OC) : s[j]? ≠ some (.own c) ∧ s[j]? ≠ some (.io c) ∧ s[j]? ≠ some (.lk c) := ⟨(fun z => by rw [z] at h; cases h), (fun z => by rw [z] at h; cases h), (fun z => by rw [z] at h; cases h)⟩
theorem own_wipe (h : ix.all (fun j => flatS s[j]?) = true) (j : Nat) (p : Addr) : OwnAt (wipeV ix s) (wipe σ ix) j p ↔ OwnAt s σ j p := by
  by_cases hj : j ∈ ix
  · constructor
    · rintro ⟨_, c, q⟩
      rcases q with q | q | q <;> (have := (wipeV_get j ix s).2 hj _ q; cases this)
    · rintro ⟨_, c, q⟩
      have := flat_no (flat_all h hj) c
      rcases q with q | q | q
      · exact absurd q this.1
      · exact absurd q this.2.1
      · exact absurd q this.2.2
  · unfold OwnAt
    rw [(wipeV_get j ix s).1 hj, wipe_get j ix σ hj]
theorem mut_wipe (h : ix.all (fun j => flatS s[j]?) = true) (j : Nat) (p : Addr) : MutAt (wipeV ix s) (wipe σ ix) j p ↔ MutAt s σ j p := by
  by_cases hj : j ∈ ix
  · constructor
    · rintro ⟨_, c, q⟩
      rcases q with q | q <;> (have := (wipeV_get j ix s).2 hj _ q; cases this)
    · rintro ⟨_, c, q⟩
      have := flat_no (flat_all h hj) c
      rcases q with q | q
      · exact absurd q this.1
      · exact absurd q this.2.1
  · unfold MutAt
    rw [(wipeV_get j ix s).1 hj, wipe_get j ix σ hj]
theorem FR.wipe (F : FR Tb K O s σ H) (h : ix.all (fun j => flatS s[j]?) = true) : FR Tb K O (wipeV ix s) (L2.wipe σ ix) H := by
  have av : ∀ a, Av O (wipeV ix s) (L2.wipe σ ix) a → Av O s σ a := fun a z => z.imp id fun ⟨j, z⟩ => ⟨j, (own_wipe h j a).mp z⟩
  refine ⟨by rw [wipeV_len, wipe_length]; exact F.len, fun j sv hj => ?_, fun a b p x y => F.inj a b p ((own_wipe h a p).mp x) ((own_wipe h b p).mp y), fun p ⟨j, z⟩ => F.avoid p ⟨j, (own_wipe h j p).mp z⟩, F.odom, F.tabs⟩
  by_cases hx : j ∈ ix
  · have := (wipeV_get j ix s).2 hx sv hj
    subst this
    obtain ⟨v, hv⟩ := wipe_some2 j ix σ (by rw [← F.len, ← wipeV_len ix s]; exact lt_of_get hj)
    exact ⟨v, hv, trivial⟩
  · rw [(wipeV_get j ix s).1 hx] at hj
    obtain ⟨v, ev, sl⟩ := F.slot j sv hj
    exact ⟨v, by rw [wipe_get j ix σ hx]; exact ev, sl.sub av⟩
theorem restV_len (s0 : VS) : ∀ (ix : List Nat) (s : VS), (restV s0 ix s).length = s.length
  | [], s => rfl
  | j :: ix, s => by show ((restV s0 ix s).set j _).length = _; rw [List.length_set, restV_len]
theorem restV_get (s0 : VS) (j : Nat) : ∀ (ix : List Nat) (s : VS), (j ∉ ix → (restV s0 ix s)[j]? = s[j]?) ∧ (j ∈ ix → ∀ sv, (restV s0 ix s)[j]? = some sv → sv = s0[j]?.getD .un)
  | [], s => ⟨fun _ => rfl, fun h => by cases h⟩
  | i :: ix, s => by
    obtain ⟨h1, h2⟩ := restV_get s0 j ix s
    show (_ → ((restV s0 ix s).set i _)[j]? = _) ∧ (_ → ∀ sv, ((restV s0 ix s).set i _)[j]? = some sv → _)
    by_cases e : j = i
    · subst e
      refine ⟨fun h => absurd List.mem_cons_self h, fun _ sv h => ?_⟩
      have hl : j < (restV s0 ix s).length := by
        by_cases hl : j < (restV s0 ix s).length
        · exact hl
        · rw [List.getElem?_eq_none (by rw [List.length_set]; omega)] at h; cases h
      rw [List.getElem?_set_self hl] at h
      cases h; rfl
    · rw [List.getElem?_set_ne (Ne.symm e)]
      exact ⟨fun h => h1 fun z => h (List.mem_cons_of_mem _ z), fun h => h2 ((List.mem_cons.mp h).resolve_left e)⟩
/-- behind the comprehension: the block's names stand for what they stood for -/
theorem Step.rest {D : Addr} (F : FR Tb K O s0 σ H) (h : ix.all (fun j => flatS s0[j]?) = true) (hD : H D = none) (S : Step Tb K (O.with D) (wipeV ix s0) (L2.wipe σ ix) H s2 (L2.wipe σ ix) H2) (h2 : ix.all (fun j => flatS s2[j]?) = true) :
    Step Tb K O s0 σ H (restV s0 ix s2) σ H2 ∧ FR Tb K (O.with D) (restV s0 ix s2) σ H2 ∧ (∀ j p, OwnAt (restV s0 ix s2) σ j p ↔ OwnAt s2 (L2.wipe σ ix) j p) := by
  have get : ∀ j sv, (restV s0 ix s2)[j]? = some sv → (j ∉ ix ∧ s2[j]? = some sv) ∨ (j ∈ ix ∧ sv = s0[j]?.getD .un ∧ flatS (some sv) = true) := fun j sv hj => by
    by_cases hx : j ∈ ix
    · have e := (restV_get s0 j ix s2).2 hx sv hj
      refine .inr ⟨hx, e, ?_⟩
      have := flat_all h hx
      rw [e]
      cases q : s0[j]? with
      | none => rfl
      | some z => rw [q] at this; exact this
    · rw [(restV_get s0 j ix s2).1 hx] at hj; exact .inl ⟨hx, hj⟩
  have own : ∀ j p, OwnAt (restV s0 ix s2) σ j p ↔ OwnAt s2 (L2.wipe σ ix) j p := fun j p => by
    by_cases hx : j ∈ ix
    · constructor
      · rintro ⟨_, c, q⟩
        rcases q with q | q | q <;> (rcases get j _ q with ⟨z, _⟩ | ⟨_, _, z⟩; exact absurd hx z; cases z)
      · rintro ⟨_, c, q⟩
        have := flat_no (flat_all h2 hx) c
        rcases q with q | q | q
        · exact absurd q this.1
        · exact absurd q this.2.1
        · exact absurd q this.2.2
    · unfold OwnAt
      rw [(restV_get s0 j ix s2).1 hx, wipe_get j ix σ hx]
  have mut_ : ∀ j p, MutAt (restV s0 ix s2) σ j p ↔ MutAt s2 (L2.wipe σ ix) j p := fun j p => by
    by_cases hx : j ∈ ix
    · constructor
      · rintro ⟨_, c, q⟩
        rcases q with q | q <;> (rcases get j _ q with ⟨z, _⟩ | ⟨_, _, z⟩; exact absurd hx z; cases z)
      · rintro ⟨_, c, q⟩
        have := flat_no (flat_all h2 hx) c
        rcases q with q | q
        · exact absurd q this.1
        · exact absurd q this.2.1
    · unfold MutAt
      rw [(restV_get s0 j ix s2).1 hx, wipe_get j ix σ hx]
  have len2 : s2.length = s0.length := by rw [S.fr.len, wipe_length, F.len]
  have keep : ∀ a o, H a = some o → NTb o → ¬ MutO s0 σ a → H2 a = some o := fun a o e t n => S.keep a o e t fun ⟨j, z⟩ => n ⟨j, (mut_wipe h j a).mp z⟩
  have dom : ∀ a, H2 a = none → H a = none := S.dom
  have mo : ∀ a, Av (O.with D) (restV s0 ix s2) σ a → Av O s0 σ a ∨ H a = none := fun a z => by
    rcases z with (z | z) | ⟨j, z⟩
    · exact .inl (.inl z)
    · exact .inr (by rw [z]; exact hD)
    · rcases S.new a ⟨j, (own j a).mp z⟩ with ⟨k, z⟩ | z
      · exact .inl (.inr ⟨k, (own_wipe h k a).mp z⟩)
      · exact .inr z
  have ke : ∀ a o, H a = some o → NTb o → ¬ Av O s0 σ a → H2 a = some o := fun a o e t n => keep a o e t fun z => n (.inr z.own)
  have av : ∀ a, Av (O.with D) (restV s0 ix s2) σ a → Av (O.with D) s2 (L2.wipe σ ix) a := fun a z => z.imp id fun ⟨j, z⟩ => ⟨j, (own j a).mp z⟩
  have FD : FR Tb K (O.with D) (restV s0 ix s2) σ H2 := by
    refine ⟨by rw [restV_len, len2, F.len], fun j sv hj => ?_, fun a b p x y => S.fr.inj a b p ((own a p).mp x) ((own b p).mp y), fun p ⟨j, z⟩ => S.fr.avoid p ⟨j, (own j p).mp z⟩, S.fr.odom, S.fr.tabs⟩
    rcases get j sv hj with ⟨hx, hj2⟩ | ⟨hx, e, fl⟩
    · obtain ⟨v, ev, sl⟩ := S.fr.slot j sv hj2
      exact ⟨v, by rw [← wipe_get j ix σ hx]; exact ev, sl.sub av⟩
    · have hl : j < s0.length := by rw [← len2, ← restV_len s0 ix s2]; exact lt_of_get hj
      have e0 : s0[j]? = some sv := by
        rw [e]
        rw [List.getElem?_eq_getElem hl]; rfl
      obtain ⟨v, ev, sl⟩ := F.slot j sv e0
      refine ⟨v, ev, ?_⟩
      cases sv with
      | un => trivial
      | d x => obtain ⟨w, ew, R⟩ := sl; exact ⟨w, ew, Rp.mono mo ke _ _ R⟩
      | own c => cases fl
      | io c => cases fl
      | lk c => cases fl
      | rd c => cases fl
  refine ⟨⟨FD.sub fun a z => .inl z, keep, fun a ⟨j, z⟩ => (S.new a ⟨j, (own j a).mp z⟩).imp (fun ⟨k, z⟩ => ⟨k, (own_wipe h k a).mp z⟩) id,
    fun a ⟨j, z⟩ => (S.mnew a ⟨j, (mut_ j a).mp z⟩).imp (fun ⟨k, z⟩ => ⟨k, (mut_wipe h k a).mp z⟩) id, dom, rfl, fun j c hj => ?_, fun j c hj => ?_⟩, FD, own⟩
  · have hx : j ∉ ix := fun z => (flat_no (flat_all h z) c).2.1 hj
    obtain ⟨⟨c', q⟩, _⟩ := S.io j c (by rw [(wipeV_get j ix s0).1 hx]; exact hj)
    exact ⟨⟨c', by rw [(restV_get s0 j ix s2).1 hx]; exact q⟩, rfl⟩
  · have hx : j ∉ ix := fun z => (flat_no (flat_all h z) c).2.2 hj
    obtain ⟨q, _⟩ := S.lk j c (by rw [(wipeV_get j ix s0).1 hx]; exact hj)
    exact ⟨by rw [(restV_get s0 j ix s2).1 hx]; exact q, rfl⟩
/-- the end of a turn -/
theorem Step.wipe (S : Step Tb K O (wipeV ix s0) (L2.wipe σ ix) H s2 σ2 H2) (e : L2.wipe σ2 ix = L2.wipe σ ix) (h2 : ix.all (fun j => flatS s2[j]?) = true) : Step Tb K O (wipeV ix s0) (L2.wipe σ ix) H (wipeV ix s2) (L2.wipe σ ix) H2 := by
  have F2 := S.fr.wipe h2
  rw [e] at F2
  refine ⟨F2, S.keep, fun a ⟨j, z⟩ => S.new a ⟨j, ?_⟩, fun a ⟨j, z⟩ => S.mnew a ⟨j, ?_⟩, S.dom, rfl, fun j c hj => ?_, fun j c hj => ?_⟩
  · rw [← e] at z; exact (own_wipe h2 j a).mp z
  · rw [← e] at z; exact (mut_wipe h2 j a).mp z
  · obtain ⟨⟨c', q⟩, e2⟩ := S.io j c hj
    have hx : j ∉ ix := fun z => (flat_no (flat_all h2 z) c').2.1 q
    exact ⟨⟨c', by rw [(wipeV_get j ix s2).1 hx]; exact q⟩, rfl⟩
  · obtain ⟨q, e2⟩ := S.lk j c hj
    have hx : j ∉ ix := fun z => (flat_no (flat_all h2 z) c).2.2 q
    exact ⟨by rw [(wipeV_get j ix s2).1 hx]; exact q, rfl⟩
end
/-- nothing is let out of a comprehension -/
abbrev W0 : WX := fun _ _ _ _ => False
/-- the turns: acc what is made so far -/
def vLcL (ix : List Nat) (gt : Da → VM Unit) (tt : VM Bool) (te : VM EV) : List Da → List Da → VM (List Da)
  | [], acc => vr acc
  | x :: xs, acc => vb (gt x) fun _ => vb tt fun b => if b = true then vb te fun r => vb (vOpt (evD r)) fun y => if acc.length < 16777216 then vb (vWipe ix) fun _ => vLcL ix gt tt te xs (acc ++ [y]) else vStuck
      else vb (vWipe ix) fun _ => vLcL ix gt tt te xs acc
def vLc (ix : List Nat) (fi : VM (List Da × Lks)) (gt : Da → VM Unit) (tt : VM Bool) (te : VM EV) : VM EV := vb fi fun p => fun s =>
  if ix.all (fun j => flatS s[j]?) = true then
    match vLcL ix gt tt te p.1 [] (wipeV ix s) with
    | .ok (ys, s2) => .ok (.own (.l ys), unlock p.2 (restV s ix s2))
    | .error _ => .error .stuck
  else .error .stuck
def vTT (Tb : List (Addr × Str)) (K : PySem.W.Frag) (mg : Str → Option Value) (W : WX) (f : VM Bool) : TT := tVT Tb K mg W f
theorem PTs.wk {X : Cx} {e : List Expr} {t t' : TT} (h : PTs X e t) (w : ∀ σ H Q, t' σ H Q → t σ H Q) : PTs X e t' := ⟨fun pins s σ H Q I q => h.run pins s σ H Q I (w σ H Q q)⟩
abbrev VTs (Tb : List (Addr × Str)) (X : Cx) (W : WX) (es : List Expr) (f : VM Bool) : Prop := PTs X es (tVT Tb X.K X.mg W f)
theorem vts_nil {X : Cx} {W : WX} : VTs Tb X W [] (vr true) := PTs.wk pts_nil fun σ H Q ⟨O, st, F, h⟩ => h H (Step.refl F)
theorem vts_one {X : Cx} {W : WX} {e : Expr} {f : VM Bool} (h : VT Tb X W e f) : VTs Tb X W [e] f := pts_one h
section
variable {X : Cx} {W : WX} {elt tg iter : Expr} {ifs : List Expr} {scope : Scope} {own : List (Str × Nat)} {pos : Pos} {fi : VM (List Da × Lks)} {f : Da → VM Unit} {tt : VM Bool} {te : VM EV}
/-- what a comprehension reads -/
theorem lc_wk {ix : List Nat} {σ : L2.St} {H : Hp} {Q : VK} (h : tV Tb X.K X.mg W (vLc ix fi f tt te) σ H Q) :
    tLc (tVI Tb X.K X.mg W fi) (gVD Tb X.K ix f) (tVT Tb X.K X.mg W0 tt) (tV Tb X.K X.mg W0 te) ix σ H Q := by
  obtain ⟨O, st, F, h⟩ := h
  refine ⟨O, st, F, (vrun_vb h).mono fun p s1 q J H1 s0 S0 lk jv D hD => ?_⟩
  obtain ⟨xs, L⟩ := p
  dsimp only at q lk jv
  by_cases fl : ix.all (fun j => flatS s1[j]?) = true
  · rw [if_pos fl] at q
    have F1 := lk.fr S0.fr
    have FD : FR Tb X.K (O.with D) s1 σ (upd H1 D (.lst [])) := F1.away hD (Same.upd hD) (by rw [upd_same]; exact fun z => nomatch z)
    have FW := FD.wipe fl
    -- the turns from a state on
    let Res := fun (rest acc : List Da) (s : VS) => ∃ ys s2, vLcL ix f tt te rest acc s = .ok (ys, s2) ∧ (∀ v H', Step Tb X.K O st σ H (unlock L (restV s1 ix s2)) σ H' → ER Tb X.K O H (unlock L (restV s1 ix s2)) σ H' v (.own (.l ys)) → Q v H')
    have res0 : Res xs [] (wipeV ix s1) := by
      cases e : vLcL ix f tt te xs [] (wipeV ix s1) with
      | error er => rw [e] at q; exact q.elim
      | ok p => obtain ⟨ys, s2⟩ := p; rw [e] at q; exact ⟨ys, s2, e, q⟩
    -- data and locks at a turn
    have pres : ∀ {s' : VS} {σ' : L2.St} {H' : Hp}, Step Tb X.K (O.with D) (wipeV ix s1) (wipe σ ix) H1 s' σ' H' → Pres X.K O s1 σ H1 (O.with D) s' σ' H' := fun S => by
      refine ⟨fun d v h => S.rp (Rp.mono (fun a z => ?_) (fun a o e _ _ => e) _ _ h), fun i c p hi e => ?_⟩
      · rcases z with (z | z) | ⟨j, z⟩
        · exact .inl (.inl z)
        · exact .inr (by rw [z]; exact hD)
        · exact .inl (.inr ⟨j, (own_wipe fl j a).mp z⟩)
      · have hx : i ∉ ix := fun z => (flat_no (flat_all fl z) c).2.2 hi
        obtain ⟨h2, e2⟩ := S.lk i c (by rw [(wipeV_get i ix s1).1 hx]; exact hi)
        obtain ⟨v, ev, q, eq, C⟩ := S.fr.slot i _ h2
        rw [e2, wipe_get i ix σ hx, e] at ev; cases ev; cases eq
        exact C
    refine ⟨fun i m H' => i + m = xs.length ∧ ∃ acc s', ∃ ws, Step Tb X.K (O.with D) (wipeV ix s1) (wipe σ ix) H1 s' (wipe σ ix) H' ∧ ix.all (fun j => flatS s'[j]?) = true ∧
        H' D = some (.lst ws) ∧ RpL X.K (Av (O.with D) s' (wipe σ ix)) H' acc ws ∧ Res (xs.drop i) acc s', ⟨xs.length, by omega, [], wipeV ix s1, [], ⟨FW, fun a o e _ _ => Same.upd hD a o e, fun _ h => .inl h, fun _ h => .inl h, fun a h => Same.free (Same.upd hD) h, rfl, fun _ c h => ⟨⟨c, h⟩, rfl⟩, fun _ _ h => ⟨h, rfl⟩⟩, ?_, upd_same, .nil, res0⟩, ?_⟩
    · refine List.all_eq_true.mpr fun j hj => ?_
      cases e : (wipeV ix s1)[j]? with
      | none => rfl
      | some sv => rw [(wipeV_get j ix s1).2 hj sv e]; rfl
    · rintro i m H' ⟨em, acc, s', ws, S, fl', hHD, R, ys, s2, er, fin⟩
      obtain ⟨jgo, jst⟩ := jv _ _ _ _ (pres S)
      cases ed : xs.drop i with
      | nil =>
        have hl : xs.length ≤ i := List.drop_eq_nil_iff.mp ed
        rw [ed] at er
        cases er
        obtain ⟨SR, FRD, ownR⟩ := Step.rest F1 fl hD S fl'
        refine .inl ⟨jst i hl, ?_⟩
        have St := (lk.step S0.fr SR).1
        refine fin (.ref D) H' (S0.trans St) (LkS.er lk S0.fr SR ?_)
        refine ⟨D, rfl, S0.dom D hD, fun z => F1.odom D z hD, FRD, ws, hHD, R.sub fun a z => z.imp id fun ⟨j, z⟩ => ⟨j, (ownR j a).mp z⟩⟩
      | cons x rest =>
        obtain ⟨ex, er'⟩ := drop_cons ed
        have hlt : i < xs.length := by
          by_cases hl : i < xs.length
          · exact hl
          · rw [List.getElem?_eq_none (by omega)] at ex; cases ex
        obtain ⟨go, yl⟩ := jgo i x ex
        rw [ed] at er
        refine .inr ⟨go, fun H2 => (i + 1) + (m - 1) = xs.length ∧ ∃ acc s', ∃ ws, Step Tb X.K (O.with D) (wipeV ix s1) (wipe σ ix) H1 s' (wipe σ ix) H2 ∧ ix.all (fun j => flatS s'[j]?) = true ∧
          H2 D = some (.lst ws) ∧ RpL X.K (Av (O.with D) s' (wipe σ ix)) H2 acc ws ∧ Res (xs.drop (i + 1)) acc s', fun H2 z => ⟨m - 1, by omega, z⟩, fun v H2 hy => ?_⟩
        obtain ⟨sm, rp⟩ := yl v H2 hy
        have Se := Step.ext S.fr sm
        have rp' := rp S.fr.avdom
        -- what a turn comes to, as a run in which nothing raises
        have er : vb (f x) (fun _ => vb tt fun b => if b = true then vb te fun r => vb (vOpt (evD r)) fun y => if acc.length < 16777216 then vb (vWipe ix) fun _ => vLcL ix f tt te rest (acc ++ [y]) else vStuck
          else vb (vWipe ix) fun _ => vLcL ix f tt te rest acc) s' = .ok (ys, s2) := er
        refine ⟨O.with D, s', x, Se.fr, rp', ?_⟩
        unfold vb at er
        cases eg : f x s' with
        | error e => rw [eg] at er; cases er
        | ok pr =>
          obtain ⟨_, s3⟩ := pr
          rw [eg] at er
          refine fun σ3 H3 S3 agree => ?_
          have T3 := (S.trans Se).trans S3
          have ew : wipe σ3 ix = wipe σ ix := by
            apply List.ext_getElem?
            intro j
            by_cases hj : j ∈ ix
            · have l3 : σ3.length = σ.length := by rw [T3.len, wipe_length]
              have n1 : ∀ (τ : L2.St), j < τ.length → (wipe τ ix)[j]? = some none := fun τ hl => by
                have : ∀ (ix : List Nat), j ∈ ix → (wipe τ ix)[j]? = some none := by
                  intro ix
                  induction ix with
                  | nil => intro h; cases h
                  | cons k ix ih =>
                    intro h
                    show ((wipe τ ix).set k none)[j]? = _
                    by_cases e : j = k
                    · subst e; rw [List.getElem?_set_self (by rw [wipe_length]; exact hl)]
                    · rw [List.getElem?_set_ne (Ne.symm e)]; exact ih ((List.mem_cons.mp h).resolve_left e)
                exact this ix hj
              by_cases hl : j < σ.length
              · rw [n1 σ3 (by rw [l3]; exact hl), n1 σ hl]
              · rw [List.getElem?_eq_none (by rw [wipe_length]; omega), List.getElem?_eq_none (by rw [wipe_length]; omega)]
            · rw [wipe_get j ix σ3 hj, agree j hj]
          refine ⟨ew, O.with D, s3, T3.fr, ?_⟩
          dsimp only at er
          cases et : tt s3 with
          | error e => rw [et] at er; cases er
          | ok pr =>
            obtain ⟨b, s4⟩ := pr
            rw [et] at er
            refine fun H4 S4 => ?_
            have T4 := T3.trans S4
            have hH4 : ∀ {H5 : Hp} {s5 : VS}, Step Tb X.K (O.with D) s' (wipe σ ix) H' s5 σ3 H5 → H5 D = some (.lst ws) := fun T => T.keep D _ hHD (fun _ z => nomatch z) fun z => S.fr.avoid D z.own (.inr rfl)
            cases b with
            | false =>
              refine iteF ?_
              have er : vb (vWipe ix) (fun _ => vLcL ix f tt te rest acc) s4 = .ok (ys, s2) := er
              unfold vb vWipe at er
              by_cases fl4 : ix.all (fun j => flatS s4[j]?) = true
              · rw [if_pos fl4] at er
                have U := (Se.trans S3).trans S4
                refine ⟨by omega, acc, wipeV ix s4, ws, Step.wipe T4 ew fl4, ?_, hH4 U, ?_, ys, s2, by rw [er']; exact er, fin⟩
                · refine List.all_eq_true.mpr fun j hj => ?_
                  cases e : (wipeV ix s4)[j]? with
                  | none => rfl
                  | some sv => rw [(wipeV_get j ix s4).2 hj sv e]; rfl
                · rw [← ew]
                  exact (U.rpl R).sub fun a z => z.imp id fun ⟨j, z⟩ => ⟨j, (own_wipe fl4 j a).mp z⟩
              · rw [if_neg fl4] at er; cases er
            | true =>
              refine iteT ⟨O.with D, s4, T4.fr, ?_⟩
              have er : vb te (fun r => vb (vOpt (evD r)) fun y => if acc.length < 16777216 then vb (vWipe ix) fun _ => vLcL ix f tt te rest (acc ++ [y]) else vStuck) s4 = .ok (ys, s2) := er
              unfold vb at er
              cases ee : te s4 with
              | error e => rw [ee] at er; cases er
              | ok pr =>
                obtain ⟨r, s5⟩ := pr
                rw [ee] at er
                dsimp only at er
                refine fun y H5 S5 E5 => ?_
                have T5 := T4.trans S5
                have U := ((Se.trans S3).trans S4).trans S5
                have hD5 := hH4 U
                cases ev : evD r with
                | none => rw [ev] at er; cases er
                | some yd =>
                  rw [ev] at er
                  have Ry := E5.evD ev
                  have er : (if acc.length < 16777216 then vb (vWipe ix) fun _ => vLcL ix f tt te rest (acc ++ [yd]) else vStuck) s5 = .ok (ys, s2) := er
                  by_cases hc : acc.length < 16777216
                  · rw [if_pos hc] at er
                    unfold vb vWipe at er
                    by_cases fl5 : ix.all (fun j => flatS s5[j]?) = true
                    · rw [if_pos fl5] at er
                      refine ⟨ws, hD5, cap_lt R.length hc, ?_⟩
                      -- the new list grows
                      have R5 := U.rpl R
                      have avD : ∀ {s : VS} {τ : L2.St}, Av (O.with D) s τ D := fun {_ _} => .inl (.inr rfl)
                      have grow : ∀ a o, H5 a = some o → NTb o → ¬ Av (O.with D) s5 σ3 a → upd H5 D (.lst (ws ++ [y])) a = some o := fun a o e _ n => by rw [upd_ne fun z => n (by rw [z]; exact avD)]; exact e
                      have FG : FR Tb X.K (O.with D) s5 σ3 (upd H5 D (.lst (ws ++ [y]))) := by
                        refine ⟨T5.fr.len, fun j sv hj => ?_, T5.fr.inj, T5.fr.avoid, fun p hp z => ?_, tabs_upd T5.fr.tabs fun u e => .inl ⟨ws, by rw [hH4 U] at e; exact (Option.some.inj e).symm⟩⟩
                        · obtain ⟨v, ev, sl⟩ := T5.fr.slot j sv hj
                          refine ⟨v, ev, ?_⟩
                          have own1 : ∀ p c, OwnAt s5 σ3 j p → Cont X.K (Av (O.with D) s5 σ3) H5 p c → Cont X.K (Av (O.with D) s5 σ3) (upd H5 D (.lst (ws ++ [y]))) p c := fun p c hp C =>
                            C.mono (fun _ z => .inl z) grow (upd_ne fun z => T5.fr.avoid p ⟨j, hp⟩ (.inr z))
                          cases sv with
                          | un => trivial
                          | d x => obtain ⟨w, ew, R⟩ := sl; exact ⟨w, ew, Rp.mono (fun _ z => .inl z) grow _ _ R⟩
                          | own c => obtain ⟨p, ep, C⟩ := sl; subst ep; exact ⟨p, rfl, own1 p c ⟨ev, c, .inl hj⟩ C⟩
                          | io c => obtain ⟨p, ep, C⟩ := sl; subst ep; exact ⟨p, rfl, own1 p c ⟨ev, c, .inr (.inl hj)⟩ C⟩
                          | lk c => obtain ⟨p, ep, C⟩ := sl; subst ep; exact ⟨p, rfl, own1 p c ⟨ev, c, .inr (.inr hj)⟩ C⟩
                          | rd xs => obtain ⟨a, vs, ep, R, Rl⟩ := sl; exact ⟨a, vs, ep, R.mono (fun _ z => .inl z) grow, RpL.mono (fun _ z => .inl z) grow _ _ Rl⟩
                        · by_cases e : p = D
                          · rw [e, upd_same] at z; cases z
                          · rw [upd_ne e] at z; exact T5.fr.odom p hp z
                      have T6 : Step Tb X.K (O.with D) (wipeV ix s1) (wipe σ ix) H1 s5 σ3 (upd H5 D (.lst (ws ++ [y]))) :=
                        ⟨FG, fun a o e t n => by rw [upd_ne (ne_of_none e hD)]; exact T5.keep a o e t n, T5.new, T5.mnew, fun a z => by
                          by_cases e : a = D
                          · rw [e]; exact hD
                          · rw [upd_ne e] at z; exact T5.dom a z, T5.len, T5.io, T5.lk⟩
                      have R6 : RpL X.K (Av (O.with D) s5 σ3) (upd H5 D (.lst (ws ++ [y]))) (acc ++ [yd]) (ws ++ [y]) := RpL.mono (fun _ z => .inl z) grow _ _ (R5.append (.one Ry))
                      refine ⟨by omega, acc ++ [yd], wipeV ix s5, ws ++ [y], Step.wipe T6 ew fl5, ?_, upd_same, ?_, ys, s2, by rw [er']; exact er, fin⟩
                      · refine List.all_eq_true.mpr fun j hj => ?_
                        cases e : (wipeV ix s5)[j]? with
                        | none => rfl
                        | some sv => rw [(wipeV_get j ix s5).2 hj sv e]; rfl
                      · rw [← ew]
                        exact R6.sub fun a z => z.imp id fun ⟨j, z⟩ => ⟨j, (own_wipe fl5 j a).mp z⟩
                    · rw [if_neg fl5] at er; cases er
                  · rw [if_neg hc] at er; cases er
  · rw [if_neg fl] at q; exact q.elim
/-- [elt for target in iter if ..] -/
theorem ve_lc {k : Nat} (c : VC X W k) (hi : VI Tb X W tg iter fi) (ok : BlkOk X.N X.env.scope scope own)
    (hg : ∀ (s : Shared) (H : Hp) (C : Addr) (cl : List (Str × Addr)) (fp : List Addr), VGD Tb (X.blk s H scope (compEnvC scope cl C X.env) fp) (own.map (·.2)) tg f)
    (ht : ∀ (s : Shared) (H : Hp) (C : Addr) (cl : List (Str × Addr)) (fp : List Addr), VC (X.blk s H scope (compEnvC scope cl C X.env) fp) W0 k → VTs Tb (X.blk s H scope (compEnvC scope cl C X.env) fp) W0 ifs tt)
    (he : ∀ (s : Shared) (H : Hp) (C : Addr) (cl : List (Str × Addr)) (fp : List Addr), VC (X.blk s H scope (compEnvC scope cl C X.env) fp) W0 k → VE Tb (X.blk s H scope (compEnvC scope cl C X.env) fp) W0 elt te) (hs : ∀ x, foldedSetIterable iter X.env x = pure x := by intro _; rfl) :
    VE Tb X W (.ListComp elt [⟨tg, iter, ifs, 0⟩] scope pos) (vLc (own.map (·.2)) fi f tt te) := by
  have cb : ∀ (s : Shared) (H : Hp) (C : Addr) (cl : List (Str × Addr)) (fp : List Addr), VC (X.blk s H scope (compEnvC scope cl C X.env) fp) W0 k := fun s H C cl fp => ⟨c.calm, c.nd, takes0, c.rm⟩
  exact PE.wk (pe_lc c.calm c.nd hi ok hg (fun s H C cl fp => ht s H C cl fp (cb s H C cl fp)) (fun s H C cl fp => he s H C cl fp (cb s H C cl fp)) hs) fun σ H Q h => lc_wk h
end
end VL
set_option Elab.async false
set_option linter.all false
set_option maxRecDepth 100000
namespace VL
open PySem PySem.Spec PyProof.Rows L2
/-! ### enumerate, zip, reversed of lists and tuples -/
def Sq (k : Bool) (K : PySem.W.Frag) (H : Hp) (a : Addr) (xs : List V) : Prop := if k = true then SqL K H a xs else SqT K H a xs
def ItAt (k : Bool) (h : Heap) (it a : Addr) (i : Nat) : Prop := if k = true then h.IsListIter it a i else h.IsTupleIter it a i
def SqH (k : Bool) (h : Heap) (a : Addr) (items : Array Value) : Prop := if k = true then h.IsList a items else h.IsTuple a items
def itObj (k : Bool) (a : Addr) : Obj := if k = true then { cls := .type "list_iterator", data := .fields #[.ref a, .int 0 0] } else { cls := .type "tuple_iterator", data := .fields #[.ref a, .int 0 0] }
theorem sq_draws {prog : Program} {w : World} {A : Around} (hh : A.handled = none) (k : Bool) (it a : Addr) (hne : a ≠ it) (items : Array Value) :
    Draws prog w A it [it, a] items.size (fun i v => items[i]? = some v) (fun i h => ItAt k h it a i ∧ SqH k h a items) := by
  cases k with
  | true => exact Draws.list hh it a hne items
  | false => exact Draws.tuple hh it a hne items
theorem sq_begins (k : Bool) (a : Addr) (items : Array Value) : Begins (.ref a) (itObj k a) (fun h => SqH k h a items) := by
  cases k with
  | true => exact begins_list a items
  | false => exact begins_tuple a items
theorem itAt_new {k : Bool} {h : Heap} {it a : Addr} (e : h.get? it = some (itObj k a)) : ItAt k h it a 0 := by
  cases k with
  | true => exact ⟨_, e, rfl, rfl⟩
  | false => exact ⟨_, e, rfl, rfl⟩
theorem ItAt.obj {k : Bool} {h : Heap} {it a : Addr} {i : Nat} (e : ItAt k h it a i) : ∃ o, h.get? it = some o ∧ ∀ v, o.data ≠ .cell v := by
  cases k with
  | true => obtain ⟨o, e, c, d⟩ := (show h.IsListIter it a i from e); exact ⟨o, e, fun v z => by rw [d] at z; cases z⟩
  | false => obtain ⟨o, e, c, d⟩ := (show h.IsTupleIter it a i from e); exact ⟨o, e, fun v z => by rw [d] at z; cases z⟩
theorem ItAt.at {k : Bool} {h h' : Heap} {it a : Addr} {i : Nat} (e : ItAt k h it a i) (q : ∀ o, h.get? it = some o → h'.get? it = some o) : ItAt k h' it a i := by
  cases k with
  | true => exact (show h.IsListIter it a i from e).at q
  | false => exact (show h.IsTupleIter it a i from e).at q
section
variable {X : Cx} {pins : List (Addr × Obj)} {σ : L2.St} {H : Hp} {s : Shared}
theorem Inv.sq {k : Bool} {a : Addr} {xs : List V} (I : Inv X pins σ H s) (h : Sq k X.K H a xs) : ∃ its : List Value, Vals xs its ∧ SqH k s.heap a its.toArray ∧ a < s.heap.objs.size := by
  cases k with
  | true => obtain ⟨its, r, p, _⟩ := I.list h; exact ⟨its, r, p.isList, p.lt⟩
  | false => obtain ⟨its, r, p, _⟩ := I.tuple h; exact ⟨its, r, p, by obtain ⟨o, e, _⟩ := id p; exact Heap.lt_size e⟩
end
/-- each item with its count in a new pair -/
def ItE (K : PySem.W.Frag) (k : Bool) (a : Addr) (c : Int) (n : Nat) : It :=
  ⟨fun i H => i < n ∧ ∃ (xs : List V) (x : V), Sq k K H a xs ∧ xs[i]? = some x, fun i H v H' => ∃ T x, v = .ref T ∧ H T = none ∧ H' = upd H T (.tup [.int (c + (i : Int)), x]) ∧ ∀ xs, Sq k K H a xs → xs[i]? = some x, fun i H => n ≤ i ∧ ∃ xs : List V, Sq k K H a xs ∧ xs.length = n⟩
set_option maxHeartbeats 1000000 in
/-- enumerate(xs) -/
def iEnumS (K : PySem.W.Frag) (ta : TA) : TI := fun σ H R => ta σ H fun vs H1 => ∃ k a xs, vs = [.ref a] ∧ Sq k K H1 a xs ∧ R (ItE K k a 0 xs.length) H1
/-- pairs of the items of two -/
def ItZ (K : PySem.W.Frag) (k : Bool) (a : Addr) (k2 : Bool) (b : Addr) (n : Nat) : It :=
  ⟨fun i H => i < n ∧ ∃ (xs ys : List V) (x y : V), Sq k K H a xs ∧ Sq k2 K H b ys ∧ xs[i]? = some x ∧ ys[i]? = some y,
    fun i H v H' => ∃ T x y, v = .ref T ∧ H T = none ∧ H' = upd H T (.tup [x, y]) ∧ (∀ xs, Sq k K H a xs → xs[i]? = some x) ∧ ∀ ys, Sq k2 K H b ys → ys[i]? = some y,
    fun i H => n ≤ i ∧ ∃ xs ys : List V, Sq k K H a xs ∧ Sq k2 K H b ys ∧ n = min xs.length ys.length⟩
theorem sep2_new (I a b : Nat) (h1 : a < I) (h2 : b < I) : ZipSep2 (I + 4) (I + 2) (I + 3) I (I + 1) [I, a] [I + 1, b] := by
  have n1 : ∀ j, ¬ (I + j = a) := fun j e => Nat.lt_irrefl _ (Nat.lt_of_le_of_lt (Nat.le_add_right I j) (by rw [e]; exact h1))
  have n2 : ∀ j, ¬ (I + j = b) := fun j e => Nat.lt_irrefl _ (Nat.lt_of_le_of_lt (Nat.le_add_right I j) (by rw [e]; exact h2))
  have q1 : ¬ (I = b) := n2 0
  constructor <;> simp <;> first
    | omega
    | exact n1 _
    | exact n2 _
    | (refine ⟨?_, ?_⟩ <;> first | exact n1 _ | exact n2 _ | exact q1 | omega)
def iZipS (K : PySem.W.Frag) (ta : TA) : TI := fun σ H R => ta σ H fun vs H1 => ∃ k a xs k2 b ys, vs = [.ref a, .ref b] ∧ Sq k K H1 a xs ∧ Sq k2 K H1 b ys ∧ R (ItZ K k a k2 b (min xs.length ys.length)) H1
/-! their readings -/
/-- a list or tuple that stands as long as the frame lives on -/
def Src (K : PySem.W.Frag) (O : AS) (s : VS) (σ : L2.St) (H : Hp) (k : Bool) (a : Addr) (xs : List Da) : Prop := ∀ O' s' σ' H', Pres K O s σ H O' s' σ' H' → ∃ vs, RpL K (Av O' s' σ') H' xs vs ∧ Sq k K H' a vs
theorem Src.of {K : PySem.W.Frag} {O : AS} {s : VS} {σ : L2.St} {H : Hp} {a : Addr} {xs : List Da} (h : SrcL K O s σ H a xs ∨ SrcT K O s σ H a xs) : ∃ k, Src K O s σ H k a xs := by
  rcases h with h | h
  · exact ⟨true, fun O' s' σ' H' P => h.get P⟩
  · refine ⟨false, fun O' s' σ' H' P => ?_⟩
    obtain ⟨a', vs, e, g, R⟩ := (P.rp _ _ h).tupT
    cases e
    exact ⟨vs, R, g⟩
theorem Rp.pair {K : PySem.W.Frag} {O : AS} {H : Hp} {T : Addr} {v w : V} {x y : Da} (hn : H T = none) (hav : ∀ a, O a → H a ≠ none) (h1 : Rp K O H x v) (h2 : Rp K O H y w) : Rp K O (upd H T (.tup [v, w])) (.tuple [x, y]) (.ref T) := by
  have k : Same H (upd H T (.tup [v, w])) := Same.upd hn
  simp only [Rp]
  refine ⟨T, [v, w], rfl, .inl ⟨upd_same, fun z => hav T z hn⟩, ?_⟩
  exact .cons (Rp.mono (fun _ h => .inl h) (fun a o e _ _ => k a o e) _ _ h1) (.one (Rp.mono (fun _ h => .inl h) (fun a o e _ _ => k a o e) _ _ h2))
def enumD (c : Int) : List Da → List Da
  | [] => []
  | x :: xs => .tuple [.int c, x] :: enumD (c + 1) xs
def zipD : List Da → List Da → List Da
  | x :: xs, y :: ys => .tuple [x, y] :: zipD xs ys
  | _, _ => []
theorem zipD_len : ∀ (xs ys : List Da), (zipD xs ys).length = min xs.length ys.length
  | [], ys => by simp [zipD]
  | x :: xs, [] => by simp [zipD]
  | x :: xs, y :: ys => by simp [zipD, zipD_len]
theorem zipD_get : ∀ {xs ys : List Da} {i : Nat} {z : Da}, (zipD xs ys)[i]? = some z → ∃ x y, xs[i]? = some x ∧ ys[i]? = some y ∧ z = .tuple [x, y]
  | [], ys, i, z, h => by simp [zipD] at h
  | x :: xs, [], i, z, h => by simp [zipD] at h
  | x :: xs, y :: ys, 0, z, h => by simp [zipD] at h; exact ⟨x, y, rfl, rfl, h.symm⟩
  | x :: xs, y :: ys, i + 1, z, h => by
    obtain ⟨u, v, e1, e2, e3⟩ := zipD_get (xs := xs) (ys := ys) (i := i) (z := z) (by simpa [zipD] using h)
    exact ⟨u, v, by simpa using e1, by simpa using e2, e3⟩
theorem Src.zip {K : PySem.W.Frag} {O : AS} {s : VS} {σ : L2.St} {H : Hp} {k k2 : Bool} {a b : Addr} {xs ys : List Da} (h : Src K O s σ H k a xs) (h2 : Src K O s σ H k2 b ys) {n : Nat} (hn : n = min xs.length ys.length) : JV K O s σ H (ItZ K k a k2 b n) (zipD xs ys) := fun O' s' σ' H' P => by
  obtain ⟨vs, R, g⟩ := h O' s' σ' H' P
  obtain ⟨ws, R2, g2⟩ := h2 O' s' σ' H' P
  subst hn
  refine ⟨fun i y hy => ?_, fun i hi => ⟨by rw [zipD_len] at hi; exact hi, vs, ws, g, g2, by rw [R.length, R2.length]⟩⟩
  have hlt : i < min xs.length ys.length := by rw [← zipD_len]; exact (List.getElem?_eq_some_iff.mp hy).1
  obtain ⟨x, y', hx, hy', rfl⟩ := zipD_get hy
  obtain ⟨w, hw, Rw⟩ := R.get hx
  obtain ⟨w2, hw2, Rw2⟩ := R2.get hy'
  refine ⟨⟨hlt, vs, ws, w, w2, g, g2, hw, hw2⟩, fun v H2 hy => ?_⟩
  obtain ⟨T, u, u2, rfl, hT, rfl, hq, hq2⟩ := hy
  have e1 := hq vs g
  have e2 := hq2 ws g2
  rw [hw] at e1; cases e1
  rw [hw2] at e2; cases e2
  exact ⟨Same.upd hT, fun hav => Rp.pair hT hav Rw Rw2⟩
theorem Src.lks {K : PySem.W.Frag} {O : AS} {s s1 : VS} {σ : L2.St} {H : Hp} {k : Bool} {a : Addr} {xs : List Da} {L : Lks} (h : Src K O s σ H k a xs) (l : LkS L s s1) (F : FR Tb K O s σ H) : Src K O s1 σ H k a xs := by
  have av : ∀ x, Av O s1 σ x ↔ Av O s σ x := fun x => ⟨fun z => z.imp id fun ⟨j, z⟩ => ⟨j, (l.own F j x).mp z⟩, fun z => z.imp id fun ⟨j, z⟩ => ⟨j, (l.own F j x).mpr z⟩⟩
  refine fun O' s' σ' H' P => h O' s' σ' H' ⟨fun d v r => P.rp d v (r.sub fun x z => (av x).mp z), fun i c p hi e => P.lk i c p (l.lks.2.2 i c hi).1 e⟩
section
variable {X : Cx} {W : WX} {a b c e e2 o tg iter : Expr} {es ts : List Expr} {pos p tpos : Pos} {elts : List Expr} {kk : Nat} {fs : VM (List EV)}
def vItEnum (fs : VM (List EV)) : VM (List Da × Lks) := vb fs fun rs => match rs with
  | [r] => vb (vSrc r) fun q => vr (enumD 0 q.1, q.2)
  | _ => vStuck
def vItZip (fs : VM (List EV)) : VM (List Da × Lks) := vb fs fun rs => match rs with
  | [r, r2] => vb (vSrc r) fun q => vb (vSrc r2) fun q2 => vr (zipD q.1 q2.1, q.2 ++ q2.2)
  | _ => vStuck
theorem LkS.trans {L1 : Lks} {s s1 : VS} (h : LkS L1 s s1) : ∀ {L2 : Lks} {s2 : VS}, LkS L2 s1 s2 → LkS (L1 ++ L2) s s2 := by
  induction h with
  | nil => exact fun h => h
  | cons e l ih => exact fun h => .cons e (ih h)
/-! reversed -/
def vItRev (fe : VM EV) : VM (List Da × Lks) := vb fe fun r => vb (vSrc r) fun q => vr (q.1.reverse, q.2)
end
end VL
set_option Elab.async false
set_option linter.all false
set_option maxRecDepth 100000
namespace VL
open PySem PySem.Spec PyProof.Rows L2
section
variable {X : Cx} {W : WX} {a b c e : Expr} {es : List Expr} {pos p : Pos} {fa fb fe : VM EV} {fs : VM (List EV)} {s : Stmt}
/-! ### what is not reached -/
/-! ### order of ints; in -/
def ordI (pi : Int → Int → Bool) : Da → Da → Option EV
  | .int i, .int j => some (.d (.bool (pi i j)))
  | _, _ => none
theorem o_ordI {f : Value → Value → Sem Value} {pi : Int → Int → Bool} (h1 : OpR X f (rI0 fun i j => .bl (pi i j))) : Op2 X f (ordI pi) := by
  refine ⟨_, h1, fun O H x y v w z Q hd hx hy e q => ?_⟩
  cases x with
  | int i =>
    cases y with
    | int j =>
      cases e
      obtain rfl := hx.int
      obtain rfl := hy.int
      exact ⟨i, j, rfl, rfl, q _ H (Same.refl H) (by show Rp _ _ _ _ _; simp only [Rp])⟩
    | _ => cases e
  | _ => cases y <;> cases e
def leD : Da → Da → Option EV := ordI fun i j => decide (i ≤ j)
def gtD : Da → Da → Option EV := ordI fun i j => decide (j < i)
def geD : Da → Da → Option EV := ordI fun i j => decide (j ≤ i)
theorem o_le : Op2 X (compareOp .LtE) leD := o_ordI op_le
theorem o_gt : Op2 X (compareOp .Gt) gtD := o_ordI op_gt
theorem o_ge : Op2 X (compareOp .GtE) geD := o_ordI op_ge
def inB (x : Da) (xs : List Da) : Bool := xs.any fun z => PyData.eqv z x
def inD' (neg : Bool) (x y : Da) : Option EV := (seqD y).bind fun xs => if SeqAt.shaped x = true ∧ SeqAt.shaped (.list xs) = true then some (.d (.bool (if neg = true then !inB x xs else inB x xs))) else none
def inD : Da → Da → Option EV := inD' false
def notinD : Da → Da → Option EV := inD' true
def rInA (K : PySem.W.Frag) (neg : Bool) : R2 := fun x y H Q => ∃ d ds, Dp K H x d ∧ (Dp K H y (.list ds) ∨ Dp K H y (.tuple ds)) ∧ SeqAt.shaped d = true ∧ SeqAt.shaped (.list ds) = true ∧ Q (.bl (if neg = true then !inB d ds else inB d ds)) H
theorem op_notinA (hu : X.A.units + 65 < cLine) : OpR X (compareOp .NotIn) (rInA X.K true) := by
  intro pins s σ H x y v u Q I rx ry h
  obtain ⟨d, ds, hd, he, sd, se, q⟩ := h
  obtain ⟨as, r1⟩ := Dp.reads I d x v hd rx
  rcases he with he | he
  · obtain ⟨bs, r2⟩ := Dp.reads I (.list ds) y u he ry
    exact SeqAt.notIn_list_reads r2 r1 (SeqAt.canLay_of_shaped se) (SeqAt.canLay_of_shaped sd) (room_in_shaped sd hu) ⟨.bl _, H, I, rfl, q⟩
  · obtain ⟨bs, r2⟩ := Dp.reads I (.tuple ds) y u he ry
    exact SeqAt.notIn_tuple_reads r2 r1 (SeqAt.canLay_of_shaped se) (SeqAt.canLay_of_shaped sd) (room_in_shaped sd hu) ⟨.bl _, H, I, rfl, q⟩
theorem o_inA {f : Value → Value → Sem Value} {neg : Bool} (h : OpR X f (rInA X.K neg)) : Op2 X f (inD' neg) := by
  refine ⟨_, h, fun O H x y v w z Q hd hx hy e q => ?_⟩
  obtain ⟨xs, e1, e⟩ := Option.bind_eq_some_iff.mp e
  split at e
  · rename_i hc
    cases e
    have cl := SeqAt.canLay_of_shaped hc.2
    refine ⟨x, xs, hx.dp (SeqAt.canLay_of_shaped hc.1), ?_, hc.1, hc.2, q _ H (Same.refl H) (by show Rp _ _ _ _ _; simp only [Rp])⟩
    cases y with
    | list ys => cases e1; exact .inl (hy.dp cl)
    | tuple ys => cases e1; exact .inr (hy.dp cl)
    | _ => cases e1
  · cases e
theorem VC.hu65 {k : Nat} (c : VC X W k) : X.A.units + 65 < cLine := by have := c.rm.un; omega
theorem o_notin {k : Nat} (c : VC X W k) : Op2 X (compareOp .NotIn) notinD := o_inA (op_notinA c.hu65)
/-! ### built-ins -/
theorem RoL.none {K : PySem.W.Frag} {O : AS} {H : Hp} {vs : List V} (h : RoL K O H [] vs) : vs = [] := by simpa only [RoL] using h
theorem CallR.or {f : Value} {r r' : List V → Hp → VK → Prop} (h : CallR X f r) (h' : CallR X f r') : CallR X f (fun xs H Q => r xs H Q ∨ r' xs H Q) := by
  intro pins s σ H xs us Q I rx q
  rcases q with q | q
  · exact h pins s σ H xs us Q I rx q
  · exact h' pins s σ H xs us Q I rx q
theorem RpD.length {K : PySem.W.Frag} {O : AS} {H : Hp} : ∀ {ds : List (Da × Da)} {ks : List (Key × V)}, RpD K O H ds ks → ds.length = ks.length
  | [], ks, h => by simp only [RpD] at h; subst h; rfl
  | (k, d) :: r, ks, h => by
    simp only [RpD] at h
    obtain ⟨_, _, _, rfl, _, _, q⟩ := h
    rw [List.length_cons, List.length_cons, RpD.length q]
def lenD : List Da → Option EV
  | [.list xs] => some (.d (.int xs.length))
  | [.tuple xs] => some (.d (.int xs.length))
  | [.str s] => if s.length ≤ 16777216 then some (.d (.int s.length)) else none
  | [.dict kvs] => if tkD (.dict kvs) = true then none else some (.d (.int kvs.length))
  | _ => none
theorem c_len : CallV X (.builtin "len") lenD := by
  refine ⟨_, CallR.or call_len call_lenD, fun O H xs vs z Q hd R e q => ?_⟩
  match xs, e, R with
  | [.list xs], e, R =>
    cases e; obtain ⟨v, rfl, r⟩ := R.one; obtain ⟨a, vs, rfl, h, r⟩ := r.list
    exact .inl ⟨_, _, rfl, .inl ⟨vs, .of h, r.length⟩, q _ H (Same.refl H) (by show Rp _ _ _ _ _; simp only [Rp])⟩
  | [.tuple xs], e, R =>
    cases e; obtain ⟨v, rfl, r⟩ := R.one; obtain ⟨a, vs, rfl, h, r⟩ := r.tupT
    exact .inl ⟨_, _, rfl, .inr ⟨vs, h, r.length⟩, q _ H (Same.refl H) (by show Rp _ _ _ _ _; simp only [Rp])⟩
  | [.str y], e, R =>
    obtain ⟨v, rfl, r⟩ := R.one; obtain rfl := r.str
    have e : (if y.length ≤ 16777216 then some (EV.d (.int y.length)) else none) = some z := e
    split at e
    · rename_i hs; cases e
      exact .inl ⟨_, _, rfl, ⟨by rw [sizeLine_eq]; exact hs, rfl⟩, q _ H (Same.refl H) (by show Rp _ _ _ _ _; simp only [Rp])⟩
    · cases e
  | [.dict xs], e, R =>
    have e : (if tkD (.dict xs) = true then none else some (EV.d (.int xs.length))) = some z := e
    split at e
    · cases e
    rename_i hk
    cases e; obtain ⟨v, rfl, r⟩ := R.one; obtain ⟨a, ks, rfl, h, r⟩ := r.dict (Bool.eq_false_iff.mpr hk)
    exact .inr ⟨_, _, rfl, h, by rw [← r.length]; exact q _ H (Same.refl H) (by show Rp _ _ _ _ _; simp only [Rp])⟩
def toIntD : List Da → Option EV
  | [.int i] => some (.d (.int i))
  | [.bool b] => some (.d (.int (if b then 1 else 0)))
  | _ => none
theorem c_int : CallV X (.type "int") toIntD := by
  refine ⟨_, call_int1, fun O H xs vs z Q hd R e q => ?_⟩
  match xs, e, R with
  | [.int i], e, R =>
    cases e; obtain ⟨v, rfl, r⟩ := R.one; obtain rfl := r.int
    exact .inl ⟨i, rfl, q _ H (Same.refl H) (by show Rp _ _ _ _ _; simp only [Rp])⟩
  | [.bool i], e, R =>
    cases e; obtain ⟨v, rfl, r⟩ := R.one; obtain rfl := r.bool
    exact .inr ⟨i, rfl, q _ H (Same.refl H) (by show Rp _ _ _ _ _; simp only [Rp])⟩
def absD : List Da → Option EV
  | [.int i] => some (.d (.int (if i < 0 then -i else i)))
  | _ => none
theorem c_abs : CallV X (.builtin "abs") absD := by
  refine ⟨_, call_abs, fun O H xs vs z Q hd R e q => ?_⟩
  match xs, e, R with
  | [.int i], e, R =>
    cases e; obtain ⟨v, rfl, r⟩ := R.one; obtain rfl := r.int
    exact ⟨i, rfl, q _ H (Same.refl H) (by show Rp _ _ _ _ _; simp only [Rp])⟩
def tupleD : List Da → Option EV
  | [.list xs] => some (.d (.tuple xs))
  | [.tuple xs] => some (.d (.tuple xs))
  | _ => none
theorem c_tuple : CallV X (.type "tuple") tupleD := by
  refine ⟨_, call_tuple_of, fun O H xs vs z Q hd R e q => ?_⟩
  match xs, e, R with
  | [.list xs], e, R =>
    cases e; obtain ⟨v, rfl, r⟩ := R.one; obtain ⟨a, vs, rfl, h, r⟩ := r.list
    exact ⟨_, vs, rfl, .inl ⟨.of h, fun l hl => q _ _ (Same.upd hl) (NR.tup hd r hl)⟩⟩
  | [.tuple xs], e, R =>
    cases e; obtain ⟨v, rfl, r⟩ := R.one
    have r0 := r.tup
    obtain ⟨a, vs, rfl, h, r⟩ := r.tupT
    exact ⟨_, vs, rfl, .inr ⟨h, q _ H (Same.refl H) r0⟩⟩
def listD : List Da → Option EV
  | [.list xs] => some (.own (.l xs))
  | [.tuple xs] => some (.own (.l xs))
  | _ => none
theorem c_list : CallV X (.type "list") listD := by
  refine ⟨_, call_list_of, fun O H xs vs z Q hd R e q => ?_⟩
  match xs, e, R with
  | [.list xs], e, R =>
    cases e; obtain ⟨v, rfl, r⟩ := R.one; obtain ⟨a, vs, rfl, h, r⟩ := r.list
    exact ⟨_, vs, rfl, .inl (.of h), fun l hl => q _ _ (Same.upd hl) (NR.lst r hl)⟩
  | [.tuple xs], e, R =>
    cases e; obtain ⟨v, rfl, r⟩ := R.one; obtain ⟨a, vs, rfl, h, r⟩ := r.tupT
    exact ⟨_, vs, rfl, .inr h, fun l hl => q _ _ (Same.upd hl) (NR.lst r hl)⟩
theorem ints_map : ∀ {ds : List Da} {ns : List Int}, ints? ds = some ns → ds = ns.map PyData.int := by
  intro ds
  induction ds with
  | nil => intro ns h; cases h; rfl
  | cons d ds ih =>
    intro ns h
    cases d with
    | int i =>
      obtain ⟨ms, e, rfl⟩ := Option.map_eq_some_iff.mp h
      rw [ih e]; rfl
    | _ => cases h
theorem Ro.listI {K : PySem.W.Frag} {O : AS} {H : Hp} {xs : List Da} {v : V} {ns : List Int} (r : Ro K O H (.list xs) v) (e : ints? xs = some ns) : ∃ a, v = .ref a ∧ SqL K H a (ns.map V.int) := by
  obtain ⟨a, vs, rfl, h, r⟩ := r.list
  rw [ints_map e] at r
  rw [r.ints] at h
  exact ⟨a, rfl, .of h⟩
def sumD : List Da → Option EV
  | [.list xs] => (ints? xs).map fun ns => .d (.int ns.sum)
  | _ => none
theorem c_sum (hc : X.calm = true) : CallV X (.builtin "sum") sumD := by
  refine ⟨_, cr_sum hc, fun O H xs vs z Q hd R e q => ?_⟩
  match xs, e, R with
  | [.list xs], e, R =>
    obtain ⟨ns, e1, rfl⟩ := Option.map_eq_some_iff.mp (show (ints? xs).map (fun ns => EV.d (.int ns.sum)) = some z from e)
    obtain ⟨v, rfl, r⟩ := R.one; obtain ⟨a, rfl, h⟩ := r.listI e1
    exact ⟨a, ns, rfl, h, q _ H (Same.refl H) (by show Rp _ _ _ _ _; simp only [Rp])⟩
/-- the greatest, the least of ints -/
def maxI : Int → List Int → Int
  | m, [] => m
  | m, n :: ns => maxI (if m < n then n else m) ns
def minI : Int → List Int → Int
  | m, [] => m
  | m, n :: ns => minI (if n < m then n else m) ns
theorem maxI_ok : ∀ (ns : List Int) (m : Int), (maxI m ns = m ∨ maxI m ns ∈ ns) ∧ m ≤ maxI m ns ∧ ∀ y ∈ ns, y ≤ maxI m ns
  | [], m => by simp [maxI]
  | n :: ns, m => by
    obtain ⟨h1, h2, h3⟩ := maxI_ok ns (if m < n then n else m)
    unfold maxI
    split at h2
    · rename_i hc
      rw [if_pos hc] at h1 h3 ⊢
      refine ⟨.inr ?_, by omega, fun y hy => ?_⟩
      · rcases h1 with h1 | h1
        · rw [h1]; simp
        · simp [h1]
      · rcases List.mem_cons.mp hy with rfl | hy
        · exact h2
        · exact h3 y hy
    · rename_i hc
      rw [if_neg hc] at h1 h3 ⊢
      refine ⟨?_, h2, fun y hy => ?_⟩
      · rcases h1 with h1 | h1
        · exact .inl h1
        · exact .inr (by simp [h1])
      · rcases List.mem_cons.mp hy with rfl | hy
        · omega
        · exact h3 y hy
theorem minI_ok : ∀ (ns : List Int) (m : Int), (minI m ns = m ∨ minI m ns ∈ ns) ∧ minI m ns ≤ m ∧ ∀ y ∈ ns, minI m ns ≤ y
  | [], m => by simp [minI]
  | n :: ns, m => by
    obtain ⟨h1, h2, h3⟩ := minI_ok ns (if n < m then n else m)
    unfold minI
    split at h2
    · rename_i hc
      rw [if_pos hc] at h1 h3 ⊢
      refine ⟨.inr ?_, by omega, fun y hy => ?_⟩
      · rcases h1 with h1 | h1
        · rw [h1]; simp
        · simp [h1]
      · rcases List.mem_cons.mp hy with rfl | hy
        · exact h2
        · exact h3 y hy
    · rename_i hc
      rw [if_neg hc] at h1 h3 ⊢
      refine ⟨?_, h2, fun y hy => ?_⟩
      · rcases h1 with h1 | h1
        · exact .inl h1
        · exact .inr (by simp [h1])
      · rcases List.mem_cons.mp hy with rfl | hy
        · omega
        · exact h3 y hy
def maxD : List Da → Option EV
  | [.list xs] => (ints? xs).bind fun ns => match ns with
    | [] => none
    | n :: ns => some (.d (.int (maxI n ns)))
  | [.int i, .int j] => some (.d (.int (if j > i then j else i)))
  | _ => none
def minD : List Da → Option EV
  | [.list xs] => (ints? xs).bind fun ns => match ns with
    | [] => none
    | n :: ns => some (.d (.int (minI n ns)))
  | [.int i, .int j] => some (.d (.int (if j < i then j else i)))
  | _ => none
theorem c_max (hc : X.calm = true) : CallV X (.builtin "max") maxD := by
  refine ⟨_, CallR.or (cr_max hc) (call_max2 hc), fun O H xs vs z Q hd R e q => ?_⟩
  match xs, e, R with
  | [.list xs], e, R =>
    obtain ⟨ns, e1, e2⟩ := Option.bind_eq_some_iff.mp (show (ints? xs).bind _ = some z from e)
    obtain ⟨v, rfl, r⟩ := R.one; obtain ⟨a, rfl, h⟩ := r.listI e1
    cases ns with
    | nil => cases e2
    | cons n ns =>
      cases e2
      refine .inl ⟨a, n :: ns, rfl, h, by simp, fun m hm hy => ?_⟩
      obtain ⟨k1, k2, k3⟩ := maxI_ok ns n
      have e : m = maxI n ns := by
        have a1 : maxI n ns ≤ m := by
          rcases k1 with k1 | k1
          · rw [k1]; exact hy n (by simp)
          · exact hy _ (by simp [k1])
        have a2 : m ≤ maxI n ns := by
          rcases List.mem_cons.mp hm with rfl | hm
          · exact k2
          · exact k3 m hm
        omega
      subst e
      exact q _ H (Same.refl H) (by show Rp _ _ _ _ _; simp only [Rp])
  | [.int i, .int j], e, R =>
    cases e
    obtain ⟨v, w, rfl, r, r'⟩ := R.two
    obtain rfl := r.int; obtain rfl := r'.int
    exact .inr ⟨i, j, rfl, q _ H (Same.refl H) (by show Rp _ _ _ _ _; simp only [Rp])⟩
theorem c_min (hc : X.calm = true) : CallV X (.builtin "min") minD := by
  refine ⟨_, CallR.or (cr_min hc) (call_min2 hc), fun O H xs vs z Q hd R e q => ?_⟩
  match xs, e, R with
  | [.list xs], e, R =>
    obtain ⟨ns, e1, e2⟩ := Option.bind_eq_some_iff.mp (show (ints? xs).bind _ = some z from e)
    obtain ⟨v, rfl, r⟩ := R.one; obtain ⟨a, rfl, h⟩ := r.listI e1
    cases ns with
    | nil => cases e2
    | cons n ns =>
      cases e2
      refine .inl ⟨a, n :: ns, rfl, h, by simp, fun m hm hy => ?_⟩
      obtain ⟨k1, k2, k3⟩ := minI_ok ns n
      have e : m = minI n ns := by
        have a1 : m ≤ minI n ns := by
          rcases k1 with k1 | k1
          · rw [k1]; exact hy n (by simp)
          · exact hy _ (by simp [k1])
        have a2 : minI n ns ≤ m := by
          rcases List.mem_cons.mp hm with rfl | hm
          · exact k2
          · exact k3 m hm
        omega
      subst e
      exact q _ H (Same.refl H) (by show Rp _ _ _ _ _; simp only [Rp])
  | [.int i, .int j], e, R =>
    cases e
    obtain ⟨v, w, rfl, r, r'⟩ := R.two
    obtain rfl := r.int; obtain rfl := r'.int
    exact .inr ⟨i, j, rfl, q _ H (Same.refl H) (by show Rp _ _ _ _ _; simp only [Rp])⟩
/-! sorted, ints -/
def insI (n : Int) : List Int → List Int
  | [] => [n]
  | m :: ms => if n ≤ m then n :: m :: ms else m :: insI n ms
def sortI : List Int → List Int
  | [] => []
  | n :: ns => insI n (sortI ns)
theorem insI_perm (n : Int) : ∀ ms : List Int, (insI n ms).Perm (n :: ms)
  | [] => .refl _
  | m :: ms => by
    unfold insI
    split
    · exact .refl _
    · exact ((insI_perm n ms).cons m).trans (.swap n m ms)
theorem insI_sorted (n : Int) : ∀ ms : List Int, ms.Pairwise (· ≤ ·) → (insI n ms).Pairwise (· ≤ ·)
  | [], _ => by simp [insI]
  | m :: ms, h => by
    have h1 := List.pairwise_cons.mp h
    unfold insI
    split
    · rename_i hc
      refine List.pairwise_cons.mpr ⟨fun y hy => ?_, h⟩
      rcases List.mem_cons.mp hy with rfl | hy
      · exact hc
      · have := h1.1 y hy; omega
    · rename_i hc
      refine List.pairwise_cons.mpr ⟨fun y hy => ?_, insI_sorted n ms h1.2⟩
      rcases List.mem_cons.mp ((insI_perm n ms).mem_iff.mp hy) with rfl | hy
      · omega
      · exact h1.1 y hy
theorem sortI_perm : ∀ ns : List Int, (sortI ns).Perm ns
  | [] => .refl _
  | n :: ns => (insI_perm n _).trans ((sortI_perm ns).cons n)
theorem sortI_sorted : ∀ ns : List Int, (sortI ns).Pairwise (· ≤ ·)
  | [] => by simp [sortI]
  | n :: ns => insI_sorted n _ (sortI_sorted ns)
theorem sorted_uniq : ∀ {xs ys : List Int}, xs.Perm ys → xs.Pairwise (· ≤ ·) → ys.Pairwise (· ≤ ·) → xs = ys := by
  intro xs
  induction xs with
  | nil => intro ys h _ _; exact (List.Perm.nil_eq h)
  | cons x xs ih =>
    intro ys h hx hy
    cases ys with
    | nil => exact absurd h.length_eq (by simp)
    | cons y ys =>
      have h1 := List.pairwise_cons.mp hx
      have h2 := List.pairwise_cons.mp hy
      have e : x = y := by
        have a1 : x ∈ y :: ys := h.mem_iff.mp (by simp)
        have a2 : y ∈ x :: xs := h.mem_iff.mpr (by simp)
        rcases List.mem_cons.mp a1 with a1 | a1
        · exact a1
        · rcases List.mem_cons.mp a2 with a2 | a2
          · exact a2.symm
          · have b1 := h2.1 x a1
            have b2 := h1.1 y a2
            omega
      subst e
      rw [ih (List.Perm.cons_inv h) h1.2 h2.2]
def sortedD : List Da → Option EV
  | [.list xs] => (ints? xs).map fun ns => .own (.l ((sortI ns).map PyData.int))
  | _ => none
/-! ### isinstance -/
inductive KT where
  | int | bool | str | list | tuple | dict
def KT.nm : KT → String
  | .int => "int"
  | .bool => "bool"
  | .str => "str"
  | .list => "list"
  | .tuple => "tuple"
  | .dict => "dict"
def tyD : Da → String
  | .none => "NoneType"
  | .bool _ => "bool"
  | .int _ => "int"
  | .str _ => "str"
  | .list _ => "list"
  | .tuple _ => "tuple"
  | .dict _ => "dict"
def isKT : KT → Da → Bool
  | .int, .int _ => true
  | .int, .bool _ => true
  | .bool, .bool _ => true
  | .str, .str _ => true
  | .list, .list _ => true
  | .tuple, .tuple _ => true
  | .dict, .dict _ => true
  | _, _ => false
def kitTab : Bool := ([KT.int, .bool, .str, .list, .tuple, .dict].all fun k => [PyData.none, .bool true, .int 0, .str ⟨#[]⟩, .list [], .tuple [], .dict []].all fun x => kitB (tyD x) k.nm == some (isKT k x))
theorem kitTab_ok : kitTab = true := by decide +kernel
theorem kit_tab (k : KT) (x : Da) (h : x ∈ [PyData.none, .bool true, .int 0, .str ⟨#[]⟩, .list [], .tuple [], .dict []]) : kitB (tyD x) k.nm = some (isKT k x) := by
  have h1 := List.all_eq_true.mp kitTab_ok k (by cases k <;> simp)
  have h2 := List.all_eq_true.mp h1 x h
  exact eq_of_beq h2
theorem kit_ok (k : KT) (x : Da) : kitB (tyD x) k.nm = some (isKT k x) := by
  cases x with
  | none => exact kit_tab k .none (by simp)
  | bool b => have := kit_tab k (.bool true) (by simp); cases k <;> exact this
  | int b => have := kit_tab k (.int 0) (by simp); cases k <;> exact this
  | str b => have := kit_tab k (.str ⟨#[]⟩) (by simp); cases k <;> exact this
  | list b => have := kit_tab k (.list []) (by simp); cases k <;> exact this
  | tuple b => have := kit_tab k (.tuple []) (by simp); cases k <;> exact this
  | dict b => have := kit_tab k (.dict []) (by simp); cases k <;> exact this
theorem tyX_of {K : PySem.W.Frag} {O : AS} {H : Hp} {x : Da} {v : V} (hk : tkD x = false) (r : Ro K O H x v) : TyX K H v (.type (tyD x)) := by
  cases x with
  | none => obtain rfl := r.none; exact .base .non
  | bool b => obtain rfl := r.bool; exact .base (.bl b)
  | int b => obtain rfl := r.int; exact .base (.int b)
  | str b => obtain rfl := r.str; exact .base (.str b)
  | list xs => obtain ⟨a, vs, rfl, h, _⟩ := r.list; exact .base (.lst h)
  | tuple xs =>
    have r := r.tup
    simp only [Rp] at r
    obtain ⟨a, vs, rfl, h, _⟩ := r
    rcases h with ⟨h, _⟩ | ⟨o, its, n, h, hc, _⟩
    · exact .base (.tup h)
    · exact .kTuple h hc
  | dict xs => obtain ⟨a, vs, rfl, h, _⟩ := r.dict hk; exact .base (.dK h)
def isiD (ks : List KT) (x : Da) : Option EV := if tkD x = true then none else some (.d (.bool (ks.any fun k => isKT k x)))
def vIsi (ks : List KT) (fe : VM EV) : VM EV := vb fe fun r => vb (vRd r) fun x => vOpt (isiD ks x)
/-- built-in types by their names -/
inductive TyNs (X : Cx) : List Expr → List KT → Prop
  | nil : TyNs X [] []
  | cons {x : Str} {p : Pos} {k : KT} {es : List Expr} {ks : List KT} (hm : X.mg x = none) (hg : Gl X x) (hv : bootBuiltins x = some (.type k.nm)) (hn : x ≠ "__name__") (hd : (x == ("__debug__" : Str)) = false)
      (hs : starEach (.Name x p :: es) X.env = (false, eval (.Name x p) X.env) :: starEach es X.env) (h : TyNs X es ks) : TyNs X (.Name x p :: es) (k :: ks)
def tTys (ks : List KT) : TA := fun σ H Q => Q (ks.map fun k => V.ty k.nm) H
theorem TyNs.pa {es : List Expr} {ks : List KT} (h : TyNs X es ks) : PA X es (tTys ks) := by
  induction h with
  | nil => exact PA.wk pa_nil fun σ H Q h => h
  | cons hm hg hv hn hd hs h ih => exact PA.wk (pa_cons (pe_bltn (v := V.ty _) hg hm hv rfl hn hd) ih hs) fun σ H Q h => h
theorem ve_isi1 {x : Str} {p2 p3 : Pos} {k : KT} (he : VE Tb X W e fe) (hm : X.mg "isinstance" = none) (hmx : X.mg x = none) (hgx : Gl X x := by rfl) (hg : Gl X "isinstance" := by rfl) (hv : bootBuiltins x = some (.type k.nm) := by decide +kernel) (hn : x ≠ "__name__" := by decide) (hd : (x == ("__debug__" : Str)) = false := by decide)
    (hs : starEach [e, .Name x p2] X.env = (false, eval e X.env) :: starEach [.Name x p2] X.env := by rfl) (hs2 : starEach [.Name x p2] X.env = (false, eval (.Name x p2) X.env) :: starEach [] X.env := by rfl) (hpl : (backTo pos (starEach [.Name x p2] X.env)).any (·.1) = false := by rfl) :
    VE Tb X W (.Call (.Name "isinstance" p3) [e, .Name x p2] [] pos) (vIsi [k] fe) := by
  refine PE.wk (pe_callB call_isi hg hm (by decide +kernel) (pa_cons he (TyNs.cons hmx hgx hv hn hd hs2 .nil).pa hs) (by decide) (by decide) hs hpl) fun σ H Q h => ?_
  obtain ⟨O, st, F, h⟩ := h
  refine tV.bind F h fun r s1 v H1 S1 E1 h => ?_
  obtain ⟨x, Rx, h⟩ := h.rd S1.fr E1
  obtain ⟨z, ez, h⟩ := h.opt1
  unfold isiD at ez
  split at ez
  · cases ez
  rename_i hk
  cases ez
  refine ⟨v, .ty k.nm, _, _, isKT k x, rfl, .ty _, tyX_of (Bool.eq_false_iff.mpr hk) Rx, kit_ty (kit_ok k x), ?_⟩
  have e : ([k].any fun k => isKT k x) = isKT k x := by simp
  rw [e] at h
  exact h _ H1 S1 (by show Rp _ _ _ _ _; simp only [Rp])
theorem kitAny_ok {K : PySem.W.Frag} (x : Da) : ∀ ks : List KT, PySem.W.kitAny K (.type (tyD x)) (ks.map fun k => Value.type k.nm) = some (ks.any fun k => isKT k x)
  | [] => rfl
  | k :: ks => by
    refine kitAny_cons (b := isKT k x) (kit_ty (kit_ok k x)) (fun h => ?_) (fun h => ?_)
    · rw [kitAny_ok x ks, List.any_cons, h, Bool.false_or]
    · rw [List.any_cons, h, Bool.true_or]
theorem paired_ty : ∀ ks : List KT, Paired ClsV (ks.map fun k => V.ty k.nm) (ks.map fun k => Value.type k.nm)
  | [] => .nil
  | k :: ks => .cons (.ty _) (paired_ty ks)
theorem ve_isiT {p2 p3 : Pos} {kk : Nat} {ks : List KT} (he : VE Tb X W e fe) (hm : X.mg "isinstance" = none) (ht : TyNs X es ks) (hl : ks.length ≤ 16777216 := by decide) (hg : Gl X "isinstance" := by rfl)
    (hs : starEach [e, .Tuple es kk p2] X.env = (false, eval e X.env) :: starEach [.Tuple es kk p2] X.env := by rfl) (hs2 : starEach [.Tuple es kk p2] X.env = (false, eval (.Tuple es kk p2) X.env) :: starEach [] X.env := by rfl) (hpl : (backTo pos (starEach [.Tuple es kk p2] X.env)).any (·.1) = false := by rfl) :
    VE Tb X W (.Call (.Name "isinstance" p3) [e, .Tuple es kk p2] [] pos) (vIsi ks fe) := by
  refine PE.wk (pe_callB call_isiT hg hm (by decide +kernel) (pa_cons he (pa_cons (pe_tup ht.pa) pa_nil hs2) hs) (by decide) (by decide) hs hpl) fun σ H Q h => ?_
  obtain ⟨O, st, F, h⟩ := h
  refine tV.bind F h fun r s1 v H1 S1 E1 h => ?_
  obtain ⟨x, Rx, h⟩ := h.rd S1.fr E1
  obtain ⟨z, ez, h⟩ := h.opt1
  unfold isiD at ez
  split at ez
  · cases ez
  rename_i hk
  cases ez
  refine ⟨by rw [List.length_map, sizeLine_eq]; exact hl, fun p hp => ?_⟩
  have k := Same.upd (o := .tup (ks.map fun k => V.ty k.nm)) hp
  have S2 := S1.trans (Step.ext S1.fr k)
  have Rx2 : Ro X.K (Av O s1 σ) (upd H1 p (.tup (ks.map fun k => V.ty k.nm))) x v := by
    rcases Rx with Rx | ⟨q, c, e1, e2, C⟩
    · exact .inl (Rp.mono (fun _ h => .inl h) (fun a o e _ _ => k a o e) _ _ Rx)
    · refine .inr ⟨q, c, e1, e2, C.mono (fun _ h => .inl h) (fun a o e _ _ => k a o e) ?_⟩
      cases e : H1 q with
      | none => exact absurd e C.there
      | some o => exact k _ _ e
  exact ⟨v, p, _, _, _, _, rfl, upd_same, paired_ty ks, tyX_of (Bool.eq_false_iff.mpr hk) Rx2, kitAny_ok x ks, h _ _ S2 (by show Rp _ _ _ _ _; simp only [Rp])⟩
end
end VL
set_option Elab.async false
set_option linter.all false
set_option maxRecDepth 100000
namespace VL
open PySem PySem.Spec PyProof.Rows L2
/-! ### list(zip(xs, ys)) -/
theorem zip_no_len : typeLookup (.type "zip") "__len__" = pure none := by rw [typeLookup_type, builtinLookup_eq_fast]; kernel_rfl
theorem zip_no_hint : typeLookup (.type "zip") "__length_hint__" = pure none := by rw [typeLookup_type, builtinLookup_eq_fast]; kernel_rfl
section
variable {prog : Program} {w : World} {A : Around} {E : Value → Shared → Prop} {s : Shared} {z TI TO i1 i2 T : Addr} {fp1 fp2 : List Addr} {n1 n2 i : Nat} {P1 P2 : Nat → Value → Prop} {St1 St2 : Nat → Heap → Prop} {a1 a2 : Value} {f : Bool} {oT : Obj}
theorem zipD2_item_held {Q : Value → Shared → Prop} (S : ZipSep2 z TI TO i1 i2 fp1 fp2) (D1 : Draws prog w A i1 fp1 n1 P1 St1) (D2 : Draws prog w A i2 fp2 n2 P2 St2)
    (hz : IsZipHeld s.heap z TI TO T f) (hT : s.heap.get? T = some oT) (hTI : IsTupOf2 s.heap TI (.ref i1) (.ref i2)) (st1 : St1 i s.heap) (st2 : St2 i s.heap) (hlt1 : i < n1) (hlt2 : i < n2)
    (hQ : ∀ x1 x2 h' tk, P1 i x1 → P2 i x2 → IsZipHeld h' z TI TO T true → St1 (i + 1) h' → St2 (i + 1) h' → IsTupOf2 h' s.heap.objs.size x1 x2 → h'.objs.size = s.heap.objs.size + 1 →
      (∀ c o, c ≠ z → c ≠ i1 → c ≠ i2 → s.heap.get? c = some o → h'.get? c = some o) → Q (.ref s.heap.objs.size) { s with heap := h', toks := tk }) :
    wpAny (model prog w) A (Builtin.«zip.__next__» ⟨[.ref z], []⟩) (fun fin s' => ∃ v, fin = .done (.ret v) ∧ Q v s') E s := by
  obtain ⟨hp, g, d, tk0, os⟩ := s
  show wpAny _ _ (field (.ref z) 2 >>= _) _ _ _
  refine wpAny_bind (wpAny_field hz rfl (x := .bool false) rfl ?_)
  show wpAny _ _ (field (.ref z) 3 >>= _) _ _ _
  refine wpAny_bind (wpAny_field hz rfl (x := .ref TI) rfl ?_)
  refine wpAny_bind (wpAny_seqItems hTI rfl ?_)
  show wpAny _ _ (Builtin.SmallTypes.ownedTupleIsFree (.ref z) >>= _) _ _ _
  refine wpAny_bind (wpAny_tupleHeld_zip hz hT fun h₁ hz₁ hs₁ => ?_)
  replace hs₁ : Heap.SameBut z hp h₁ := hs₁
  simp only [Bool.false_eq_true, if_false]
  refine wpAny_bind ?_
  rw [← Array.forIn_toList]
  simp only [List.forIn_cons, List.forIn_nil]
  refine wpAny_bind (wpAny_bind (wpAny_holding ?_))
  show wpAny _ _ (Builtin.SmallTypes.nextOf (.ref i1) >>= _) _ _ ⟨h₁, g, d, tk0, os⟩
  refine wpAny_bind (D1.item i _ _ _ hlt1 (D1.over st1 hs₁ S.zf1) fun x1 p1 tk1 hx1 sn1 hp1 => wpAny_pure ?_)
  replace hp1 : Heap.SameBut i1 h₁ p1 := hp1
  refine wpAny_pure ?_
  refine wpAny_bind (wpAny_bind (wpAny_holding ?_))
  show wpAny _ _ (Builtin.SmallTypes.nextOf (.ref i2) >>= _) _ _ ⟨p1, g, d, tk1, os⟩
  refine wpAny_bind (D2.item i _ _ _ hlt2 (D2.over (D2.over st2 hs₁ S.zf2) hp1 S.sep1_2) fun x2 p2 tk2 hx2 sn2 hp2 => wpAny_pure ?_)
  replace hp2 : Heap.SameBut i2 p1 p2 := hp2
  refine wpAny_pure (wpAny_pure ?_)
  show wpAny _ _ (newTuple [x1, x2] >>= _) _ _ ⟨p2, g, d, tk2, os⟩
  refine wpAny_bind (wpAny_newTuple ?_)
  have hsz : p2.objs.size = hp.objs.size := by rw [hp2.1, hp1.1, hs₁.1]
  have hzz : IsZipHeld p2 z TI TO T true := hp2.extBut _ _ S.zi2 (hp1.extBut _ _ S.zi1 hz₁)
  have hkk : ∀ c o, c ≠ z → c ≠ i1 → c ≠ i2 → hp.get? c = some o → p2.get? c = some o := fun c o cz c1 c2 e => hp2.extBut _ _ c2 (hp1.extBut _ _ c1 (hs₁.extBut _ _ cz e))
  have hj1 : St1 (i + 1) p2 := D1.over sn1 hp2 S.sep2_1
  refine wpAny_pure ⟨_, rfl, ?_⟩
  show Q (.ref p2.objs.size) _
  have hpn : IsTupOf2 (p2.push { cls := .type "tuple", data := .seq #[x1, x2] }) p2.objs.size x1 x2 := Heap.get?_push_size _ rfl
  have hz4 : (p2.push { cls := .type "tuple", data := .seq #[x1, x2] }).objs.size = p2.objs.size + 1 := Heap.size_push ..
  rw [hsz] at hpn hz4 ⊢
  exact hQ x1 x2 _ tk2 hx1 hx2 (Heap.get?_push_of_some _ hzz) (D1.frame _ _ _ hj1 fun b _ o e => Heap.get?_push_of_some _ e) (D2.frame _ _ _ sn2 fun b _ o e => Heap.get?_push_of_some _ e) hpn hz4
    fun c o cz c1 c2 e => Heap.get?_push_of_some _ (hkk c o cz c1 c2 e)
theorem zipD2_end_held {Q : Fin → Shared → Prop} (S : ZipSep2 z TI TO i1 i2 fp1 fp2) (D1 : Draws prog w A i1 fp1 n1 P1 St1) (D2 : Draws prog w A i2 fp2 n2 P2 St2)
    (hz : IsZipHeld s.heap z TI TO T f) (hT : s.heap.get? T = some oT) (hTI : IsTupOf2 s.heap TI (.ref i1) (.ref i2)) (st1 : St1 i s.heap) (st2 : St2 i s.heap) (hle1 : i ≤ n1) (hle2 : i ≤ n2) (hend : i = n1 ∨ i = n2)
    (hE : ∀ h' tk e, (∀ c o, c ≠ z → c ≠ i1 → c ≠ i2 → s.heap.get? c = some o → h'.get? c = some o) → (∃ o, h'.get? e = some o ∧ o.cls = .type "StopIteration") → E (.ref e) { s with heap := h', toks := tk }) :
    wpAny (model prog w) A (Builtin.«zip.__next__» ⟨[.ref z], []⟩) Q E s := by
  obtain ⟨hp, g, d, tk0, os⟩ := s
  show wpAny _ _ (field (.ref z) 2 >>= _) _ _ _
  refine wpAny_bind (wpAny_field hz rfl (x := .bool false) rfl ?_)
  show wpAny _ _ (field (.ref z) 3 >>= _) _ _ _
  refine wpAny_bind (wpAny_field hz rfl (x := .ref TI) rfl ?_)
  refine wpAny_bind (wpAny_seqItems hTI rfl ?_)
  show wpAny _ _ (Builtin.SmallTypes.ownedTupleIsFree (.ref z) >>= _) _ _ _
  refine wpAny_bind (wpAny_tupleHeld_zip hz hT fun h₁ hz₁ hs₁ => ?_)
  replace hs₁ : Heap.SameBut z hp h₁ := hs₁
  simp only [Bool.false_eq_true, if_false]
  refine wpAny_bind ?_
  rw [← Array.forIn_toList]
  simp only [List.forIn_cons, List.forIn_nil]
  refine wpAny_bind (wpAny_bind (wpAny_holding ?_))
  show wpAny _ _ (Builtin.SmallTypes.nextOf (.ref i1) >>= _) _ _ ⟨h₁, g, d, tk0, os⟩
  by_cases hlt1 : i < n1
  · refine wpAny_bind (D1.item i _ _ _ hlt1 (D1.over st1 hs₁ S.zf1) fun x1 p1 tk1 hx1 sn1 hp1 => wpAny_pure ?_)
    replace hp1 : Heap.SameBut i1 h₁ p1 := hp1
    have hi2 : i = n2 := by omega
    refine wpAny_pure ?_
    refine wpAny_bind (wpAny_bind (wpAny_holding ?_))
    show wpAny _ _ (Builtin.SmallTypes.nextOf (.ref i2) >>= _) _ _ ⟨p1, g, d, tk1, os⟩
    refine wpAny_bind (D2.done ⟨p1, g, d, tk1, os⟩ _ _ (by rw [← hi2]; exact D2.over (D2.over st2 hs₁ S.zf2) hp1 S.sep1_2) fun q e hq he => ?_)
    replace hq : Heap.ExtBut i2 p1 q := hq
    exact hE q tk1 e (fun c o cz c1 c2 x => hq _ _ c2 (hp1.extBut _ _ c1 (hs₁.extBut _ _ cz x))) he
  · have hi1 : i = n1 := by omega
    refine wpAny_bind (D1.done ⟨h₁, g, d, tk0, os⟩ _ _ (by rw [← hi1]; exact D1.over st1 hs₁ S.zf1) fun q e hq he => ?_)
    replace hq : Heap.ExtBut i1 h₁ q := hq
    exact hE q tk0 e (fun c o cz c1 c2 x => hq _ _ c1 (hs₁.extBut _ _ cz x)) he
theorem next_zip_held {Q : Option Value → Shared → Prop} (S : ZipSep2 z TI TO i1 i2 fp1 fp2) (D1 : Draws prog w A.in1 i1 fp1 n1 P1 St1) (D2 : Draws prog w A.in1 i2 fp2 n2 P2 St2)
    (hz : IsZipHeld s.heap z TI TO T f) (hT : s.heap.get? T = some oT) (hTI : IsTupOf2 s.heap TI (.ref i1) (.ref i2)) (st1 : St1 i s.heap) (st2 : St2 i s.heap) (hlt1 : i < n1) (hlt2 : i < n2)
    (hQ : ∀ x1 x2 h' tk, P1 i x1 → P2 i x2 → IsZipHeld h' z TI TO T true → St1 (i + 1) h' → St2 (i + 1) h' → IsTupOf2 h' s.heap.objs.size x1 x2 → h'.objs.size = s.heap.objs.size + 1 →
      (∀ c o, c ≠ z → c ≠ i1 → c ≠ i2 → s.heap.get? c = some o → h'.get? c = some o) → Q (some (.ref s.heap.objs.size)) { s with heap := h', toks := tk }) :
    wpAny (model prog w) A (pyNext (.ref z)) Q E s := by
  have hTy : s.TypeIs (.ref z) "zip" := ⟨_, hz, rfl⟩
  unfold pyNext
  exact wpAny_bind (wpAny_attempt (wpAny_callSpecial?_slot (name := Str.ofString "__next__") hTy F.slot_zip_next
    (wpAny_call_entry F.slot_zip_next hTy F.entry_zip_next
      (zipD2_item_held S D1 D2 hz hT hTI st1 st2 hlt1 hlt2 fun x1 x2 h' tk y1 y2 b1 d1 d2 b5 b6 b7 => wpAny_pure (hQ x1 x2 h' tk y1 y2 b1 d1 d2 b5 b6 b7)) (F.args_zip_next_1 _))))
theorem next_zip_end_held {Q : Option Value → Shared → Prop} (S : ZipSep2 z TI TO i1 i2 fp1 fp2) (D1 : Draws prog w A.in1 i1 fp1 n1 P1 St1) (D2 : Draws prog w A.in1 i2 fp2 n2 P2 St2)
    (hz : IsZipHeld s.heap z TI TO T f) (hT : s.heap.get? T = some oT) (hTI : IsTupOf2 s.heap TI (.ref i1) (.ref i2)) (st1 : St1 i s.heap) (st2 : St2 i s.heap) (hle1 : i ≤ n1) (hle2 : i ≤ n2) (hend : i = n1 ∨ i = n2)
    (hQ : ∀ h' tk, (∀ c o, c ≠ z → c ≠ i1 → c ≠ i2 → s.heap.get? c = some o → h'.get? c = some o) → Q none { s with heap := h', toks := tk }) : wpAny (model prog w) A (pyNext (.ref z)) Q E s := by
  have hTy : s.TypeIs (.ref z) "zip" := ⟨_, hz, rfl⟩
  unfold pyNext
  refine wpAny_bind (wpAny_attempt (wpAny_callSpecial?_slot (name := Str.ofString "__next__") hTy F.slot_zip_next
    (wpAny_call_entry F.slot_zip_next hTy F.entry_zip_next (zipD2_end_held S D1 D2 hz hT hTI st1 st2 hle1 hle2 hend fun h' tk e hk he => ?_) (F.args_zip_next_1 _))))
  obtain ⟨o, ho, hc⟩ := he
  refine wpAny_bind (wpAny_isInstance (T := "StopIteration") (b := true) ⟨o, ho, hc⟩ isSubtype_stop ?_)
  exact wpAny_pure (hQ _ _ hk)
end
/-- the first i of them -/
def PrI (H00 H : Hp) (xs ys vs : List V) : Prop := ∀ (j : Nat) (v : V), vs[j]? = some v → ∃ (x y : V) (T : Addr), xs[j]? = some x ∧ ys[j]? = some y ∧ v = .ref T ∧ H T = some (.tup [x, y]) ∧ H00 T = none
section
variable {X : Cx} {pins : List (Addr × Obj)} {σ : L2.St}
/-- where the zip stands: fresh, or with the pair that it gave last -/
def ZpAt (h : Heap) (z TI TO : Addr) : Prop := (IsZip h z TI TO .none ∧ ∃ x y, IsTupOf2 h TO x y) ∨ ∃ T f oT, IsZipHeld h z TI TO T f ∧ h.get? T = some oT ∧ T ≠ z
theorem lz_loop {A : Around} (hA : A.handled = none) {k k2 : Bool} {a b z TI TO i1 i2 S : Addr} {xs ys : List V} {n : Nat} (hn : n = min xs.length ys.length) (hnl : n ≤ sizeLine) (D : ZipSep2 z TI TO i1 i2 [i1, a] [i2, b]) (ha : a ≠ i1) (hb : b ≠ i2) (hSc : S ∉ [z, TI, TO, i1, i2])
    {H00 : Hp} (hSa : S ≠ a) (hSb : S ≠ b) {R : Result → Shared → Prop} (res : Value) :
    ∀ (m i : Nat) (s : Shared) (H : Hp) (vs : List V) (us : List Value) (c : Nat), n - i = m → i ≤ n → Inv X pins σ H s → (∀ c ∈ [z, TI, TO, i1, i2], FpOk X pins H c ∧ c < s.heap.objs.size) → S < s.heap.objs.size →
      ZpAt s.heap z TI TO → IsTupOf2 s.heap TI (.ref i1) (.ref i2) → ItAt k s.heap i1 a i → ItAt k2 s.heap i2 b i → Sq k X.K H a xs → Sq k2 X.K H b ys →
      H S = some (.lst vs) → Vals vs us → s.heap.get? S = some { cls := .type "list", data := .seq us.toArray c } → vs.length = i → (∀ q, H q = none → H00 q = none) → PrI H00 H xs ys vs →
      (∀ s' H' vs', Inv X pins σ H' s' → vs'.length = n → H' S = some (.lst vs') → (∀ q o, H q = some o → q ≠ S → H' q = some o) → (∀ q, H' q = none → H q = none) → PrI H00 H' xs ys vs' → R (.ok (.ret res)) s') →
      codeAny (model X.prog X.w) A (.builtin "list.extend.loop" ⟨[.ref S, .ref z, res], []⟩) R s := by
  intro m
  induction m with
  | zero =>
    intro i s H vs us c hm hi I hf hSl hz hTI h1 h2 qa qb hS rv hSg hl hd hp hR
    have hin : i = n := by omega
    subst hin
    obtain ⟨its, rva, p, _⟩ := Inv.sq I qa
    obtain ⟨its2, rvb, p2, _⟩ := Inv.sq I qb
    have l1 := rva.length
    have l2 := rvb.length
    refine codeAny_builtin F.entry_extend_loop ?_
    rw [Around.under_plainId F.plain_extend_loop _]
    show wpAny _ A.in1 (pyNext (.ref z) >>= _) _ _ s
    refine wpAny_bind ?_
    have fin : ∀ h' tk, (∀ c o, c ≠ z → c ≠ TO → c ≠ i1 → c ≠ i2 → s.heap.get? c = some o → h'.get? c = some o) → Inv X pins σ H { s with heap := h', toks := tk } := fun h' tk hk =>
      I.turnedL (t' := tk) (ch := [z, TI, TO, i1, i2]) (fun c o hb q => hk c o (fun q' => hb (by simp [q'])) (fun q' => hb (by simp [q'])) (fun q' => hb (by simp [q'])) (fun q' => hb (by simp [q'])) q) fun c hc => (hf c hc).1
    rcases hz with ⟨hz, x, y, hTO⟩ | ⟨T, f, oT, hz, hT, _⟩
    · exact wpAny_pyNext_zipD2_end D (sq_draws (A := A.in1.in1) hA k i1 a ha its.toArray) (sq_draws (A := A.in1.in1) hA k2 i2 b hb its2.toArray) hz hTI hTO ⟨h1, p⟩ ⟨h2, p2⟩ (by simp; omega) (by simp; omega) (by simp; omega)
        fun h' tk hk => wpAny_pure (hR _ H vs (fin h' tk hk) hl hS (fun q o e _ => e) (fun q e => e) hp)
    · exact next_zip_end_held D (sq_draws (A := A.in1.in1) hA k i1 a ha its.toArray) (sq_draws (A := A.in1.in1) hA k2 i2 b hb its2.toArray) hz hT hTI ⟨h1, p⟩ ⟨h2, p2⟩ (by simp; omega) (by simp; omega) (by simp; omega)
        fun h' tk hk => wpAny_pure (hR _ H vs (fin h' tk fun c o c1 _ c3 c4 => hk c o c1 c3 c4) hl hS (fun q o e _ => e) (fun q e => e) hp)
  | succ m ih =>
    intro i s H vs us c hm hi I hf hSl hz hTI h1 h2 qa qb hS rv hSg hl hd hp hR
    have hlt : i < n := by omega
    obtain ⟨its, rva, p, _⟩ := Inv.sq I qa
    obtain ⟨its2, rvb, p2, _⟩ := Inv.sq I qb
    have l1 := rva.length
    have l2 := rvb.length
    obtain ⟨x, hx⟩ : ∃ x, xs[i]? = some x := ⟨_, List.getElem?_eq_getElem (by omega)⟩
    obtain ⟨y, hy⟩ : ∃ y, ys[i]? = some y := ⟨_, List.getElem?_eq_getElem (by omega)⟩
    obtain ⟨u, hu, ru⟩ := rva.get hx
    obtain ⟨u2, hu2, ru2⟩ := rvb.get hy
    have hzl : z < s.heap.objs.size := (hf z (by simp)).2
    refine codeAny_builtin F.entry_extend_loop ?_
    rw [Around.under_plainId F.plain_extend_loop _]
    show wpAny _ A.in1 (pyNext (.ref z) >>= _) _ _ s
    -- one turn
    have next : ∀ w1 w2 h' tk, its.toArray[i]? = some w1 → its2.toArray[i]? = some w2 → (∃ f T, IsZipHeld h' z TI TO T f ∧ T ≠ z ∧ ∃ oT, h'.get? T = some oT) → ItAt k h' i1 a (i + 1) → ItAt k2 h' i2 b (i + 1) → IsTupOf2 h' s.heap.objs.size w1 w2 → h'.objs.size = s.heap.objs.size + 1 →
        (∀ c o, c ≠ z → c ≠ TO → c ≠ i1 → c ≠ i2 → s.heap.get? c = some o → h'.get? c = some o) →
        wpAny (model X.prog X.w) A.in1 (updateSeq S (·.push (.ref s.heap.objs.size)) >>= fun _ => again (.builtin "list.extend.loop" ⟨[.ref S, .ref z, res], []⟩)) (fun fin s' => match fin with | .done f => R (.ok f) s' | .again c' => c'.quiet = true ∧ codeAny (model X.prog X.w) A c' R s') (fun e s' => R (.error e) s') { s with heap := h', toks := tk } := by
      intro w1 w2 h' tk e1 e2 hzh s1' s2' hT hsz hk
      have e1 : w1 = u := by
        have : its.toArray[i]? = some u := by simpa using hu
        rw [this] at e1; exact (Option.some.inj e1).symm
      have e2 : w2 = u2 := by
        have : its2.toArray[i]? = some u2 := by simpa using hu2
        rw [this] at e2; exact (Option.some.inj e2).symm
      subst e1 e2
      have new : ObjOk X.prog X.w (upd H s.heap.objs.size (.tup [x, y])) h' s.heap.objs.size (.tup [x, y]) :=
        ⟨by show 2 ≤ sizeLine; decide, [w1, w2], .cons ru (.cons ru2 .nil), ⟨_, hT, rfl, _, rfl⟩⟩
      have I1 : Inv X pins σ (upd H s.heap.objs.size (.tup [x, y])) { s with heap := h', toks := tk } :=
        I.turnedNew (ch := [z, TI, TO, i1, i2]) (fun c o hb q => hk c o (fun q' => hb (by simp [q'])) (fun q' => hb (by simp [q'])) (fun q' => hb (by simp [q'])) (fun q' => hb (by simp [q'])) q) (fun c hc => (hf c hc).1) (Nat.le_refl _) new
      have hT0 : H s.heap.objs.size = none := I.hok.fresh (Nat.le_refl _)
      have hSn : S ≠ z ∧ S ≠ TI ∧ S ≠ TO ∧ S ≠ i1 ∧ S ≠ i2 := by simpa using hSc
      have hSg' : h'.get? S = some { cls := .type "list", data := .seq us.toArray c } := hk S _ hSn.1 hSn.2.2.1 hSn.2.2.2.1 hSn.2.2.2.2 hSg
      have hST : S ≠ s.heap.objs.size := Nat.ne_of_lt hSl
      have hS1 : upd H s.heap.objs.size (.tup [x, y]) S = some (.lst vs) := by rw [upd_ne hST]; exact hS
      have rv1 : Vals (vs ++ [.ref s.heap.objs.size]) (us ++ [.ref s.heap.objs.size]) := rv.append (.cons rfl .nil)
      have hul : us.length = i := by rw [← rv.length, hl]
      have hsl := sizeLine_eq
      have I2 : Inv X pins σ (upd (upd H s.heap.objs.size (.tup [x, y])) S (.lst (vs ++ [.ref s.heap.objs.size]))) { s with heap := h'.update S (Obj.mapSeq (·.push (.ref s.heap.objs.size))), toks := tk } :=
        I1.lset (its' := us ++ [.ref s.heap.objs.size]) (t' := tk) hS1 hSg' (by simp) rv1 (by rw [List.length_append, hl]; show i + 1 ≤ _; omega)
      have up : ∀ c o, c ≠ S → h'.get? c = some o → (h'.update S (Obj.mapSeq (·.push (.ref s.heap.objs.size)))).get? c = some o := fun c o hc e => (Heap.get?_update_other _ _ (Ne.symm hc)).trans e
      refine wpAny_bind (wpAny_updateSeq (s := { s with heap := h', toks := tk }) hSg' rfl (wpAny_pure ⟨plainId_quiet F.plain_extend_loop _, ?_⟩) (by show us.toArray.size ≤ _; rw [List.size_toArray, hul]; omega) (by show (us.toArray.push _).size ≤ _; rw [Array.size_push, List.size_toArray, hul]; omega))
      have hk2 : ∀ q o, H q = some o → q ≠ S → (upd (upd H s.heap.objs.size (.tup [x, y])) S (.lst (vs ++ [.ref s.heap.objs.size]))) q = some o := fun q o e hq => by
        rw [upd_ne hq, upd_ne (fun z => by rw [z, hT0] at e; cases e)]; exact e
      have dom : ∀ q, (upd (upd H s.heap.objs.size (.tup [x, y])) S (.lst (vs ++ [.ref s.heap.objs.size]))) q = none → H q = none := fun q h2 => by
        by_cases hq : q = S
        · subst hq; rw [upd_same] at h2; cases h2
        · rw [upd_ne hq] at h2
          by_cases hq2 : q = s.heap.objs.size
          · subst hq2; rw [upd_same] at h2; cases h2
          · rw [upd_ne hq2] at h2; exact h2
      have sqk : ∀ {k : Bool} {a : Addr} {xs : List V}, Sq k X.K H a xs → a ≠ S → Sq k X.K (upd (upd H s.heap.objs.size (.tup [x, y])) S (.lst (vs ++ [.ref s.heap.objs.size]))) a xs := fun {k a xs} h ne => by
        cases k with
        | true =>
          rcases (show SqL X.K H a xs from h) with r | r
          · exact .inl (r.elim (fun r => .inl (hk2 _ _ r ne)) fun ⟨o, r⟩ => .inr ⟨o, hk2 _ _ r ne⟩)
          · exact .inr r
        | false =>
          rcases (show SqT X.K H a xs from h) with r | r
          · exact .inl (r.elim (fun r => .inl (hk2 _ _ r ne)) fun ⟨o, r⟩ => .inr ⟨o, hk2 _ _ r ne⟩)
          · exact .inr r
      have size2 : (h'.update S (Obj.mapSeq (·.push (.ref s.heap.objs.size)))).objs.size = s.heap.objs.size + 1 := by rw [← hsz]; exact (Heap.SameBut.update ..).1
      obtain ⟨c', hSu⟩ : ∃ c', (h'.update S (Obj.mapSeq (·.push (.ref s.heap.objs.size)))).get? S = some { cls := .type "list", data := .seq (us ++ [Value.ref s.heap.objs.size]).toArray c' } := by
        have q := PySem.IsL.update hSg' (·.push (Value.ref s.heap.objs.size))
        have e : us.toArray.push (Value.ref s.heap.objs.size) = (us ++ [Value.ref s.heap.objs.size]).toArray := by simp
        rw [e] at q
        exact ⟨_, q⟩
      refine ih (i + 1) { s with heap := h'.update S (Obj.mapSeq (·.push (.ref s.heap.objs.size))), toks := tk } _ (vs ++ [.ref s.heap.objs.size]) (us ++ [.ref s.heap.objs.size]) c' (by omega) hlt I2 (fun c hc => ?_) (by show S < _; rw [size2]; exact Nat.lt_succ_of_lt hSl) ?_ (up _ _ (Ne.symm hSn.2.1) (hk _ _ D.TIz D.TITO D.TIi1 D.TIi2 hTI))
        (s1'.at fun o e => up _ _ (Ne.symm hSn.2.2.2.1) e) (s2'.at fun o e => up _ _ (Ne.symm hSn.2.2.2.2) e) (sqk qa (Ne.symm hSa)) (sqk qb (Ne.symm hSb)) upd_same rv1 hSu (by rw [List.length_append, hl]; rfl) (fun q e => hd q (dom q e)) ?_ ?_
      · obtain ⟨⟨f0, f1, f2, f3, f4, f5⟩, fl⟩ := hf c hc
        refine ⟨⟨?_, f1, f2, f3, f4, f5⟩, by show c < _; rw [size2]; exact Nat.lt_succ_of_lt fl⟩
        have hcS : c ≠ S := fun e => hSc (e ▸ hc)
        rw [upd_ne hcS, upd_ne (Nat.ne_of_lt fl)]
        exact f0
      · obtain ⟨f, T, hz', hTz, oT, hT'⟩ := hzh
        by_cases hTS : T = S
        · subst hTS
          exact .inr ⟨T, f, _, up _ _ (Ne.symm hSn.1) hz', Heap.get?_update_self _ hSg' rfl, hTz⟩
        · exact .inr ⟨T, f, oT, up _ _ (Ne.symm hSn.1) hz', up _ _ hTS hT', hTz⟩
      · intro j v hj
        by_cases hji : j < vs.length
        · rw [List.getElem?_append_left hji] at hj
          obtain ⟨x', y', T, q1, q2, q3, q4, q5⟩ := hp j v hj
          refine ⟨x', y', T, q1, q2, q3, hk2 _ _ q4 (fun z => ?_), q5⟩
          rw [z, hS] at q4; cases q4
        · have hle := (List.getElem?_eq_some_iff.mp hj).1
          rw [List.length_append] at hle
          have hje : j = i := by simp at hle; omega
          subst hje
          rw [List.getElem?_append_right (by omega), hl, Nat.sub_self] at hj
          cases hj
          exact ⟨x, y, _, hx, hy, rfl, by rw [upd_ne (Ne.symm hST), upd_same], hd _ hT0⟩
      · intro s' H' vs' I' hl' hS' hk' hd' hp'
        refine hR s' H' vs' I' hl' hS' (fun q o e hq => hk' q o (hk2 q o e hq) hq) (fun q e => dom q (hd' q e)) hp'
    refine wpAny_bind ?_
    have lt1 : i < its.toArray.size := by simp; omega
    have lt2 : i < its2.toArray.size := by simp; omega
    rcases hz with ⟨hz, x0, y0, hTO⟩ | ⟨T, f, oT, hz, hT, hTz⟩
    · refine wpAny_pyNext_zipD2_item D (sq_draws (A := A.in1.in1) hA k i1 a ha its.toArray) (sq_draws (A := A.in1.in1) hA k2 i2 b hb its2.toArray) hz hTI hTO ⟨h1, p⟩ ⟨h2, p2⟩ lt1 lt2 fun w1 w2 h' tk e1 e2 z' TO' s1' s2' hT hsz hk => ?_
      exact next w1 w2 h' tk e1 e2 ⟨false, s.heap.objs.size, z', Nat.ne_of_gt hzl, _, hT⟩ s1'.1 s2'.1 hT hsz hk
    · refine next_zip_held D (sq_draws (A := A.in1.in1) hA k i1 a ha its.toArray) (sq_draws (A := A.in1.in1) hA k2 i2 b hb its2.toArray) hz hT hTI ⟨h1, p⟩ ⟨h2, p2⟩ lt1 lt2 fun w1 w2 h' tk e1 e2 z' s1' s2' hT2 hsz hk => ?_
      by_cases hTi1 : T = i1
      · subst hTi1
        obtain ⟨o, e, _⟩ := s1'.1.obj
        exact next w1 w2 h' tk e1 e2 ⟨true, T, z', hTz, o, e⟩ s1'.1 s2'.1 hT2 hsz fun c o c1 _ c3 c4 => hk c o c1 c3 c4
      · by_cases hTi2 : T = i2
        · subst hTi2
          obtain ⟨o, e, _⟩ := s2'.1.obj
          exact next w1 w2 h' tk e1 e2 ⟨true, T, z', hTz, o, e⟩ s1'.1 s2'.1 hT2 hsz fun c o c1 _ c3 c4 => hk c o c1 c3 c4
        · exact next w1 w2 h' tk e1 e2 ⟨true, T, z', hTz, oT, hk T oT hTz hTi1 hTi2 hT⟩ s1'.1 s2'.1 hT2 hsz fun c o c1 _ c3 c4 => hk c o c1 c3 c4
theorem lz_call {A : Around} {Q : Value → Shared → Prop} {E : Value → Shared → Prop} (hA : A.handled = none) {k k2 : Bool} {a b z TI TO i1 i2 : Addr} {xs ys : List V} {n : Nat} (hn : n = min xs.length ys.length) (hnl : n ≤ sizeLine) (D : ZipSep2 z TI TO i1 i2 [i1, a] [i2, b]) (ha : a ≠ i1) (hb : b ≠ i2)
    {s : Shared} {H : Hp} (I : Inv X pins σ H s) (hf : ∀ c ∈ [z, TI, TO, i1, i2], FpOk X pins H c ∧ c < s.heap.objs.size) (hz : IsZip s.heap z TI TO .none) (hTO : ∃ x y, IsTupOf2 s.heap TO x y) (hTI : IsTupOf2 s.heap TI (.ref i1) (.ref i2)) (h1 : ItAt k s.heap i1 a 0) (h2 : ItAt k2 s.heap i2 b 0)
    (qa : Sq k X.K H a xs) (qb : Sq k2 X.K H b ys)
    (hQ : ∀ (S : Addr) s' H' vs', Inv X pins σ H' s' → H S = none → vs'.length = n → H' S = some (.lst vs') → (∀ q o, H q = some o → H' q = some o) → PrI H H' xs ys vs' → Q (.ref S) s') :
    wpAny (model X.prog X.w) A (call (.type "list") [.ref z]) Q E s := by
  have hH0 : H s.heap.objs.size = none := I.hok.fresh (Nat.le_refl _)
  have hSc : s.heap.objs.size ∉ [z, TI, TO, i1, i2] := fun hm => Nat.lt_irrefl _ (hf _ hm).2
  have hSz : s.heap.objs.size ≠ z := fun e => hSc (by rw [e]; simp)
  have I0 : Inv X pins σ (upd H s.heap.objs.size (.lst [])) { s with heap := s.heap.push { cls := .type "list", data := .seq #[] } } :=
    I.laid (t' := s.toks) (o := .lst []) (fun b o e => Heap.get?_push_of_some _ e) (Nat.le_refl _) ⟨Nat.zero_le _, [], 0, .nil, Heap.get?_push_size _ rfl⟩
  obtain ⟨_, _, _, la⟩ := Inv.sq I qa
  obtain ⟨_, _, _, lb⟩ := Inv.sq I qb
  refine callType_codes (Q₁ := fun obj s₁ => obj = .ref s.heap.objs.size ∧ s₁ = { s with heap := s.heap.push { cls := .type "list", data := .seq #[] } }) F.called_list (F.typeCall_list_1 _) F.entry_list_init
    (code_list_new _ ⟨rfl, rfl⟩) fun obj s₁ h₁ => ?_
  obtain ⟨rfl, rfl⟩ := h₁
  have hS : (s.heap.push { cls := .type "list", data := .seq #[] }).get? s.heap.objs.size = some { cls := .type "list", data := .seq #[] } := Heap.get?_push_size _ rfl
  refine ⟨⟨_, hS, rfl⟩, F.args_list_init_2 _ _, ?_⟩
  -- the empty list is cleared, touched, then the loop
  have up0 : ∀ c o, s.heap.get? c = some o → (s.heap.push { cls := .type "list", data := .seq #[] }).get? c = some o := fun c o e => Heap.get?_push_of_some _ e
  generalize hg : s.heap.push { cls := .type "list", data := .seq #[] } = g0 at *
  have hg0 : g0.objs.size = s.heap.objs.size + 1 := by rw [← hg, Heap.size_push]
  generalize hSd : s.heap.objs.size = S at *
  show wpAny _ A.in1.in1 (do let old ← Builtin.List.listItems (.ref S); Builtin.List.listUpdate (.ref S) (fun _ => #[]); letGo old.toList.reverse; Builtin.List.listExtendWith (.ref S) (.ref z) .none) _ _ _
  refine wpAny_bind ?_
  unfold Builtin.List.listItems
  refine wpAny_bind (wpAny_seqItems hS rfl (wpAny_pure ?_))
  show wpAny _ _ (updateSeq S (fun _ => #[]) >>= fun _ => letGo (#[] : Array Value).toList.reverse >>= fun _ => Builtin.List.listExtendWith (.ref S) (.ref z) .none) _ _ _
  refine wpAny_bind (wpAny_updateSeq hS rfl ?_)
  have hS₂ := Heap.get?_update_self (Obj.mapSeq (fun _ => (#[] : Array Value))) hS rfl
  have I1 := I0.lset (its := []) (its' := []) (f := fun _ => #[]) (t' := s.toks) upd_same hS rfl .nil (Nat.zero_le _)
  rw [upd_upd] at I1
  have up1 : ∀ c o, c ≠ S → g0.get? c = some o → (g0.update S (Obj.mapSeq (fun _ => (#[] : Array Value)))).get? c = some o := fun c o hc e => (Heap.get?_update_other _ _ (Ne.symm hc)).trans e
  have sz1 : (g0.update S (Obj.mapSeq (fun _ => (#[] : Array Value)))).objs.size = g0.objs.size := (Heap.SameBut.update ..).1
  refine wpAny_bind (wpAny_letGo ?_)
  generalize g0.update S (Obj.mapSeq (fun _ => (#[] : Array Value))) = g1 at *
  have hz1 : IsZip g1 z TI TO .none := up1 _ _ (Ne.symm hSz) (up0 _ _ hz)
  have hTy : (⟨g1, s.gens, s.drawn, s.toks, s.os⟩ : Shared).TypeIs (.ref z) "zip" := ⟨_, hz1, rfl⟩
  unfold Builtin.List.listExtendWith
  refine wpAny_bind (wpAny_typeOf hTy ?_)
  have e1 : Builtin.List.listSameRef (.ref S) (.ref z) = false := by simp [Builtin.List.listSameRef, hSz]
  have e2 : (Value.type "zip" == Value.type "list") = false := by decide
  have e3 : (Value.type "zip" == Value.type "tuple") = false := by decide
  simp only [e1, e2, e3, Bool.or_false, Bool.false_eq_true, if_false]
  refine wpAny_bind (wpAny_pyIter_zip hz1 ?_)
  refine wpAny_bind (wpAny_holding ?_)
  unfold Builtin.List.listLengthHint
  refine wpAny_bind (wpAny_specialOf hTy zip_no_len ?_)
  show wpAny _ _ (specialOf (Value.ref z) (Str.ofString "__length_hint__") >>= _) _ _ _
  refine wpAny_bind (wpAny_specialOf hTy zip_no_hint ?_)
  refine wpAny_pure ?_
  show wpAny _ _ (rule "list.extend.makes-room" >>= fun _ => Builtin.List.listTouch (.ref S) >>= fun _ =>
    again (.builtin "list.extend.loop" ⟨[.ref S, .ref z, .none], []⟩)) _ _ _
  refine wpAny_bind (wpAny_rule ?_)
  refine wpAny_bind ?_
  show wpAny _ _ (updateSeq S (·.push .none) >>= fun _ => updateSeq S (·.pop)) _ _ _
  refine wpAny_bind (wpAny_updateSeq (hz := by seq_fits) hS₂ rfl ?_)
  have hS3 := Heap.get?_update_self (Obj.mapSeq (·.push Value.none)) hS₂ rfl
  refine wpAny_updateSeq (hz := by seq_fits) hS3 rfl ?_
  have hS4 := Heap.get?_update_self (Obj.mapSeq (·.pop)) hS3 rfl
  have up2 : ∀ c o, c ≠ S → g1.get? c = some o → ((g1.update S (Obj.mapSeq (·.push Value.none))).update S (Obj.mapSeq (·.pop))).get? c = some o :=
    fun c o hc e => (Heap.get?_update_other _ _ (Ne.symm hc)).trans ((Heap.get?_update_other _ _ (Ne.symm hc)).trans e)
  have sz2 : ((g1.update S (Obj.mapSeq (·.push Value.none))).update S (Obj.mapSeq (·.pop))).objs.size = S + 1 := by
    rw [(Heap.SameBut.update (a := S) ..).1, (Heap.SameBut.update (a := S) ..).1, sz1, hg0]
  have I2 : Inv X pins σ (upd H S (.lst [])) { s with heap := (g1.update S (Obj.mapSeq (·.push Value.none))).update S (Obj.mapSeq (·.pop)) } := by
    have := I1.write (x := S) (e := S) (o := .lst []) (h' := (g1.update S (Obj.mapSeq (·.push Value.none))).update S (Obj.mapSeq (·.pop))) (t' := s.toks) (by rw [upd_same]; exact trivial) (.inl rfl) up2 ⟨_, hS4⟩ ⟨Nat.zero_le _, [], _, .nil, hS4⟩
    rw [upd_upd] at this
    exact this
  have hSn : S ≠ z ∧ S ≠ TI ∧ S ≠ TO ∧ S ≠ i1 ∧ S ≠ i2 := by simpa using hSc
  have up : ∀ c o, c ≠ S → s.heap.get? c = some o → ((g1.update S (Obj.mapSeq (·.push Value.none))).update S (Obj.mapSeq (·.pop))).get? c = some o := fun c o hc e => up2 _ _ hc (up1 _ _ hc (up0 _ _ e))
  have hk2 : ∀ q o, H q = some o → upd H S (.lst []) q = some o := fun q o e => by rw [upd_ne (fun z => by rw [z, hH0] at e; cases e)]; exact e
  have dom0 : ∀ q, upd H S (.lst []) q = none → H q = none := fun q h2 => by
    by_cases hq : q = S
    · subst hq; rw [upd_same] at h2; cases h2
    · rw [upd_ne hq] at h2; exact h2
  have sqk : ∀ {k : Bool} {a : Addr} {xs : List V}, Sq k X.K H a xs → Sq k X.K (upd H S (.lst [])) a xs := fun {k a xs} h => by
    cases k with
    | true =>
      rcases (show SqL X.K H a xs from h) with r | r
      · exact .inl (r.elim (fun r => .inl (hk2 _ _ r)) fun ⟨o, r⟩ => .inr ⟨o, hk2 _ _ r⟩)
      · exact .inr r
    | false =>
      rcases (show SqT X.K H a xs from h) with r | r
      · exact .inl (r.elim (fun r => .inl (hk2 _ _ r)) fun ⟨o, r⟩ => .inr ⟨o, hk2 _ _ r⟩)
      · exact .inr r
  obtain ⟨x0, y0, hTO⟩ := hTO
  have hS5 : ((g1.update S (Obj.mapSeq (·.push Value.none))).update S (Obj.mapSeq (·.pop))).get? S = some { cls := .type "list", data := .seq ([] : List Value).toArray _ } := hS4
  refine wpAny_pure ⟨plainId_quiet F.plain_extend_loop _, lz_loop (A := A.in1) (σ := σ) (pins := pins) hA hn hnl D ha hb hSc (Nat.ne_of_gt la) (Nat.ne_of_gt lb) .none n 0 _ _ [] [] _ (Nat.sub_zero _) (Nat.zero_le _) I2 (fun c hc => ?_) (by show S < _; rw [sz2]; exact Nat.lt_succ_self _)
    (.inl ⟨up _ _ (Ne.symm hSn.1) hz, x0, y0, up _ _ (Ne.symm hSn.2.2.1) hTO⟩) (up _ _ (Ne.symm hSn.2.1) hTI) (h1.at fun o e => up _ _ (Ne.symm hSn.2.2.2.1) e) (h2.at fun o e => up _ _ (Ne.symm hSn.2.2.2.2) e) (sqk qa) (sqk qb) upd_same .nil hS5 rfl (fun q e => dom0 q e) (fun j v h => by simp at h)
    fun s' H' vs' I' hl' hS' hk' hd' hp' => ?_⟩
  · obtain ⟨⟨f0, f1, f2, f3, f4, f5⟩, fl⟩ := hf c hc
    refine ⟨⟨?_, f1, f2, f3, f4, f5⟩, by show c < _; rw [sz2]; exact Nat.lt_succ_of_lt fl⟩
    have hcS : c ≠ S := fun e => hSc (e ▸ hc)
    rw [upd_ne hcS]
    exact f0
  · refine ⟨rfl, hQ S s' H' vs' I' hH0 hl' hS' (fun q o e => hk' q o (hk2 q o e) fun z => by rw [z, hH0] at e; cases e) hp'⟩
end
/-- list(zip(a, b)) -/
def tLstZip (K : PySem.W.Frag) (ta : TA) : TE := fun σ H Q => ta σ H fun vs H1 => ∃ k a xs k2 b ys, vs = [.ref a, .ref b] ∧ Sq k K H1 a xs ∧ Sq k2 K H1 b ys ∧ min xs.length ys.length ≤ sizeLine ∧
  ∀ S H2 ws, H1 S = none → H2 S = some (.lst ws) → ws.length = min xs.length ys.length → Same H1 H2 → PrI H1 H2 xs ys ws → Q (.ref S) H2
theorem pe_listZip {X : Cx} {e e2 : Expr} {ta : TA} {p p2 pos pos2 : Pos} (hc : X.calm = true) (hg : Gl X "zip") (hm : X.mg "zip" = none) (hg2 : Gl X "list") (hm2 : X.mg "list" = none) (ha : PA X [e, e2] ta)
    (hs : starEach [e, e2] X.env = (false, eval e X.env) :: starEach [e2] X.env := by rfl) (hpl : (backTo pos (starEach [e2] X.env)).any (·.1) = false := by rfl)
    (hs2 : starEach [.Call (.Name "zip" p) [e, e2] [] pos] X.env = (false, eval (.Call (.Name "zip" p) [e, e2] [] pos) X.env) :: starEach [] X.env := by rfl) :
    PE X (.Call (.Name "list" p2) [.Call (.Name "zip" p) [e, e2] [] pos] [] pos2) (tLstZip X.K ta) := by
  refine ⟨fun pins s σ H Q I h => ?_⟩
  refine Call_ (ld_blt I hg2 hm2 boot_list (PyProof.Rows.callWith_type1 (args_cons (Call_ (ld_blt I hg hm PyProof.Rows.boot_zip (PyProof.Rows.callWith_type1 (thn (ha.run pos pins s σ H _ I h) fun us s1 ⟨vs, H1, I1, r1, q1⟩ => ?_) hs hpl))) hs2) hs2))
  obtain ⟨k, a, xs, k2, b, ys, ex, hqx, hqy, hl, q⟩ := q1
  subst ex
  cases r1 with
  | cons r rr =>
    cases rr with
    | cons r' rr =>
      cases rr
      cases r
      cases r'
      obtain ⟨its, rv, p1, la⟩ := Inv.sq I1 hqx
      obtain ⟨its2, rv2, p2, lb⟩ := Inv.sq I1 hqy
      refine zip_begins2 (sq_begins k a its.toArray) (sq_begins k2 b its2.toArray) p1 p2 fun h' hz hTI hTO h1 h2 hsz hk => args_nil ?_
      have I2 : Inv X pins σ H1 { s1 with heap := h' } := I1.kept (t' := s1.toks) hk
      refine lz_call (σ := σ) (pins := pins) (I.ok.hd hc) rfl hl (sep2_new s1.heap.objs.size a b la lb) (Nat.ne_of_lt la) (Nat.ne_of_lt (Nat.lt_succ_of_lt lb)) I2 (fun c hcm => ?_) hz ⟨_, _, hTO⟩ hTI (itAt_new h1) (itAt_new h2) hqx hqy fun S s' H' vs' I' hS hl' hS' hk' hp' => ?_
      · have e' : c = s1.heap.objs.size + 4 ∨ c = s1.heap.objs.size + 2 ∨ c = s1.heap.objs.size + 3 ∨ c = s1.heap.objs.size ∨ c = s1.heap.objs.size + 1 := by simpa using hcm
        have hle : s1.heap.objs.size ≤ c ∧ c < s1.heap.objs.size + 5 := by
          rcases e' with z | z | z | z | z
          · rw [z]; exact ⟨Nat.le_add_right _ _, Nat.add_lt_add_left (by decide) _⟩
          · rw [z]; exact ⟨Nat.le_add_right _ _, Nat.add_lt_add_left (by decide) _⟩
          · rw [z]; exact ⟨Nat.le_add_right _ _, Nat.add_lt_add_left (by decide) _⟩
          · rw [z]; exact ⟨Nat.le_refl _, Nat.lt_add_of_pos_right (by decide)⟩
          · rw [z]; exact ⟨Nat.le_add_right _ _, Nat.add_lt_add_left (by decide) _⟩
        exact ⟨I1.fpOk hle.1 (I1.hok.fresh hle.1), by show c < h'.objs.size; rw [hsz]; exact hle.2⟩
      · exact ⟨.ref S, H', I', rfl, q S H' vs' hS hS' hl' hk' hp'⟩
/-! its reading -/
theorem RoL.len {K : PySem.W.Frag} {O : AS} {H : Hp} : ∀ {ds : List Da} {vs : List V}, RoL K O H ds vs → ds.length = vs.length
  | [], vs, h => by simp only [RoL] at h; subst h; rfl
  | d :: ds, vs, h => by
    simp only [RoL] at h
    obtain ⟨w, ws, rfl, _, q⟩ := h
    rw [List.length_cons, List.length_cons, RoL.len q]
theorem RpL.ofGet {K : PySem.W.Frag} {O : AS} {H : Hp} : ∀ {ds : List Da} {vs : List V}, ds.length = vs.length → (∀ (j : Nat) (d : Da) (v : V), ds[j]? = some d → vs[j]? = some v → Rp K O H d v) → RpL K O H ds vs
  | [], [], _, _ => .nil
  | d :: ds, v :: vs, h, g => .cons (g 0 d v rfl rfl) (RpL.ofGet (by simpa using h) fun j d' v' e1 e2 => g (j + 1) d' v' (by simpa using e1) (by simpa using e2))
  | [], _ :: _, h, _ => by simp at h
  | _ :: _, [], h, _ => by simp at h
def zipL : List Da → Option EV
  | [x, y] => (seqD x).bind fun xs => (seqD y).bind fun ys => if min xs.length ys.length ≤ 16777216 then some (.own (.l (zipD xs ys))) else none
  | _ => none
theorem Ro.sq {K : PySem.W.Frag} {O : AS} {H : Hp} {x : Da} {v : V} {xs : List Da} (r : Ro K O H x v) (e : seqD x = some xs) : ∃ k a vs, v = .ref a ∧ Sq k K H a vs ∧ RpL K O H xs vs := by
  cases x with
  | list ys => cases e; obtain ⟨a, vs, rfl, h, r⟩ := r.list; exact ⟨true, a, vs, rfl, .of h, r⟩
  | tuple ys => cases e; obtain ⟨a, vs, rfl, h, r⟩ := r.tupT; exact ⟨false, a, vs, rfl, h, r⟩
  | _ => cases e
section
variable {X : Cx} {W : WX} {a b c e e2 o : Expr} {pos pos2 p p2 : Pos} {fs : VM (List EV)}
theorem ve_listZip {k : Nat} (c : VC X W k) (hm : X.mg "zip" = none) (hm2 : X.mg "list" = none) (ha : VA Tb X W [e, e2] fs) (hg : Gl X "zip" := by rfl) (hg2 : Gl X "list" := by rfl)
    (hs : starEach [e, e2] X.env = (false, eval e X.env) :: starEach [e2] X.env := by rfl) (hpl : (backTo pos (starEach [e2] X.env)).any (·.1) = false := by rfl)
    (hs2 : starEach [.Call (.Name "zip" p) [e, e2] [] pos] X.env = (false, eval (.Call (.Name "zip" p) [e, e2] [] pos) X.env) :: starEach [] X.env := by rfl) :
    VE Tb X W (.Call (.Name "list" p2) [.Call (.Name "zip" p) [e, e2] [] pos] [] pos2) (vCall zipL fs) := by
  refine PE.wk (pe_listZip c.calm hg hm hg2 hm2 ha hs hpl hs2) fun σ H Q h => ?_
  obtain ⟨O, st, F, h⟩ := h
  refine tVA.bind F h fun rs s1 vs H1 S1 E1 h => ?_
  obtain ⟨xs, R, h⟩ := E1.rds S1.fr h
  obtain ⟨z, ez, h⟩ := h.opt1
  match xs, ez, R with
  | [x, y], ez, R =>
    obtain ⟨xs, ex, ez⟩ := Option.bind_eq_some_iff.mp (show (seqD x).bind _ = some z from ez)
    obtain ⟨ys, ey, ez⟩ := Option.bind_eq_some_iff.mp ez
    split at ez
    · rename_i hl
      cases ez
      obtain ⟨v, w, rfl, r1, r2⟩ := R.two
      obtain ⟨k1, a1, vs, rfl, g1, q1⟩ := r1.sq ex
      obtain ⟨k2, a2, ws, rfl, g2, q2⟩ := r2.sq ey
      refine ⟨k1, a1, vs, k2, a2, ws, rfl, g1, g2, by rw [← q1.length, ← q2.length, sizeLine_eq]; exact hl, fun S H2 us hS hS2 hlen kp hp => ?_⟩
      refine h _ _ (S1.trans (Step.ext S1.fr kp)) ((NR.er (z := .own (.l (zipD xs ys))) S1.fr kp ⟨S, rfl, hS, us, hS2, ?_⟩).back S1.dom)
      refine RpL.ofGet (by rw [zipD_len, hlen, q1.length, q2.length]) fun j d v hj hv => ?_
      obtain ⟨x', y', e1, e2, rfl⟩ := zipD_get hj
      obtain ⟨u1, u2, T, f1, f2, rfl, f3, f4⟩ := hp j v hv
      obtain ⟨u1', f1', R1⟩ := q1.get e1
      obtain ⟨u2', f2', R2⟩ := q2.get e2
      rw [f1] at f1'; cases f1'
      rw [f2] at f2'; cases f2'
      simp only [Rp]
      refine ⟨T, [u1, u2], rfl, .inl ⟨f3, fun z => ?_⟩, ?_⟩
      · rcases z with z | z
        · exact S1.fr.avdom T z f4
        · rw [z, hS2] at f3; cases f3
      · exact .cons (Rp.mono (fun a z => z.elim .inl fun z => .inr (by rw [z]; exact hS)) (fun a o e _ _ => kp a o e) _ _ R1) (.one (Rp.mono (fun a z => z.elim .inl fun z => .inr (by rw [z]; exact hS)) (fun a o e _ _ => kp a o e) _ _ R2))
    · cases ez
  | [], ez, _ => cases ez
  | [_], ez, _ => cases ez
  | _ :: _ :: _ :: _, ez, _ => cases ez
end
end VL
set_option Elab.async false
set_option linter.all false
set_option maxRecDepth 100000
namespace VL
open PySem PySem.Spec PyProof.Rows L2
/-! ### storing with a change of owner -/
def AS.ws (O : AS) (P : List Addr) : AS := fun a => O a ∨ a ∈ P
section
variable {K : PySem.W.Frag} {mg : Str → Option Value} {W : WX} {O O' : AS} {P Pl : List Addr} {st s s1 s2 : VS} {σ σ0 σ1 : L2.St} {H H0 H1 H2 : Hp} {v : V} {r : EV} {vs : List V} {rs : List EV}
structure StepP (Tb : List (Addr × Str)) (K : PySem.W.Frag) (O : AS) (P : List Addr) (st : VS) (σ0 : L2.St) (H0 : Hp) (s : VS) (σ : L2.St) (H : Hp) : Prop where
  S : Step Tb K O st σ0 H0 s σ H
  F : FR Tb K (O.ws P) s σ H
  p : ∀ a ∈ P, (MutO st σ0 a ∨ H0 a = none) ∧ ¬ O a
  nd : P.Nodup
/-- the results that are held -/
def PR (Tb : List (Addr × Str)) (K : PySem.W.Frag) (O' : AS) (s : VS) (σ : L2.St) (H : Hp) : List Addr → List V → List EV → Prop
  | Pl, [], [] => Pl = []
  | Pl, v :: vs, .d x :: rs => Rp K (Av O' s σ) H x v ∧ PR Tb K O' s σ H Pl vs rs
  | p :: Pl, v :: vs, .own c :: rs => v = .ref p ∧ Cont K (Av O' s σ) H p c ∧ PR Tb K O' s σ H Pl vs rs
  | Pl, v :: vs, .loan j :: rs => σ[j]? = some (some v) ∧ PR Tb K O' s σ H Pl vs rs
  | _, _, _ => False
theorem PR.to {O1 : AS} (hO : ∀ a, Av O1 s1 σ1 a → Av O' s σ a) (hl : ∀ r ∈ rs, (∃ j, r = .loan j) → σ1 = σ) (h : PR Tb K O' s σ H Pl vs rs) : PR Tb K O1 s1 σ1 H Pl vs rs := by
  induction rs generalizing vs Pl with
  | nil =>
    cases vs with
    | nil => exact h
    | cons v vs => exact h.elim
  | cons r rs ih =>
    cases vs with
    | nil => cases r <;> exact h.elim
    | cons v vs =>
      have ih' := fun {Pl vs} => ih (Pl := Pl) (vs := vs) fun r hr => hl r (List.mem_cons_of_mem _ hr)
      cases r with
      | d x => exact ⟨h.1.sub hO, ih' h.2⟩
      | own c =>
        cases Pl with
        | nil => exact h.elim
        | cons p Pl => exact ⟨h.1, h.2.1.sub hO, ih' h.2.2⟩
      | loan j =>
        have e : σ1 = σ := hl _ List.mem_cons_self ⟨j, rfl⟩
        have h' : σ[j]? = some (some v) ∧ PR Tb K O' s σ H Pl vs rs := by cases Pl <;> exact h
        have g : σ1[j]? = some (some v) ∧ PR Tb K O1 s1 σ1 H Pl vs rs := ⟨by rw [e]; exact h'.1, ih' h'.2⟩
        cases Pl <;> exact g
theorem PR.len (h : PR Tb K O' s σ H Pl vs rs) : vs.length = rs.length := by
  induction rs generalizing vs Pl with
  | nil =>
    cases vs with
    | nil => rfl
    | cons v vs => exact h.elim
  | cons r rs ih =>
    cases vs with
    | nil => cases r <;> exact h.elim
    | cons v vs =>
      cases r with
      | d x => rw [List.length_cons, List.length_cons, ih h.2]
      | own c =>
        cases Pl with
        | nil => exact h.elim
        | cons p Pl => rw [List.length_cons, List.length_cons, ih h.2.2]
      | loan j =>
        have h' : σ[j]? = some (some v) ∧ PR Tb K O' s σ H Pl vs rs := by cases Pl <;> exact h
        rw [List.length_cons, List.length_cons, ih h'.2]
/-- a slot lets go of its list -/
theorem FR.release {j : Nat} {p : Addr} {c : OC} (F : FR Tb K O s σ H) (hs : s[j]? = some (.own c)) (hp : σ[j]? = some (some (.ref p))) :
    FR Tb K (O.with p) (s.set j .un) σ H ∧ Cont K (Av (O.with p) (s.set j .un) σ) H p c ∧ (∀ a, Av (O.with p) (s.set j .un) σ a → Av O s σ a) ∧ Own s σ p ∧ MutO s σ p := by
  have hj : j < s.length := lt_of_get hs
  have jp : OwnAt s σ j p := ⟨hp, c, .inl hs⟩
  have own : ∀ i q, OwnAt (s.set j .un) σ i q → i ≠ j ∧ OwnAt s σ i q := fun i q h => by
    obtain ⟨e, c', h⟩ := h
    by_cases hi : i = j
    · subst hi
      rw [List.getElem?_set_self hj] at h
      rcases h with h | h | h <;> cases h
    · rw [List.getElem?_set_ne (Ne.symm hi)] at h
      exact ⟨hi, e, c', h⟩
  have av : ∀ a, Av (O.with p) (s.set j .un) σ a → Av O s σ a := fun a h => by
    rcases h with (h | h) | ⟨i, h⟩
    · exact .inl h
    · exact .inr (h ▸ ⟨j, jp⟩)
    · exact .inr ⟨i, (own i a h).2⟩
  obtain ⟨v, ev, q, eq, C⟩ := F.slot j _ hs
  rw [hp] at ev; cases ev; cases eq
  refine ⟨⟨by rw [List.length_set]; exact F.len, fun i sv h => ?_, fun a b q h1 h2 => F.inj a b q (own a q h1).2 (own b q h2).2, fun q ⟨i, h⟩ z => ?_, fun q h => h.elim (F.odom q) fun h => h ▸ F.ownSome ⟨j, jp⟩, F.tabs⟩, C.sub av, av, ⟨j, jp⟩, ⟨j, hp, c, .inl hs⟩⟩
  · by_cases hi : i = j
    · subst hi
      rw [List.getElem?_set_self hj] at h
      cases h
      exact ⟨_, hp, trivial⟩
    · rw [List.getElem?_set_ne (Ne.symm hi)] at h
      obtain ⟨v, e, r⟩ := F.slot i sv h
      exact ⟨v, e, r.sub av⟩
  · obtain ⟨ne, h⟩ := own i q h
    rcases z with z | z
    · exact F.avoid q ⟨i, h⟩ z
    · subst z; exact ne (F.inj i j q h jp)
theorem Step.drop {j : Nat} {c : OC} (S : Step Tb K O st σ0 H0 s σ H) (hs : s[j]? = some (.own c)) : Step Tb K O st σ0 H0 (s.set j .un) σ H := by
  obtain ⟨ov, eo, p, ep, C⟩ := S.fr.slot j _ hs
  subst ep
  obtain ⟨F, _, _, _, _⟩ := S.fr.release hs eo
  have hj : j < s.length := lt_of_get hs
  have get : ∀ {i : Nat} {sv : SV}, (s.set j .un)[i]? = some sv → (∀ c, sv = .own c ∨ sv = .io c ∨ sv = .lk c → i ≠ j ∧ s[i]? = some sv) := fun {i sv} h c hsv => by
    by_cases hi : i = j
    · subst hi
      rw [List.getElem?_set_self hj] at h
      cases h
      rcases hsv with h | h | h <;> cases h
    · rw [List.getElem?_set_ne (Ne.symm hi)] at h
      exact ⟨hi, h⟩
  have own : ∀ i q, OwnAt (s.set j .un) σ i q → OwnAt s σ i q := fun i q ⟨e, c', h⟩ => ⟨e, c', by
    rcases h with h | h | h
    · exact .inl (get h c' (.inl rfl)).2
    · exact .inr (.inl (get h c' (.inr (.inl rfl))).2)
    · exact .inr (.inr (get h c' (.inr (.inr rfl))).2)⟩
  have mut' : ∀ i q, MutAt (s.set j .un) σ i q → MutAt s σ i q := fun i q ⟨e, c', h⟩ => ⟨e, c', by
    rcases h with h | h
    · exact .inl (get h c' (.inl rfl)).2
    · exact .inr (get h c' (.inr (.inl rfl))).2⟩
  have other : ∀ {k : Nat} {sv : SV}, s[k]? = some sv → (∀ c, sv ≠ .own c) → (s.set j .un)[k]? = some sv := fun {k sv} h hn => by
    have hk : j ≠ k := fun z => by rw [z] at hs; rw [hs] at h; exact hn c (Option.some.inj h).symm
    rw [List.getElem?_set_ne hk]; exact h
  refine ⟨F.sub fun a h => .inl h, S.keep, fun a ⟨i, h⟩ => S.new a ⟨i, own i a h⟩, fun a ⟨i, h⟩ => S.mnew a ⟨i, mut' i a h⟩, S.dom, S.len, fun i c0 h => ?_, fun i c0 h => ?_⟩
  · obtain ⟨⟨c', h'⟩, e⟩ := S.io i c0 h
    exact ⟨⟨c', other h' (fun c z => by cases z)⟩, e⟩
  · obtain ⟨h', e⟩ := S.lk i c0 h
    exact ⟨other h' (fun c z => by cases z), e⟩
def vRelease : List EV → VS → Option (List EV × VS)
  | [], s => some ([], s)
  | .loan j :: rs, s => match s[j]? with
    | some (.own c) => (vRelease rs (s.set j .un)).map fun q => (.own c :: q.1, q.2)
    | _ => none
  | r :: rs, s => (vRelease rs s).map fun q => (r :: q.1, q.2)
def noLoan : List EV → Prop
  | [] => True
  | .loan _ :: _ => False
  | _ :: rs => noLoan rs
theorem ws_cons {p : Addr} {P : List Addr} : ∀ a, O.ws (p :: P) a ↔ (O.ws P).with p a := fun a => by
  show (O a ∨ a ∈ p :: P) ↔ ((O a ∨ a ∈ P) ∨ a = p)
  rw [List.mem_cons]
  constructor
  · rintro (h | h | h)
    · exact .inl (.inl h)
    · exact .inr h
    · exact .inl (.inr h)
  · rintro ((h | h) | h)
    · exact .inl h
    · exact .inr (.inr h)
    · exact .inr (.inl h)
theorem av_mono {O1 O2 : AS} (h : ∀ a, O1 a → O2 a) : ∀ a, Av O1 s σ a → Av O2 s σ a := fun a z => z.imp (h a) id
theorem rel_ok {rs' : List EV} {s' : VS} : ∀ {rs : List EV} {s : VS} {Pl P : List Addr} {vs : List V} {rs' : List EV} {s' : VS}, StepP Tb K O P st σ0 H0 s σ H → PR Tb K (O.ws P) s σ H Pl vs rs → Pl.Nodup → (∀ q ∈ Pl, q ∈ P) → vRelease rs s = some (rs', s') →
    ∃ P' Pl', StepP Tb K O P' st σ0 H0 s' σ H ∧ PR Tb K (O.ws P') s' σ H Pl' vs rs' ∧ noLoan rs' ∧ Pl'.Nodup ∧ (∀ q ∈ Pl', q ∈ P') ∧ (∀ q ∈ P, q ∈ P') ∧ (∀ q ∈ Pl', q ∈ Pl ∨ q ∉ P) ∧ (∀ a, Av (O.ws P') s' σ a → Av (O.ws P) s σ a) := by
  intro rs
  induction rs with
  | nil =>
    intro s Pl P vs rs' s' SP h nd sub e
    cases e
    cases vs with
    | nil => exact ⟨P, Pl, SP, h, trivial, nd, sub, fun q h => h, fun q h => .inl h, fun a h => h⟩
    | cons v vs => exact h.elim
  | cons r rs ih =>
    intro s Pl P vs rs' s' SP h nd sub e
    cases vs with
    | nil => cases r <;> exact h.elim
    | cons v vs =>
      cases r with
      | d x =>
        obtain ⟨⟨rs2, s2⟩, e1, e2⟩ := Option.map_eq_some_iff.mp (show (vRelease rs s).map _ = some (rs', s') from e)
        cases e2
        obtain ⟨P', Pl', SP', h', nl, nd', sub', sup, new, av⟩ := ih SP h.2 nd sub e1
        exact ⟨P', Pl', SP', ⟨h.1.sub av, h'⟩, nl, nd', sub', sup, new, av⟩
      | own c =>
        cases Pl with
        | nil => exact h.elim
        | cons p Pl =>
          obtain ⟨⟨rs2, s2⟩, e1, e2⟩ := Option.map_eq_some_iff.mp (show (vRelease rs s).map _ = some (rs', s') from e)
          cases e2
          have nd1 := List.nodup_cons.mp nd
          obtain ⟨P', Pl', SP', h', nl, nd', sub', sup, new, av⟩ := ih SP h.2.2 nd1.2 (fun q hq => sub q (List.mem_cons_of_mem _ hq)) e1
          have hpP := sub p List.mem_cons_self
          refine ⟨P', p :: Pl', SP', ⟨h.1, h.2.1.sub av, h'⟩, nl, List.nodup_cons.mpr ⟨fun z => (new p z).elim nd1.1 fun z => z hpP, nd'⟩, fun q hq => ?_, sup, fun q hq => ?_, av⟩
          · rcases List.mem_cons.mp hq with rfl | hq
            · exact sup _ hpP
            · exact sub' q hq
          · rcases List.mem_cons.mp hq with rfl | hq
            · exact .inl List.mem_cons_self
            · exact (new q hq).imp (List.mem_cons_of_mem _) id
      | loan j =>
        have h' : σ[j]? = some (some v) ∧ PR Tb K (O.ws P) s σ H Pl vs rs := by cases Pl <;> exact h
        unfold vRelease at e
        split at e
        · rename_i c hs
          obtain ⟨⟨rs2, s2⟩, e1, e2⟩ := Option.map_eq_some_iff.mp e
          cases e2
          obtain ⟨ov, eo, p, ep, C⟩ := SP.S.fr.slot j _ hs
          subst ep
          rw [h'.1] at eo; cases eo
          obtain ⟨F2, C2, av2, op, mp⟩ := SP.F.release hs h'.1
          have npP : p ∉ P := fun z => SP.F.avoid p op (.inr z)
          have av3 : ∀ a, Av (O.ws (p :: P)) (s.set j .un) σ a → Av (O.ws P) s σ a := fun a z => av2 a (av_mono (fun a z => (ws_cons a).mp z) a z)
          have SP2 : StepP Tb K O (p :: P) st σ0 H0 (s.set j .un) σ H := ⟨SP.S.drop hs, F2.sub fun a z => (ws_cons a).mp z, fun a ha => by
            rcases List.mem_cons.mp ha with rfl | ha
            · exact ⟨SP.S.mnew _ mp, SP.S.fr.avoid _ op⟩
            · exact SP.p a ha, List.nodup_cons.mpr ⟨npP, SP.nd⟩⟩
          obtain ⟨P', Pl', SP', h2, nl, nd', sub', sup, new, av⟩ := ih SP2 (h'.2.to av3 fun _ _ _ => rfl) nd (fun q hq => List.mem_cons_of_mem _ (sub q hq)) e1
          have npl : p ∉ Pl' := fun z => (new p z).elim (fun z => npP (sub p z)) fun z => z List.mem_cons_self
          refine ⟨P', p :: Pl', SP', ⟨rfl, ?_, h2⟩, nl, List.nodup_cons.mpr ⟨npl, nd'⟩, fun q hq => ?_, fun q hq => sup q (List.mem_cons_of_mem _ hq), fun q hq => ?_, fun a z => av3 a (av a z)⟩
          · exact (C2.sub (av_mono fun a z => (ws_cons a).mp z)).sub av
          · rcases List.mem_cons.mp hq with rfl | hq
            · exact sup _ List.mem_cons_self
            · exact sub' q hq
          · rcases List.mem_cons.mp hq with rfl | hq
            · exact .inr npP
            · rcases new q hq with z | z
              · exact .inl z
              · exact .inr fun w => z (List.mem_cons_of_mem _ w)
        · cases e
def vStore : List Nat → List EV → VS → Option VS
  | [], [], s => some s
  | i :: is, .d x :: rs, s => if wrOk s[i]? = true then vStore is rs (s.set i (.d x)) else none
  | i :: is, .own c :: rs, s => if wrOk s[i]? = true then vStore is rs (s.set i (.own c)) else none
  | _, _, _ => none
def setσ : List Nat → List V → L2.St → L2.St
  | i :: is, v :: vs, σ => setσ is vs (σ.set i (some v))
  | _, _, σ => σ
theorem store_ok {s' : VS} : ∀ {is : List Nat} {rs : List EV} {s : VS} {σ : L2.St} {Pl P : List Addr} {vs : List V}, StepP Tb K O P st σ0 H0 s σ H → PR Tb K (O.ws P) s σ H Pl vs rs → noLoan rs → Pl.Nodup → (∀ q ∈ Pl, q ∈ P) → vStore is rs s = some s' →
    Step Tb K O st σ0 H0 s' (setσ is vs σ) H := by
  intro is
  induction is with
  | nil =>
    intro rs s σ Pl P vs SP h nl nd sub e
    cases rs with
    | nil =>
      cases e
      cases vs with
      | nil => exact SP.S
      | cons v vs => exact h.elim
    | cons r rs => cases e
  | cons i is ih =>
    intro rs s σ Pl P vs SP h nl nd sub e
    cases rs with
    | nil => cases e
    | cons r rs =>
      cases vs with
      | nil => cases r <;> exact h.elim
      | cons v vs =>
        have nls : ∀ {rs : List EV}, noLoan rs → ∀ r ∈ rs, ¬ ∃ j, r = EV.loan j := fun {rs} => by
          induction rs with
          | nil => intro _ r hr; cases hr
          | cons r rs ih =>
            intro hn q hq
            rcases List.mem_cons.mp hq with rfl | hq
            · rintro ⟨j, rfl⟩; exact hn
            · exact ih (by cases r <;> first | exact hn | exact hn.elim) q hq
        cases r with
        | loan j => exact nl.elim
        | d x =>
          have e : (if wrOk s[i]? = true then vStore is rs (s.set i (.d x)) else none) = some s' := e
          split at e
          · rename_i hw
            have hn : ∀ c, (SV.d x) ≠ .own c ∧ (SV.d x) ≠ .io c ∧ (SV.d x) ≠ .lk c := fun c => ⟨(fun z => by cases z), (fun z => by cases z), (fun z => by cases z)⟩
            have ow : ∀ a, Av (O.ws P) (s.set i (.d x)) (σ.set i (some v)) a → Av (O.ws P) s σ a := fun a z => z.imp id fun ⟨j, z⟩ => by
              rcases z.set with ⟨_, _, c, z⟩ | ⟨_, z⟩
              · rcases z with z | z | z <;> cases z
              · exact ⟨j, z⟩
            have SP2 : StepP Tb K O P st σ0 H0 (s.set i (.d x)) (σ.set i (some v)) H := ⟨SP.S.setN hw ⟨v, rfl, h.1.sub (av_mono fun a z => .inl z)⟩ hn, SP.F.setN ⟨v, rfl, h.1⟩ hn, SP.p, SP.nd⟩
            exact ih SP2 (h.2.to ow fun r hr z => (nls (by exact nl) r hr z).elim) nl nd sub e
          · cases e
        | own c =>
          cases Pl with
          | nil => exact h.elim
          | cons p Pl =>
            have e : (if wrOk s[i]? = true then vStore is rs (s.set i (.own c)) else none) = some s' := e
            split at e
            · rename_i hw
              obtain ⟨rfl, C, h2⟩ := h
              have hpP := sub p List.mem_cons_self
              have np : p ∉ P.erase p := fun z => (List.Nodup.mem_erase_iff SP.nd).mp z |>.1 rfl
              have wsE : ∀ a, O.ws P a ↔ (O.ws (P.erase p)).with p a := fun a => by
                show (O a ∨ a ∈ P) ↔ ((O a ∨ a ∈ P.erase p) ∨ a = p)
                rw [List.Nodup.mem_erase_iff SP.nd]
                by_cases ha : a = p
                · subst ha; exact ⟨fun _ => .inr rfl, fun _ => .inr hpP⟩
                · exact ⟨fun z => .inl (z.imp id fun z => ⟨ha, z⟩), fun z => z.elim (fun z => z.imp id And.right) fun z => absurd z ha⟩
              have F1 : FR Tb K ((O.ws (P.erase p)).with p) s σ H := SP.F.sub fun a z => (wsE a).mpr z
              have nO : ¬ O.ws (P.erase p) p := fun z => z.elim (SP.p p hpP).2 np
              have F2 := F1.setOwn nO (C.sub (av_mono fun a z => (wsE a).mpr z)) (wr_lt hw)
              have ow : ∀ a, Av (O.ws (P.erase p)) (s.set i (.own c)) (σ.set i (some (.ref p))) a → Av (O.ws P) s σ a := fun a z => by
                rcases z with z | ⟨j, z⟩
                · exact .inl (z.imp id fun z => List.mem_of_mem_erase z)
                · rcases z.set with ⟨_, ez, _⟩ | ⟨_, z⟩
                  · cases ez; exact .inl (.inr hpP)
                  · exact .inr ⟨j, z⟩
              have S2 : Step Tb K O st σ0 H0 (s.set i (.own c)) (σ.set i (some (.ref p))) H := by
                refine ⟨F2.sub fun a z => .inl z, SP.S.keep, fun a ⟨j, z⟩ => ?_, fun a ⟨j, z⟩ => ?_, SP.S.dom, List.length_set.trans SP.S.len, fun j c0 z => ?_, fun j c0 z => ?_⟩
                · rcases z.set with ⟨_, ez, _⟩ | ⟨_, z⟩
                  · cases ez; exact (SP.p p hpP).1.imp MutO.own id
                  · exact SP.S.new a ⟨j, z⟩
                · rcases z.set with ⟨_, ez, _⟩ | ⟨_, z⟩
                  · cases ez; exact (SP.p p hpP).1
                  · exact SP.S.mnew a ⟨j, z⟩
                · obtain ⟨⟨c', h'⟩, e⟩ := SP.S.io j c0 z
                  obtain ⟨a, b⟩ := wr_io (sv := .own c) hw h'
                  exact ⟨⟨c', a⟩, by rw [List.getElem?_set_ne (Ne.symm b)]; exact e⟩
                · obtain ⟨h', e⟩ := SP.S.lk j c0 z
                  obtain ⟨a, b⟩ := wr_lk (sv := .own c) hw h'
                  exact ⟨a, by rw [List.getElem?_set_ne (Ne.symm b)]; exact e⟩
              have SP2 : StepP Tb K O (P.erase p) st σ0 H0 (s.set i (.own c)) (σ.set i (some (.ref p))) H := ⟨S2, F2, fun a ha => SP.p a (List.mem_of_mem_erase ha), SP.nd.erase p⟩
              have nd1 := List.nodup_cons.mp nd
              exact ih SP2 (h2.to ow fun r hr z => (nls (by exact nl) r hr z).elim) nl nd1.2 (fun q hq => (List.Nodup.mem_erase_iff SP.nd).mpr ⟨fun z => nd1.1 (z ▸ hq), sub q (List.mem_cons_of_mem _ hq)⟩) e
            · cases e
/-- arguments that keep their lists -/
def tVP (Tb : List (Addr × Str)) (K : PySem.W.Frag) (mg : Str → Option Value) (W : WX) (f : VM (List EV)) : TA := fun σ H Q =>
  ∃ O st, FR Tb K O st σ H ∧ VRun Tb K mg W O st σ H (f st) fun rs s => ∀ vs H' P, StepP Tb K O P st σ H s σ H' → PR Tb K (O.ws P) s σ H' P vs rs → Q vs H'
def vPc (f : VM EV) (fs : VM (List EV)) : VM (List EV) := vb f fun r => vb fs fun rs => vr (r :: rs)
end
abbrev VP (Tb : List (Addr × Str)) (X : Cx) (W : WX) (es : List Expr) (f : VM (List EV)) : Prop := PA X es (tVP Tb X.K X.mg W f)
section
variable {K : PySem.W.Frag} {mg : Str → Option Value} {W : WX} {O O' : AS} {P Pl : List Addr} {st s s1 s2 : VS} {σ σ0 σ1 : L2.St} {H H0 H1 H2 : Hp} {v : V} {r : EV} {vs : List V} {rs : List EV}
/-- one result more -/
theorem PR.cons (S1 : Step Tb K O st σ H s1 σ H1) (E1 : ER Tb K O H s1 σ H1 v r) : ∃ P1 : List Addr, FR Tb K (O.ws P1) s1 σ H1 ∧ ∀ P' vs rs s2 H2, StepP Tb K (O.ws P1) P' s1 σ H1 s2 σ H2 → PR Tb K ((O.ws P1).ws P') s2 σ H2 P' vs rs →
    StepP Tb K O (P1 ++ P') st σ H s2 σ H2 ∧ PR Tb K (O.ws (P1 ++ P')) s2 σ H2 (P1 ++ P') (v :: vs) (r :: rs) := by
  have w2 : ∀ {P1 P' : List Addr} a, O.ws (P1 ++ P') a ↔ (O.ws P1).ws P' a := fun {P1 P'} a => by
    show (O a ∨ a ∈ P1 ++ P') ↔ ((O a ∨ a ∈ P1) ∨ a ∈ P')
    rw [List.mem_append, or_assoc]
  have stp : ∀ {P1 : List Addr}, (∀ p ∈ P1, H p = none ∧ ¬ O p) → P1.Nodup → ∀ {P' : List Addr} {s2 : VS} {H2 : Hp}, StepP Tb K (O.ws P1) P' s1 σ H1 s2 σ H2 → StepP Tb K O (P1 ++ P') st σ H s2 σ H2 := fun {P1} h1 nd1 {P' s2 H2} SP => by
    refine ⟨S1.trans (SP.S.sub fun a z => .inl z), SP.F.sub fun a z => (w2 a).mp z, fun a ha => ?_, List.nodup_append.mpr ⟨nd1, SP.nd, fun a ha b hb e => (SP.p b hb).2 (.inr (e ▸ ha))⟩⟩
    rcases List.mem_append.mp ha with ha | ha
    · exact ⟨.inr (h1 a ha).1, (h1 a ha).2⟩
    · obtain ⟨q, n⟩ := SP.p a ha
      exact ⟨q.elim (S1.mnew a) fun q => .inr (S1.dom a q), fun z => n (.inl z)⟩
  have avb : ∀ {P1 P' : List Addr} {s2 : VS} {H2 : Hp}, StepP Tb K (O.ws P1) P' s1 σ H1 s2 σ H2 → ∀ a, Av (O.ws (P1 ++ P')) s2 σ a → Av (O.ws P1) s1 σ a ∨ H1 a = none := fun {P1 P' s2 H2} SP a z => by
    rcases z with z | z
    · rcases (w2 a).mp z with z | z
      · exact .inl (.inl z)
      · rcases (SP.p a z).1 with q | q
        · exact .inl (.inr q.own)
        · exact .inr q
    · exact (SP.S.new a z).imp .inr id
  cases r with
  | d x =>
    refine ⟨[], S1.fr.sub fun a z => z.elim id fun z => (by cases z), fun P' vs rs s2 H2 SP h => ⟨stp (fun _ h => by cases h) List.nodup_nil SP, ?_, h.to (av_mono fun a z => (w2 a).mp z) fun _ _ _ => rfl⟩⟩
    exact Rp.mono (fun a z => (avb SP a z).imp (av_mono (fun a z => z.elim id fun z => (by cases z)) a) id) (fun a o e t n => SP.S.keep a o e t fun z => n (.inr z.own)) _ _ E1
  | own c =>
    obtain ⟨p, rfl, hp, n, F, C⟩ := E1
    have e1 : ∀ a, O.ws [p] a → O.with p a := fun a z => z.imp id fun z => by simpa using z
    refine ⟨[p], F.sub e1, fun P' vs rs s2 H2 SP h => ⟨stp (fun q hq => by rw [List.mem_singleton.mp hq]; exact ⟨hp, n⟩) (by simp) SP, rfl, ?_, h.to (av_mono fun a z => (w2 a).mp z) fun _ _ _ => rfl⟩⟩
    have hpm : ¬ MutO s1 σ p := fun z => F.avoid p z.own (.inr rfl)
    refine C.mono (fun a z => (avb SP a z).imp (av_mono e1 a) id) (fun a o e t n => SP.S.keep a o e t fun z => n (.inr z.own)) ?_
    cases e : H1 p with
    | none => exact absurd e C.there
    | some o => exact SP.S.keep p o e (C.ntb e) hpm
  | loan j =>
    refine ⟨[], S1.fr.sub fun a z => z.elim id fun z => (by cases z), fun P' vs rs s2 H2 SP h => ⟨stp (fun _ h => by cases h) List.nodup_nil SP, ?_⟩⟩
    have h2 : PR Tb K (O.ws ([] ++ P')) s2 σ H2 ([] ++ P') vs rs := h.to (av_mono fun a z => (w2 a).mp z) fun _ _ _ => rfl
    have E1 : σ[j]? = some (some v) := E1
    rw [List.nil_append] at h2 ⊢
    cases P' <;> exact ⟨E1, h2⟩
end
section
variable {X : Cx} {W : WX} {a b c e : Expr} {es : List Expr} {pos : Pos} {fe : VM EV} {fs : VM (List EV)}
theorem vp_nil : VP Tb X W [] (vr []) := PA.wk pa_nil fun σ H Q ⟨O, st, F, h⟩ => h [] H [] ⟨Step.refl F, F.sub fun a z => z.elim id fun z => (by cases z), fun _ h => (by cases h), List.nodup_nil⟩ rfl
theorem vp_cons (ha : VE Tb X W e fe) (hr : VP Tb X W es fs) (hs : starEach (e :: es) X.env = (false, eval e X.env) :: starEach es X.env := by rfl) : VP Tb X W (e :: es) (vPc fe fs) := by
  refine PA.wk (pa_cons ha hr hs) fun σ H Q h => ?_
  obtain ⟨O, st, F, h⟩ := h
  refine tV.bind F h fun r s1 v H1 S1 E1 h => ?_
  obtain ⟨P1, F1, g⟩ := PR.cons S1 E1
  refine ⟨O.ws P1, s1, F1, ((vrun_vb h).more fun a z => .inl z).mono fun rs s2 q vs H2 P' SP h2 => ?_⟩
  obtain ⟨a1, a2⟩ := g P' vs rs s2 H2 SP h2
  exact q (v :: vs) H2 _ a1 a2
def vPar (is : List Nat) (fs : VM (List EV)) : VM Ctl := vb fs fun rs => fun s => match vRelease rs s with
  | some (rs', s2) => match vStore is rs' s2 with
    | some s3 => .ok (.nx, s3)
    | none => .error .stuck
  | none => .error .stuck
theorem vPar_ok {K : PySem.W.Frag} {mg : Str → Option Value} {O : AS} {P : List Addr} {st s : VS} {σ σ0 : L2.St} {H H0 : Hp} {vs : List V} {rs : List EV} {is : List Nat} {D : Ends} (SP : StepP Tb K O P st σ0 H0 s σ H) (h : PR Tb K (O.ws P) s σ H P vs rs)
    {O9 : AS} {st9 : VS} {σ9 : L2.St} {H9 : Hp} (g : VRun Tb K mg W O9 st9 σ9 H9 ((fun s => match vRelease rs s with
      | some (rs', s2) => match vStore is rs' s2 with
        | some s3 => .ok (.nx, s3)
        | none => .error .stuck
      | none => .error .stuck : VM Ctl) s) (CtlK Tb K O st σ0 H0 D)) : vs.length = is.length ∧ D.nx (setσ is vs σ) H := by
  dsimp only at g
  cases e : vRelease rs s with
  | none => rw [e] at g; exact g.elim
  | some q =>
    obtain ⟨rs', s2⟩ := q
    rw [e] at g
    dsimp only at g
    cases e2 : vStore is rs' s2 with
    | none => rw [e2] at g; exact g.elim
    | some s3 =>
      rw [e2] at g
      obtain ⟨P', Pl', SP', h', nl, nd', sub', _⟩ := rel_ok (rs' := rs') (s' := s2) SP h SP.nd (fun q h => h) e
      refine ⟨?_, g _ _ (store_ok SP' h' nl nd' sub' e2)⟩
      have len : ∀ {is : List Nat} {rs : List EV} {s s3 : VS}, vStore is rs s = some s3 → rs.length = is.length := fun {is} => by
        induction is with
        | nil => intro rs s s3 h; cases rs with
          | nil => rfl
          | cons r rs => cases h
        | cons i is ih =>
          intro rs s s3 h
          cases rs with
          | nil => cases h
          | cons r rs =>
            cases r with
            | d x =>
              have h : (if wrOk s[i]? = true then vStore is rs (s.set i (.d x)) else none) = some s3 := h
              split at h
              · rw [List.length_cons, List.length_cons, ih h]
              · cases h
            | own x =>
              have h : (if wrOk s[i]? = true then vStore is rs (s.set i (.own x)) else none) = some s3 := h
              split at h
              · rw [List.length_cons, List.length_cons, ih h]
              · cases h
            | loan x => cases h
      rw [h'.len, len e2]
theorem vs_par2 {i j : Nat} {x y : Str} {px py pt : Pos} {kt k2 pt2} (hc : X.calm = true) (hN : X.N.Nodup) (hi : X.N[i]? = some x) (hj : X.N[j]? = some y) (hij : i ≠ j)
    (hx : X.env.scope.names.lookup x = some .local) (hy : X.env.scope.names.lookup y = some .local) (ha : VP Tb X W [a, b] fs)
    (hw : swappedStores [.Tuple [.Name x px, .Name y py] kt pt] (.Tuple [a, b] k2 pt2) X.env = pure (some [x, y]))
    (hs : swapsWithSole [.Tuple [.Name x px, .Name y py] kt pt] (.Tuple [a, b] k2 pt2) pos.line X.env = pure false := by rfl) :
    VSt Tb X W (.Assign [.Tuple [.Name x px, .Name y py] kt pt] (.Tuple [a, b] k2 pt2) pos) (vPar [i, j] fs) := by
  refine PS.wk (ps_par hc hN hi hj hij hx hy ha hw hs) fun D σ H h => ?_
  obtain ⟨O, st, F, h⟩ := h
  refine ⟨O, st, F, (vrun_vb h).mono fun rs s q vs H1 P SP hp => ?_⟩
  obtain ⟨hl, hn⟩ := vPar_ok SP hp q
  match vs, hl, hn with
  | [v, w], _, hn => exact ⟨v, w, rfl, hn⟩
theorem vs_setM {i : Nat} {x : Str} {pos' : Pos} (hN : X.N.Nodup) (hi : X.N[i]? = some x) (hx : Loc X.env.scope x) (he : VE Tb X W e fe) (hs : swapsWith e (some (.Name x pos')) pos.line X.env = pure false := by rfl) (hf : X.fn x = true ∨ X.env.scope.names.lookup x = some .local := by first | exact .inl rfl | exact .inr rfl | assumption) :
    VSt Tb X W (.Assign [.Name x pos'] e pos) (vPar [i] (vPc fe (vr []))) := by
  refine PS.wk (ps_set hN hi hx he hs hf) fun D σ H h => ?_
  obtain ⟨O, st, F, h⟩ := h
  have h : VRun Tb X.K X.mg W O st σ H (vb fe (fun r => fun s => match vRelease [r] s with
      | some (rs', s2) => match vStore [i] rs' s2 with
        | some s3 => .ok (.nx, s3)
        | none => .error .stuck
      | none => .error .stuck) st) (CtlK Tb X.K O st σ H D) := by
    have : vPar [i] (vPc fe (vr [])) = vb fe (fun r => fun s => match vRelease [r] s with
      | some (rs', s2) => match vStore [i] rs' s2 with
        | some s3 => .ok (.nx, s3)
        | none => .error .stuck
      | none => .error .stuck) := by
      funext s
      show vb (vb fe fun r => vb (vr []) fun rs => vr (r :: rs)) _ s = _
      unfold vb
      cases fe s with
      | ok p => rfl
      | error er => rfl
    rw [this] at h; exact h
  refine tV.bind F h fun r s1 v H1 S1 E1 h => ?_
  obtain ⟨P1, F1, g⟩ := PR.cons S1 E1
  obtain ⟨a1, a2⟩ := g [] [] [] s1 H1 ⟨Step.refl F1, F1.sub fun a z => z.elim id fun z => (by cases z), fun _ h => (by cases h), List.nodup_nil⟩ rfl
  have hP : P1 ++ [] = P1 := List.append_nil _
  rw [hP] at a1 a2
  exact (vPar_ok (is := [i]) a1 a2 h).2
end
end VL
set_option Elab.async false
set_option linter.all false
set_option maxRecDepth 100000
namespace VL
open PySem PySem.Spec PyProof.Rows L2 HT
/-! ### t[::-1] -/
section
variable {prog : Program} {w : World} {A : Around} {E : Value → Shared → Prop} {s : Shared}
theorem pick_rev (xs : Array Value) : ((List.range xs.size).filterMap fun (m : Nat) => xs[((xs.size : Int) - 1 + (m : Int) * (-1)).toNat]?) = xs.toList.reverse := by
  have h : ∀ m, m < xs.size → xs[((xs.size : Int) - 1 + (m : Int) * (-1)).toNat]? = xs.toList.reverse[m]? := fun m hm => by
    have e : ((xs.size : Int) - 1 + (m : Int) * (-1)).toNat = xs.size - 1 - m := by omega
    rw [e, List.getElem?_reverse (by simpa using hm), Array.length_toList, Array.getElem?_toList]
  have h2 : (List.range xs.size).filterMap (fun (m : Nat) => xs[((xs.size : Int) - 1 + (m : Int) * (-1)).toNat]?) = (List.range xs.size).filterMap (fun m => xs.toList.reverse[m]?) := by
    have g : ∀ (l : List Nat), (∀ m ∈ l, m < xs.size) → l.filterMap (fun (m : Nat) => xs[((xs.size : Int) - 1 + (m : Int) * (-1)).toNat]?) = l.filterMap (fun m => xs.toList.reverse[m]?) := by
      intro l
      induction l with
      | nil => intro _; rfl
      | cons m l ih =>
        intro hl
        rw [List.filterMap_cons, List.filterMap_cons, h m (hl m List.mem_cons_self), ih fun k hk => hl k (List.mem_cons_of_mem _ hk)]
    exact g _ fun m hm => List.mem_range.mp hm
  rw [h2]
  have h3 : ∀ (l : List Value), (List.range l.length).filterMap (fun m => l[m]?) = l := by
    intro l
    induction l with
    | nil => rfl
    | cons x l ih =>
      rw [List.length_cons, List.range_succ_eq_map, List.filterMap_cons]
      simp only [List.getElem?_cons_zero]
      rw [List.filterMap_map]
      congr 1
  have h4 := h3 xs.toList.reverse
  rw [List.length_reverse, Array.length_toList] at h4
  exact h4
theorem getItem_tuple_rev {t sl : Addr} {items : Array Value} {vs : Value} {Q : Value → Shared → Prop} (ht : IsTup s.heap t items) (hs : s.heap.IsSliceOf sl .none .none vs) (ps : IsPart vs (some (-1)))
    (h : Q (.ref s.heap.objs.size) { s with heap := s.heap.push { cls := .type "tuple", data := .seq items.toList.reverse.toArray } }) (hsz : items.size ≤ sizeLine) : wpAny (model prog w) A (getItem (.ref t) (.ref sl)) Q E s := by
  have htake : sizeOk (.seq items.toList.reverse.toArray) := by
    show items.toList.reverse.toArray.size ≤ sizeLine
    rw [List.size_toArray, List.length_reverse, Array.length_toList]; exact hsz
  obtain ⟨os, hos, hcs, hds⟩ := id hs
  have hTs : s.TypeIs (.ref sl) "slice" := ⟨os, hos, hcs⟩
  unfold getItem
  try with_reducible refine wpAny_holding ?_
  first | refine wpAny_bind (wpAny_pure ?_) | skip
  refine wpAny_bind (wpAny_sequenceKey ht.typeIs (by decide) ?_)
  refine wpAny_bind (wpAny_callSpecial?_slot (name := Str.ofString "__getitem__") ht.typeIs PyProof.Rows.slot_tuple_getitem
    (wpAny_call_entry PyProof.Rows.slot_tuple_getitem ht.typeIs entry_tuple_getitem ?_ (args_tuple_getitem _ _)))
  show wpAny _ _ (Builtin.Tuple.tupleItemsOf (.ref t) >>= _) _ _ s
  refine wpAny_bind (tupleItemsOf_ ht ?_)
  refine wpAny_bind (wpAny_typeOf hTs ?_)
  rw [if_pos (by decide)]
  refine wpAny_bind ?_
  unfold Builtin.Slice.sliceApplied Builtin.Slice.sliceFields
  refine wpAny_bind (wpAny_bind (wpAny_field hos hds (x := .none) rfl (wpAny_bind (wpAny_field hos hds (x := .none) rfl (wpAny_bind (wpAny_field hos hds (x := vs) rfl (wpAny_pure ?_)))))))
  refine wpAny_bind (slicePart_ ps ?_)
  show wpAny _ _ (if ((-1 : Int) == 0) = true then _ else _) _ _ s
  rw [if_neg (by decide)]
  refine wpAny_bind (slicePart_none (wpAny_bind (slicePart_none (wpAny_bind (wpAny_pure ?_)))))
  have ad : Builtin.Slice.sliceAdjust none none (-1) (items.size : Int) = ((items.size : Int) - 1, -1) := by
    unfold Builtin.Slice.sliceAdjust
    have : ((-1 : Int) < 0) := by omega
    simp only [this, if_true]
  have pl : Builtin.Slice.slicePlaces ((items.size : Int) - 1) (-1) (-1) = items.size := by
    unfold Builtin.Slice.slicePlaces
    have h1 : ¬ ((-1 : Int) > 0) := by omega
    simp only [h1, if_false]
    by_cases h2 : (items.size : Int) - 1 > -1
    · rw [if_pos h2]
      have : ((items.size : Int) - 1 - -1 - 1) / -(-1) + 1 = (items.size : Int) := by
        have : (-(-1 : Int)) = 1 := by omega
        rw [this, Int.ediv_one]; omega
      rw [this]; simp
    · rw [if_neg h2]; omega
  show wpAny _ _ (match Builtin.Slice.sliceAdjust none none (-1) (items.size : Int) with | (lo, hi) => pure (lo, (-1 : Int), Builtin.Slice.slicePlaces lo hi (-1))) _ _ s
  rw [ad]
  show wpAny _ _ (pure ((items.size : Int) - 1, (-1 : Int), Builtin.Slice.slicePlaces ((items.size : Int) - 1) (-1) (-1))) _ _ s
  rw [pl]
  refine wpAny_pure ?_
  have hno : ¬ ((((items.size : Int) - 1) == 0 && (-1 : Int) == 1 && items.size == items.size) = true) := by
    intro q
    rw [Bool.and_eq_true, Bool.and_eq_true] at q
    exact absurd q.1.2 (by decide)
  show wpAny _ _ (if (((items.size : Int) - 1) == 0 && (-1 : Int) == 1 && items.size == items.size) = true then _ else _) _ _ s
  rw [if_neg hno, pick_rev]
  first
    | exact wpAny_bind (m := Builtin.Tuple.tupleExact _) (wpAny_newObj_type (wpAny_pure ⟨_, rfl, wpAny_pure h⟩) htake)
    | exact wpAny_bind (m := Builtin.Tuple.tupleExact _) (wpAny_newObj_type (wpAny_bind (wpAny_pure (wpAny_pure ⟨_, rfl, wpAny_pure h⟩))) htake)
    | exact wpAny_bind (wpAny_bind (m := Builtin.Tuple.tupleExact _) (wpAny_newObj_type (wpAny_pure (wpAny_pure ⟨_, rfl, wpAny_pure h⟩)) htake))
    | exact wpAny_bind (wpAny_bind (m := Builtin.Tuple.tupleExact _) (wpAny_newObj_type (wpAny_pure ⟨_, rfl, wpAny_pure h⟩) htake))
end
/-- x[::-1], x a list or a tuple -/
def tRevA (K : PySem.W.Frag) (te : TE) : TE := fun σ H Q => te σ H fun x H1 => ∃ a xs, x = .ref a ∧ ((SqL K H1 a xs ∧ ∀ p, H1 p = none → Q (.ref p) (upd H1 p (.lst xs.reverse))) ∨ (SqT K H1 a xs ∧ ∀ p, H1 p = none → Q (.ref p) (upd H1 p (.tup xs.reverse))))
section
variable {X : Cx} {W : WX} {a b c d e : Expr} {es : List Expr} {pos : Pos} {fa fb fe : VM EV} {fs : VM (List EV)}
theorem pe_revA {e : Expr} {te : TE} {k : Nat} {p1 p2 p3 pos : Pos} (he : PE X e te) : PE X (.Subscript e (.Slice none none (some (.UnaryOp .USub (.Constant (.int 1) k p1) p2)) p3) pos) (tRevA X.K te) := by
  refine ⟨fun pins s σ H Q I h => ?_⟩
  refine Subscript_ (thn (he.run pins s σ H _ I h) fun v s1 ⟨x, H1, I1, r1, q1⟩ => ?_)
  obtain ⟨a, xs, ex, hx⟩ := q1
  subst ex
  cases r1
  have hst : PO X (some (.UnaryOp .USub (.Constant (.int 1) k p1) p2)) (tPart (tUn (rU fun i => .int (-i)) (tC (.int 1)))) := po_some (pe_un un_neg pe_int)
  refine wpAny_Slice (thn (po_none.run pins s1 σ H1 (fun o H2 => o = none ∧ H2 = H1) I1 ⟨rfl, rfl⟩) fun vl s2 ⟨l, H2, I2, pl, el, e2⟩ => ?_)
  subst el e2
  refine thn (po_none.run pins s2 σ H2 (fun o H3 => o = none ∧ H3 = H2) I2 ⟨rfl, rfl⟩) fun vu s3 ⟨u, H3, I3, pu, eu, e3⟩ => ?_
  subst eu e3
  refine thn (hst.run pins s3 σ H3 (fun o H4 => o = some (-1) ∧ H4 = H3) I3 ⟨1, rfl, -1, rfl, rfl, rfl⟩) fun vs s4 ⟨o, H4, I4, ps, eo, e4⟩ => ?_
  subst eo e4
  have I5 : Inv X pins σ H4 { s4 with heap := s4.heap.push { cls := .type "slice", data := .fields #[vl, vu, vs] } } := I4.kept (t' := s4.toks) fun b ob q => Heap.get?_push_of_some _ q
  show wpAny (model X.prog X.w) X.A (subscriptTail e (.Slice none none (some (.UnaryOp .USub (.Constant (.int 1) k p1) p2)) p3) (.ref a) (.ref s4.heap.objs.size)) (EP X pins σ Q) X.xe { s4 with heap := s4.heap.push { cls := .type "slice", data := .fields #[vl, vu, vs] } }
  rcases hx with ⟨hx, q⟩ | ⟨hx, q⟩
  · obtain ⟨its, r, ht, hz⟩ := I5.list hx
    have hlen := r.length
    refine tail_any (ops := [.ref a, .ref s4.heap.objs.size]) ht.isList.typeIs (PySem.slot_list_getitem.lookup) ?_ (by with_unfolding_all rfl)
    refine wpAny_getItem_list_slice ht.isList (Heap.IsSliceOf.new _ vl vu vs) pl pu ps (by decide) ?_ (by rw [List.size_toArray]; omega)
    rw [PySem.W.krv_pick]
    refine ⟨.ref _, _, I5.laid (t' := s4.toks) (o := .lst xs.reverse) (fun b ob q => Heap.get?_push_of_some _ q) (Nat.le_refl _) ?_, rfl, q _ (I5.hok.fresh (Nat.le_refl _))⟩
    exact ⟨by rw [List.length_reverse]; exact hz, _, 0, r.reverse, Heap.get?_push_size _ rfl⟩
  · obtain ⟨its, r, ht, hz⟩ := I5.tuple hx
    have hlen := r.length
    refine tail_any (ops := [.ref a, .ref s4.heap.objs.size]) ht.typeIs PyProof.Rows.slot_tuple_getitem.lookup ?_ (by with_unfolding_all rfl)
    cases pl
    cases pu
    refine getItem_tuple_rev ht (Heap.IsSliceOf.new _ .none .none vs) ps ?_ (by rw [List.size_toArray]; omega)
    refine ⟨.ref _, _, I5.laid (t' := s4.toks) (o := .tup xs.reverse) (fun b ob q => Heap.get?_push_of_some _ q) (Nat.le_refl _) ?_, rfl, q _ (I5.hok.fresh (Nat.le_refl _))⟩
    exact ⟨by rw [List.length_reverse]; exact hz, _, r.reverse, IsTup.new _ _⟩
def revD : Da → Option EV
  | .list xs => some (.own (.l xs.reverse))
  | .tuple xs => some (.d (.tuple xs.reverse))
  | _ => none
theorem ve_rev {k : Nat} {p1 p2 p3 pos : Pos} (he : VE Tb X W e fe) : VE Tb X W (.Subscript e (.Slice none none (some (.UnaryOp .USub (.Constant (.int 1) k p1) p2)) p3) pos) (vUn revD fe) := by
  refine PE.wk (pe_revA he) fun σ H Q h => ?_
  obtain ⟨O, st, F, h⟩ := h
  refine tV.bind F h fun ra s1 v H1 S1 E1 h => ?_
  obtain ⟨x, Rx, h⟩ := h.rd S1.fr E1
  obtain ⟨z, ez, h⟩ := h.opt1
  cases x with
  | list xs =>
    cases ez
    obtain ⟨a, vs, rfl, g, r⟩ := Rx.list
    exact ⟨a, vs, rfl, .inl ⟨.of g, fun p hp => h _ _ (S1.trans (Step.ext S1.fr (Same.upd hp))) ((NR.er S1.fr (Same.upd hp) (NR.lst r.reverse hp)).back S1.dom)⟩⟩
  | tuple xs =>
    cases ez
    obtain ⟨a, vs, rfl, g, r⟩ := Rx.tupT
    exact ⟨a, vs, rfl, .inr ⟨g, fun p hp => h _ _ (S1.trans (Step.ext S1.fr (Same.upd hp))) ((NR.er S1.fr (Same.upd hp) (NR.tup S1.fr.avdom r.reverse hp)).back S1.dom)⟩⟩
  | _ => cases ez
/-! three at once; name = [..] -/
theorem vs_setLc {i k : Nat} {y : Str} {py pos spos : Pos} {elt tg iter : Expr} {ifs : List Expr} {scope : Scope} {own : List (Str × Nat)} {fi : VM (List Da × Lks)} {f : Da → VM Unit} {tt : VM Bool} {te : VM EV} (c : VC X W k) (hy : X.N[i]? = some y) (hyl : X.env.scope.names.lookup y = some .local)
    (hsw : swapsWith (.ListComp elt [⟨tg, iter, ifs, 0⟩] scope pos) (some (.Name y py)) spos.line X.env = pure true) (hi : VI Tb X W tg iter fi) (ok : BlkOk X.N X.env.scope scope own)
    (hg : ∀ (s : Shared) (H : Hp) (C : Addr) (cl : List (Str × Addr)) (fp : List Addr), VGD Tb (X.blk s H scope (compEnvC scope cl C X.env) fp) (own.map (·.2)) tg f)
    (ht : ∀ (s : Shared) (H : Hp) (C : Addr) (cl : List (Str × Addr)) (fp : List Addr), VC (X.blk s H scope (compEnvC scope cl C X.env) fp) W0 k → VTs Tb (X.blk s H scope (compEnvC scope cl C X.env) fp) W0 ifs tt)
    (he : ∀ (s : Shared) (H : Hp) (C : Addr) (cl : List (Str × Addr)) (fp : List Addr), VC (X.blk s H scope (compEnvC scope cl C X.env) fp) W0 k → VE Tb (X.blk s H scope (compEnvC scope cl C X.env) fp) W0 elt te) (hs : ∀ x, foldedSetIterable iter X.env x = pure x := by intro _; rfl) :
    VSt Tb X W (.Assign [.Name y py] (.ListComp elt [⟨tg, iter, ifs, 0⟩] scope pos) spos) (vAsg (vLc (own.map (·.2)) fi f tt te) (vSet i)) := by
  have cb : ∀ (s : Shared) (H : Hp) (C : Addr) (cl : List (Str × Addr)) (fp : List Addr), VC (X.blk s H scope (compEnvC scope cl C X.env) fp) W0 k := fun s H C cl fp => ⟨c.calm, c.nd, takes0, c.rm⟩
  refine PS.wk (ps_setLc (wi := tVI Tb X.K X.mg W fi) (g := gVD Tb X.K (own.map (·.2)) f) (tt := tVT Tb X.K X.mg W0 tt) (te := tV Tb X.K X.mg W0 te) c.calm c.nd hy hyl hsw hi ok hg (fun s H C cl fp => ht s H C cl fp (cb s H C cl fp)) (fun s H C cl fp => he s H C cl fp (cb s H C cl fp)) hs) fun D σ H h => ?_
  have h2 := asg_wk h
  exact lc_wk (h2.imp fun O ⟨st, F, q⟩ => ⟨st, F, q.mono fun r s z v H' S E => (z v H' S E).name⟩)
end
end VL
set_option Elab.async false
set_option linter.all false
set_option maxRecDepth 100000
namespace VL
open PySem PySem.Spec PyProof.Rows L2
/-! ### the law's end -/
end VL
set_option Elab.async false
set_option linter.all false
set_option maxRecDepth 100000
namespace VL
open PySem PySem.Spec PyProof.Rows L2
/-- a def of the top, by its name -/
structure Fx (K : PySem.W.Frag) (mg : Str → Option Value) (x : Str) (st : Stmt) (ps : List Str) (f : Addr) (fd : FuncData) : Prop where
  F : Fun K x x st f fd
  b : Binds K fd ps []
  m : mg x = some (.ref f)
section
variable {X : Cx} {W : WX} {x : Str} {pos : Pos}
end
end VL
set_option Elab.async false
set_option linter.all false
set_option maxRecDepth 100000
namespace VL
open PySem PySem.Spec PyProof.Rows L2
section
variable {K : PySem.W.Frag} {mg : Str → Option Value} {W : WX} {O O' : AS} {P Pl : List Addr} {st s s1 s2 : VS} {σ σ0 σ1 : L2.St} {H H0 H1 H2 : Hp} {v : V} {r : EV} {vs : List V} {rs : List EV}
theorem Cont.ext {p : Addr} {c : OC} (h : Cont K O H p c) (k : Same H H1) : Cont K O H1 p c := by
  refine h.mono (fun _ h => .inl h) (fun a o e _ _ => k a o e) ?_
  cases e : H p with
  | none => exact absurd e h.there
  | some o => exact k _ _ e
theorem PR.ext (k : Same H H1) (h : PR Tb K O' s σ H Pl vs rs) : PR Tb K O' s σ H1 Pl vs rs := by
  induction rs generalizing vs Pl with
  | nil =>
    cases vs with
    | nil => exact h
    | cons v vs => exact h.elim
  | cons r rs ih =>
    cases vs with
    | nil => cases r <;> exact h.elim
    | cons v vs =>
      cases r with
      | d x => exact ⟨Rp.mono (fun _ h => .inl h) (fun a o e _ _ => k a o e) _ _ h.1, ih h.2⟩
      | own c =>
        cases Pl with
        | nil => exact h.elim
        | cons p Pl => exact ⟨h.1, h.2.1.ext k, ih h.2.2⟩
      | loan j =>
        have h' : σ[j]? = some (some v) ∧ PR Tb K O' s σ H Pl vs rs := by cases Pl <;> exact h
        have g : σ[j]? = some (some v) ∧ PR Tb K O' s σ H1 Pl vs rs := ⟨h'.1, ih h'.2⟩
        cases Pl <;> exact g
theorem StepP.ext (SP : StepP Tb K O P st σ0 H0 s σ H) (k : Same H H1) : StepP Tb K O P st σ0 H0 s σ H1 :=
  ⟨SP.S.trans (Step.ext SP.S.fr k), SP.F.ext k, SP.p, SP.nd⟩
end
/-- names in their order -/
def gN (is : List Nat) : TGs := fun vs σ H Q => vs.length = is.length ∧ Q (setσ is vs σ) H
section
variable {X : Cx} {W : WX} {a b c e : Expr} {es ts : List Expr} {pos p : Pos} {fe : VM EV} {fs : VM (List EV)} {is : List Nat}
theorem gn_nil : PGs X [] (gN []) := PGs.wk pgs_nil fun vs σ H Q h => by
  obtain ⟨h1, h2⟩ := h
  cases vs with
  | nil => exact ⟨rfl, h2⟩
  | cons v vs => cases h1
theorem gn_cons {i : Nat} {x : Str} {p : Pos} (hN : X.N.Nodup) (hi : X.N[i]? = some x) (hx : Loc X.env.scope x) (h : PGs X ts (gN is)) (hs : (assignEach (.Name x p :: ts) X.env).map (·.2) = assign (.Name x p) X.env :: (assignEach ts X.env).map (·.2) := by rfl) (hf : X.fn x = true ∨ X.env.scope.names.lookup x = some .local := by first | exact .inl rfl | exact .inr rfl | assumption) :
    PGs X (.Name x p :: ts) (gN (i :: is)) := by
  refine PGs.wk (pgs_cons (pg_name hN hi hx hf) h hs) fun vs σ H Q g => ?_
  obtain ⟨h1, h2⟩ := g
  cases vs with
  | nil => cases h1
  | cons v vs => exact ⟨v, vs, rfl, by simpa using h1, h2⟩
theorem vs_parT {kt k2 : Nat} {pt pt2 : Pos} (hc : X.calm = true) (hg : PGs X ts (gN is)) (ha : VP Tb X W es fs) (hl : is.length ≤ 16 := by decide)
    (hn : (assignEach ts X.env).length = is.length := by rfl) (hst : (assignEach ts X.env).findIdx? (·.1) = none := by rfl)
    (hs : swapsWithSole [.Tuple ts kt pt] (.Tuple es k2 pt2) pos.line X.env = pure false := by rfl) (hw : swappedStores [.Tuple ts kt pt] (.Tuple es k2 pt2) X.env = pure none := by rfl)
    (h1 : (assignEach [.Tuple ts kt pt] X.env).map (·.2) = [assign (.Tuple ts kt pt) X.env] := by rfl) : VSt Tb X W (.Assign [.Tuple ts kt pt] (.Tuple es k2 pt2) pos) (vPar is fs) := by
  refine PS.wk (ps_asg (pe_tup ha) (pg_tup hc hg hn hst) hs hw h1) fun D σ H h => ?_
  obtain ⟨O, st, F, h⟩ := h
  refine ⟨O, st, F, (vrun_vb h).mono fun rs s q vs H1 P SP hp => ?_⟩
  have hlen := (vPar_ok (mg := X.mg) (W := W) (D := { D with nx := fun _ _ => True }) (O9 := O) (st9 := st) (σ9 := σ) (H9 := H) SP hp (by
    revert q
    dsimp only
    intro q
    cases e : vRelease rs s with
    | none => rw [e] at q; exact q.elim
    | some q' =>
      obtain ⟨rs', s2⟩ := q'
      rw [e] at q
      dsimp only at q ⊢
      cases e2 : vStore is rs' s2 with
      | none => rw [e2] at q; exact q.elim
      | some s3 => exact fun _ _ _ => trivial)).1
  refine ⟨by rw [hlen, sizeLine_eq]; omega, fun p hp' => ?_⟩
  have k := Same.upd (o := .tup vs) hp'
  refine ⟨p, vs, rfl, .of upd_same, hlen, hlen, ?_⟩
  exact (vPar_ok (D := D) (SP.ext k) (hp.ext k) q).2
end
end VL
set_option Elab.async false
set_option linter.all false
set_option maxRecDepth 100000
namespace VL
open PySem PySem.Spec PyProof.Rows L2
/-! ### quicker mirrors -/
mutual
/-- data without dicts, no deeper than n -/
def shF : Nat → Da → Bool
  | _, .none => true
  | _, .bool _ => true
  | _, .int _ => true
  | _, .str x => PyData.canLay0 (.str x)
  | 0, .list _ => false
  | n + 1, .list xs => shFs n xs
  | 0, .tuple _ => false
  | n + 1, .tuple xs => shFs n xs
  | _, .dict _ => false
def shFs : Nat → List Da → Bool
  | _, [] => true
  | n, x :: xs => shF n x && shFs n xs
end
mutual
theorem shF_ok : ∀ (n : Nat) (d : Da), shF n d = true → d.canLay0 = true ∧ d.depth ≤ n
  | _, .none, _ => ⟨rfl, Nat.zero_le _⟩
  | _, .bool _, _ => ⟨rfl, Nat.zero_le _⟩
  | _, .int _, _ => ⟨rfl, Nat.zero_le _⟩
  | _, .str x, h => by simp only [shF] at h; exact ⟨h, Nat.zero_le _⟩
  | 0, .list _, h => by simp only [shF] at h; cases h
  | n + 1, .list xs, h => by
    simp only [shF] at h
    obtain ⟨a, b⟩ := shFs_ok n xs h
    exact ⟨by simp only [PyData.canLay0]; exact a, by simp only [PyData.depth]; omega⟩
  | 0, .tuple _, h => by simp only [shF] at h; cases h
  | n + 1, .tuple xs, h => by
    simp only [shF] at h
    obtain ⟨a, b⟩ := shFs_ok n xs h
    exact ⟨by simp only [PyData.canLay0]; exact a, by simp only [PyData.depth]; omega⟩
  | _, .dict _, h => by simp only [shF] at h; cases h
theorem shFs_ok : ∀ (n : Nat) (ds : List Da), shFs n ds = true → PyData.canLayAll0 ds = true ∧ PyData.depthAll ds ≤ n
  | n, [], _ => ⟨rfl, by simp only [PyData.depthAll]; exact Nat.zero_le _⟩
  | n, x :: xs, h => by
    simp only [shFs, Bool.and_eq_true] at h
    obtain ⟨a, b⟩ := shF_ok n x h.1
    obtain ⟨c, d⟩ := shFs_ok n xs h.2
    exact ⟨by simp only [PyData.canLayAll0, a, c, Bool.and_self], by simp only [PyData.depthAll]; omega⟩
end
theorem shF_shaped {d : Da} (h : shF 64 d = true) : SeqAt.shaped d = true := by
  obtain ⟨a, b⟩ := shF_ok 64 d h
  unfold SeqAt.shaped
  rw [a, decide_eq_true b]; rfl
theorem Op2.le {X : Cx} {f : Value → Value → Sem Value} {g g' : Da → Da → Option EV} (h : Op2 X f g) (hg : ∀ x y z, g' x y = some z → g x y = some z) : Op2 X f g' := by
  obtain ⟨r, h1, h2⟩ := h
  exact ⟨r, h1, fun O H x y v w z Q hd hx hy e q => h2 O H x y v w z Q hd hx hy (hg x y z e) q⟩
def eqF (x y : Da) : Option EV := match x, y with
  | .int i, .int j => some (.d (.bool (i == j)))
  | x, y => if shF 64 x = true ∧ shF 64 y = true then some (.d (.bool (PyData.eqv x y))) else none
def neF (x y : Da) : Option EV := match x, y with
  | .int i, .int j => some (.d (.bool (!(i == j))))
  | x, y => if shF 64 x = true ∧ shF 64 y = true then some (.d (.bool (!PyData.eqv x y))) else none
theorem o_eqF {X : Cx} (hu : X.A.units + 64 < cLine) : Op2 X (compareOp .Eq) eqF := (o_eq hu).le fun x y z e => by
  unfold eqF at e
  split at e
  · exact e
  · split at e
    · rename_i h
      unfold eqD
      rw [if_pos ⟨shF_shaped h.1, shF_shaped h.2⟩]; exact e
    · cases e
theorem o_neF {X : Cx} (hu : X.A.units + 64 < cLine) : Op2 X (compareOp .NotEq) neF := (o_ne hu).le fun x y z e => by
  unfold neF at e
  split at e
  · exact e
  · split at e
    · rename_i h
      unfold neD
      rw [if_pos ⟨shF_shaped h.1, shF_shaped h.2⟩]; exact e
    · cases e
def inF' (neg : Bool) (x y : Da) : Option EV := (seqD y).bind fun xs => if shF 64 x = true ∧ shFs 63 xs = true then some (.d (.bool (if neg = true then !inB x xs else inB x xs))) else none
def inF : Da → Da → Option EV := inF' false
def notinF : Da → Da → Option EV := inF' true
theorem inF_le {neg : Bool} {x y : Da} {z : EV} (e : inF' neg x y = some z) : inD' neg x y = some z := by
  unfold inF' at e
  unfold inD'
  obtain ⟨xs, e1, e⟩ := Option.bind_eq_some_iff.mp e
  rw [e1]
  split at e
  · rename_i h
    have : shF 64 (.list xs) = true := by simp only [shF]; exact h.2
    show (if _ then _ else _) = _
    rw [if_pos ⟨shF_shaped h.1, shF_shaped this⟩]; exact e
  · cases e
section
variable {X : Cx} {W : WX} {elt tg iter : Expr} {ifs : List Expr} {scope : Scope} {own : List (Str × Nat)} {pos : Pos} {fi : VM (List Da × Lks)} {f : Da → VM Unit} {tt : VM Bool} {te : VM EV}
theorem o_notinF {k : Nat} (c : VC X W k) : Op2 X (compareOp .NotIn) notinF := (o_notin c).le fun _ _ _ => inF_le
/-! comprehensions -/
def vLcG (ix : List Nat) (gt : Da → VM Unit) (tt : VM Bool) (te : VM EV) : List Da → VM (List Da)
  | [] => vr []
  | x :: xs => vb (gt x) fun _ => vb tt fun b => if b = true then vb te fun r => vb (vOpt (evD r)) fun y => vb (vWipe ix) fun _ => vb (vLcG ix gt tt te xs) fun ys => vr (y :: ys)
      else vb (vWipe ix) fun _ => vLcG ix gt tt te xs
def vLcF (ix : List Nat) (fi : VM (List Da × Lks)) (gt : Da → VM Unit) (tt : VM Bool) (te : VM EV) : VM EV := vb fi fun p => fun s =>
  if ix.all (fun j => flatS s[j]?) = true then
    match vLcG ix gt tt te p.1 (wipeV ix s) with
    | .ok (ys, s2) => if ys.length ≤ 16777216 then .ok (.own (.l ys), unlock p.2 (restV s ix s2)) else .error .stuck
    | .error _ => .error .stuck
  else .error .stuck
def noX {α : Type} : Res α → Option α
  | .ok a => some a
  | .error _ => none
theorem noX_vb {α β : Type} {g : VM α} {h : α → VM β} {s : VS} : noX (vb g h s) = (noX (g s)).bind fun p => noX (h p.1 p.2) := by
  unfold vb
  cases g s with
  | ok p => rfl
  | error e => rfl
theorem lcG_eq (ix : List Nat) (gt : Da → VM Unit) (tt : VM Bool) (te : VM EV) : ∀ (xs acc : List Da) (s : VS), acc.length ≤ 16777216 →
    noX (vLcL ix gt tt te xs acc s) = (noX (vLcG ix gt tt te xs s)).bind fun p => if acc.length + p.1.length ≤ 16777216 then some (acc ++ p.1, p.2) else none
  | [], acc, s, h => by
    show some (acc, s) = (if acc.length + 0 ≤ 16777216 then some (acc ++ [], s) else none)
    rw [Nat.add_zero, if_pos h, List.append_nil]
  | x :: xs, acc, s, h => by
    simp only [vLcL, vLcG, noX_vb]
    cases e1 : noX (gt x s) with
    | none => rfl
    | some p1 =>
      simp only [Option.bind_some]
      cases e2 : noX (tt p1.2) with
      | none => rfl
      | some p2 =>
        simp only [Option.bind_some]
        by_cases hb : p2.1 = true
        · simp only [hb, if_true, noX_vb]
          cases e3 : noX (te p2.2) with
          | none => rfl
          | some p3 =>
            simp only [Option.bind_some]
            cases e4 : noX (vOpt (evD p3.1) p3.2) with
            | none => rfl
            | some p4 =>
              simp only [Option.bind_some]
              by_cases hl : acc.length < 16777216
              · rw [if_pos hl]
                simp only [noX_vb]
                cases e5 : noX (vWipe ix p4.2) with
                | none => rfl
                | some p5 =>
                  simp only [Option.bind_some]
                  rw [lcG_eq ix gt tt te xs (acc ++ [p4.1]) p5.2 (by rw [List.length_append]; show acc.length + 1 ≤ _; omega)]
                  cases noX (vLcG ix gt tt te xs p5.2) with
                  | none => rfl
                  | some p6 =>
                    simp only [Option.bind_some]
                    show _ = (if acc.length + (p4.1 :: p6.1).length ≤ 16777216 then some (acc ++ (p4.1 :: p6.1), p6.2) else none)
                    have e : (acc ++ [p4.1]).length + p6.1.length = acc.length + (p4.1 :: p6.1).length := by simp; omega
                    rw [e, List.append_assoc]; rfl
              · rw [if_neg hl]
                cases e5 : noX (vWipe ix p4.2) with
                | none => rfl
                | some p5 =>
                  simp only [Option.bind_some]
                  cases noX (vLcG ix gt tt te xs p5.2) with
                  | none => rfl
                  | some p6 =>
                    simp only [Option.bind_some]
                    show none = (if acc.length + (p4.1 :: p6.1).length ≤ 16777216 then some (acc ++ (p4.1 :: p6.1), p6.2) else none)
                    rw [if_neg (by rw [List.length_cons]; omega)]
        · simp only [hb, Bool.false_eq_true, if_false, noX_vb]
          cases e5 : noX (vWipe ix p2.2) with
          | none => rfl
          | some p5 =>
            simp only [Option.bind_some]
            exact lcG_eq ix gt tt te xs acc p5.2 h
theorem lc_F (ix : List Nat) (fi : VM (List Da × Lks)) (f : Da → VM Unit) (tt : VM Bool) (te : VM EV) : vLc ix fi f tt te = vLcF ix fi f tt te := by
  funext s
  show vb fi _ s = vb fi _ s
  unfold vb
  cases fi s with
  | error e => rfl
  | ok p =>
    obtain ⟨p, s1⟩ := p
    dsimp only
    by_cases hf : ix.all (fun j => flatS s1[j]?) = true
    · rw [if_pos hf, if_pos hf]
      have h := lcG_eq ix f tt te p.1 [] (wipeV ix s1) (Nat.zero_le _)
      cases e1 : vLcG ix f tt te p.1 (wipeV ix s1) with
      | error e =>
        rw [e1] at h
        cases e2 : vLcL ix f tt te p.1 [] (wipeV ix s1) with
        | error e => rfl
        | ok q => rw [e2] at h; cases h
      | ok q =>
        obtain ⟨ys, s2⟩ := q
        rw [e1] at h
        have h : noX (vLcL ix f tt te p.1 [] (wipeV ix s1)) = if 0 + ys.length ≤ 16777216 then some ([] ++ ys, s2) else none := h
        rw [Nat.zero_add, List.nil_append] at h
        dsimp only
        split at h
        · rename_i hl
          cases e2 : vLcL ix f tt te p.1 [] (wipeV ix s1) with
          | error e => rw [e2] at h; cases h
          | ok q => rw [e2] at h; cases h; dsimp only; rw [if_pos hl]
        · rename_i hl
          cases e2 : vLcL ix f tt te p.1 [] (wipeV ix s1) with
          | error e => dsimp only; rw [if_neg hl]
          | ok q => rw [e2] at h; cases h
    · rw [if_neg hf, if_neg hf]
theorem ve_lcF {e : Expr} {ix : List Nat} (h : VE Tb X W e (vLc ix fi f tt te)) : VE Tb X W e (vLcF ix fi f tt te) := lc_F ix fi f tt te ▸ h
theorem vs_lcF {s : Stmt} {ix : List Nat} {g : EV → VM Unit} (h : VSt Tb X W s (vAsg (vLc ix fi f tt te) g)) : VSt Tb X W s (vAsg (vLcF ix fi f tt te) g) := lc_F ix fi f tt te ▸ h
/-! what is forgotten -/
def fgt1 (i : Nat) (s : VS) : VS := match s[i]? with
  | some (.io _) => s
  | some (.lk _) => s
  | _ => s.set i .un
def vFgt {α : Type} (is : List Nat) (g : VM α) : VM α := fun s => g (is.foldl (fun s i => fgt1 i s) s)
theorem Step.fgt1 {K : PySem.W.Frag} {O : AS} {st : VS} {σ : L2.St} {H : Hp} (F : FR Tb K O st σ H) (i : Nat) : Step Tb K O st σ H (fgt1 i st) σ H := by
  have gen : ∀ sv, st[i]? = some sv → (∀ c, sv ≠ .io c ∧ sv ≠ .lk c) → (∀ c, sv ≠ .own c) → Step Tb K O st σ H (st.set i .un) σ H := fun sv hs h1 h2 => by
    obtain ⟨v, ev, _⟩ := F.slot i sv hs
    have e : σ.set i v = σ := by
      apply List.ext_getElem?
      intro j
      by_cases hj : j = i
      · subst hj; rw [List.getElem?_set_self (by rw [← F.len]; exact lt_of_get hs), ev]
      · rw [List.getElem?_set_ne (Ne.symm hj)]
    have := Step.setN (i := i) (sv := .un) (ov := v) (Step.refl F) (by
      rw [hs]
      cases sv with
      | io c => exact absurd rfl (h1 c).1
      | lk c => exact absurd rfl (h1 c).2
      | own c => rfl
      | un => rfl
      | d x => rfl
      | rd x => rfl) trivial (fun c => ⟨(fun z => by cases z), (fun z => by cases z), (fun z => by cases z)⟩)
    rw [e] at this
    exact this
  unfold VL.fgt1
  split
  · exact Step.refl F
  · exact Step.refl F
  · rename_i h1 h2
    cases hs : st[i]? with
    | none =>
      have e : st.set i .un = st := by
        apply List.ext_getElem?
        intro j
        by_cases hj : j = i
        · subst hj; rw [hs, List.getElem?_eq_none (by rw [List.length_set]; exact List.getElem?_eq_none_iff.mp hs)]
        · rw [List.getElem?_set_ne (Ne.symm hj)]
      rw [e]; exact Step.refl F
    | some sv =>
      by_cases ho : ∃ c, sv = .own c
      · obtain ⟨c, rfl⟩ := ho
        exact (Step.refl F).drop hs
      · exact gen sv hs (fun c => ⟨fun z => h1 c (z ▸ hs), fun z => h2 c (z ▸ hs)⟩) fun c z => ho ⟨c, z⟩
theorem Step.fgts {K : PySem.W.Frag} {O : AS} {σ : L2.St} {H : Hp} : ∀ (is : List Nat) {st : VS}, FR Tb K O st σ H → Step Tb K O st σ H (is.foldl (fun s i => VL.fgt1 i s) st) σ H
  | [], st, F => Step.refl F
  | i :: is, st, F => (Step.fgt1 F i).trans (Step.fgts is (Step.fgt1 F i).fr)
end
end VL
set_option Elab.async false
set_option linter.all false
set_option maxRecDepth 100000
set_option maxHeartbeats 0
/-! an own exception's __init__ that begins with super().__init__(..) -/
namespace VL
open PySem PySem.Spec PyProof.Rows L2 LamX NdefX PySem.Calls
/-- super().__init__(es), then rest -/
abbrev supBody (p0 p1 p2 p3 p4 : Pos) (es : List Expr) (rest : List Stmt) : List Stmt := .Expr (.Call (.Attribute (.Call (.Name "super" p0) [] [] p1) "__init__" p2) es [] p3) p4 :: rest
/-- the object at u is ValueError.__init__ bound to x -/
def MwO (u x : Addr) : HO := .ext fun h => h.get? u = some (PySem.W.kxs_mw "ValueError.__init__" x)
end VL
set_option Elab.async false
set_option linter.all false
set_option maxRecDepth 100000
set_option maxHeartbeats 0
namespace VL
open PySem PySem.Spec PyProof.Rows L2 LamX NdefX PySem.Calls
/-- what the written part says of a class whose __init__ says super().__init__ -/
structure SupC (K : PySem.W.Frag) (C : Addr) : Prop where
  ox : OexC K C
  own : ∃ cd, PySem.W.clsIn K C = some cd
  mro : PySem.W.mroIn K C (.ref C) = some true
  sup : PySem.W.ks_superIn K C C "__init__" = some (some (.builtin "ValueError.__init__"))
  ve : PySem.W.subIn K (.ref C) (.type "ValueError") = some true
  op : PySem.W.nsIn K cStatics "thirdparty.any" = some none
section
variable {CX : CXT} {P : Program} {w : World} {K : PySem.W.Frag} {mg : Str → Option Value} {base : Heap} {k : Nat} {f : Addr} {name qual sf : Str} {params : Arguments} {rest : List Stmt} {scope : Scope} {dV kV doc pm ct oc : Value} {an od : Option Addr}
  {osl : Array (Option Value)} {N ps : List Str} {cc C c : Addr} {cl ccl : Value} {cld cdd : Option Addr} {csl ccs : Array (Option Value)} {ar : Arg} {vsC : Array Value} {file : Str} {tf : Tok} {p0 p1 p2 p3 p4 : Pos} {e : Expr} {es : List Expr}
abbrev supNF (name qual : Str) (params : Arguments) (body : List Stmt) (scope : Scope) (cc c : Addr) : NF := ⟨name, qual, params, body, scope, [("__class__", cc)], c⟩
end
end VL
set_option Elab.async false
set_option linter.all false
set_option maxRecDepth 100000
set_option maxHeartbeats 0
namespace VL
open PySem PySem.Spec PyProof.Rows L2 LamX NdefX PySem.Calls
/-- how super().__init__(es) is read: by its position alone -/
def SupCall (p0 p1 p2 p3 : Pos) (es : List Expr) : Prop := ∃ pl : Sem Bool, ∀ env : Env, eval (.Call (.Attribute (.Call (.Name "super" p0) [] [] p1) "__init__" p2) es [] p3) env = (do
      let ov ← attributeBase (.Call (.Name "super" p0) [] [] p1) "__init__" env (eval (.Call (.Name "super" p0) [] [] p1) env)
      standAt p2.atName
      let (f, first) ← holding [ov] (getMethod ov "__init__" pl)
      callWith p3 f first (backTo p3 (starEach es env)) [])
/-- what an __init__ promises that lays its parameters under the names nm -/
def spI (C : Addr) (nm : List Str) : Sp := fun vs H Q E => ∃ (a : Addr) (ws : List V), vs = .ref a :: ws ∧ ws.length = nm.length ∧ H a = some (exo a C none) ∧ ∀ (u dx : Addr) (H2 : Hp), u ≠ a → dx ≠ a → dx ≠ u → H u = none → H dx = none →
  H2 a = some (exo a C (some dx)) → H2 dx = some (exd dx (nm.zip ws).reverse) → H2 u ≠ none → (∀ b, b ≠ a → b ≠ dx → b ≠ u → H2 b = H b) → Q .non H2
section
variable {P : Program} {w : World} {K : PySem.W.Frag} {mg : Str → Option Value} {base : Heap} {k : Nat} {f : Addr} {name qual sf x1 x2 f1 f2 : Str} {params : Arguments} {scope : Scope} {dV kV doc pm ct oc : Value} {an od : Option Addr}
  {osl : Array (Option Value)} {cc C c : Addr} {cl ccl : Value} {cld cdd : Option Addr} {csl ccs : Array (Option Value)} {ar : Arg} {vsC : Array Value} {file : Str} {tf : Tok} {p0 p1 p2 p3 p4 q1 q2 q3 q4 q5 q6 q7 q8 q9 q10 : Pos}
abbrev iBody1 (sf x1 f1 : Str) (p0 p1 p2 p3 p4 q1 q2 q3 q4 q5 : Pos) : List Stmt := supBody p0 p1 p2 p3 p4 [.Name x1 q1] [.Assign [.Attribute (.Name sf q2) f1 q3] (.Name x1 q4) q5]
abbrev iBody2 (sf x1 x2 f1 f2 : Str) (p0 p1 p2 p3 p4 q1 q2 q3 q4 q5 q6 q7 q8 q9 q10 : Pos) : List Stmt := supBody p0 p1 p2 p3 p4 [.Name x1 q1, .Name x2 q2] [.Assign [.Attribute (.Name sf q3) f1 q4] (.Name x1 q5) q6, .Assign [.Attribute (.Name sf q7) f2 q8] (.Name x2 q9) q10]
end
end VL
set_option Elab.async false
set_option linter.all false
set_option maxRecDepth 100000
set_option maxHeartbeats 0
namespace VL
open PySem PySem.Spec PyProof.Rows L2 LamX NdefX PySem.Calls
/-! ### raise -/
/-- what is known of an exception class x whose __init__ lays its parameters under nm -/
def ExF (P : Program) (w : World) (K : PySem.W.Frag) (mg : Str → Option Value) (base : Heap) (k : Nat) (x : Str) (nm : List Str) : Prop :=
  ∃ (C fI : Addr) (fd : FuncData) (ps : List Str), OexC K C ∧ PySem.W.findIn K (.ref C) "__init__" = some (some (.ref fI)) ∧ PySem.W.typeIn K (.ref fI) = some (.type "function") ∧
    FnOk P w K mg base (L2.CX P w) k fI fd ps (spI C nm) ∧ L2.Binds K fd ps [] ∧ mg x = some (.ref C)
def vRaise (C : Str) (nm : List Str) (fs : VM (List EV)) : VM Ctl := vb fs fun rs => vb (vOpt (dts rs)) fun xs => fun s => if xs.length = nm.length then .error (.exc C (nm.zip xs).reverse s) else .error .stuck
end VL
set_option Elab.async false
set_option linter.all false
set_option maxRecDepth 100000
set_option maxHeartbeats 0
/-! a lambda without parameters that is handed to a def -/
namespace VL
open PySem PySem.Spec PyProof.Rows L2 LamX NdefX PySem.Calls
/-- all but the object at P stays, what is free was free -/
structure ButP (P : Addr) (H H1 : Hp) : Prop where
  keep : ∀ b o, b ≠ P → H b = some o → H1 b = some o
  free : ∀ b, H1 b = none → H b = none
theorem ButP.refl (P : Addr) (H : Hp) : ButP P H H := ⟨fun _ _ _ h => h, fun _ h => h⟩
/-- a table with one code object more -/
theorem tab_more {H H1 : Hp} {P c' : Addr} {q : Str} {ps : Array Value} {pos : Pos} (B : ButP P H H1) (ht : TriplesOk ps.toList) (ha : ∀ (p : Pos) (cv : Value), codeAmong p ps.toList = some cv → ∃ c, cv = .ref c ∧ H c = some (CodeO c q))
    (nt : ∀ c, H c = some (CodeO c q) → c ≠ P) (e1 : H1 P = some (.tbl (ps ++ #[rawInt pos.line, rawInt pos.col, .ref c']))) (e2 : H1 c' = some (CodeO c' q)) : TabS H1 P q := by
  have eL : (ps ++ #[rawInt pos.line, rawInt pos.col, Value.ref c']).toList = ps.toList ++ [rawInt pos.line, rawInt pos.col, .ref c'] := by simp
  refine ⟨_, e1, eL ▸ PySem.TriplesOk_snoc _ _ _ _ ht, fun p cv h => ?_⟩
  rw [eL] at h
  cases among_app _ ht h with
  | inl z =>
    obtain ⟨d, rfl, hd⟩ := ha p cv z
    exact ⟨d, rfl, B.keep d _ (nt d hd) hd⟩
  | inr z => exact ⟨c', z, e2⟩
section
variable {X : Cx} {pins : List (Addr × Obj)} {σ : L2.St} {H : Hp} {s : Shared}
theorem lam_mk {c P : Addr} {params : Arguments} {body : Expr} {scope : Scope} {pos : Pos} {E : Value → Shared → Prop} {Q : Value → Shared → Prop} (I : Inv X pins σ H s) (TB : TabB X.base X.mg c P) (hcode : X.env.code = .ref c)
    (t : TabS H P (X.env.qual ++ "<lambda>")) (hdef : defaultsOf params X.env = ([], [])) (hfree : ∀ y ∈ scope.names, y.2 = .free → ∃ c, X.env.cells.lookup y.1 = some c)
    (h : ∀ (f c' : Addr) (pm ctv : Value) (H1 : Hp) (s' : Shared), Inv X pins σ H1 s' → ButP P H H1 → TabS H1 P (X.env.qual ++ "<lambda>") →
      s'.heap.get? f = some (PySem.W.kla_obj "<lambda>" (X.env.qual ++ "<lambda>") params body scope (cloFrom X.env.cells scope.names []) pm c' ctv) → H1 f = none → f ∉ frs X.stack →
      H1 c' = some (CodeO c' (X.env.qual ++ "<lambda>")) → Q (.ref f) s') :
    wpAny (model X.prog X.w) X.A (eval (.Lambda params body scope pos) X.env) Q E s := by
  obtain ⟨ps, hP, ht, ha⟩ := t
  have out : ∀ f, s.heap.objs.size ≤ f → f ∉ frs X.stack := fun f hf hm => by
    cases List.mem_cons.mp (I.stkSub _ hm) with
    | inl e => exact Nat.lt_irrefl _ (Nat.lt_of_lt_of_le (e ▸ I.lt : f < s.heap.objs.size) hf)
    | inr e => exact I.nofs hf e
  have nt : ∀ d, H d = some (CodeO d (X.env.qual ++ "<lambda>")) → d ≠ P := fun d hd e => by
    rw [e, hP] at hd
    exact codeO_ne ps (Option.some.inj hd).symm
  have tabAt : s.heap.get? P = some { cls := .none, data := .fields ps } := I.hok P _ hP
  have base : X.env.globals = mainGlobals := I.ok.glob
  have glob := I.mod.glob.keeps I.bk
  have bmP := TB.bm.keeps I.bk
  have hdP := TB.code.keeps I.bk
  apply PySem.W.kla_eval hdef
  by_cases hc : codeAmong pos ps.toList = none
  · apply PySem.W.kla_makeFunction (closure_ok hfree) base glob hcode hdP tabAt ht hc TB.gP bmP
    intro c' ctv h' tk hx hge hlt hrec htb
    obtain ⟨d, oc, vs, u, e, hoc, hd, hv⟩ := hrec
    cases e
    have nC : H c' = none := I.hok.fresh hge
    have nF : H h'.objs.size = none := I.hok.fresh (by omega)
    have I1 := inv_table (q := X.env.qual ++ "<lambda>") (t' := tk) (more := #[rawInt pos.line, rawInt pos.col, .ref c']) (h' := h'.push (PySem.W.kla_obj "<lambda>" (X.env.qual ++ "<lambda>") params body scope (cloFrom X.env.cells scope.names []) ((X.mg "__name__").getD .none) c' ctv)) I hP
      (fun b o n e => Heap.get?_push_of_some _ (hx b o n e)) (Heap.get?_push_of_some _ htb) hge ⟨oc, vs, u, Heap.get?_push_of_some _ hoc, hd, hv⟩
    have pc : P ≠ c' := ne_of_none hP nC
    have B : ButP P H (L2.upd (L2.upd H P (.tbl (ps ++ #[rawInt pos.line, rawInt pos.col, .ref c']))) c' (CodeO c' (X.env.qual ++ "<lambda>"))) := by
      constructor
      · intro b o n e
        rw [upd_ne (ne_of_none e nC), upd_ne n]; exact e
      · intro b e
        by_cases h1 : b = c'
        · rw [h1, upd_same] at e; cases e
        · by_cases h2 : b = P
          · rw [h2, upd_ne pc, upd_same] at e; cases e
          · rwa [upd_ne h1, upd_ne h2] at e
    refine h _ c' _ ctv _ _ I1 B (tab_more B ht ha nt ((upd_ne pc).trans upd_same) upd_same) (Heap.get?_push_size _ rfl) ?_ (out _ (by omega)) upd_same
    have e1 : h'.objs.size ≠ c' := by omega
    have e2 : h'.objs.size ≠ P := fun z => by rw [z] at nF; rw [nF] at hP; cases hP
    rw [upd_ne e1, upd_ne e2]; exact nF
  · obtain ⟨cv, hc⟩ := Option.ne_none_iff_exists'.mp hc
    obtain ⟨c', rfl, hco⟩ := ha pos cv hc
    apply PySem.W.kla_makeFunctionHit (closure_ok hfree) base glob hcode hdP tabAt ht hc bmP
    intro ctv h' tk hx hsz
    exact h _ c' _ ctv H _ (I.kept fun b o e => Heap.get?_push_of_some _ (hx b o e)) (.refl P H) ⟨ps, hP, ht, ha⟩ (Heap.get?_push_size _ rfl) (I.hok.fresh hsz) (out _ hsz) hco
end
end VL
set_option Elab.async false
set_option linter.all false
set_option maxRecDepth 100000
set_option maxHeartbeats 0
/-! what a def hears of a lambda: its value told, or its exception's fields -/
namespace VL
open PySem PySem.Spec PyProof.Rows L2 LamX NdefX PySem.Calls
/-! ### a lambda's body sees the frame's lists as a def sees its arguments -/
def io1 : SV → SV
  | .own c => .io c
  | x => x
def ioS (s : VS) : VS := s.map io1
def mrg1 : SV → SV → SV
  | .own _, .io c => .own c
  | .io _, .io c => .io c
  | x, _ => x
def mrg (st s : VS) : VS := List.zipWith mrg1 st s
section
variable {K : PySem.W.Frag} {O : AS} {Tb : List (Addr × Str)} {st s : VS} {σ σ' : L2.St} {H H' : Hp} {i : Nat} {p : Addr}
end
/-! ### the def that hears -/
theorem takes_len {X : Cx} {W : WX} (t : Takes X W) : Takes X (fun cls d σ H => σ.length = X.N.length → W cls d σ H) := fun u s' ⟨a, B, sI, pins, σ, H, cls, d, e, I, nb, up, sky, na, os, ag, w⟩ => t u s' ⟨a, B, sI, pins, σ, H, cls, d, e, I, nb, up, sky, na, os, ag, w I.len⟩
/-- what it makes of the lambda's reading -/
def TTh (CS : Addr) (told c : Str) (fl : List Str) : (XK → Hp → VK → Prop) → Hp → VK → Prop := fun tl H Q =>
  tl (fun cls d H' => cls = .ref CS ∧ ∃ (dd : Addr) (fs : List (Str × V)) (vs : List V), d = some dd ∧ H' dd = some (.xd fs) ∧ fl.map (fun f => fs.lookup f) = vs.map some ∧ ∀ p, H' p = none → Q (.ref p) (L2.upd H' p (.tup (.str c :: vs)))) H
    (fun v H1 => 2 ≤ sizeLine ∧ ∀ p, H1 p = none → Q (.ref p) (L2.upd H1 p (.tup [.str told, v])))
section
variable {X : Cx} {Ng : List Str} {x xc a n q told c f1 f2 : Str} {sg : Scope} {g CS : Addr} {cdg : Value} {k1 k2 k3 k4 : Nat} {p1 p2 p3 p4 p5 p6 p7 p8 p9 q1 q2 q3 q4 q5 q6 q7 : Pos} {b : Stmt}
abbrev hTry (a xc n told : Str) (k1 k2 : Nat) (p1 p2 p3 p4 p5 p6 p7 p8 : Pos) (b : Stmt) : List Stmt :=
  [.Try [.Return (some (.Tuple [.Constant (.str told) k1 p1, .Call (.Name a p2) [] [] p3] k2 p4)) p5] [.ExceptHandler (some (.Name xc p6)) (some n) [b] p7] [] [] p8]
end
end VL
set_option Elab.async false
set_option linter.all false
set_option maxRecDepth 100000
set_option maxHeartbeats 0
namespace VL
open PySem PySem.Spec PyProof.Rows L2 LamX NdefX PySem.Calls
section
variable {X : Cx} {x xc a n q told c f1 f2 : Str} {sg : Scope} {g CS : Addr} {cdg : Value} {k1 k2 k3 k4 : Nat} {p1 p2 p3 p4 p5 p6 p7 p8 p9 q1 q2 q3 q4 q5 q6 q7 : Pos}
end
/-! ### the frame behind the making of a lambda -/
theorem FR.but {Tb : List (Addr × Str)} {K : PySem.W.Frag} {O : AS} {st : VS} {σ : L2.St} {H H1 : Hp} {P : Addr} {q : Str} (F : FR Tb K O st σ H) (B : ButP P H H1) (hT : (P, q) ∈ Tb) (hu : ∀ p ∈ Tb, p.1 = P → p.2 = q) (t1 : TabS H1 P q) : Step Tb K O st σ H st σ H1 := by
  obtain ⟨ps, hP, _, _⟩ := F.tabs _ hT
  have kp : ∀ a o, H a = some o → NTb o → H1 a = some o := fun a o e t => B.keep a o (fun z => by rw [z, hP] at e; exact t ps (Option.some.inj e).symm) e
  have ke : ∀ {O' : AS} (a o), H a = some o → NTb o → ¬ O' a → H1 a = some o := fun a o e t _ => kp a o e t
  have hc : ∀ p c, Cont K (Av O st σ) H p c → Cont K (Av O st σ) H1 p c := fun p c C => by
    refine C.mono (fun _ h => .inl h) ke ?_
    cases e : H p with
    | none => exact absurd e C.there
    | some o => exact kp p o e (C.ntb e)
  refine ⟨⟨F.len, fun i sv h => ?_, F.inj, F.avoid, fun p h z => F.odom p h (B.free p z), fun p hp => ?_⟩, fun a o e t _ => kp a o e t, fun _ h => .inl h, fun _ h => .inl h, B.free, rfl, fun _ c h => ⟨⟨c, h⟩, rfl⟩, fun _ _ h => ⟨h, rfl⟩⟩
  · obtain ⟨v, ev, sl⟩ := F.slot i sv h
    refine ⟨v, ev, ?_⟩
    cases sv with
    | un => trivial
    | d x => obtain ⟨w, ew, R⟩ := sl; exact ⟨w, ew, Rp.mono (fun _ h => .inl h) ke _ _ R⟩
    | own c => obtain ⟨p, ep, C⟩ := sl; exact ⟨p, ep, hc p c C⟩
    | io c => obtain ⟨p, ep, C⟩ := sl; exact ⟨p, ep, hc p c C⟩
    | lk c => obtain ⟨p, ep, C⟩ := sl; exact ⟨p, ep, hc p c C⟩
    | rd xs => obtain ⟨a, vs, ew, R, Rl⟩ := sl; exact ⟨a, vs, ew, R.mono (fun _ h => .inl h) ke, RpL.mono (fun _ h => .inl h) ke _ _ Rl⟩
  · by_cases h : p.1 = P
    · rw [h, hu p hp h]; exact t1
    · obtain ⟨ps', e1, e2, e3⟩ := F.tabs p hp
      refine ⟨ps', B.keep _ _ h e1, e2, fun pos cv hc => ?_⟩
      obtain ⟨d, e4, e5⟩ := e3 pos cv hc
      exact ⟨d, e4, kp _ _ e5 (codeO_ne)⟩
/-! ### the mirror -/
def lks (fs : List (Str × Da)) : List Str → Option (List Da)
  | [] => some []
  | f :: r => (fs.lookup f).bind fun x => (lks fs r).map (x :: ·)
def vHeard (x told c : Str) (fl : List Str) (f : VM EV) : VM EV := fun s => match f (ioS s) with
  | .ok (r, s') => match evD r with
    | some v => .ok (.d (.tuple [.str told, v]), mrg s s')
    | none => .error .stuck
  | .error (.exc C fs s') => if C = x then match lks fs fl with
    | some vs => .ok (.d (.tuple (.str c :: vs)), mrg s s')
    | none => .error .stuck
    else .error .stuck
  | .error .stuck => .error .stuck
theorem lookup_rel {K : PySem.W.Frag} {O : AS} {H : Hp} {f : Str} {x : Da} : ∀ {fs : List (Str × Da)} {ws : List (Str × V)}, fs.map (·.1) = ws.map (·.1) → RpL K O H (fs.map (·.2)) (ws.map (·.2)) → fs.lookup f = some x → ∃ w, ws.lookup f = some w ∧ Rp K O H x w
  | [], ws, _, _, h => by cases h
  | (g, y) :: fs, [], e, _, _ => by cases e
  | (g, y) :: fs, (g', w) :: ws, e, R, h => by
    simp only [List.map_cons, List.cons.injEq] at e
    obtain ⟨rfl, e⟩ := e
    simp only [List.map_cons, RpL] at R
    obtain ⟨w1, ws1, e1, r1, r2⟩ := R
    cases e1
    simp only [List.lookup] at h ⊢
    split at h
    · cases h; exact ⟨_, rfl, r1⟩
    · exact lookup_rel e r2 h
theorem lks_rel {K : PySem.W.Frag} {O : AS} {H : Hp} {fs : List (Str × Da)} {ws : List (Str × V)} (e : fs.map (·.1) = ws.map (·.1)) (R : RpL K O H (fs.map (·.2)) (ws.map (·.2))) : ∀ {fl : List Str} {vs : List Da}, lks fs fl = some vs → ∃ us : List V, fl.map (fun f => ws.lookup f) = us.map some ∧ RpL K O H vs us
  | [], vs, h => by cases h; exact ⟨[], rfl, .nil⟩
  | f :: fl, vs, h => by
    obtain ⟨x, h1, h⟩ := Option.bind_eq_some_iff.mp (show (fs.lookup f).bind _ = some vs from h)
    obtain ⟨vs', h2, rfl⟩ := Option.map_eq_some_iff.mp h
    obtain ⟨w, e1, r⟩ := lookup_rel e R h1
    obtain ⟨us, e2, r2⟩ := lks_rel e R h2
    exact ⟨w :: us, by rw [List.map_cons, e1, e2]; rfl, .cons r r2⟩
end VL
set_option Elab.async false
set_option linter.all false
set_option maxRecDepth 100000
set_option maxHeartbeats 0
/-! the head: defs, own exceptions, tables of code objects -/
namespace VL
open PySem PySem.Spec PyProof.Rows L2 LamX NdefX PySem.Calls He
/-- an own exception class: its __init__ -/
structure SupD where
  cls : Str
  qual : Str
  params : Arguments
  body : List Stmt
  scope : Scope
  fields : List Str
abbrev SupW : Type := Option (Str × Str × Arguments × FuncBody × Scope × Addr × List Str × Addr)
def supA (K : PySem.W.Frag) (d : SupD) : Addr := ma K (ga K d.cls) "__init__"
def supW (K : PySem.W.Frag) (d : SupD) : SupW := match K.lookup (supA K d) with
  | some ⟨_, _, .func fd, _⟩ => some (fd.name, fd.qualname, fd.params, fd.body, fd.scope, fd.globals, fd.closure.map (·.1), fd.builtins)
  | _ => none
def SupD.val (d : SupD) : SupW := some ("__init__", d.qual, d.params, .stmts d.body, d.scope, mainGlobals, ["__class__"], builtinsNs)
def oexB (K : PySem.W.Frag) (C : Addr) : Bool := (match K.lookup C with
  | some ⟨.type "type", _, .cls cd, sl⟩ => (match cd.mro, sl.toList with
    | .ref C' :: bm, [_, _, _, _, some (.builtin n), _] => decide (C' = C) && decide (n = "ValueError.__new__") && !cd.hasDel && cd.hasDict && HandSPX.refsVE bm
    | _, _ => false)
  | _ => false) && eqO (PySem.W.findIn K (.ref C) "__setattr__") (some (some (.builtin "object.__setattr__"))) && decide (PySem.W.subIn K (.ref C) (.type "BaseException") = some true) && decide (PySem.W.typeIn K (.ref C) = some (.type "type")) && PySem.W.keepIn K (.ref C)
def clsB (K : PySem.W.Frag) (C : Addr) : Bool := (PySem.W.clsIn K C).isSome && decide (PySem.W.mroIn K C (.ref C) = some true) && decide (PySem.W.ks_superIn K C C "__init__" = some (some (.builtin "ValueError.__init__"))) && decide (PySem.W.subIn K (.ref C) (.type "ValueError") = some true) && decide (PySem.W.nsIn K cStatics "thirdparty.any" = some none)
def cellB (K : PySem.W.Frag) (cc C : Addr) : Bool := match K.lookup cc with
  | some ⟨_, _, .cell (some (.ref D)), _⟩ => decide (D = C)
  | _ => false
def fileB (file : Str) (K : PySem.W.Frag) (cd : Value) : Bool := match cd with
  | .ref c => (match K.lookup c with
    | some ⟨_, _, .fields vs, _⟩ => (match (vs[2]? : Option Value) with
      | some (.str f _) => file == f
      | _ => false)
    | _ => false)
  | _ => false
def noneB : Value → Bool
  | .none => true
  | _ => false
theorem noneB_eq {v : Value} (h : noneB v = true) : v = .none := by cases v <;> first | rfl | cases h
def SupD.ok (file : Str) (K : PySem.W.Frag) (d : SupD) : Bool := oexB K (ga K d.cls) && clsB K (ga K d.cls) && xfB K (ga K d.cls) && decide (PySem.W.exmOne K (.ref (ga K d.cls)) (.ref (ga K d.cls)) = some true) && eqO (PySem.W.nsIn K mainGlobals d.cls) (some (some (.ref (ga K d.cls)))) && (d.fields.all fun f => decide (PySem.W.findIn K (.ref (ga K d.cls)) f = some none)) &&
  decide (PySem.W.findIn K (.ref (ga K d.cls)) "__init__" = some (some (.ref (supA K d)))) && decide (PySem.W.typeIn K (.ref (supA K d)) = some (.type "function")) && (match K.lookup (supA K d) with
  | some ⟨_, _, .func fd, _⟩ => PySem.W.codeIn K fd.code d.qual && fileB file K fd.code && noneB fd.defaults && noneB fd.kwdefaults && (match fd.closure with
    | [(_, cc)] => cellB K cc (ga K d.cls)
    | _ => false)
  | _ => false)
theorem dec {p : Prop} [Decidable p] (h : decide p = true) : p := of_decide_eq_true h
theorem oex_of {K : PySem.W.Frag} {C : Addr} (h : oexB K C = true) : OexC K C := by
  unfold oexB at h
  simp only [Bool.and_eq_true] at h
  obtain ⟨⟨⟨⟨h1, h2⟩, h3⟩, h4⟩, h5⟩ := h
  refine ⟨?_, eqO_ok h2, dec h3, dec h4, h5⟩
  split at h1
  · rename_i dd cd sl ho
    split at h1
    · rename_i C' bm k0 k1 k2 k3 n k5 hm hs
      simp only [Bool.and_eq_true, decide_eq_true_eq, Bool.not_eq_true'] at h1
      obtain ⟨⟨⟨⟨rfl, rfl⟩, hdel⟩, hdict⟩, hbm⟩ := h1
      obtain ⟨nm, bs, mro, ns, qn, hd, sn, sub, ab, col, del⟩ := cd
      dsimp only at hm hdel hdict
      subst hm hdel hdict
      have hsl : sl = #[k0, k1, k2, k3, some (.builtin "ValueError.__new__"), k5] := by
        obtain ⟨l⟩ := sl
        simp only at hs
        rw [hs]
      subst hsl
      exact ⟨nm, qn, ns, bs, bm, sn, sub, ab, col, dd, k0, k1, k2, k3, k5, ho, hbm⟩
    · cases h1
  · cases h1
/-- what the head knows of a class -/
structure SupOk (file : Str) (K : PySem.W.Frag) (mg : Str → Option Value) (d : SupD) : Prop where
  ex : ∃ (C fI : Addr) (oc : Value) (od : Option Addr) (osl : Array (Option Value)) (doc pm ct : Value) (an : Option Addr) (cc c : Addr) (cl ccl : Value) (cld cdd : Option Addr) (csl ccs : Array (Option Value)) (vsC : Array Value) (tf : Tok),
    mg d.cls = some (.ref C) ∧ SupC K C ∧ XfC K C ∧ PySem.W.exmOne K (.ref C) (.ref C) = some true ∧ (∀ f ∈ d.fields, PySem.W.findIn K (.ref C) f = some none) ∧
      PySem.W.findIn K (.ref C) "__init__" = some (some (.ref fI)) ∧ PySem.W.typeIn K (.ref fI) = some (.type "function") ∧
      K.lookup fI = some ⟨oc, od, .func (PySem.W.ksFn "__init__" d.qual d.params d.body d.scope .none .none doc pm an (.ref c) ct cc), osl⟩ ∧ PySem.W.codeIn K (.ref c) d.qual = true ∧
      K.lookup cc = some ⟨cl, cld, .cell (some (.ref C)), csl⟩ ∧ K.lookup c = some ⟨ccl, cdd, .fields vsC, ccs⟩ ∧ ∃ f, vsC[2]? = some (.str f tf) ∧ (file == f) = true
theorem SupD.sup {file : Str} {K : PySem.W.Frag} {h : Heap} {mg : Str → Option Value} (X : K.In h) (G : h.Ns mainGlobals mg) {d : SupD} (e : supW K d = d.val) (ok : d.ok file K = true) : SupOk file K mg d := by
  unfold SupD.ok at ok
  simp only [Bool.and_eq_true] at ok
  obtain ⟨⟨⟨⟨⟨⟨⟨⟨h1, h2⟩, h3⟩, h4⟩, h5⟩, h6⟩, h7⟩, h8⟩, h9⟩ := ok
  unfold clsB at h2
  simp only [Bool.and_eq_true] at h2
  obtain ⟨⟨⟨⟨c1, c2⟩, c3⟩, c4⟩, c5⟩ := h2
  unfold supW at e
  split at h9
  · rename_i oc od fd osl ho
    rw [ho] at e
    dsimp only at e
    obtain ⟨n1, n2, n3, n4, n5, n6, n7, n8, n9, n10, n11, n12, n13, n14, n15⟩ := fd
    have e2 : (some (n1, n2, n3, n4, n5, n6, n7.map (·.1), n15) : SupW) = some (("__init__" : Str), d.qual, d.params, FuncBody.stmts d.body, d.scope, mainGlobals, [("__class__" : Str)], builtinsNs) := e
    simp only [Option.some.injEq, Prod.mk.injEq] at e2
    obtain ⟨rfl, rfl, rfl, rfl, rfl, rfl, e7, rfl⟩ := e2
    simp only [Bool.and_eq_true] at h9
    obtain ⟨⟨⟨⟨g1, g2⟩, gd⟩, gk⟩, g3⟩ := h9
    obtain rfl := noneB_eq gd
    obtain rfl := noneB_eq gk
    split at g3
    · rename_i _ nm cc
      have : nm = "__class__" := by simpa using e7
      subst this
      obtain ⟨c, rfl⟩ := codeIn_ref g1
      unfold cellB at g3
      split at g3
      · rename_i cl cld D csl hcell
        have := dec g3
        subst this
        unfold fileB at g2
        dsimp only at g2
        split at g2
        · rename_i ccl cdd vsC ccs hc
          split at g2
          · rename_i f tf hf
            exact ⟨⟨ga K d.cls, supA K d, oc, od, osl, n10, n11, n14, n12, cc, c, cl, ccl, cld, cdd, csl, ccs, vsC, tf, PySem.W.mg_of X G (eqO_ok h5), ⟨oex_of h1, Option.isSome_iff_exists.mp c1, dec c2, dec c3, dec c4, dec c5⟩, xfB_ok h3, dec h4,
              fun f hf => dec (List.all_eq_true.mp h6 f hf), dec h7, dec h8, ho, g1, hcell, hc, f, hf, g2⟩⟩
          · cases g2
        · cases g2
      · cases g3
    · cases g3
  · cases h9
/-! ### the Hook -/
abbrev AlV : Type := Bool × List FnW × List SupW
def tbB (g : Addr → Option Obj) (K : PySem.W.Frag) (tf : List Defn) : Bool := (tf.all fun p => PySem.W.codeHdIn K (cT K p).1 (cT K p).2 && (match g (cT K p).2 with
  | some o => emptyTab o
  | none => false)) && decide ((tf.map fun p => (cT K p).2).Nodup)
def obsV0 (file : Str) (fa : List Fa) (fn : List DefD) (sd : List SupD) (tf : List Defn) (ex : PySem.W.Frag → Bool) (g : Addr → Option Obj) (K : PySem.W.Frag) : AlV :=
  ((fa.all fun f => f.ok K) && (fn.all fun d => d.ok K) && (sd.all fun d => d.ok file K) && tbB g K tf && ex K, fn.map (fun d => fnW K d.at_), sd.map fun d => supW K d)
def valV (fn : List DefD) (sd : List SupD) : AlV := (true, fn.map DefD.val, sd.map SupD.val)
def frV (n : Nat) (g : Addr → Option Obj) : PySem.W.Frag := frT g (cStatics :: asD g n)
def obsVG (file : Str) (n : Nat) (fa : List Fa) (fn : List DefD) (sd : List SupD) (tf : List Defn) (ex : PySem.W.Frag → Bool) (g : Addr → Option Obj) : AlV := obsV0 file fa fn sd tf ex g (frV n g)
/-- what is told of K, of the heap h -/
structure SaysV (file : Str) (fa : List Fa) (fn : List DefD) (sd : List SupD) (tf : List Defn) (ex : PySem.W.Frag → Bool) (h : Heap) (K : PySem.W.Frag) : Prop where
  d : SaysD fa fn K
  supB : ∀ d ∈ sd, d.ok file K = true
  supE : sd.map (fun d => supW K d) = sd.map SupD.val
  hd : ∀ p ∈ tf, PySem.W.codeHdIn K (cT K p).1 (cT K p).2 = true
  out : ∀ p ∈ tf, K.lookup (cT K p).2 = none
  empty : ∀ p ∈ tf, h.get? (cT K p).2 = some { cls := .none, data := .fields #[] }
  nd : (tf.map fun p => (cT K p).2).Nodup
  exq : ex K = true
theorem saysV_of {file : Str} {n : Nat} {fa : List Fa} {fn : List DefD} {sd : List SupD} {tf : List Defn} {ex : PySem.W.Frag → Bool} {h : Heap} (e : obsVG file n fa fn sd tf ex h.get? = valV fn sd) : SaysV file fa fn sd tf ex h (frV n h.get?) := by
  have e1 := congrArg (fun z : AlV => z.1) e
  have e2 := congrArg (fun z : AlV => z.2.1) e
  have e3 := congrArg (fun z : AlV => z.2.2) e
  simp only [obsVG, obsV0, valV, Bool.and_eq_true] at e1 e2 e3
  obtain ⟨⟨⟨⟨h1, h2⟩, h3⟩, h4⟩, hq⟩ := e1
  unfold tbB at h4
  simp only [Bool.and_eq_true] at h4
  obtain ⟨h5, h6⟩ := h4
  have key : ∀ p ∈ tf, PySem.W.codeHdIn (frV n h.get?) (cT (frV n h.get?) p).1 (cT (frV n h.get?) p).2 = true ∧ ∃ o, h.get? (cT (frV n h.get?) p).2 = some o ∧ emptyTab o = true := fun p hp => by
    have z := List.all_eq_true.mp h5 p hp
    simp only [Bool.and_eq_true] at z
    refine ⟨z.1, ?_⟩
    have z2 := z.2
    split at z2
    · rename_i o ho; exact ⟨o, ho, z2⟩
    · cases z2
  refine ⟨?_, fun d hd => List.all_eq_true.mp h3 d hd, e3, fun p hp => (key p hp).1, fun p hp => ?_, fun p hp => ?_, dec h6, hq⟩
  · show obsD fa fn (frV n h.get?) = valD fn
    unfold obsD valD
    rw [h1, h2, e2]; rfl
  · obtain ⟨_, o, q, z⟩ := key p hp
    exact frT_none q z
  · obtain ⟨_, o, q, z⟩ := key p hp
    rw [q, emptyTab_eq z]
def hookV (file : Str) (n : Nat) (fa : List Fa) (fn : List DefD) (sd : List SupD) (tf : List Defn) (ex : PySem.W.Frag → Bool) : PySem.W.Hook where
  α := AlV
  obs := fun s => obsVG file n fa fn sd tf ex s.heap.get?
  val := fun _ => valV fn sd
  says := fun _ h => ∃ K : PySem.W.Frag, K.In h ∧ SaysV file fa fn sd tf ex h K
  of := fun _ _ e => ⟨_, frT_in, saysV_of e⟩
  keeps := fun _ _ _ ⟨K, hK, c⟩ k => ⟨K, PySem.W.Frag.In.keeps hK k, ⟨c.d, c.supB, c.supE, c.hd, c.out, fun p hp => k _ _ (c.empty p hp), c.nd, c.exq⟩⟩
theorem obsVG_eq {file : Str} {n : Nat} {fa : List Fa} {fn : List DefD} {sd : List SupD} {tf : List Defn} {ex : PySem.W.Frag → Bool} {g : Addr → Option Obj} {s : Shared} (h : ∀ a, g a = s.heap.get? a) : obsVG file n fa fn sd tf ex g = (hookV file n fa fn sd tf ex).obs s := by
  have e : g = s.heap.get? := funext h
  rw [e]; rfl
theorem SaysV.sup {file : Str} {fa : List Fa} {fn : List DefD} {sd : List SupD} {tf : List Defn} {ex : PySem.W.Frag → Bool} {h h0 : Heap} {K : PySem.W.Frag} {mg : Str → Option Value} (c : SaysV file fa fn sd tf ex h0 K) (X : K.In h) (G : h.Ns mainGlobals mg) (i : Nat) {d : SupD} (hi : sd[i]? = some d) : SupOk file K mg d := by
  have e2 : (sd.map fun d => supW K d)[i]? = (sd.map SupD.val)[i]? := by rw [c.supE]
  rw [List.getElem?_map, List.getElem?_map, hi] at e2
  exact SupD.sup X G (Option.some.inj e2) (c.supB d (List.mem_of_getElem? hi))
end VL
set_option Elab.async false
set_option linter.all false
set_option maxRecDepth 100000
set_option maxHeartbeats 0
namespace VL
open PySem PySem.Spec PyProof.Rows L2 LamX NdefX PySem.Calls He
/-! ### an own exception by its class's text -/
section
variable {P : Program} {w : World} {K : PySem.W.Frag} {mg : Str → Option Value} {base : Heap} {k : Nat} {sf x1 x2 f1 f2 : Str} {ar : Arg} {p0 p1 p2 p3 p4 q1 q2 q3 q4 q5 q6 q7 q8 q9 q10 : Pos} {d : SupD}
def dunder (x : Str) : Bool := (x == ("__debug__" : Str)) || (x == ("__classdict__" : Str))
theorem dun {x : Str} (h : dunder x = false) : (x == ("__debug__" : Str)) = false ∧ (x == ("__classdict__" : Str)) = false := by
  unfold dunder at h
  exact Bool.or_eq_false_iff.mp h
end
/-! ### what is heard, by the texts of the def and of the class -/
section
variable {Tb : List (Addr × Str)} {X : Cx} {W : WX} {x a n told c f1 f2 : Str} {st : Stmt} {g cc P : Addr} {fd : FuncData} {k k1 k2 k3 k4 : Nat} {file : Str} {d : SupD} {params : Arguments} {body : Expr} {scope : Scope} {fm : VM EV} {p lpos pos p1 p2 p3 p4 p5 p6 p7 p8 q1 q2 q3 q4 q5 q6 q7 : Pos}
/-- where lambdas are made: the maker's code object, its table -/
structure LamAt (Tb : List (Addr × Str)) (X : Cx) (P cc : Addr) : Prop where
  mem : (P, X.env.qual ++ "<lambda>") ∈ Tb
  uni : ∀ p ∈ Tb, p.1 = P → p.2 = X.env.qual ++ "<lambda>"
  tb : TabB X.base X.mg cc P
  code : X.env.code = .ref cc
end
/-! ### a def that makes lambdas -/
section
variable {P : Program} {w : World} {K : PySem.W.Frag} {mg : Str → Option Value} {base : Heap} {Tb : List (Addr × Str)}
theorem fn_vC {x qual : Str} {st : Stmt} {f cc : Addr} {fd : FuncData} {N ps : List Str} {k : Nat} {g : VM Ctl} (F : Fun K x qual st f fd) (hc : fd.code = .ref cc) (S : FnScope N ps (defScope st))
    (hb : ∀ (A : Around) (outer : List Env) (s : Shared) (H : Hp) (E : XK), VC (cxOf (L2.CX P w) P w K mg base N qual (defScope st) f (.ref cc) A outer s H E) (WN E) k →
      VSs Tb (cxOf (L2.CX P w) P w K mg base N qual (defScope st) f (.ref cc) A outer s H E) (WN E) (defBody st) g) :
    FnOk P w K mg base (L2.CX P w) (k + 1) f fd ps (spV Tb K mg ps.length (runF N.length g)) := by
  obtain ⟨oc, od, kV, doc, pm, an, cdv, ct, osl, rfl, lk, hcd⟩ := F.ex
  obtain rfl : cdv = .ref cc := hc
  refine fn_of lk hcd S (fun vs H Q E h => h.1) fun A outer s H vs Q E hr h => ⟨_, hb A outer s H E ⟨rfl, S.nd, takes_of rfl rfl rfl rfl, hr⟩, ?_⟩
  have hl := h.1
  rw [← hl] at h
  exact run_body h
end
/-! ### the law's end, with tables -/
theorem walk_vT {l : PySem.W.OpenLaw} {n k : Nat} {q : Program} {loose : List Str} {XP : (Str → Option Value) → Heap → Prop} {YP : World → Heap → Prop} {d : DefRec} {x : Str}
    (hn : l.most = some n) (hn2 : n ≤ sizeLine) (hdf : d.params.defaults = []) (hr : Room k callerA) {m : FM}
    (F : ∀ (w : World) (mg : Str → Option Value) (fa : Addr) (h : Heap), YP w h → h.Ns mainGlobals mg → mg d.name = some (.ref fa) →
      ∃ (K : PySem.W.Frag) (fd : FuncData) (cs : List (Addr × Addr)) (Tb : List (Addr × Str)), K.In h ∧ (∀ p ∈ cs, h.get? p.2 = some { cls := .none, data := .fields #[] }) ∧ (∀ p ∈ cs, K.lookup p.2 = none) ∧ (∀ p ∈ cs, PySem.W.CodeHd h p.1 p.2) ∧
        (∀ p ∈ Tb, ∃ c ∈ cs, c.2 = p.1) ∧ (∀ (s : Shared) (u : Value), BindsTo s fd ⟨[u], []⟩ [(x, u)]) ∧
        ∀ base : Heap, K.In base → base.Ns mainGlobals mg → (∀ p ∈ cs, TabB base mg p.1 p.2) → FnOk l.prog w K mg base (L2.CX l.prog w) k fa fd [x] (spV Tb K mg 1 m))
    (hm : ∀ ns : List Int, ns.length ≤ n → ∃ st', m [.rd (ns.map PyData.int)] = .ok (.d (.bool true), st')) :
    PySem.W.WalkO q loose XP YP l.row.toRowW d [] (fun f vs => PySem.call f vs) := by
  refine LamX.walk_ofTsE (x := x) (CX := fun w => L2.CX l.prog w) hn hn2 hdf hr (fun w mg fa h Y G hmg => ?_) ?_
  · obtain ⟨K, fd, cs, Tb, KX, hT, nT, C, hTb, hb, hF⟩ := F w mg fa h Y G hmg
    refine ⟨K, KX, fd, cs, _, hT, nT, C, hb, fun H a ns hlen _ hH hS => ?_, hF⟩
    obtain ⟨st', e⟩ := hm ns hlen
    have no : ∀ {i : Nat} {p : Addr}, ¬ OwnAt [SV.rd (ns.map PyData.int)] [some (V.ref a)] i p := fun {i p} ⟨_, c, z⟩ => by
      match i, z with
      | 0, z => rcases z with z | z | z <;> cases z
      | i + 1, z => simp at z
    refine ⟨rfl, fun _ => False, [.rd (ns.map PyData.int)], ⟨rfl, fun i sv h => ?_, fun i j p h => absurd h no, fun p ⟨i, h⟩ => absurd h no, fun p h => h.elim, fun p hp => ?_⟩, fun i c h => ?_, ?_⟩
    · match i, h with
      | 0, h =>
        cases h
        exact ⟨_, rfl, a, ns.map V.int, rfl, hS.imp (fun r => ⟨r, fun z => z.elim id fun ⟨i, z⟩ => no z⟩) id, RpL.ofInts ns⟩
      | i + 1, h => simp at h
    · obtain ⟨c, hc, e1⟩ := hTb p hp
      exact TabS.nil (e1 ▸ hH c hc)
    · match i, h with
      | 0, h => cases h
      | i + 1, h => simp at h
    · rw [e]
      intro v H' S E
      simpa only [ER, Rp] using E
  · rintro w H s e s' ⟨_, _, _, _, _, _, _, _, _, _, _, _, z⟩
    exact z
end VL
set_option Elab.async false
set_option linter.all false
set_option maxRecDepth 100000
set_option maxHeartbeats 0
namespace VL
open PySem PySem.Spec PyProof.Rows L2
/-! ### sorted of a tuple of ints -/
def rSortedTI (K : PySem.W.Frag) : List V → Hp → VK → Prop := fun vs H Q => ∃ (a : Addr) (ns : List Int), vs = [V.ref a] ∧ SqT K H a (ns.map V.int) ∧
  ∀ (ns' : List Int) (p : Addr), ns'.Perm ns → ns'.Pairwise (· ≤ ·) → H p = none → Q (.ref p) (upd H p (.lst (ns'.map V.int)))
theorem cr_sortedTI {X : Cx} : CallR X (.builtin "sorted") (rSortedTI X.K) := by
  intro pins s σ H vs us Q I r h
  obtain ⟨a, ns, rfl, hs, q⟩ := h
  obtain ⟨its, rv, ⟨o, ho, hc, n, hd⟩, hz⟩ := I.tuple hs
  rw [Vals.ref1 r]
  have hi := rv.ints
  have hlen0 : its.length = ns.length := by rw [← rv.length, List.length_map]
  rw [List.length_map] at hz
  refine Calls.call_function_entry kind_sorted plain_sorted entry_sorted (args_sorted1 _) ?_
  unfold Builtin.«sorted»
  refine wpAny_bind (m := checkCount "sorted" 1 1 _) (wpAny_pure ?_)
  refine wpAny_bind (wpAny_collect_seq a (.inr rfl) ho hc hd (fun h1 k1 => ?_) (by rw [List.size_toArray, hlen0]; exact hz))
  rw [List.toList_toArray]
  refine wpAny_bind (wpAny_newList ?_ (by rw [hlen0]; exact hz))
  have hoL : (h1.push (seqObj "list" its.toArray 0)).get? h1.objs.size = some (seqObj "list" its.toArray 0) := Heap.get?_push_size _ rfl
  refine wpAny_bind (wpAny_holding (wpAny_call_entry slot_list_sort ⟨_, hoL, rfl⟩ entry_list_sort (SrtO.list_sort_ord SrtO.swo_int hoL (by rw [hlen0]; exact hz) (fun h2 => SrtO.ints_sortable hi h2) fun out hs2 hb => ⟨_, rfl, ?_⟩) (args_list_sort _)))
  refine wpAny_pure ⟨_, rfl, ?_⟩
  obtain ⟨k1', k2, k3⟩ := SrtO.ints_out hi hs2 hb
  obtain ⟨ep, he'⟩ := PyProof.Rows.sortedHeap_at (vs := its) (out := out.toArray) hoL
  have hlen : ((out.map SrtO.iv).map V.int).length ≤ sizeLine := by
    rw [List.length_map, k2.length_eq]
    exact hz
  have I1 : Inv X pins σ H { s with heap := h1 } := I.kept (t' := s.toks) k1
  refine ⟨.ref _, upd H h1.objs.size (.lst ((out.map SrtO.iv).map V.int)), I1.laid (t' := s.toks) (fun b ob e => ?_) (Nat.le_refl _) ⟨hlen, out, ep, vals_of_ints k1', he'⟩, rfl, q _ _ k2 k3 (I1.hok.fresh (Nat.le_refl _))⟩
  have hlt : b < h1.objs.size := Heap.lt_size e
  rw [PyProof.Rows.sortedHeap_old (Nat.ne_of_lt hlt) (by rw [Heap.size_push]; exact Nat.lt_succ_of_lt hlt)]
  exact Heap.get?_push_of_some _ e
theorem Ro.tupI {K : PySem.W.Frag} {O : AS} {H : Hp} {xs : List Da} {v : V} {ns : List Int} (r : Ro K O H (.tuple xs) v) (e : ints? xs = some ns) : ∃ a, v = .ref a ∧ SqT K H a (ns.map V.int) := by
  obtain ⟨a, vs, rfl, h, r⟩ := r.tupT
  rw [ints_map e] at r
  rw [r.ints] at h
  exact ⟨a, rfl, h⟩
def sortedE : List Da → Option EV
  | [.list xs] => (ints? xs).map fun ns => .own (.l ((sortI ns).map PyData.int))
  | [.tuple xs] => (ints? xs).map fun ns => .own (.l ((sortI ns).map PyData.int))
  | _ => none
/-! ### all, any -/
def bls? : List Da → Option (List Bool)
  | [] => some []
  | .bool b :: r => (bls? r).map (b :: ·)
  | _ :: _ => none
theorem RpL.bools {K : PySem.W.Frag} {O : AS} {H : Hp} : ∀ {bs : List Bool} {vs : List V}, RpL K O H (bs.map PyData.bool) vs → vs = bs.map V.bl
  | [], vs, h => by simpa only [List.map_nil, RpL] using h
  | b :: bs, vs, h => by
    simp only [List.map_cons, RpL, Rp] at h
    obtain ⟨w, ws, rfl, rfl, q⟩ := h
    rw [RpL.bools q]; rfl
def allD : List Da → Option EV
  | [.list xs] => (bls? xs).map fun bs => .d (.bool (bs.all id))
  | _ => none
def anyD : List Da → Option EV
  | [.list xs] => (bls? xs).map fun bs => .d (.bool (bs.any id))
  | _ => none
/-! ### list(range(..)) -/
def rgD (a b : Int) : List Da := (List.range (b - a).toNat).map fun i => .int (a + (i : Nat))
def rgOkB (a b : Int) : Bool := decide (-(2 ^ 62) ≤ a) && decide (a < 2 ^ 62) && decide (-(2 ^ 62) ≤ b) && decide (b < 2 ^ 62) && decide ((b - a).toNat ≤ 2 ^ 24)
theorem rgOk_of {a b : Int} (h : rgOkB a b = true) : RgOk a b := by
  unfold rgOkB at h
  simp only [Bool.and_eq_true, decide_eq_true_eq] at h
  exact ⟨h.1.1.1.1, h.1.1.1.2, h.1.1.2, h.1.2, h.2⟩
theorem rgV_rel {K : PySem.W.Frag} {O : AS} {H : Hp} (a b : Int) : RpL K O H (rgD a b) (rgV a b) := by
  unfold rgD rgV
  have e1 : (List.range (b - a).toNat).map (fun i => PyData.int (a + (i : Nat))) = ((List.range (b - a).toNat).map fun i => a + ((i : Nat) : Int)).map PyData.int := by rw [List.map_map]; rfl
  have e2 : (List.range (b - a).toNat).map (fun i => V.int (a + (i : Nat))) = ((List.range (b - a).toNat).map fun i => a + ((i : Nat) : Int)).map V.int := by rw [List.map_map]; rfl
  rw [e1, e2]
  exact .ofInts _
def lstRgD (x y : Da) : Option EV := match x, y with
  | .int a, .int b => if rgOkB a b = true then some (.own (.l (rgD a b))) else none
  | _, _ => none
section
variable {Tb : List (Addr × Str)} {X : Cx} {W : WX} {a b e : Expr} {pos pos2 p p2 : Pos} {fa fb fe : VM EV}
def vListRg (fa : VM EV) : VM EV := vb fa fun r => vb (vRd r) fun x => vOpt (lstRgD (.int 0) x)
theorem ve_listRg1 {k : Nat} (c : VC X W k) (hm : X.mg "range" = none) (hm2 : X.mg "list" = none) (ha : VE Tb X W a fa) (hg : Gl X "range" := by rfl) (hg2 : Gl X "list" := by rfl)
    (hs : starEach [a] X.env = (false, eval a X.env) :: starEach [] X.env := by rfl)
    (hs2 : starEach [.Call (.Name "range" p) [a] [] pos] X.env = (false, eval (.Call (.Name "range" p) [a] [] pos) X.env) :: starEach [] X.env := by rfl) :
    VE Tb X W (.Call (.Name "list" p2) [.Call (.Name "range" p) [a] [] pos] [] pos2) (vListRg fa) := by
  refine PE.wk (pe_listRg c.calm hg2 hm2 (prg_1 hg hm ha hs) hs2) fun σ H Q h => ?_
  obtain ⟨O, st, F, h⟩ := h
  refine tV.bind F h fun r s1 v H1 S1 E1 h => ?_
  obtain ⟨x, R, h⟩ := h.rd S1.fr E1
  obtain ⟨z, ez, h⟩ := h.opt1
  cases x with
  | int n =>
    obtain rfl := R.int
    unfold lstRgD at ez
    dsimp only at ez
    split at ez
    · rename_i hr
      cases ez
      exact ⟨n, rfl, rgOk_of hr, fun q hq => h _ _ (S1.trans (Step.ext S1.fr (Same.upd hq))) ((NR.er S1.fr (Same.upd hq) (NR.lst (rgV_rel 0 n) hq)).back S1.dom)⟩
    · cases ez
  | _ => cases ez
/-! ### and, or as values -/
def vAndV (fa fb : VM EV) : VM EV := vb fa fun r => vb (vOpt (evD r)) fun x => vb (vOpt (truD x)) fun k => if k = true then fb else vr (.d x)
def vOrV (fa fb : VM EV) : VM EV := vb fa fun r => vb (vOpt (evD r)) fun x => vb (vOpt (truD x)) fun k => if k = true then vr (.d x) else fb
/-- not e as a value -/
def vNotV (ga : VM Bool) : VM EV := vb ga fun c => vC (.bool (!c))
end
end VL
set_option Elab.async false
set_option linter.all false
set_option maxRecDepth 100000
set_option maxHeartbeats 0
namespace VL
open PySem PySem.Spec PyProof.Rows L2
open AutoSeq1 (wpAny_loadPart')
/-! ### tuple * k, k at most 1 -/
theorem tuple_mul0 (l : Addr) (items : Array Value) (n : Nat) (dd : Option Addr) (sl : Array (Option Value)) (x : Int) (u : Tok) (c0 : (decide (x < -(2 ^ 63)) || decide (x ≥ 2 ^ 63)) = false) (c1 : (items.isEmpty || x == 1) = false) (c2 : (decide (x ≤ 0) || items.isEmpty) = true) :
    Meets (Builtin.«tuple.__mul__» ⟨[.ref l, .int x u], []⟩) (fun _ R s => s.heap.get? l = some { cls := .type "tuple", dict := dd, data := .seq items n, slots := sl } ∧
      R (.ok (.ret (Value.ref s.heap.objs.size))) { s with heap := s.heap.push { cls := Value.type "tuple", data := Data.seq #[] }, toks := s.toks }) :=
  .of_wp fun prog w A R s h => by
    obtain ⟨hp, g, d, tk, os⟩ := s
    obtain ⟨hl, h⟩ := h
    have f1 := AutoSeq1.idx_int
    wp_walk using wpAny_loadPart' hl
    repeat (first
      | (refine wpAny_ite_false (decide_eq_false (by rw [c0]; exact Bool.false_ne_true)) ?_; wp_walk using wpAny_loadPart' hl)
      | (refine wpAny_ite_false (decide_eq_false (by rw [c1]; exact Bool.false_ne_true)) ?_; wp_walk using wpAny_loadPart' hl)
      | (refine wpAny_ite_true (decide_eq_true (by rw [c2])) ?_; wp_walk using wpAny_loadPart' hl))
    exact ⟨_, rfl, h⟩
theorem tuple_mul1 (l : Addr) (items : Array Value) (n : Nat) (dd : Option Addr) (sl : Array (Option Value)) (x : Int) (u : Tok) (c0 : (decide (x < -(2 ^ 63)) || decide (x ≥ 2 ^ 63)) = false) (c1 : (items.isEmpty || x == 1) = true) :
    Meets (Builtin.«tuple.__mul__» ⟨[.ref l, .int x u], []⟩) (fun _ R s => s.heap.get? l = some { cls := .type "tuple", dict := dd, data := .seq items n, slots := sl } ∧
      R (.ok (.ret (Value.ref l))) s) :=
  .of_wp fun prog w A R s h => by
    obtain ⟨hp, g, d, tk, os⟩ := s
    obtain ⟨hl, h⟩ := h
    have f1 := AutoSeq1.idx_int
    wp_walk using wpAny_loadPart' hl
    repeat (first
      | (refine wpAny_ite_false (decide_eq_false (by rw [c0]; exact Bool.false_ne_true)) ?_; wp_walk using wpAny_loadPart' hl)
      | (refine wpAny_ite_true (decide_eq_true (by rw [c1])) ?_; wp_walk using wpAny_loadPart' hl))
    all_goals first | exact ⟨_, rfl, h⟩ | skip
def rRepT0 (K : PySem.W.Frag) : R2 := fun x y H Q => ∃ l k xs, x = .ref l ∧ y = .int k ∧ SqT K H l xs ∧ xs ≠ [] ∧ k ≤ 0 ∧ -1000000 ≤ k ∧ ∀ p, H p = none → Q (.ref p) (upd H p (.tup []))
def rRepT1 (K : PySem.W.Frag) : R2 := fun x y H Q => ∃ l k xs, x = .ref l ∧ y = .int k ∧ SqT K H l xs ∧ k = 1 ∧ Q (.ref l) H
section
variable {X : Cx}
theorem op_repT0 : OpR X (binaryOp .Mult) (rRepT0 X.K) := by
  intro pins s σ H x y v u Q I rx ry h
  obtain ⟨l, k, xs, rfl, rfl, hT, hne, h1, h2, q⟩ := h
  cases rx
  obtain ⟨t, rfl⟩ := ry
  obtain ⟨its, r, ⟨⟨cls, dd, data, sl⟩, ho, hc, n, hd⟩, hs⟩ := I.tuple hT
  simp only at hc hd
  subst hc hd
  have hle : its.length = xs.length := r.length.symm
  have hn : its ≠ [] := fun e => hne (by
    rw [e] at hle
    exact List.eq_nil_of_length_eq_zero hle.symm)
  have hi : its.toArray.isEmpty = false := by
    cases its with
    | nil => exact absurd rfl hn
    | cons a b => rfl
  have c0 : (decide (k < -(2 ^ 63)) || decide (k ≥ 2 ^ 63)) = false := by
    rw [decide_eq_false (by omega), decide_eq_false (by omega)] <;> rfl
  have c1 : (its.toArray.isEmpty || k == 1) = false := by
    rw [hi, Bool.false_or]
    exact beq_eq_false_iff_ne.mpr (by omega)
  have c2 : (decide (k ≤ 0) || its.toArray.isEmpty) = true := by
    rw [hi, Bool.or_false]
    exact decide_eq_true h1
  refine wpAny_binaryOp_repeat_ref (T := "tuple") (U := "int") (by decide) ⟨_, ho, rfl⟩ (fun s' => typeIs_int s' k t) noFill_tuple_mul F.fills_int_mul F.slot_int_rmul repeat_tuple F.slot_int_index.lookup
    (call_meets F.slot_int_rmul (typeIs_int s k t) F.entry_int_rmul (F.args_int_rmul_2 _ _) (int_rmul_tuple k t l its.toArray n dd sl)
      ⟨ho, rfl, ⟨_, ho, rfl⟩, call_meets F.slot_tuple_mul ⟨_, ho, rfl⟩ F.entry_tuple_mul (F.args_tuple_mul_2 _ _) (tuple_mul0 l its.toArray n dd sl k t c0 c1 c2) ⟨ho, ?_⟩⟩)
  refine ⟨.ref s.heap.objs.size, _, I.laid (t' := s.toks) (o := .tup []) (fun b ob q => Heap.get?_push_of_some _ q) (Nat.le_refl _) ?_, rfl, q _ (I.hok.fresh (Nat.le_refl _))⟩
  exact ⟨Nat.zero_le _, [], .nil, IsTup.new _ _⟩
theorem op_repT1 : OpR X (binaryOp .Mult) (rRepT1 X.K) := by
  intro pins s σ H x y v u Q I rx ry h
  obtain ⟨l, k, xs, rfl, rfl, hT, h1, q⟩ := h
  cases rx
  obtain ⟨t, rfl⟩ := ry
  obtain ⟨its, r, ⟨⟨cls, dd, data, sl⟩, ho, hc, n, hd⟩, hs⟩ := I.tuple hT
  simp only at hc hd
  subst hc hd
  have c0 : (decide (k < -(2 ^ 63)) || decide (k ≥ 2 ^ 63)) = false := by
    rw [decide_eq_false (by omega), decide_eq_false (by omega)] <;> rfl
  have c1 : (its.toArray.isEmpty || k == 1) = true := by
    rw [h1]; simp
  refine wpAny_binaryOp_repeat_ref (T := "tuple") (U := "int") (by decide) ⟨_, ho, rfl⟩ (fun s' => typeIs_int s' k t) noFill_tuple_mul F.fills_int_mul F.slot_int_rmul repeat_tuple F.slot_int_index.lookup
    (call_meets F.slot_int_rmul (typeIs_int s k t) F.entry_int_rmul (F.args_int_rmul_2 _ _) (int_rmul_tuple k t l its.toArray n dd sl)
      ⟨ho, rfl, ⟨_, ho, rfl⟩, call_meets F.slot_tuple_mul ⟨_, ho, rfl⟩ F.entry_tuple_mul (F.args_tuple_mul_2 _ _) (tuple_mul1 l its.toArray n dd sl k t c0 c1) ⟨ho, ?_⟩⟩)
  exact ⟨.ref l, H, I, rfl, q⟩
/-- every tuple * int -/
def mulE : Da → Da → Option EV
  | .tuple xs, .int k => if xs ≠ [] ∧ -1000000 ≤ k ∧ k ≤ 1000 ∧ xs.length ≤ 1000 then some (.d (.tuple (List.replicate k.toNat xs).flatten)) else none
  | x, y => mulD x y
theorem o_mulE : Op2 X (binaryOp .Mult) mulE := by
  obtain ⟨r, hr, hg⟩ := o_mul (X := X)
  refine ⟨_, OpR.or hr (OpR.or op_repT0 op_repT1), fun O H x y v w z Q hd hx hy e q => ?_⟩
  have lo : mulD x y = some z → r v w H Q ∨ rRepT0 X.K v w H Q ∨ rRepT1 X.K v w H Q := fun e => .inl (hg O H x y v w z Q hd hx hy e q)
  cases x with
  | tuple a =>
    cases y with
    | int k =>
      unfold mulE at e; dsimp only at e
      split at e
      · rename_i hc; cases e
        by_cases h2 : 2 ≤ k
        · refine lo ?_
          unfold mulD; dsimp only
          rw [if_pos ⟨hc.1, h2, hc.2.2.1, hc.2.2.2⟩]
        · obtain rfl := hy.int
          have Rt := hx.tup
          obtain ⟨l, vs, rfl, h1, r1⟩ := hx.tupT
          by_cases h0 : k ≤ 0
          · refine .inr (.inl ⟨l, k, vs, rfl, rfl, h1, fun z => hc.1 (List.eq_nil_of_length_eq_zero (by rw [r1.length, z]; rfl)), h0, hc.2.1, fun p hp => ?_⟩)
            have e0 : k.toNat = 0 := by omega
            rw [e0] at q
            exact q _ _ (Same.upd hp) (NR.tup hd .nil hp)
          · have e1 : k = 1 := by omega
            subst e1
            refine .inr (.inr ⟨l, 1, vs, rfl, rfl, h1, rfl, ?_⟩)
            have e2 : (List.replicate (1 : Int).toNat a).flatten = a := by
              show [a].flatten = a
              simp
            rw [e2] at q
            exact q _ H (Same.refl H) Rt
      · cases e
    | _ => exact lo e
  | _ => exact lo e
end
/-! ### not e as a value -/
section
variable {Tb : List (Addr × Str)} {X : Cx} {W : WX} {a : Expr} {pos : Pos} {fa : VM EV}
def vNotE (fa : VM EV) : VM EV := vb fa fun r => vb (vRd r) fun x => vb (vOpt (truD x)) fun k => vr (.d (.bool (!k)))
end
end VL
set_option Elab.async false
set_option linter.all false
set_option maxRecDepth 100000
set_option maxHeartbeats 0
namespace VL
open PySem PySem.Spec PyProof.Rows L2 LamX NdefX PySem.Calls He
theorem codeOf_fd {K : PySem.W.Frag} {p : Str × Option Str} {x qual : Str} {params : Arguments} {body : List Stmt} {scope : Scope} {dvs : List V} {kws : List (Str × V)} {fd : FuncData} (H : FunD K x qual params body scope dvs kws (fAd K p) fd) : fd.code = .ref (codeOf K p) := by
  obtain ⟨oc, od, dV, kV, doc, pm, an, cdv, ct, osl, rfl, lk, hcd, _, _⟩ := H.ex
  obtain ⟨c, rfl⟩ := codeIn_ref hcd
  rw [codeOf_eq lk rfl]
theorem SaysV.tabs {file : Str} {fa : List Fa} {fn : List DefD} {sd : List SupD} {tf : List Defn} {ex : PySem.W.Frag → Bool} {h : Heap} {K : PySem.W.Frag} (c : SaysV file fa fn sd tf ex h K) (X : K.In h) :
    (∀ p ∈ tf.map (cT K), h.get? p.2 = some { cls := .none, data := .fields #[] }) ∧ (∀ p ∈ tf.map (cT K), K.lookup p.2 = none) ∧ ∀ p ∈ tf.map (cT K), PySem.W.CodeHd h p.1 p.2 := by
  refine ⟨fun p hp => ?_, fun p hp => ?_, fun p hp => ?_⟩
  all_goals
    obtain ⟨q, hq, rfl⟩ := List.mem_map.mp hp
  · exact c.empty q hq
  · exact c.out q hq
  · exact PySem.W.codeHd_of_K X (c.hd q hq)
/-! ### what is forgotten behind -/
def vFgtE (is : List Nat) (g : VM Ctl) : VM Ctl := fun s => match g s with
  | .ok (.nx, s') => .ok (.nx, is.foldl (fun s i => fgt1 i s) s')
  | .ok (.ct, s') => .ok (.ct, is.foldl (fun s i => fgt1 i s) s')
  | r => r
theorem tVS.fgtE {Tb : List (Addr × Str)} {K : PySem.W.Frag} {mg : Str → Option Value} {W : WX} {g : VM Ctl} {D : Ends} {σ : L2.St} {H : Hp} (is : List Nat) (h : tVS Tb K mg W (vFgtE is g) D σ H) : tVS Tb K mg W g D σ H := by
  obtain ⟨O, st, F, q⟩ := h
  refine ⟨O, st, F, ?_⟩
  unfold vFgtE at q
  cases e : g st with
  | error er => rw [e] at q; exact q
  | ok p =>
    obtain ⟨c, s'⟩ := p
    rw [e] at q
    cases c with
    | nx => exact fun σ' H' S => q σ' H' (S.trans (Step.fgts is S.fr))
    | ct => exact fun σ' H' S => q σ' H' (S.trans (Step.fgts is S.fr))
    | bk => exact q
    | rt r => exact q
theorem vs_fgtE {Tb : List (Addr × Str)} {X : Cx} {W : WX} {ss : List Stmt} {g : VM Ctl} (is : List Nat) (h : VSs Tb X W ss g) : VSs Tb X W ss (vFgtE is g) := PSs.wk h fun D σ H q => tVS.fgtE is q
end VL
set_option Elab.async false
set_option linter.all false
set_option maxRecDepth 100000
set_option maxHeartbeats 0
/-! try with several clauses, each with or without a name -/
namespace VL
open PySem PySem.Spec PyProof.Rows L2 LamX NdefX PySem.Calls
def offE (D : Ends) (i : Nat) : Ends where
  nx := fun σ' H' => D.nx (σ'.set i none) H'
  rt := D.rt
  bk := fun σ' H' => D.bk (σ'.set i none) H'
  ct := fun σ' H' => D.ct (σ'.set i none) H'
abbrev ClT : Type := Value × Option Nat × (Addr → Value → Option Addr → TS)
def clE (o : Option Nat) (ts : Addr → Value → Option Addr → TS) (D : Ends) (a : Addr) (cls : Value) (d : Option Addr) (σ : L2.St) (H : Hp) : Prop := match o with
  | none => ts a cls d D σ H
  | some i => ts a cls d (offE D i) (σ.set i (some (.ref a))) H
def wCl (K : PySem.W.Frag) (Wout : WX) (D : Ends) : List ClT → WX
  | [] => Wout
  | (c, o, ts) :: r => fun cls d σ H => ∃ b, PySem.W.exmOne K cls c = some b ∧ (b = true → ∀ a, H a = none → clE o ts D a cls d σ H) ∧ (b = false → wCl K Wout D r cls d σ H)
abbrev SuiteOk (X : Cx) (ss : List Stmt) (ts : Addr → Value → Option Addr → TS) : Prop :=
  ∀ (a : Addr) (oe : Obj) (cls : Value) (d : Option Addr) (pn : List (Addr × Obj)), Zc cls d oe → (∃ vs, oe.data = .fields vs) → PSs (X.suite a ((a, oe) :: pn)) ss (ts a cls d)
inductive ClsOk (X : Cx) : List ExceptHandler → List ClT → Prop
  | nil : ClsOk X [] []
  | no {x : Str} {c : Value} {ts : Addr → Value → Option Addr → TS} {b : Stmt} {ss : List Stmt} {p1 p2 : Pos} {hs : List ExceptHandler} {l : List ClT} (hc : Names X x c) (su : SuiteOk X (b :: ss) ts) (r : ClsOk X hs l) :
      ClsOk X (.ExceptHandler (some (.Name x p1)) none (b :: ss) p2 :: hs) ((c, none, ts) :: l)
  | as {x n : Str} {i : Nat} {c : Value} {ts : Addr → Value → Option Addr → TS} {b : Stmt} {ss : List Stmt} {p1 p2 : Pos} {hs : List ExceptHandler} {l : List ClT} (hc : Names X x c) (hi : X.N[i]? = some n) (hl : X.env.kindOf n = some .local) (su : SuiteOk X (b :: ss) ts) (r : ClsOk X hs l) :
      ClsOk X (.ExceptHandler (some (.Name x p1)) (some n) (b :: ss) p2 :: hs) ((c, some i, ts) :: l)
theorem ps_try_cl {X : Cx} {body : List Stmt} {hd : ExceptHandler} {hds : List ExceptHandler} {l : List ClT} {pos : Pos} {tb : WX → TS} {Wout : WX} (hs : X.stack = X.env :: X.outer) (hf : X.env.frame = some X.env.locals) (hN : X.N.Nodup) (tk : Takes X Wout)
    (hb : ∀ (W : WX) (pn : List (Addr × Obj)) (xe : Value → Shared → Prop), Takes (X.tr pn xe) W → PSs (X.tr pn xe) body (tb W)) (hh : ClsOk X (hd :: hds) l) : PS X (.Try body (hd :: hds) [] [] pos) (fun D σ H => tb (wCl X.K Wout D l) D σ H) := by
  refine ⟨fun pins s σ H D I hyp => ?_⟩
  have okX := I.ok
  have frX : X.A.frames = some (X.env :: X.outer) := by rw [okX.frames, hs]
  refine wpAny_Try_except ?_
  -- what the clauses are asked of an exception
  let catchW : Value → Shared → Prop := fun e t₁ => wpAny (model X.prog X.w) X.A (noteFrame e X.env) (fun _ t₂ => wpAny (model X.prog X.w) X.A (setFlight e none) (fun _ t₃ => wpAny (model X.prog X.w) X.A (handleBy e X.env (hd :: hds)) (SP X pins D) X.xe t₃) X.xe t₂) X.xe t₁
  have caught : ∀ u t, XE (X.tr (X.pn ++ pins) catchW) (wCl X.K Wout D l) u t → catchW u t := by
    rintro u t ⟨ea, B, sI, pins2, σ2, H2, cls, d, rfl, J0, nb, up, sky, na, os, ag, wish⟩
    have J : Inv X pins σ2 H2 sI := Inv.ofTry J0 okX
    have skyX : Sky B (X.env :: X.outer) ea (Zc cls d) X.env.locals t.heap := hs ▸ sky
    show wpAny (model X.prog X.w) X.A (noteFrame (.ref ea) X.env) _ _ _
    refine Sky.land Zc.steady frX hf skyX fun g1 fl1 u1 => ?_
    have J1 : Inv X pins σ2 H2 { t with heap := g1 } := J.landed nb fl1.1 (up.trans u1) os ag
    obtain ⟨o1, w1, at1, z1, d1⟩ := fl1.there
    have nofr : ea ∉ frs (X.env :: X.outer) := fun hm => by
      obtain ⟨_, o2, at2, nd⟩ := Heap.FunFrames.mem fl1.2.2.1 hm
      rw [at1] at at2; cases at2
      exact nd _ d1
    have nloc : ea ≠ X.env.locals := fun z => nofr (List.mem_filterMap.mpr ⟨X.env, List.mem_cons_self, by rw [hf, z]⟩)
    have nfs : ea ∉ X.fs := fun hm => by
      obtain ⟨en, m1, m2⟩ := List.mem_filterMap.mp hm
      exact nofr (List.mem_filterMap.mpr ⟨en, List.mem_cons_of_mem _ m1, m2⟩)
    have K1 := J1.suite at1 d1 na nloc nfs
    -- the test of a clause
    have asks : ∀ {x : Str} {c : Value} {p : Pos}, Names X x c → ∀ {Q : Value → Shared → Prop} {E : Value → Shared → Prop}, Q c { t with heap := g1 } → wpAny (model X.prog X.w) (X.A.mark (some (.ref ea))) (eval (.Name x p) X.env) Q E { t with heap := g1 } := fun {x c p} nm {Q E} q => by
      obtain ⟨n1, n2, n3⟩ := nm
      rcases n3 with n3 | ⟨n3, n4, n5⟩
      · exact ld_glob (X := X.suite ea ((ea, o1) :: (X.pn ++ pins))) K1 n1 n3 q n2
      · exact ld_blt (X := X.suite ea ((ea, o1) :: (X.pn ++ pins))) K1 n1 n3 n4 q n5 n2
    have says : ∀ {c : Value} {b : Bool}, PySem.W.exmOne X.K cls c = some b → PySem.W.Looks (model X.prog X.w) g1 (excMatches (.ref ea) c) b := fun {c b} hb =>
      PySem.W.exm_one (M := model X.prog X.w) J1.kIn (fun A Q E s k q => wpAny_typeOf_ref (k _ _ at1) (by rw [z1.1]; exact q)) hb
    have go : ∀ {hs' : List ExceptHandler} {l' : List ClT}, ClsOk X hs' l' → wCl X.K Wout D l' cls d σ2 H2 → wpAny (model X.prog X.w) X.A (handleBy (.ref ea) X.env hs') (SP X pins D) X.xe { t with heap := g1 } := by
      intro hs' l' ok
      induction ok with
      | nil =>
        intro wished
        refine wpAny_handleBy_nil ?_
        obtain ⟨q1, q2, q3, o3, v3, T, oT, w3, at3, z3, d3, f3, r3⟩ := id fl1
        unfold PySem.passOn
        refine wpAny_bind (wpAny_field at3 d3 f3 ?_)
        have nT : ¬ ((Value.ref T == Value.none) = true) := by simp
        rw [if_neg nT]
        have out : wpAny (model X.prog X.w) X.A (setFlight (.ref ea) X.env.frame) (fun _ t4 => wpAny (model X.prog X.w) X.A (throw (.ref ea) : Sem Flow) (SP X pins D) X.xe t4) X.xe { t with heap := g1 } := by
          rw [hf]
          refine HandSPX.setFlight_upZ fl1 fun g2 hg2 u2 => wpAny_throw (tk _ _ ?_)
          exact ⟨ea, B, sI, pins, σ2, H2, cls, d, rfl, J, nb, (up.trans u1).trans u2, .inr (.inr (hs ▸ hg2)), na, os, ag, wished⟩
        first | exact wpAny_bind (wpAny_pure (wpAny_bind out)) | exact wpAny_bind out
      | @no x c ts b ss p1 p2 hs2 l2 nm su r ih =>
        rintro ⟨yes, m, w1, w2⟩
        refine wpAny_handleBy_cons (codeAny_handlers_test (asks nm ((says m).here ?_))) (by intro q; cases q)
        cases yes with
        | false => exact ih (w2 rfl)
        | true =>
          refine codeAny_handlers_suite (HandSPX.lands_againZ fl1 fun g2 fl2 u2 => ?_)
          have J2 : Inv X pins σ2 H2 { t with heap := g2 } := J.landed nb fl2.1 ((up.trans u1).trans u2) os ag
          obtain ⟨o4, v4, at4, z4, d4⟩ := fl2.there
          refine wpAny_mono ((su ea o4 cls d (X.pn ++ pins) z4 ⟨_, d4⟩).run [] _ _ H2 _ (J2.suite at4 d4 na nloc nfs) (w1 rfl ea na)) (fun fl t6 done => ?_) (fun _ _ z => z.elim)
          cases fl with
          | ret u =>
            obtain ⟨v6, σ6, H6, S6, r6, q6⟩ := done
            exact ⟨v6, σ6, H6, Inv.unsuite S6 okX, r6, q6⟩
          | next => obtain ⟨σ6, H6, S6, q6⟩ := done; exact ⟨σ6, H6, Inv.unsuite S6 okX, q6⟩
          | brk => obtain ⟨σ6, H6, S6, q6⟩ := done; exact ⟨σ6, H6, Inv.unsuite S6 okX, q6⟩
          | cont => obtain ⟨σ6, H6, S6, q6⟩ := done; exact ⟨σ6, H6, Inv.unsuite S6 okX, q6⟩
      | @as x n i c ts b ss p1 p2 hs2 l2 nm hi hl su r ih =>
        rintro ⟨yes, m, w1, w2⟩
        refine wpAny_handleBy_cons (codeAny_handlers_test (asks nm ((says m).here ?_))) (by intro q; cases q)
        cases yes with
        | false => exact ih (w2 rfl)
        | true =>
          refine codeAny_handlers_suite_as (HandSPX.lands_againZ fl1 fun g2 fl2 u2 => ?_)
          have J2 : Inv X pins σ2 H2 { t with heap := g2 } := J.landed nb fl2.1 ((up.trans u1).trans u2) os ag
          obtain ⟨o4, v4, at4, z4, d4⟩ := fl2.there
          refine L2.store_ok (X := X.suite ea ((ea, o4) :: (X.pn ++ pins))) (v := .ref ea) (J2.suite at4 d4 na nloc nfs) hN hi (.inl hl) rfl (fun t5 S5 => ?_) (.inr hl)
          refine wpAny_mono ((su ea o4 cls d (X.pn ++ pins) z4 ⟨_, d4⟩).run [] t5 _ H2 _ S5 (w1 rfl ea na)) (fun fl t6 done => ?_) (fun _ _ z => z.elim)
          have gone : ∀ {σ6 : L2.St} {H6 : Hp} {Q : Shared → Prop}, Inv (X.suite ea ((ea, o4) :: (X.pn ++ pins))) [] σ6 H6 t6 → (∀ t7, Inv X pins (σ6.set i none) H6 t7 → Q t7) → wpAny (model X.prog X.w) X.A (do bindName X.env n .none; unbindBehindTheSuite X.env n p2) (fun _ t7 => Q t7) X.xe t6 :=
            fun {σ6 H6 Q} S6 q => gone_ok (Inv.unsuite S6 okX) hN hi hl q
          cases fl with
          | ret u =>
            obtain ⟨v6, σ6, H6, S6, r6, q6⟩ := done
            exact gone S6 fun t7 J7 => ⟨v6, _, H6, J7, r6, q6⟩
          | next => obtain ⟨σ6, H6, S6, q6⟩ := done; exact gone S6 fun t7 J7 => ⟨_, H6, J7, q6⟩
          | brk => obtain ⟨σ6, H6, S6, q6⟩ := done; exact gone S6 fun t7 J7 => ⟨_, H6, J7, q6⟩
          | cont => obtain ⟨σ6, H6, S6, q6⟩ := done; exact gone S6 fun t7 J7 => ⟨_, H6, J7, q6⟩
    exact go hh wish
  refine wpAny_mono ((hb (wCl X.K Wout D l) (X.pn ++ pins) catchW caught).run [] s σ H D (I.toTry _) hyp) (fun fl t done => ?_) (fun e t he => he)
  cases fl with
  | next => obtain ⟨σ', H', J', q⟩ := done; exact wpAny_execs_nil ⟨σ', H', Inv.ofTry J' okX, q⟩
  | brk => obtain ⟨σ', H', J', q⟩ := done; exact ⟨σ', H', Inv.ofTry J' okX, q⟩
  | cont => obtain ⟨σ', H', J', q⟩ := done; exact ⟨σ', H', Inv.ofTry J' okX, q⟩
  | ret u => obtain ⟨v, σ', H', J', r, q⟩ := done; exact ⟨v, σ', H', Inv.ofTry J' okX, r, q⟩
end VL
set_option Elab.async false
set_option linter.all false
set_option maxRecDepth 100000
set_option maxHeartbeats 0
/-! a def that hears: several clauses -/
namespace VL
open PySem PySem.Spec PyProof.Rows L2 LamX NdefX PySem.Calls
/-- a clause's class, its word, the fields that it tells -/
abbrev HcT : Type := Addr × Str × List Str
def ClP (X : Cx) (Ng : List Str) (sg : Scope) (hd : ExceptHandler) (t : HcT) : Prop := ∃ (o : Option Nat) (ts : Addr → Value → Option Addr → TS),
  (∀ Z : Cx, Z.K = X.K → Z.mg = X.mg → Z.N = Ng → Z.env.scope = sg → ∀ hs l, ClsOk Z hs l → ClsOk Z (hd :: hs) ((.ref t.1, o, ts) :: l)) ∧
  ∀ (D : Ends) (σ : L2.St) (H : Hp) (d : Option Addr) (fs : List (Str × V)) (vs : List V) (e : Addr), σ.length = Ng.length → ExD H d fs → t.2.2.map (fun f => fs.lookup f) = vs.map some → (∀ p, H p = none → D.rt (.ref p) (L2.upd H p (.tup (.str t.2.1 :: vs)))) → clE o ts D e (.ref t.1) d σ H
inductive ClPs (X : Cx) (Ng : List Str) (sg : Scope) : List ExceptHandler → List HcT → Prop
  | nil : ClPs X Ng sg [] []
  | cons {hd : ExceptHandler} {t : HcT} {hs : List ExceptHandler} {ts : List HcT} (h : ClP X Ng sg hd t) (r : ClPs X Ng sg hs ts) : ClPs X Ng sg (hd :: hs) (t :: ts)
/-- the classes are told apart -/
def ExApart (K : PySem.W.Frag) (L : List HcT) : Prop := L.Pairwise (fun s t => PySem.W.exmOne K (.ref t.1) (.ref s.1) = some false) ∧ ∀ t ∈ L, PySem.W.exmOne K (.ref t.1) (.ref t.1) = some true
theorem cls_all {X : Cx} {Ng : List Str} {sg : Scope} {hs : List ExceptHandler} {L : List HcT} (h : ClPs X Ng sg hs L) : ∃ l : List ClT, (∀ Z : Cx, Z.K = X.K → Z.mg = X.mg → Z.N = Ng → Z.env.scope = sg → ClsOk Z hs l) ∧
    ∀ (Wout : WX) (D : Ends) (t : HcT) (σ : L2.St) (H : Hp) (d : Option Addr) (fs : List (Str × V)) (vs : List V), t ∈ L → ExApart X.K L → σ.length = Ng.length → ExD H d fs → t.2.2.map (fun f => fs.lookup f) = vs.map some → (∀ p, H p = none → D.rt (.ref p) (L2.upd H p (.tup (.str t.2.1 :: vs)))) → wCl X.K Wout D l (.ref t.1) d σ H := by
  induction h with
  | nil => exact ⟨[], fun Z _ _ _ _ => .nil, fun _ _ t _ _ _ _ _ hm => by cases hm⟩
  | @cons hd t0 hs ts h r ih =>
    obtain ⟨l, h1, h2⟩ := ih
    obtain ⟨o, tt, h3, h4⟩ := h
    refine ⟨(.ref t0.1, o, tt) :: l, fun Z e1 e2 e3 e4 => h3 Z e1 e2 e3 e4 _ _ (h1 Z e1 e2 e3 e4), fun Wout D t σ H d fs vs hm ap hl hd' hf hr => ?_⟩
    obtain ⟨ap1, ap2⟩ := ap
    rw [List.pairwise_cons] at ap1
    rcases List.mem_cons.mp hm with rfl | hm
    · exact ⟨true, ap2 _ List.mem_cons_self, fun _ e _ => h4 D σ H d fs vs e hl hd' hf hr, fun z => (by cases z)⟩
    · exact ⟨false, ap1.1 t hm, fun z => (by cases z), fun _ => h2 Wout D t σ H d fs vs hm ⟨ap1.2, fun s hs => ap2 s (List.mem_cons_of_mem _ hs)⟩ hl hd' hf hr⟩
section
variable {X : Cx} {Ng : List Str} {sg : Scope} {xc n c f1 f2 : Str} {CS : Addr} {i k3 k4 : Nat} {p6 p7 q1 q2 q3 q4 q5 q6 q7 : Pos}
theorem names_of {Z : Cx} (e2 : Z.mg = X.mg) (e4 : Z.env.scope = sg) (hge : sg.names.lookup xc = some .globalImplicit) (hde : (xc == ("__debug__" : Str)) = false) (hm : X.mg xc = some (.ref CS)) : Names Z xc (.ref CS) :=
  ⟨by show Z.env.scope.names.lookup xc = _; rw [e4]; exact hge, hde, .inl (by rw [e2]; exact hm)⟩
/-- except X: return (c,) -/
theorem clp0 (hge : sg.names.lookup xc = some .globalImplicit) (hde : (xc == ("__debug__" : Str)) = false) (hm : X.mg xc = some (.ref CS)) :
    ClP X Ng sg (.ExceptHandler (some (.Name xc p6)) none [.Return (some (.Tuple [.Constant (.str c) k3 q1] k4 q4)) q5] p7) (CS, c, []) := by
  refine ⟨none, fun _ _ _ D σ H => tTup (tCons (tC (.str c)) tNil) σ H D.rt, fun Z e1 e2 e3 e4 hs l r => .no (names_of e2 e4 hge hde hm) (fun a oe cls d pn hz hv => pss_one (ps_ret (pe_tup (pa_cons pe_str pa_nil)))) r, fun D σ H d fs vs e hl hd hf hr => ?_⟩
  have : vs = [] := by cases vs with
    | nil => rfl
    | cons v vs => cases hf
  subst this
  exact ⟨by rw [sizeLine_eq]; simp, hr⟩
end
/-! ### the def -/
abbrev hTries (a told : Str) (k1 k2 : Nat) (p1 p2 p3 p4 p5 p8 : Pos) (hs : List ExceptHandler) : List Stmt :=
  [.Try [.Return (some (.Tuple [.Constant (.str told) k1 p1, .Call (.Name a p2) [] [] p3] k2 p4)) p5] hs [] [] p8]
def TThs (L : List HcT) (told : Str) : (XK → Hp → VK → Prop) → Hp → VK → Prop := fun tl H Q =>
  tl (fun cls d H' => ∃ (t : HcT) (fs : List (Str × V)) (vs : List V), t ∈ L ∧ cls = .ref t.1 ∧ ExD H' d fs ∧ t.2.2.map (fun f => fs.lookup f) = vs.map some ∧ ∀ p, H' p = none → Q (.ref p) (L2.upd H' p (.tup (.str t.2.1 :: vs)))) H
    (fun v H1 => 2 ≤ sizeLine ∧ ∀ p, H1 p = none → Q (.ref p) (L2.upd H1 p (.tup [.str told, v])))
section
variable {X : Cx} {Ng : List Str} {x a q told : Str} {sg : Scope} {g : Addr} {cdg : Value} {k1 k2 : Nat} {p1 p2 p3 p4 p5 p8 : Pos} {hd : ExceptHandler} {hs : List ExceptHandler} {L : List HcT}
end
/-! ### the mirror -/
def hearD : List (Str × Str × List Str) → Str → List (Str × Da) → Option Da
  | [], _, _ => none
  | (c, w, fl) :: r, x, fs => if c = x then (lks fs fl).map fun vs => .tuple (.str w :: vs) else hearD r x fs
def vHeards (told : Str) (cl : List (Str × Str × List Str)) (f : VM EV) : VM EV := fun s => match f (ioS s) with
  | .ok (r, s') => match evD r with
    | some v => .ok (.d (.tuple [.str told, v]), mrg s s')
    | none => .error .stuck
  | .error (.exc C fs s') => match hearD cl C fs with
    | some v => .ok (.d v, mrg s s')
    | none => .error .stuck
  | .error .stuck => .error .stuck
/-- the classes by their names -/
inductive HcL (mg : Str → Option Value) : List (Str × Str × List Str) → List HcT → Prop
  | nil : HcL mg [] []
  | cons {c w : Str} {fl : List Str} {CS : Addr} {cl : List (Str × Str × List Str)} {L : List HcT} (h : mg c = some (.ref CS)) (r : HcL mg cl L) : HcL mg ((c, w, fl) :: cl) ((CS, w, fl) :: L)
theorem hearD_some {mg : Str → Option Value} {C : Str} {fs : List (Str × Da)} {v : Da} {cl : List (Str × Str × List Str)} {L : List HcT} (h : HcL mg cl L) (e : hearD cl C fs = some v) : ∃ (CS : Addr) (w : Str) (fl : List Str) (vs : List Da), mg C = some (.ref CS) ∧ (CS, w, fl) ∈ L ∧ lks fs fl = some vs ∧ v = .tuple (.str w :: vs) := by
  induction h with
  | nil => cases e
  | @cons c w fl CS cl L hm r ih =>
    unfold hearD at e
    split at e
    · rename_i hc
      subst hc
      obtain ⟨vs, h1, rfl⟩ := Option.map_eq_some_iff.mp e
      exact ⟨CS, w, fl, vs, hm, List.mem_cons_self, h1, rfl⟩
    · obtain ⟨CS', w', fl', vs, h1, h2, h3, h4⟩ := ih e
      exact ⟨CS', w', fl', vs, h1, List.mem_cons_of_mem _ h2, h3, h4⟩
end VL
set_option Elab.async false
set_option linter.all false
set_option maxRecDepth 100000
set_option maxHeartbeats 0
/-! own exceptions without __init__; what the head asks of classes -/
namespace VL
open PySem PySem.Spec PyProof.Rows L2 LamX NdefX PySem.Calls He
abbrev bmVE : List Value := [.type "ValueError", .type "Exception", .type "BaseException", .type "object"]
theorem pmk_own0 {X : Cx} {C : Addr} {bmB : List Value} {B newId initId : String} {x : Str} {p pos : Pos} (Fb : ExcBaseFacts B newId initId bmB) (q : PySem.W.excIn X.K C bmB newId = true) (gC : X.mg x = some (.ref C)) (kC : PySem.W.keepIn X.K (.ref C) = true) (r : Raises X (.ref C)) (hg : Gl X x)
    (hdb : (x == ("__debug__" : Str)) = false := by decide) : PMk X (.Call (.Name x p) [] [] pos) (fun _ H Q => Q (.ref C) none H) := by
  intro pins s σ H Q I h
  refine wpAny_Call_Name_kw (ld_glob I hg gC (PySem.W.callWith_K0 I.kIn kC ?_) hdb)
  show wpAny _ _ (call (.ref C) []) _ _ _
  obtain ⟨bm, N, nm, qn, bs, hdct, sn, sub, ab, col, dd, k0, k1, k2, k3, k5, mN, hC, hN, hni, T⟩ := exc_obj I.kIn q
  exact wpAny_call_exc_subT Fb T hC hN hni (fun h' e hm => mk_of I hm r h (I.hok.gone hm.new)) (Nat.zero_le _)
/-- a class x without __init__ -/
def ExN (K : PySem.W.Frag) (mg : Str → Option Value) (x : Str) : Prop :=
  ∃ C : Addr, mg x = some (.ref C) ∧ PySem.W.excIn K C bmVE "ValueError.__new__" = true ∧ PySem.W.keepIn K (.ref C) = true ∧ PySem.W.subIn K (.ref C) (.type "BaseException") = some true ∧ PySem.W.typeIn K (.ref C) = some (.type "type")
theorem vs_raise0 {Tb : List (Addr × Str)} {X : Cx} {W : WX} {k : Nat} {x : Str} {p pos pos' : Pos} (c : VC X W k) (T : ExN X.K X.mg x) (hg : Gl X x := by rfl) (hdb : (x == ("__debug__" : Str)) = false := by decide) :
    VSt Tb X W (.Raise (some (.Call (.Name x p) [] [] pos)) none pos') (vRaise x [] (vr [])) := by
  obtain ⟨C, hm, q, kC, t1, t2⟩ := T
  refine PS.wk (ps_raise c.calm c.tk (pmk_own0 F.excBase_ValueError q hm kC (raises_own t1 t2) hg hdb)) fun D σ H h => ?_
  obtain ⟨O, st, F, h⟩ := h
  exact h C none σ H [] hm (Step.refl F) rfl .nil rfl
/-! ### the checks -/
def exnB (K : PySem.W.Frag) (x : Str) : Bool := eqO (PySem.W.nsIn K mainGlobals x) (some (some (.ref (ga K x)))) && PySem.W.excIn K (ga K x) bmVE "ValueError.__new__" && PySem.W.keepIn K (.ref (ga K x)) && decide (PySem.W.subIn K (.ref (ga K x)) (.type "BaseException") = some true) && decide (PySem.W.typeIn K (.ref (ga K x)) = some (.type "type"))
theorem exnB_ok {K : PySem.W.Frag} {h : Heap} {mg : Str → Option Value} {x : Str} (X : K.In h) (G : h.Ns mainGlobals mg) (e : exnB K x = true) : ExN K mg x := by
  unfold exnB at e
  simp only [Bool.and_eq_true] at e
  obtain ⟨⟨⟨⟨e1, e2⟩, e3⟩, e4⟩, e5⟩ := e
  exact ⟨ga K x, PySem.W.mg_of X G (eqO_ok e1), e2, e3, dec e4, dec e5⟩
/-- of heard classes: each matches itself alone -/
def apartB (K : PySem.W.Frag) (xs : List Str) : Bool := xs.all fun x => xs.all fun z => decide (PySem.W.exmOne K (.ref (ga K z)) (.ref (ga K x)) = some (x == z))
theorem apartB_ok {K : PySem.W.Frag} {xs : List Str} (nd : xs.Nodup) (e : apartB K xs = true) (wf : Str → Str × List Str) : ExApart K (xs.map fun x => (ga K x, wf x)) := by
  have key : ∀ x ∈ xs, ∀ z ∈ xs, PySem.W.exmOne K (.ref (ga K z)) (.ref (ga K x)) = some (x == z) := fun x hx z hz => dec (List.all_eq_true.mp (List.all_eq_true.mp e x hx) z hz)
  refine ⟨List.pairwise_map.mpr ?_, fun t ht => ?_⟩
  · refine List.Pairwise.imp_of_mem ?_ nd
    intro x z hx hz hne
    rw [key x hx z hz]
    simp [hne]
  · obtain ⟨x, hx, rfl⟩ := List.mem_map.mp ht
    rw [key x hx x hx]
    simp
/-- what a heard class gives -/
structure HearOk (K : PySem.W.Frag) (mg : Str → Option Value) (x : Str) (fl : List Str) : Prop where
  mg : mg x = some (.ref (ga K x))
  xf : XfC K (ga K x)
  no : ∀ f ∈ fl, PySem.W.findIn K (.ref (ga K x)) f = some none
def hearB (K : PySem.W.Frag) (x : Str) (fl : List Str) : Bool := eqO (PySem.W.nsIn K mainGlobals x) (some (some (.ref (ga K x)))) && xfB K (ga K x) && fl.all fun f => decide (PySem.W.findIn K (.ref (ga K x)) f = some none)
theorem hearB_ok {K : PySem.W.Frag} {h : Heap} {mg : Str → Option Value} {x : Str} {fl : List Str} (X : K.In h) (G : h.Ns mainGlobals mg) (e : hearB K x fl = true) : HearOk K mg x fl := by
  unfold hearB at e
  simp only [Bool.and_eq_true] at e
  obtain ⟨⟨e1, e2⟩, e3⟩ := e
  exact ⟨PySem.W.mg_of X G (eqO_ok e1), xfB_ok e2, fun f hf => dec (List.all_eq_true.mp e3 f hf)⟩
end VL
set_option Elab.async false
set_option linter.all false
set_option maxRecDepth 100000
set_option maxHeartbeats 0
/-! is True, is False -/
namespace VL
open PySem PySem.Spec PyProof.Rows L2
section
variable {X : Cx}
def rIsB (n : Bool) : R2 := fun x y H Q => ∃ b, y = .bl b ∧ (x = .non ∨ (∃ c, x = .bl c) ∨ (∃ i, x = .int i) ∨ (∃ i, x = .str i) ∨ ∃ a, x = .ref a) ∧ Q (.bl (n != decide (x = .bl b))) H
theorem isB_val {x : V} {v : Value} {b : Bool} (hx : x = .non ∨ (∃ c, x = .bl c) ∨ (∃ i, x = .int i) ∨ (∃ i, x = .str i) ∨ ∃ a, x = .ref a) (rx : RelV x v) : PySem.plainIs v (.bool b) = true ∧ (v == Value.bool b) = decide (x = .bl b) := by
  rcases hx with rfl | ⟨c, rfl⟩ | ⟨i, rfl⟩ | ⟨i, rfl⟩ | ⟨a, rfl⟩
  · cases rx; exact ⟨rfl, by rw [decide_eq_false (by simp)]; rfl⟩
  · cases rx
    refine ⟨rfl, ?_⟩
    by_cases h : c = b
    · subst h; simp
    · rw [decide_eq_false (by simpa using h)]
      exact beq_eq_false_iff_ne.mpr (by simpa using h)
  · obtain ⟨t, rfl⟩ := rx; exact ⟨rfl, by rw [decide_eq_false (by simp)]; exact beq_eq_false_iff_ne.mpr (by simp)⟩
  · obtain ⟨t, rfl⟩ := rx; exact ⟨rfl, by rw [decide_eq_false (by simp)]; exact beq_eq_false_iff_ne.mpr (by simp)⟩
  · cases rx; exact ⟨rfl, by rw [decide_eq_false (by simp)]; exact beq_eq_false_iff_ne.mpr (by simp)⟩
theorem op_isB : OpR X (compareOp .Is) (rIsB false) := by
  intro pins s σ H x y v u Q I rx ry h
  obtain ⟨b, rfl, hx, q⟩ := h
  cases ry
  obtain ⟨h1, h2⟩ := isB_val hx rx
  exact wpAny_is_plain h1 (fin_bl I q (by rw [h2]; simp))
def isBD (b : Bool) : Da → Bool
  | .bool c => c == b
  | _ => false
def isE (x y : Da) : Option EV := match y with
  | .bool b => some (.d (.bool (isBD b x)))
  | y => isD x y
def isnotE (x y : Da) : Option EV := match y with
  | .bool b => some (.d (.bool (!isBD b x)))
  | y => isnotD x y
theorem ro_kind {K : PySem.W.Frag} {O : AS} {H : Hp} {x : Da} {v : V} (h : Ro K O H x v) : v = .non ∨ (∃ c, v = .bl c) ∨ (∃ i, v = .int i) ∨ (∃ i, v = .str i) ∨ ∃ a, v = .ref a := by
  cases x with
  | none => exact .inl h.none
  | bool b => exact .inr (.inl ⟨b, h.bool⟩)
  | int i => exact .inr (.inr (.inl ⟨i, h.int⟩))
  | str i => exact .inr (.inr (.inr (.inl ⟨i, h.str⟩)))
  | list xs => obtain ⟨a, _, e, _⟩ := h.list; exact .inr (.inr (.inr (.inr ⟨a, e⟩)))
  | tuple xs => obtain ⟨a, _, e, _⟩ := h.tupT; exact .inr (.inr (.inr (.inr ⟨a, e⟩)))
  | dict xs => obtain ⟨a, e, _⟩ := h.dictE; exact .inr (.inr (.inr (.inr ⟨a, e⟩)))
theorem ro_isB {K : PySem.W.Frag} {O : AS} {H : Hp} {x : Da} {v : V} {b : Bool} (h : Ro K O H x v) : decide (v = .bl b) = isBD b x := by
  cases x with
  | bool c =>
    rw [h.bool]
    show decide (V.bl c = .bl b) = (c == b)
    by_cases hc : c = b
    · subst hc; simp
    · rw [decide_eq_false (by simpa using hc)]; exact (beq_eq_false_iff_ne.mpr hc).symm
  | none => rw [h.none]; rfl
  | int i => rw [h.int]; rfl
  | str i => rw [h.str]; rfl
  | list xs => obtain ⟨a, _, e, _⟩ := h.list; rw [e]; rfl
  | tuple xs => obtain ⟨a, _, e, _⟩ := h.tupT; rw [e]; rfl
  | dict xs => obtain ⟨a, e, _⟩ := h.dictE; rw [e]; rfl
theorem o_isE : Op2 X (compareOp .Is) isE := by
  obtain ⟨r, hr, hg⟩ := o_is (X := X)
  refine ⟨_, OpR.or hr op_isB, fun O H x y v w z Q hd hx hy e q => ?_⟩
  cases y with
  | bool b =>
    cases e
    obtain rfl := hy.bool
    refine .inr ⟨b, rfl, ro_kind hx, ?_⟩
    rw [ro_isB hx]
    have : (false != isBD b x) = isBD b x := by cases isBD b x <;> rfl
    rw [this]
    exact q _ H (Same.refl H) (by show Rp _ _ _ _ _; simp only [Rp])
  | _ => exact .inl (hg O H x _ v w z Q hd hx hy e q)
end
end VL
set_option Elab.async false
set_option linter.all false
set_option maxRecDepth 100000
set_option maxHeartbeats 0
/-! tuple(range(n)) -/
namespace VL
open PySem PySem.Spec PyProof.Rows L2
def tupRgD (x y : Da) : Option EV := match x, y with
  | .int a, .int b => if rgOkB a b = true then some (.d (.tuple (rgD a b))) else none
  | _, _ => none
def vTupRg (fa : VM EV) : VM EV := vb fa fun r => vb (vRd r) fun x => vOpt (tupRgD (.int 0) x)
section
variable {Tb : List (Addr × Str)} {X : Cx} {W : WX} {a : Expr} {pos pos2 p p2 : Pos} {fa : VM EV}
end
end VL
set_option Elab.async false
set_option linter.all false
set_option maxRecDepth 100000
set_option maxHeartbeats 0
/-! xs.index(x) of a list -/
namespace VL
open PySem PySem.Spec PyProof.Rows L2
def findIx (d : Da) : List Da → Nat → Option Nat
  | [], _ => none
  | z :: zs, k => if PyData.eqv z d = true then some k else findIx d zs (k + 1)
def indexD (x : Da) (as : List Da) : Option EV := match x, as with
  | .list ds, [d] => if shF 64 (.list ds) = true ∧ shF 64 d = true then (findIx d ds 0).map fun j => .d (.int (j : Nat)) else none
  | _, _ => none
def isLD : Da → Option Unit
  | .list _ => some ()
  | _ => none
def vIdx (fo : VM EV) (fs : VM (List EV)) : VM EV := vb fo fun ro => vb (vRd (VL.settle ro)) fun x0 => vb (vOpt (isLD x0)) fun _ => vb fs fun rs => vb (vRd (VL.settle ro)) fun x => vb (vRds rs) fun as => vOpt (indexD x as)
section
variable {Tb : List (Addr × Str)} {X : Cx} {W : WX} {o e : Expr} {es : List Expr} {fo : VM EV} {fs : VM (List EV)}
end
end VL
set_option Elab.async false
set_option linter.all false
set_option maxRecDepth 100000
set_option maxHeartbeats 0
namespace VL
open PySem PySem.Spec PyProof.Rows L2
/-! ### sorted of tuples of ints -/
section
variable {prog : Program} {w : World} {A : Around} {E : Value → Shared → Prop} {s : Shared} {Q : Bool → Shared → Prop}
theorem lex_any {b : Bool} {xs ys : List Value} {ns ms : List Int} (n m : Nat) (i : Nat) (hx : IntsAre xs ns) (hy : IntsAre ys ms) (hl : ns.length + m = ms.length + n)
    (h : Q (HT.lexLt ns ms) s) : PySem.W.KatLex prog w A b (decide (n < m)) Q (xs.zip ys) i s := by
  induction hx generalizing ys ms i with
  | nil =>
    cases hy with
    | nil =>
      have e : decide (n < m) = false := decide_eq_false (by simp only [List.length_nil] at hl; omega)
      rw [e]
      exact PySem.W.kat_nil h
    | cons q u hy =>
      have e : decide (n < m) = true := decide_eq_true (by simp only [List.length_nil, List.length_cons] at hl; omega)
      rw [e]
      exact PySem.W.kat_nil h
  | @cons p t xs ns hx ih =>
    cases hy with
    | nil =>
      have e : decide (n < m) = false := decide_eq_false (by simp only [List.length_nil, List.length_cons] at hl; omega)
      rw [e]
      exact PySem.W.kat_nil h
    | @cons q u ys ms hy =>
      have hl' : ns.length + m = ms.length + n := by simp only [List.length_cons] at hl; omega
      show PySem.W.KatLex prog w A b (decide (n < m)) Q ((Value.int p t, Value.int q u) :: xs.zip ys) i s
      refine PySem.W.kat_cons (wpAny_eqBool_int ?_)
      rw [HT.lexLt_cons] at h
      by_cases e : p = q
      · subst e
        rw [beq_self_eq_true]
        rw [if_pos rfl] at h
        exact PySem.W.kat_yes (ih (i + 1) hy hl' h)
      · rw [show (p == q) = false from beq_eq_false_iff_ne.mpr e]
        rw [if_neg e] at h
        exact PySem.W.kat_no (TS.oneLt_ints _ h)
end
/-- a tuple of ints -/
def IsTI (h : Heap) (v : Value) (ns : List Int) : Prop := ∃ a o its n, v = .ref a ∧ h.get? a = some o ∧ o.cls = .type "tuple" ∧ o.data = .seq its n ∧ IntsAre its.toList ns
theorem IsTI.keeps {h h' : Heap} {v : Value} {ns : List Int} (p : IsTI h v ns) (k : ∀ b o, h.get? b = some o → o.cls = .type "tuple" → h'.get? b = some o) : IsTI h' v ns := by
  obtain ⟨a, o, t, n, e, ho, hc, hd, hi⟩ := p
  exact ⟨a, o, t, n, e, k _ _ ho hc, hc, hd, hi⟩
theorem firsts_TI {h : Heap} : ∀ vs : List Value, (∀ v ∈ vs, ∃ ns, ns ≠ [] ∧ IsTI h v ns) → ∃ fs, PySem.W.KatTups h vs fs ∧ fs.length = vs.length ∧ ∀ f ∈ fs, ∃ n t, f = Value.int n t
  | [], _ => ⟨[], PySem.W.KatTups.nil, rfl, fun f hf => by simp at hf⟩
  | v :: vs, x => by
    obtain ⟨fs, k, hl, hi⟩ := firsts_TI vs fun u hu => x u (List.mem_cons_of_mem _ hu)
    obtain ⟨ns, hn, a, o, xs, n, rfl, ho, hc, hdt, i⟩ := x v (List.mem_cons_self ..)
    obtain ⟨y, ys, e⟩ : ∃ y ys, xs.toList = y :: ys := by
      cases q : xs.toList with
      | nil => rw [q] at i; cases i; exact absurd rfl hn
      | cons y ys => exact ⟨y, ys, rfl⟩
    obtain ⟨m, t, hy⟩ := i.all y (by rw [e]; exact List.mem_cons_self ..)
    refine ⟨y :: fs, PySem.W.KatTups.cons ho hc hdt ?_ k, by simp [hl], ?_⟩
    · have z := congrArg (fun l : List Value => l[0]?) e
      simpa using z
    · intro f hf
      rcases List.mem_cons.mp hf with rfl | hf
      · exact ⟨m, t, hy⟩
      · exact hi f hf
section
variable {prog : Program} {w : World} {A : Around} {E : Value → Shared → Prop} {s : Shared}
theorem TI_cmp {vs : List Value} {k : Value → List Int} (hp : ∀ v ∈ vs, IsTI s.heap v (k v)) : SrtO.Cmp prog w A s (tuples' true) (fun p => p.1 ∈ vs) (SrtO.lt2 fun v u => HT.lexLt (k v) (k u)) := by
  intro p q hm hm'
  have h1 := hp _ hm
  have h2 := hp _ hm'
  show wpAny (model prog w) A (keyLt' (tuples' true) p.1 q.1) (fun r s' => s' = s ∧ r = HT.lexLt (k p.1) (k q.1)) (fun _ _ => False) s
  generalize k p.1 = ns at h1 ⊢
  generalize k q.1 = ms at h2 ⊢
  obtain ⟨a, o, t, n, e, ho, hc, hd, hi⟩ := h1
  obtain ⟨a', o', t', n', e', ho', hc', hd', hi'⟩ := h2
  rw [e, e']
  refine PySem.W.kat_lt ho hd ho' hd' (lex_any _ _ 0 hi hi' ?_ ⟨rfl, rfl⟩)
  have l1 := hi.length
  have l2 := hi'.length
  rw [Array.length_toList] at l1 l2
  omega
theorem TI_sortable {a : Addr} {vs : List Value} {k : Value → List Int} (h0 : 0 < vs.length) (hn : ∀ v ∈ vs, k v ≠ []) (hp : ∀ v ∈ vs, IsTI s.heap v (k v)) (ha : ∀ o, s.heap.get? a = some o → o.cls ≠ .type "tuple") :
    SrtO.SortableO prog w A s a vs fun v u => HT.lexLt (k v) (k u) := by
  intro h' keep
  have hp' : ∀ v ∈ vs, IsTI h' v (k v) := fun v hm => (hp v hm).keeps fun b o e c => keep b o (fun z => by subst z; exact ha o e c) e
  obtain ⟨fs, h1, h2, h3⟩ := firsts_TI vs fun v hm => ⟨_, hn v hm, hp' v hm⟩
  refine ⟨tuples' true, fun Q E hq => ?_, TI_cmp hp'⟩
  refine PySem.W.kat_kind (T := .type "int") h1 (by omega) (fun f hm => ?_) (by rfl) ?_
  · obtain ⟨x, t, rfl⟩ := h3 f hm
    exact PySem.W.Looks.now
  · have e : (Value.type "int" != Value.type "tuple") = true := by first | decide +kernel | rfl | decide
    rw [e]
    exact hq
end
/-- the ints of a tuple at a heap -/
def kv (h : Heap) : Value → List Int
  | .ref a => match h.get? a with
    | some o => match o.data with
      | .seq its _ => its.toList.map SrtO.iv
      | _ => []
    | none => []
  | _ => []
theorem kv_of {h : Heap} {v : Value} {ns : List Int} (p : IsTI h v ns) : kv h v = ns := by
  obtain ⟨a, o, its, n, rfl, ho, hc, hd, hi⟩ := p
  show (match h.get? a with
    | some o => match o.data with
      | .seq its _ => its.toList.map SrtO.iv
      | _ => []
    | none => []) = ns
  rw [ho]
  dsimp only
  rw [hd]
  exact SrtO.iv_ints hi
section
variable {X : Cx}
theorem Inv.TI {pins σ H s} {t : Addr} {ns : List Int} (I : Inv X pins σ H s) (h : SqT X.K H t (ns.map V.int)) : IsTI s.heap (.ref t) ns := by
  obtain ⟨its, rv, ⟨o, ho, hc, n, hd⟩, hz⟩ := I.tuple h
  exact ⟨t, o, its.toArray, n, rfl, ho, hc, hd, by rw [List.toList_toArray]; exact rv.ints⟩
abbrev TIs (K : PySem.W.Frag) (H : Hp) (ps : List (V × List Int)) : Prop := ∀ p ∈ ps, ∃ t, p.1 = V.ref t ∧ SqT K H t (p.2.map V.int) ∧ p.2 ≠ []
theorem ps_back {pins σ H s} (I : Inv X pins σ H s) : ∀ {ps : List (V × List Int)} {its : List Value}, TIs X.K H ps → Vals (ps.map (·.1)) its →
    ps = its.map (fun u => (backV u, kv s.heap u)) ∧ ∀ u ∈ its, (∃ a, u = Value.ref a) ∧ IsTI s.heap u (kv s.heap u) ∧ kv s.heap u ≠ []
  | [], its, _, r => by cases r; exact ⟨rfl, fun u hu => by simp at hu⟩
  | p :: ps, its, h, r => by
    obtain ⟨v, ns⟩ := p
    rw [List.map_cons] at r
    obtain ⟨t, e, ht, hn⟩ := h (v, ns) List.mem_cons_self
    dsimp only at e ht hn
    subst e
    cases r with
    | cons r1 r2 =>
      cases r1
      obtain ⟨e2, h2⟩ := ps_back I (fun q hq => h q (List.mem_cons_of_mem _ hq)) r2
      have hTI := Inv.TI I ht
      have ek := kv_of hTI
      refine ⟨?_, fun u hu => ?_⟩
      · rw [List.map_cons, ← e2, ek]; rfl
      · rcases List.mem_cons.mp hu with rfl | hu
        · exact ⟨⟨t, rfl⟩, by rw [ek]; exact hTI, by rw [ek]; exact hn⟩
        · exact h2 u hu
def rSortedT (K : PySem.W.Frag) : List V → Hp → VK → Prop := fun vs H Q => ∃ (a : Addr) (ps : List (V × List Int)), vs = [V.ref a] ∧ SqL K H a (ps.map (·.1)) ∧ TIs K H ps ∧
  ∀ (qs : List (V × List Int)) (p : Addr), qs.Perm ps → qs.Pairwise (fun x y => HT.lexLt y.2 x.2 = false) → H p = none → Q (.ref p) (upd H p (.lst (qs.map (·.1))))
def rSortedTT (K : PySem.W.Frag) : List V → Hp → VK → Prop := fun vs H Q => ∃ (a : Addr) (ps : List (V × List Int)), vs = [V.ref a] ∧ SqT K H a (ps.map (·.1)) ∧ TIs K H ps ∧
  ∀ (qs : List (V × List Int)) (p : Addr), qs.Perm ps → qs.Pairwise (fun x y => HT.lexLt y.2 x.2 = false) → H p = none → Q (.ref p) (upd H p (.lst (qs.map (·.1))))
theorem cr_sortedT : CallR X (.builtin "sorted") (rSortedT X.K) := by
  intro pins s σ H vs us Q I r h
  obtain ⟨a, ps, rfl, hs, hT, q⟩ := h
  obtain ⟨its, rv, hl, hz⟩ := I.list hs
  rw [Vals.ref1 r]
  obtain ⟨e1, e2⟩ := ps_back I hT rv
  rw [rv.length] at hz
  refine SrtO.sorted_ord (ltv := fun v u => HT.lexLt (kv s.heap v) (kv s.heap u)) (NtL.swo_lexL _) hl.isList hz (fun h2 h₁ a' ha' kk => TI_sortable (s := { s with heap := h₁ }) (by omega) (fun v hv => (e2 v hv).2.2) (fun v hv => (e2 v hv).2.1.keeps fun b o e _ => (kk b o e).2) fun o e => ?_) fun out h1 h2 => ?_
  · have e' : some o = some (seqObj "list" its.toArray 0) := e.symm.trans ha'
    cases e'
    intro c
    exact absurd (Value.type.inj c) (by decide)
  · obtain ⟨ep, he'⟩ := PyProof.Rows.sortedAll_at s.heap its out.toArray
    have h3 : ∀ u ∈ out, ∃ a, u = Value.ref a := fun u hu => (e2 u (h2.perm.mem_iff.mp hu)).1
    have hlen : (out.map backV).length ≤ sizeLine := by
      rw [List.length_map, h2.perm.length_eq]
      exact hz
    have eq : (out.map fun u => (backV u, kv s.heap u)).map (·.1) = out.map backV := by rw [List.map_map]; rfl
    have hq := q (out.map fun u => (backV u, kv s.heap u)) (s.heap.objs.size + 1) (by rw [e1]; exact h2.perm.map _) (List.pairwise_map.mpr h1) (I.hok.fresh (Nat.le_succ _))
    rw [eq] at hq
    exact ⟨.ref _, upd H (s.heap.objs.size + 1) (.lst (out.map backV)), I.laid (t' := s.toks) (fun _ _ => PyProof.Rows.sortedAll_old) (Nat.le_succ _) ⟨hlen, out, ep, vals_back h3, he'⟩, rfl, hq⟩
theorem cr_sortedTT : CallR X (.builtin "sorted") (rSortedTT X.K) := by
  intro pins s σ H vs us Q I r h
  obtain ⟨a, ps, rfl, hs, hT, q⟩ := h
  obtain ⟨its, rv, ⟨o, ho, hc, n, hd⟩, hz⟩ := I.tuple hs
  rw [Vals.ref1 r]
  obtain ⟨e1, e2⟩ := ps_back I hT rv
  rw [rv.length] at hz
  refine Calls.call_function_entry kind_sorted plain_sorted entry_sorted (args_sorted1 _) ?_
  unfold Builtin.«sorted»
  refine wpAny_bind (m := checkCount "sorted" 1 1 _) (wpAny_pure ?_)
  refine wpAny_bind (wpAny_collect_seq a (.inr rfl) ho hc hd (fun h1 k1 => ?_) (by rw [List.size_toArray]; exact hz))
  rw [List.toList_toArray]
  refine wpAny_bind (wpAny_newList ?_ hz)
  have hoL : (h1.push (seqObj "list" its.toArray 0)).get? h1.objs.size = some (seqObj "list" its.toArray 0) := Heap.get?_push_size _ rfl
  refine wpAny_bind (wpAny_holding (wpAny_call_entry slot_list_sort ⟨_, hoL, rfl⟩ entry_list_sort (SrtO.list_sort_ord (ltv := fun v u => HT.lexLt (kv s.heap v) (kv s.heap u)) (NtL.swo_lexL _) hoL hz
    (fun h2 => TI_sortable (by omega) (fun v hv => (e2 v hv).2.2) (fun v hv => (e2 v hv).2.1.keeps fun b o e _ => Heap.get?_push_of_some _ (k1 b o e)) fun o e => ?_) fun out hs2 hb => ⟨_, rfl, ?_⟩) (args_list_sort _)))
  · have e' : some o = some (seqObj "list" its.toArray 0) := e.symm.trans hoL
    cases e'
    intro c
    exact absurd (Value.type.inj c) (by decide)
  refine wpAny_pure ⟨_, rfl, ?_⟩
  obtain ⟨ep, he'⟩ := PyProof.Rows.sortedHeap_at (vs := its) (out := out.toArray) hoL
  have h3 : ∀ u ∈ out, ∃ a, u = Value.ref a := fun u hu => (e2 u (hb.perm.mem_iff.mp hu)).1
  have hlen : (out.map backV).length ≤ sizeLine := by
    rw [List.length_map, hb.perm.length_eq]
    exact hz
  have eq : (out.map fun u => (backV u, kv s.heap u)).map (·.1) = out.map backV := by rw [List.map_map]; rfl
  have I1 : Inv X pins σ H { s with heap := h1 } := I.kept (t' := s.toks) k1
  have hq := q (out.map fun u => (backV u, kv s.heap u)) h1.objs.size (by rw [e1]; exact hb.perm.map _) (List.pairwise_map.mpr hs2) (I1.hok.fresh (Nat.le_refl _))
  rw [eq] at hq
  refine ⟨.ref _, upd H h1.objs.size (.lst (out.map backV)), I1.laid (t' := s.toks) (fun b ob e => ?_) (Nat.le_refl _) ⟨hlen, out, ep, vals_back h3, he'⟩, rfl, hq⟩
  have hlt : b < h1.objs.size := Heap.lt_size e
  rw [PyProof.Rows.sortedHeap_old (Nat.ne_of_lt hlt) (by rw [Heap.size_push]; exact Nat.lt_succ_of_lt hlt)]
  exact Heap.get?_push_of_some _ e
end
/-! ### the value -/
def insT (n : List Int) : List (List Int) → List (List Int)
  | [] => [n]
  | m :: ms => if HT.lexLt m n = true then m :: insT n ms else n :: m :: ms
def sortT : List (List Int) → List (List Int)
  | [] => []
  | n :: ns => insT n (sortT ns)
abbrev SrtT (l : List (List Int)) : Prop := l.Pairwise fun x y => HT.lexLt y x = false
theorem insT_perm (n : List Int) : ∀ ms : List (List Int), (insT n ms).Perm (n :: ms)
  | [] => .refl _
  | m :: ms => by
    unfold insT
    split
    · exact ((insT_perm n ms).cons m).trans (.swap ..)
    · exact .refl _
theorem lex_total : ∀ {xs ys : List Int}, HT.lexLt xs ys = false → HT.lexLt ys xs = false → xs = ys
  | [], [], _, _ => rfl
  | [], y :: ys, h, _ => by cases h
  | x :: xs, [], _, h => by cases h
  | x :: xs, y :: ys, h1, h2 => by
    rw [HT.lexLt_cons] at h1 h2
    by_cases e : x = y
    · subst e
      rw [if_pos rfl] at h1 h2
      rw [lex_total h1 h2]
    · rw [if_neg e] at h1
      rw [if_neg (Ne.symm e)] at h2
      have a := of_decide_eq_false h1
      have b := of_decide_eq_false h2
      omega
theorem insT_sorted (n : List Int) : ∀ ms : List (List Int), SrtT ms → SrtT (insT n ms)
  | [], _ => List.pairwise_singleton _ _
  | m :: ms, h => by
    obtain ⟨h1, h2⟩ := List.pairwise_cons.mp h
    unfold insT
    split
    · rename_i hm
      refine List.pairwise_cons.mpr ⟨fun y hy => ?_, insT_sorted n ms h2⟩
      rcases List.mem_cons.mp ((insT_perm n ms).mem_iff.mp hy) with rfl | hy
      · exact NtL.lex_asym _ _ hm
      · exact h1 y hy
    · rename_i hm
      have hm : HT.lexLt m n = false := by cases q : HT.lexLt m n with
        | true => exact absurd q hm
        | false => rfl
      refine List.pairwise_cons.mpr ⟨fun y hy => ?_, h⟩
      rcases List.mem_cons.mp hy with rfl | hy
      · exact hm
      · exact NtL.lex_tr _ _ _ hm (h1 y hy)
theorem sortT_perm : ∀ ns : List (List Int), (sortT ns).Perm ns
  | [] => .refl _
  | n :: ns => (insT_perm n _).trans ((sortT_perm ns).cons n)
theorem sortT_sorted : ∀ ns : List (List Int), SrtT (sortT ns)
  | [] => .nil
  | n :: ns => insT_sorted n _ (sortT_sorted ns)
theorem lex_irr (x : List Int) : HT.lexLt x x = false := by
  cases q : HT.lexLt x x with
  | false => rfl
  | true => exact (NtL.lex_asym _ _ q).symm.trans q |>.symm ▸ rfl
theorem sortT_uniq : ∀ {xs ys : List (List Int)}, xs.Perm ys → SrtT xs → SrtT ys → xs = ys
  | [], ys, h, _, _ => List.Perm.nil_eq h
  | x :: xs, [], h, _, _ => absurd h.length_eq (by simp)
  | x :: xs, y :: ys, h, hx, hy => by
    obtain ⟨h1, h2⟩ := List.pairwise_cons.mp hx
    obtain ⟨h3, h4⟩ := List.pairwise_cons.mp hy
    have e : x = y := by
      refine lex_total ?_ ?_
      · rcases List.mem_cons.mp (h.mem_iff.mp List.mem_cons_self) with e | hm
        · rw [e]; exact lex_irr y
        · exact h3 x hm
      · rcases List.mem_cons.mp (h.mem_iff.mpr List.mem_cons_self) with e | hm
        · rw [e]; exact lex_irr x
        · exact h1 y hm
    subst e
    rw [sortT_uniq h.cons_inv h2 h4]
def tis? : List Da → Option (List (List Int))
  | [] => some []
  | .tuple ds :: r => match ints? ds with
    | some (n :: ns) => (tis? r).map ((n :: ns) :: ·)
    | _ => none
  | _ :: _ => none
def tisD (ls : List (List Int)) : List Da := ls.map fun l => .tuple (l.map PyData.int)
theorem Rp.tupI {K : PySem.W.Frag} {O : AS} {H : Hp} {xs : List Da} {v : V} {ns : List Int} (r : Rp K O H (.tuple xs) v) (e : ints? xs = some ns) : ∃ a, v = .ref a ∧ SqT K H a (ns.map V.int) := Ro.tupI (.inl r) e
theorem tis_ps {K : PySem.W.Frag} {O : AS} {H : Hp} : ∀ {xs : List Da} {vs : List V} {ls : List (List Int)}, tis? xs = some ls → RpL K O H xs vs →
    ∃ ps : List (V × List Int), vs = ps.map (·.1) ∧ ls = ps.map (·.2) ∧ TIs K H ps ∧ ∀ p ∈ ps, Rp K O H (.tuple (p.2.map PyData.int)) p.1
  | [], vs, ls, e, r => by
    cases e
    simp only [RpL] at r
    subst r
    exact ⟨[], rfl, rfl, fun p hp => by simp at hp, fun p hp => by simp at hp⟩
  | .tuple ds :: xs, vs, ls, e, r => by
    unfold tis? at e
    split at e
    · rename_i n ns e1
      obtain ⟨ms, e2, rfl⟩ := Option.map_eq_some_iff.mp e
      simp only [RpL] at r
      obtain ⟨w, ws, rfl, r1, r2⟩ := r
      obtain ⟨ps, rfl, rfl, h1, h2⟩ := tis_ps e2 r2
      obtain ⟨a, ha, hs⟩ := Rp.tupI r1 e1
      have e3 := ints_map e1
      refine ⟨(w, n :: ns) :: ps, rfl, rfl, fun p hp => ?_, fun p hp => ?_⟩
      · rcases List.mem_cons.mp hp with rfl | hp
        · exact ⟨a, ha, hs, by simp⟩
        · exact h1 p hp
      · rcases List.mem_cons.mp hp with rfl | hp
        · rw [← e3]; exact r1
        · exact h2 p hp
    · cases e
  | .none :: _, _, _, h, _ => by cases h
  | .bool _ :: _, _, _, h, _ => by cases h
  | .int _ :: _, _, _, h, _ => by cases h
  | .str _ :: _, _, _, h, _ => by cases h
  | .list _ :: _, _, _, h, _ => by cases h
  | .dict _ :: _, _, _, h, _ => by cases h
theorem ps_rel {K : PySem.W.Frag} {O : AS} {H : Hp} : ∀ {ps : List (V × List Int)}, (∀ p ∈ ps, Rp K O H (.tuple (p.2.map PyData.int)) p.1) → RpL K O H (tisD (ps.map (·.2))) (ps.map (·.1))
  | [], _ => by show RpL K O H [] []; simp only [RpL]
  | p :: ps, h => by
    show RpL K O H (.tuple (p.2.map PyData.int) :: tisD (ps.map (·.2))) (p.1 :: ps.map (·.1))
    simp only [RpL]
    exact ⟨_, _, rfl, h p List.mem_cons_self, ps_rel fun q hq => h q (List.mem_cons_of_mem _ hq)⟩
def sortedL (xs : List Da) : Option EV := match ints? xs with
  | some ns => some (.own (.l ((sortI ns).map PyData.int)))
  | none => (tis? xs).map fun ls => .own (.l (tisD (sortT ls)))
def sorted2 : List Da → Option EV
  | [.list xs] => sortedL xs
  | [.tuple xs] => sortedL xs
  | _ => none
theorem c_sorted2 {X : Cx} : CallV X (.builtin "sorted") sorted2 := by
  refine ⟨_, CallR.or (CallR.or cr_sortedI cr_sortedTI) (CallR.or cr_sortedT cr_sortedTT), fun O H xs vs z Q hd R e q => ?_⟩
  match xs, e, R with
  | [.list xs], e, R =>
    obtain ⟨v, rfl, r⟩ := R.one
    have e : sortedL xs = some z := e
    unfold sortedL at e
    split at e
    · rename_i ns e1
      cases e
      obtain ⟨a, rfl, h⟩ := r.listI e1
      refine .inl (.inl ⟨a, ns, rfl, h, fun ns' p hp hs hn => ?_⟩)
      rw [sorted_uniq (hp.trans (sortI_perm ns).symm) hs (sortI_sorted ns)]
      exact q _ _ (Same.upd hn) (NR.lst (RpL.ofInts _) hn)
    · obtain ⟨ls, e2, rfl⟩ := Option.map_eq_some_iff.mp e
      obtain ⟨a, vs, rfl, h, r⟩ := r.list
      obtain ⟨ps, rfl, rfl, h1, h2⟩ := tis_ps e2 r
      refine .inr (.inl ⟨a, ps, rfl, .of h, h1, fun qs p hp hs hn => ?_⟩)
      have R2 := ps_rel (K := X.K) (O := O) (H := H) (ps := qs) fun x hx => h2 x (hp.mem_iff.mp hx)
      rw [sortT_uniq ((hp.map (·.2)).trans (sortT_perm _).symm) (List.pairwise_map.mpr hs) (sortT_sorted _)] at R2
      exact q _ _ (Same.upd hn) (NR.lst R2 hn)
  | [.tuple xs], e, R =>
    obtain ⟨v, rfl, r⟩ := R.one
    have e : sortedL xs = some z := e
    unfold sortedL at e
    split at e
    · rename_i ns e1
      cases e
      obtain ⟨a, rfl, h⟩ := Ro.tupI r e1
      refine .inl (.inr ⟨a, ns, rfl, h, fun ns' p hp hs hn => ?_⟩)
      rw [sorted_uniq (hp.trans (sortI_perm ns).symm) hs (sortI_sorted ns)]
      exact q _ _ (Same.upd hn) (NR.lst (RpL.ofInts _) hn)
    · obtain ⟨ls, e2, rfl⟩ := Option.map_eq_some_iff.mp e
      obtain ⟨a, vs, rfl, h, r⟩ := r.tupT
      obtain ⟨ps, rfl, rfl, h1, h2⟩ := tis_ps e2 r
      refine .inr (.inr ⟨a, ps, rfl, h, h1, fun qs p hp hs hn => ?_⟩)
      have R2 := ps_rel (K := X.K) (O := O) (H := H) (ps := qs) fun x hx => h2 x (hp.mem_iff.mp hx)
      rw [sortT_uniq ((hp.map (·.2)).trans (sortT_perm _).symm) (List.pairwise_map.mpr hs) (sortT_sorted _)] at R2
      exact q _ _ (Same.upd hn) (NR.lst R2 hn)
end VL
set_option Elab.async false
set_option linter.all false
set_option maxRecDepth 100000
set_option maxHeartbeats 0
/-! a list comprehension with two fors -/
namespace VL
open PySem PySem.Spec PyProof.Rows L2
def era (H : Hp) (D : Addr) : Hp := fun a => if a = D then none else H a
section
variable {Tb : List (Addr × Str)} {K : PySem.W.Frag} {O : AS} {st st1 st2 : VS} {σ σ1 σ2 : L2.St} {H H1 H2 : Hp} {D : Addr} {ix : List Nat}
end
section
variable {Tb : List (Addr × Str)} {K : PySem.W.Frag} {mg : Str → Option Value} {f : Da → VM Unit} {tt : VM Bool} {te : VM EV}
end
/-- the turns of the outer source -/
def vLc2L (ix ix1 : List Nat) (gt : Da → VM Unit) (tt : VM Bool) (fi1 : VM (List Da × Lks)) (gt1 : Da → VM Unit) (tt1 : VM Bool) (te : VM EV) : List Da → List Da → VM (List Da)
  | [], acc => vr acc
  | x :: xs, acc => vb (gt x) fun _ => vb tt fun b => if b = true then vb fi1 fun p => if p.2.isEmpty = true then vb (vWipe ix1) fun _ => vb (vLcL ix1 gt1 tt1 te p.1 acc) fun acc' => vb (vWipe ix) fun _ => vLc2L ix ix1 gt tt fi1 gt1 tt1 te xs acc' else vStuck
      else vb (vWipe ix) fun _ => vLc2L ix ix1 gt tt fi1 gt1 tt1 te xs acc
def vLc2 (ix ix1 : List Nat) (fi : VM (List Da × Lks)) (gt : Da → VM Unit) (tt : VM Bool) (fi1 : VM (List Da × Lks)) (gt1 : Da → VM Unit) (tt1 : VM Bool) (te : VM EV) : VM EV := vb fi fun p => fun s =>
  if ix.all (fun j => flatS s[j]?) = true then
    match vLc2L ix ix1 gt tt fi1 gt1 tt1 te p.1 [] (wipeV ix s) with
    | .ok (ys, s2) => .ok (.own (.l ys), unlock p.2 (restV s ix s2))
    | .error _ => .error .stuck
  else .error .stuck
section
variable {Tb : List (Addr × Str)} {X : Cx} {W : WX} {elt tg iter tg1 iter1 : Expr} {ifs ifs1 : List Expr} {scope : Scope} {own : List (Str × Nat)} {pos : Pos} {fi fi1 : VM (List Da × Lks)} {f f1 : Da → VM Unit} {tt tt1 : VM Bool} {te : VM EV}
end
end VL
set_option Elab.async false
set_option linter.all false
set_option maxRecDepth 100000
set_option maxHeartbeats 0
/-! sorted of lists of ints (a list of lists) -/
namespace VL
open PySem PySem.Spec PyProof.Rows L2 SeqAt
theorem first_lex : ∀ (ns ms : List Int) (k n m : Nat) (e r : Nat → Bool), (∀ j, j < min ns.length ms.length → e (k + j) = (ns.getD j 0 == ms.getD j 0) ∧ r (k + j) = decide (ns.getD j 0 < ms.getD j 0)) → ns.length + m = ms.length + n →
    firstLt e r (decide (n < m)) (List.range' k (min ns.length ms.length)) = HT.lexLt ns ms
  | [], [], k, n, m, e, r, _, hl => by
    show decide (n < m) = false
    exact decide_eq_false (by simp only [List.length_nil] at hl; omega)
  | [], y :: ms, k, n, m, e, r, _, hl => by
    rw [List.length_nil, Nat.zero_min]
    show decide (n < m) = true
    exact decide_eq_true (by simp only [List.length_nil, List.length_cons] at hl; omega)
  | x :: ns, [], k, n, m, e, r, _, hl => by
    rw [List.length_nil, Nat.min_zero]
    show decide (n < m) = false
    exact decide_eq_false (by simp only [List.length_nil, List.length_cons] at hl; omega)
  | x :: ns, y :: ms, k, n, m, e, r, h, hl => by
    have h0 := h 0 (by simp only [List.length_cons]; omega)
    rw [List.getD_cons_zero, List.getD_cons_zero, Nat.add_zero] at h0
    have hm : min (x :: ns).length (y :: ms).length = min ns.length ms.length + 1 := by simp only [List.length_cons]; omega
    rw [hm, List.range'_succ, HT.lexLt_cons]
    by_cases q : x = y
    · rw [firstLt_yes (by rw [h0.1]; exact beq_iff_eq.mpr q), if_pos q]
      refine first_lex ns ms (k + 1) n m e r (fun j hj => ?_) (by simp only [List.length_cons] at hl; omega)
      have := h (j + 1) (by rw [hm]; omega)
      rw [List.getD_cons_succ, List.getD_cons_succ, show k + (j + 1) = k + 1 + j by omega] at this
      exact this
    · rw [firstLt_no (by rw [h0.1]; exact beq_eq_false_iff_ne.mpr q), if_neg q, h0.2]
/-- a list of ints -/
def IsLI (h : Heap) (v : Value) (ns : List Int) : Prop := ∃ a its, v = .ref a ∧ h.IsList a its ∧ IntsAre its.toList ns
theorem IsLI.keeps {h h' : Heap} {v : Value} {ns : List Int} (p : IsLI h v ns) (k : ∀ b o, v = .ref b → h.get? b = some o → h'.get? b = some o) : IsLI h' v ns := by
  obtain ⟨a, its, e, ⟨o, ho, hc, n, hd⟩, hi⟩ := p
  exact ⟨a, its, e, ⟨o, k _ _ e ho, hc, n, hd⟩, hi⟩
theorem ints_at : ∀ {vs : List Value} {ns : List Int} (j : Nat), IntsAre vs ns → j < vs.length → ∃ t, vs[j]? = some (.int (ns.getD j 0) t)
  | _, _, j, .nil, h => by cases h
  | _, _, 0, .cons n t r, _ => ⟨t, rfl⟩
  | _, _, j + 1, .cons n t r, h => by
    obtain ⟨u, e⟩ := ints_at j r (by simpa using h)
    exact ⟨u, by rw [List.getElem?_cons_succ, List.getD_cons_succ]; exact e⟩
section
variable {prog : Program} {w : World} {A : Around} {E : Value → Shared → Prop} {s : Shared}
theorem lt_LI {v u : Value} {ns ms : List Int} {Q : Bool → Shared → Prop} (hu : A.units < cLine) (hv : IsLI s.heap v ns) (hw : IsLI s.heap u ms) (h : Q (HT.lexLt ns ms) s) : wpAny (model prog w) A (keyLt' oneType' v u) Q E s := by
  obtain ⟨a, its, rfl, ha, hi⟩ := hv
  obtain ⟨b, its2, rfl, hb, hi2⟩ := hw
  rw [keyLt'_oneType, oneLt'_eq]
  simp only [if_true]
  refine wpAny_bind (wpAny_cRoomFor hu ?_)
  have l1 := hi.length
  have l2 := hi2.length
  rw [Array.length_toList] at l1 l2
  have at1 : ∀ j (h1 : j < its.size), ∃ t, its[j] = .int (ns.getD j 0) t := fun j h1 => by
    obtain ⟨t, e⟩ := ints_at j hi (by rw [Array.length_toList]; exact h1)
    have : its.toList[j]? = some its[j] := by rw [Array.getElem?_toList, Array.getElem?_eq_getElem h1]
    rw [this] at e
    exact ⟨t, Option.some.inj e⟩
  have at2 : ∀ j (h1 : j < its2.size), ∃ t, its2[j] = .int (ms.getD j 0) t := fun j h1 => by
    obtain ⟨t, e⟩ := ints_at j hi2 (by rw [Array.length_toList]; exact h1)
    have : its2.toList[j]? = some its2[j] := by rw [Array.getElem?_toList, Array.getElem?_eq_getElem h1]
    rw [this] at e
    exact ⟨t, Option.some.inj e⟩
  refine wpAny_bind (wpAny_callSpecialIfBound?_slot ha.typeIs PySem.F.slot_list_lt (call_list_lt (e := fun j => ns.getD j 0 == ms.getD j 0) (r := fun j => decide (ns.getD j 0 < ms.getD j 0)) ha hb (fun j h1 h2 => ?_) (fun j h1 h2 _ => ?_) ?_))
  · obtain ⟨t, e1⟩ := at1 j h1
    obtain ⟨t2, e2⟩ := at2 j h2
    rw [e1, e2]
    exact SeqAt.EqAt.int_int _ _ _ _
  · obtain ⟨t, e1⟩ := at1 j h1
    obtain ⟨t2, e2⟩ := at2 j h2
    rw [e1, e2]
    exact fun prog w E Q h => HT.rcLt_int _ _ _ _ _ _ prog w E Q h
  · have e := first_lex ns ms 0 its.size its2.size (fun j => ns.getD j 0 == ms.getD j 0) (fun j => decide (ns.getD j 0 < ms.getD j 0)) (fun j _ => by rw [Nat.zero_add]; exact ⟨rfl, rfl⟩) (by omega)
    rw [← List.range_eq_range', ← l1, ← l2] at e
    rw [show (decide (its.size < its2.size)) = decide (its.size < its2.size) from rfl, e]
    exact wpAny_truthy_bool h
theorem LI_cmp {vs : List Value} {k : Value → List Int} (hu : A.units < cLine) (hv : ∀ v ∈ vs, IsLI s.heap v (k v)) : SrtO.Cmp prog w A s oneType' (fun p => p.1 ∈ vs) (SrtO.lt2 fun v u => HT.lexLt (k v) (k u)) := by
  intro p q hp hq
  exact lt_LI (Q := fun r s' => s' = s ∧ r = HT.lexLt (k p.1) (k q.1)) (E := fun _ _ => False) hu (hv p.1 hp) (hv q.1 hq) ⟨rfl, rfl⟩
theorem LI_sortable {a : Addr} {vs : List Value} {k : Value → List Int} (h2 : 2 ≤ vs.length) (hu : A.units < cLine) (hv : ∀ v ∈ vs, IsLI s.heap v (k v)) (ha : ∀ v ∈ vs, v ≠ .ref a) :
    SrtO.SortableO prog w A s a vs fun v u => HT.lexLt (k v) (k u) := by
  intro h' keep
  have hv' : ∀ v ∈ vs, IsLI h' v (k v) := fun v hm => (hv v hm).keeps fun b o e g => keep b o (fun z => ha v hm (by rw [e, z])) g
  refine ⟨oneType', fun Q E hq => ?_, LI_cmp (s := { s with heap := h' }) hu hv'⟩
  refine PySem.W.kas_kind (s := { s with heap := h' }) (T := .type "list") h2 (fun v hm => ?_) (by decide +kernel) (by decide +kernel) hq
  obtain ⟨b, its, rfl, ⟨o, ho, hc, _⟩, _⟩ := hv' v hm
  have : PySem.W.Looks (model prog w) h' (typeOf (.ref b)) o.cls := (PySem.W.Looks.ld ho).andThen .now
  rw [hc] at this
  exact this
end
theorem kv_list {h : Heap} {v : Value} {ns : List Int} (p : IsLI h v ns) : kv h v = ns := by
  obtain ⟨a, its, rfl, ⟨o, ho, hc, n, hd⟩, hi⟩ := p
  show (match h.get? a with
    | some o => match o.data with
      | .seq its _ => its.toList.map SrtO.iv
      | _ => []
    | none => []) = ns
  rw [ho]
  dsimp only
  rw [hd]
  exact SrtO.iv_ints hi
section
variable {X : Cx}
theorem Inv.LI {pins σ H s} {t : Addr} {ns : List Int} (I : Inv X pins σ H s) (h : SqL X.K H t (ns.map V.int)) : IsLI s.heap (.ref t) ns := by
  obtain ⟨its, rv, pl, hz⟩ := I.list h
  exact ⟨t, its.toArray, rfl, pl.isList, by rw [List.toList_toArray]; exact rv.ints⟩
abbrev LIs (K : PySem.W.Frag) (H : Hp) (ps : List (V × List Int)) : Prop := ∀ p ∈ ps, ∃ t, p.1 = V.ref t ∧ SqL K H t (p.2.map V.int)
theorem ls_back {pins σ H s} (I : Inv X pins σ H s) : ∀ {ps : List (V × List Int)} {its : List Value}, LIs X.K H ps → Vals (ps.map (·.1)) its →
    ps = its.map (fun u => (backV u, kv s.heap u)) ∧ ∀ u ∈ its, (∃ a, u = Value.ref a) ∧ IsLI s.heap u (kv s.heap u)
  | [], its, _, r => by cases r; exact ⟨rfl, fun u hu => by simp at hu⟩
  | p :: ps, its, h, r => by
    obtain ⟨v, ns⟩ := p
    rw [List.map_cons] at r
    obtain ⟨t, e, ht⟩ := h (v, ns) List.mem_cons_self
    dsimp only at e ht
    subst e
    cases r with
    | cons r1 r2 =>
      cases r1
      obtain ⟨e2, h2⟩ := ls_back I (fun q hq => h q (List.mem_cons_of_mem _ hq)) r2
      have hLI := Inv.LI I ht
      have ek := kv_list hLI
      refine ⟨?_, fun u hu => ?_⟩
      · rw [List.map_cons, ← e2, ek]; rfl
      · rcases List.mem_cons.mp hu with rfl | hu
        · exact ⟨⟨t, rfl⟩, by rw [ek]; exact hLI⟩
        · exact h2 u hu
def rSortedL (K : PySem.W.Frag) : List V → Hp → VK → Prop := fun vs H Q => ∃ (a : Addr) (ps : List (V × List Int)), vs = [V.ref a] ∧ SqL K H a (ps.map (·.1)) ∧ LIs K H ps ∧
  ∀ (qs : List (V × List Int)) (p : Addr), qs.Perm ps → qs.Pairwise (fun x y => HT.lexLt y.2 x.2 = false) → H p = none → Q (.ref p) (upd H p (.lst (qs.map (·.1))))
theorem cr_sortedL (hu : X.A.units + 2 < cLine) : CallR X (.builtin "sorted") (rSortedL X.K) := by
  intro pins s σ H vs us Q I r h
  obtain ⟨a, ps, rfl, hs, hT, q⟩ := h
  obtain ⟨its, rv, hl, hz⟩ := I.list hs
  rw [Vals.ref1 r]
  obtain ⟨e1, e2⟩ := ls_back I hT rv
  rw [rv.length] at hz
  refine SrtO.sorted_ord (ltv := fun v u => HT.lexLt (kv s.heap v) (kv s.heap u)) (NtL.swo_lexL _) hl.isList hz (fun h2 h₁ a' ha' kk => LI_sortable (s := { s with heap := h₁ }) h2 (by show X.A.units + 1 + 1 < cLine; omega) (fun v hv => (e2 v hv).2.keeps fun b o _ e => (kk b o e).2) fun v hv => ?_) fun out h1 h2 => ?_
  · obtain ⟨b, its', rfl, ⟨o, ho, _⟩, _⟩ := (e2 v hv).2
    exact fun z => (kk b o ho).1 (Value.ref.inj z)
  · obtain ⟨ep, he'⟩ := PyProof.Rows.sortedAll_at s.heap its out.toArray
    have h3 : ∀ u ∈ out, ∃ a, u = Value.ref a := fun u hu => (e2 u (h2.perm.mem_iff.mp hu)).1
    have hlen : (out.map backV).length ≤ sizeLine := by
      rw [List.length_map, h2.perm.length_eq]
      exact hz
    have eq : (out.map fun u => (backV u, kv s.heap u)).map (·.1) = out.map backV := by rw [List.map_map]; rfl
    have hq := q (out.map fun u => (backV u, kv s.heap u)) (s.heap.objs.size + 1) (by rw [e1]; exact h2.perm.map _) (List.pairwise_map.mpr h1) (I.hok.fresh (Nat.le_succ _))
    rw [eq] at hq
    exact ⟨.ref _, upd H (s.heap.objs.size + 1) (.lst (out.map backV)), I.laid (t' := s.toks) (fun _ _ => PyProof.Rows.sortedAll_old) (Nat.le_succ _) ⟨hlen, out, ep, vals_back h3, he'⟩, rfl, hq⟩
end
/-! ### the value -/
def lis? : List Da → Option (List (List Int))
  | [] => some []
  | .list ds :: r => match ints? ds with
    | some ns => (lis? r).map (ns :: ·)
    | _ => none
  | _ :: _ => none
def lisD (ls : List (List Int)) : List Da := ls.map fun l => .list (l.map PyData.int)
theorem lis_ps {K : PySem.W.Frag} {O : AS} {H : Hp} : ∀ {xs : List Da} {vs : List V} {ls : List (List Int)}, lis? xs = some ls → RpL K O H xs vs →
    ∃ ps : List (V × List Int), vs = ps.map (·.1) ∧ ls = ps.map (·.2) ∧ LIs K H ps ∧ ∀ p ∈ ps, Rp K O H (.list (p.2.map PyData.int)) p.1
  | [], vs, ls, e, r => by
    cases e
    simp only [RpL] at r
    subst r
    exact ⟨[], rfl, rfl, fun p hp => by simp at hp, fun p hp => by simp at hp⟩
  | .list ds :: xs, vs, ls, e, r => by
    unfold lis? at e
    split at e
    · rename_i ns e1
      obtain ⟨ms, e2, rfl⟩ := Option.map_eq_some_iff.mp e
      simp only [RpL] at r
      obtain ⟨w, ws, rfl, r1, r2⟩ := r
      obtain ⟨ps, rfl, rfl, h1, h2⟩ := lis_ps e2 r2
      obtain ⟨a, ha, hs⟩ := Ro.listI (.inl r1) e1
      have e3 := ints_map e1
      refine ⟨(w, ns) :: ps, rfl, rfl, fun p hp => ?_, fun p hp => ?_⟩
      · rcases List.mem_cons.mp hp with rfl | hp
        · exact ⟨a, ha, hs⟩
        · exact h1 p hp
      · rcases List.mem_cons.mp hp with rfl | hp
        · rw [← e3]; exact r1
        · exact h2 p hp
    · cases e
  | .none :: _, _, _, h, _ => by cases h
  | .bool _ :: _, _, _, h, _ => by cases h
  | .int _ :: _, _, _, h, _ => by cases h
  | .str _ :: _, _, _, h, _ => by cases h
  | .tuple _ :: _, _, _, h, _ => by cases h
  | .dict _ :: _, _, _, h, _ => by cases h
theorem ls_rel {K : PySem.W.Frag} {O : AS} {H : Hp} : ∀ {ps : List (V × List Int)}, (∀ p ∈ ps, Rp K O H (.list (p.2.map PyData.int)) p.1) → RpL K O H (lisD (ps.map (·.2))) (ps.map (·.1))
  | [], _ => by show RpL K O H [] []; simp only [RpL]
  | p :: ps, h => by
    show RpL K O H (.list (p.2.map PyData.int) :: lisD (ps.map (·.2))) (p.1 :: ps.map (·.1))
    simp only [RpL]
    exact ⟨_, _, rfl, h p List.mem_cons_self, ls_rel fun q hq => h q (List.mem_cons_of_mem _ hq)⟩
def sortedLL : List Da → Option EV
  | [.list xs] => (lis? xs).map fun ls => .own (.l (lisD (sortT ls)))
  | _ => none
/-- sorted of ints, of tuples of ints, of lists of ints -/
def sorted3 (vs : List Da) : Option EV := match sorted2 vs with
  | some z => some z
  | none => sortedLL vs
theorem sorted3_of {vs : List Da} {z : EV} (h : sorted2 vs = some z) : sorted3 vs = some z := by unfold sorted3; rw [h]
theorem c_sorted3 {X : Cx} (hu : X.A.units + 64 < cLine) : CallV X (.builtin "sorted") sorted3 := by
  obtain ⟨r2, h2, w2⟩ := c_sorted2 (X := X)
  refine ⟨_, CallR.or h2 (cr_sortedL (by omega)), fun O H xs vs z Q hd R e q => ?_⟩
  unfold sorted3 at e
  split at e
  · rename_i z' e1
    cases e
    exact .inl (w2 O H xs vs z Q hd R e1 q)
  · match xs, e, R with
    | [.list xs], e, R =>
      obtain ⟨ls, e2, rfl⟩ := Option.map_eq_some_iff.mp (show (lis? xs).map _ = some z from e)
      obtain ⟨v, rfl, r⟩ := R.one
      obtain ⟨a, vs, rfl, h, r⟩ := r.list
      obtain ⟨ps, rfl, rfl, h1, h2⟩ := lis_ps e2 r
      refine .inr ⟨a, ps, rfl, .of h, h1, fun qs p hp hs hn => ?_⟩
      have R2 := ls_rel (K := X.K) (O := O) (H := H) (ps := qs) fun x hx => h2 x (hp.mem_iff.mp hx)
      rw [sortT_uniq ((hp.map (·.2)).trans (sortT_perm _).symm) (List.pairwise_map.mpr hs) (sortT_sorted _)] at R2
      exact q _ _ (Same.upd hn) (NR.lst R2 hn)
end VL
set_option Elab.async false
set_option linter.all false
set_option maxRecDepth 100000
set_option maxHeartbeats 0
/-! a test a if c else b -/
namespace VL
open PySem PySem.Spec PyProof.Rows L2
section
variable {Tb : List (Addr × Str)} {X : Cx} {W : WX} {t a b : Expr} {pos : Pos} {gt ga gb : VM Bool} {ta tb tc : TT}
theorem pt_ifexp (h1 : PT X t ta) (h2 : PT X a tb) (h3 : PT X b tc) : PT X (.IfExp t a b pos) (fun σ H Q => ta σ H fun c H1 => if c = true then tb σ H1 Q else tc σ H1 Q) := by
  refine ⟨fun pins s σ H Q I h => ?_⟩
  refine isTrue_IfExp (thn (h1.run pins s σ H _ I h) fun c s1 ⟨H1, I1, q⟩ => ?_)
  cases c with
  | true =>
    rw [if_pos rfl] at q ⊢
    exact h2.run pins s1 σ H1 Q I1 q
  | false =>
    rw [if_neg Bool.false_ne_true] at q ⊢
    exact h3.run pins s1 σ H1 Q I1 q
def vIteT (gt ga gb : VM Bool) : VM Bool := vb gt fun c => if c = true then ga else gb
theorem vt_ite (h1 : VT Tb X W t gt) (h2 : VT Tb X W a ga) (h3 : VT Tb X W b gb) : VT Tb X W (.IfExp t a b pos) (vIteT gt ga gb) := by
  refine PT.wk (pt_ifexp h1 h2 h3) fun σ H Q h => ?_
  obtain ⟨O, st, F, h⟩ := h
  refine tVT.bind F h fun c s1 H1 S1 h => ?_
  cases c with
  | true =>
    rw [if_pos rfl] at h
    exact iteT ⟨O, s1, S1.fr, h.mono fun r s q H' S' => q H' (S1.trans S')⟩
  | false =>
    rw [if_neg Bool.false_ne_true] at h
    exact iteF ⟨O, s1, S1.fr, h.mono fun r s q H' S' => q H' (S1.trans S')⟩
end
end VL
set_option Elab.async false
set_option linter.all false
set_option maxRecDepth 100000
set_option maxHeartbeats 0
/-! dict(pairs), its keys tuples of ints; d[k] of it -/
namespace VL
open PySem PySem.Spec PyProof.Rows L2
/-- the tuple of ints at b -/
def KeyAt (K : PySem.W.Frag) (O : AS) (H : Hp) (b : Addr) (ns : List Int) : Prop := (H b = some (.tup (ns.map V.int)) ∧ ¬ O b) ∨ KTup K b (ns.map V.int)
theorem KeyAt.sq {K : PySem.W.Frag} {O : AS} {H : Hp} {b : Addr} {ns : List Int} (h : KeyAt K O H b ns) : SqT K H b (ns.map V.int) := h.imp (fun z => .inl z.1) id
/-- pairs as they stand: the pair's tuple, the key, the key's tuple, the value -/
abbrev PrE := Addr × List Int × Addr × V
def EsOk (K : PySem.W.Frag) (O : AS) (H : Hp) : List (List Int × Da) → List PrE → Prop
  | [], es => es = []
  | (ns, d) :: ps, es => ∃ e b w r, es = (e, ns, b, w) :: r ∧ SqT K H e [.ref b, w] ∧ KeyAt K O H b ns ∧ Rp K O H d w ∧ EsOk K O H ps r
def XsOk : List PrE → List TkE → Prop
  | [], xs => xs = []
  | (_, ns, b, w) :: r, xs => ∃ u q, xs = (ns, b, u) :: q ∧ RelV w u ∧ XsOk r q
def tkOf : Da → Option (List Int)
  | .tuple xs => ints? xs
  | _ => none
def pairsT : List Da → Option (List (List Int × Da))
  | [] => some []
  | .tuple [k, d] :: r => (tkOf k).bind fun ns => (pairsT r).map fun ps => (ns, d) :: ps
  | _ :: _ => none
section
variable {K : PySem.W.Frag} {O O' : AS} {H H' : Hp}
theorem EsOk.keys : ∀ {ps : List (List Int × Da)} {es : List PrE}, EsOk K O H ps es → es.map (fun e => e.2.1) = ps.map (·.1)
  | [], es, h => by simp only [EsOk] at h; subst h; rfl
  | (ns, d) :: ps, es, h => by
    simp only [EsOk] at h
    obtain ⟨e, b, w, r, rfl, _, _, _, h⟩ := h
    rw [List.map_cons, List.map_cons, h.keys]
theorem XsOk.keys : ∀ {es : List PrE} {xs : List TkE}, XsOk es xs → xs.map (·.1) = es.map (fun e => e.2.1)
  | [], xs, h => by simp only [XsOk] at h; subst h; rfl
  | (a, ns, b, w) :: es, xs, h => by
    simp only [XsOk] at h
    obtain ⟨u, q, rfl, _, h⟩ := h
    rw [List.map_cons, List.map_cons, h.keys]
def encT (p : List Int × Da) : Da × Da := (.tuple (p.1.map PyData.int), p.2)
end
section
variable {X : Cx} {pins : List (Addr × Obj)} {σ : L2.St} {H : Hp} {s : Shared} {O : AS}
/-- dict(pairs) -/
def rDictT (X : Cx) : List V → Hp → VK → Prop := fun vs H Q => ∃ (a : Addr) (O : AS) (ps : List (List Int × Da)) (es : List PrE), vs = [.ref a] ∧ SqL X.K H a (es.map fun e => V.ref e.1) ∧ EsOk X.K O H ps es ∧ es ≠ [] ∧ (ps.map (·.1)).Nodup ∧ es.length ≤ 16777216 ∧
  ∀ p xs, H p = none → XsOk es xs → TkOk p xs → Q (.ref p) (upd H p (DkO p xs))
/-- d[k] -/
def rIxDk (X : Cx) : R2 := fun x y H Q => ∃ (a b : Addr) (xs : List TkE) (ns : List Int) (u : Addr × Value) (v : V), x = .ref a ∧ y = .ref b ∧ H a = some (DkO a xs) ∧ (xs.map (·.1)).Nodup ∧ (∀ e ∈ xs, SqT X.K H e.2.1 (e.1.map V.int)) ∧ SqT X.K H b (ns.map V.int) ∧
  (xs.find? fun e => decide (e.1 = ns)).map (·.2) = some u ∧ RelV v u.2 ∧ Q v H
end
/-! as mirrors -/
def dictTD : List Da → Option EV
  | [.list xs] => (pairsT xs).bind fun ps => if ps ≠ [] ∧ (ps.map (·.1)).Nodup ∧ ps.length ≤ 16777216 then some (.d (.dict (ps.map encT))) else none
  | _ => none
def lookT (ns : List Int) : List (Da × Da) → Option Da
  | [] => none
  | (k, d) :: r => if tkOf k = some ns then some d else lookT ns r
def ixTD : Da → Da → Option EV
  | .dict kvs, .tuple ks => (ints? ks).bind fun ns => if tkD (.dict kvs) = true then (lookT ns kvs).map .d else none
  | _, _ => none
section
variable {X : Cx} {Tb : List (Addr × Str)} {W : WX} {a b : Expr} {fa fb : VM EV} {pos : Pos}
theorem RpT.sq {K : PySem.W.Frag} {O : AS} {H : Hp} : ∀ {kvs : List (Da × Da)} {xs : List TkE}, RpT K O H kvs xs → ∀ e ∈ xs, SqT K H e.2.1 (e.1.map V.int)
  | [], xs, h => by simp only [RpT] at h; subst h; exact fun e he => by cases he
  | (k, x) :: kvs, xs, h => by
    simp only [RpT] at h
    obtain ⟨ms, b, u, w, ws, rfl, rfl, hb, ru, rx, h⟩ := h
    intro e he
    rcases List.mem_cons.mp he with rfl | he
    · exact hb.imp (fun z => .inl z.1) id
    · exact RpT.sq h e he
end
end VL
set_option Elab.async false
set_option linter.all false
set_option maxRecDepth 100000
set_option maxHeartbeats 0
/-! dict comprehensions, keys ints or texts; sorted of such a dict -/
namespace VL
open PySem PySem.Spec PyProof.Rows L2
def keyOf : Da → Option Key
  | .int i => some (.inl i)
  | .str s => some (.inr s)
  | _ => none
theorem keyOf_D (k : Key) : keyOf (keyD k) = some k := by cases k <;> rfl
def putD (kvs : List (Da × Da)) (k : Key) (d : Da) : List (Da × Da) :=
  if (kvs.any fun p => decide (keyOf p.1 = some k)) = true then kvs.map (fun p => if keyOf p.1 = some k then (p.1, d) else p) else kvs ++ [(keyD k, d)]
section
variable {K : PySem.W.Frag} {O : AS} {H : Hp}
theorem rp_key {x : Da} {k : Key} {v : V} (h : keyOf x = some k) (R : Rp K O H x v) : v = kV k := by
  cases x with
  | int i => cases h; simp only [Rp] at R; exact R
  | str s => cases h; simp only [Rp] at R; exact R
  | _ => cases h
theorem RpD.any {k : Key} : ∀ {kvs : List (Da × Da)} {ks : List (Key × V)}, RpD K O H kvs ks → (kvs.any fun p => decide (keyOf p.1 = some k)) = ks.any fun p => decide (p.1 = k)
  | [], ks, h => by simp only [RpD] at h; subst h; rfl
  | (a, x) :: r, ks, h => by
    simp only [RpD] at h
    obtain ⟨key, w, ws, rfl, rfl, _, h⟩ := h
    rw [List.any_cons, List.any_cons, RpD.any h]
    congr 1
    show decide (keyOf (keyD key) = some k) = decide (key = k)
    rw [keyOf_D]
    exact decide_eq_decide.mpr ⟨fun z => Option.some.inj z, fun z => by rw [z]⟩
theorem RpD.putM {k : Key} {d : Da} {w : V} (R : Rp K O H d w) : ∀ {kvs : List (Da × Da)} {ks : List (Key × V)}, RpD K O H kvs ks → RpD K O H (kvs.map fun p => if keyOf p.1 = some k then (p.1, d) else p) (ks.map fun p => if p.1 = k then (p.1, w) else p)
  | [], ks, h => by simp only [RpD] at h; subst h; simp only [List.map_nil, RpD]
  | (a, x) :: r, ks, h => by
    simp only [RpD] at h
    obtain ⟨key, u, ws, rfl, rfl, ru, h⟩ := h
    rw [List.map_cons, List.map_cons]
    have t := RpD.putM (k := k) R h
    by_cases e : key = k
    · rw [if_pos (show keyOf (keyD key) = some k by rw [keyOf_D, e]), if_pos (show (key, u).1 = k from e)]
      simp only [RpD]
      exact ⟨key, w, _, rfl, rfl, R, t⟩
    · rw [if_neg (show ¬ keyOf (keyD key) = some k by rw [keyOf_D]; exact fun z => e (Option.some.inj z)), if_neg (show ¬ (key, u).1 = k from e)]
      simp only [RpD]
      exact ⟨key, u, _, rfl, rfl, ru, t⟩
theorem RpD.snoc {k : Key} {d : Da} {w : V} (R : Rp K O H d w) : ∀ {kvs : List (Da × Da)} {ks : List (Key × V)}, RpD K O H kvs ks → RpD K O H (kvs ++ [(keyD k, d)]) (ks ++ [(k, w)])
  | [], ks, h => by
    simp only [RpD] at h
    subst h
    simp only [List.nil_append, RpD]
    exact ⟨k, w, [], rfl, rfl, R, rfl⟩
  | (a, x) :: r, ks, h => by
    simp only [RpD] at h
    obtain ⟨key, u, ws, rfl, rfl, ru, h⟩ := h
    simp only [List.cons_append, RpD]
    exact ⟨key, u, _, rfl, rfl, ru, RpD.snoc R h⟩
theorem RpD.put {k : Key} {d : Da} {w : V} {kvs : List (Da × Da)} {ks : List (Key × V)} (h : RpD K O H kvs ks) (R : Rp K O H d w) : RpD K O H (putD kvs k d) (putK ks k w) := by
  unfold putD putK
  rw [h.any]
  split
  · exact RpD.putM R h
  · exact RpD.snoc R h
end
theorem rpd_step {Tb : List (Addr × Str)} {K : PySem.W.Frag} {O : AS} {s s2 : VS} {σ σ2 : L2.St} {H H2 : Hp} {kvs : List (Da × Da)} {ks : List (Key × V)} (S : Step Tb K O s σ H s2 σ2 H2) (R : RpD K (Av O s σ) H kvs ks) : RpD K (Av O s2 σ2) H2 kvs ks := by
  have aux : ∀ {kvs : List (Da × Da)} {ks : List (Key × V)}, RpD K (Av O s σ) H kvs ks → RpD K (Av O s2 σ2) H2 kvs ks := by
    intro kvs
    induction kvs with
    | nil => intro ks h; simp only [RpD] at h ⊢; exact h
    | cons p r ih =>
      obtain ⟨a, x⟩ := p
      intro ks h
      simp only [RpD] at h ⊢
      obtain ⟨key, u, ws, e1, e2, ru, h⟩ := h
      exact ⟨key, u, ws, e1, e2, S.rp ru, ih h⟩
  exact aux R
/-- the turns: acc what is made so far -/
def vDcL (ix : List Nat) (gt : Da → VM Unit) (tt : VM Bool) (tk te : VM EV) : List Da → List (Da × Da) → VM (List (Da × Da))
  | [], acc => vr acc
  | x :: xs, acc => vb (gt x) fun _ => vb tt fun b => if b = true then vb tk fun rk => vb (vOpt ((evD rk).bind keyOf)) fun k => vb te fun r => vb (vOpt (evD r)) fun y => if acc.length < 16777216 then vb (vWipe ix) fun _ => vDcL ix gt tt tk te xs (putD acc k y) else vStuck
      else vb (vWipe ix) fun _ => vDcL ix gt tt tk te xs acc
def vDc (ix : List Nat) (fi : VM (List Da × Lks)) (gt : Da → VM Unit) (tt : VM Bool) (tk te : VM EV) : VM EV := vb fi fun p => fun s =>
  if ix.all (fun j => flatS s[j]?) = true then
    match vDcL ix gt tt tk te p.1 [] (wipeV ix s) with
    | .ok (ys, s2) => .ok (.own (.m ys), unlock p.2 (restV s ix s2))
    | .error _ => .error .stuck
  else .error .stuck
section
variable {Tb : List (Addr × Str)} {X : Cx} {W : WX} {kx elt tg iter : Expr} {ifs : List Expr} {scope : Scope} {own : List (Str × Nat)} {pos : Pos} {fi : VM (List Da × Lks)} {f : Da → VM Unit} {tt : VM Bool} {tk te : VM EV}
/-- what a comprehension reads -/
theorem dc_wk {ix : List Nat} {σ : L2.St} {H : Hp} {Q : VK} (h : tV Tb X.K X.mg W (vDc ix fi f tt tk te) σ H Q) :
    tDc (tVI Tb X.K X.mg W fi) (gVD Tb X.K ix f) (tVT Tb X.K X.mg W0 tt) (tV Tb X.K X.mg W0 tk) (tV Tb X.K X.mg W0 te) ix σ H Q := by
  obtain ⟨O, st, F, h⟩ := h
  refine ⟨O, st, F, (vrun_vb h).mono fun p s1 q J H1 s0 S0 lk jv D hD => ?_⟩
  obtain ⟨xs, L⟩ := p
  dsimp only at q lk jv
  by_cases fl : ix.all (fun j => flatS s1[j]?) = true
  · rw [if_pos fl] at q
    have F1 := lk.fr S0.fr
    have FD : FR Tb X.K (O.with D) s1 σ (upd H1 D (.dK [])) := F1.away hD (Same.upd hD) (by rw [upd_same]; exact fun z => nomatch z)
    have FW := FD.wipe fl
    -- the turns from a state on
    let Res := fun (rest : List Da) (acc : List (Da × Da)) (s : VS) => ∃ ys s2, vDcL ix f tt tk te rest acc s = .ok (ys, s2) ∧ (∀ v H', Step Tb X.K O st σ H (unlock L (restV s1 ix s2)) σ H' → ER Tb X.K O H (unlock L (restV s1 ix s2)) σ H' v (.own (.m ys)) → Q v H')
    have res0 : Res xs [] (wipeV ix s1) := by
      cases e : vDcL ix f tt tk te xs [] (wipeV ix s1) with
      | error er => rw [e] at q; exact q.elim
      | ok p => obtain ⟨ys, s2⟩ := p; rw [e] at q; exact ⟨ys, s2, e, q⟩
    -- data and locks at a turn
    have pres : ∀ {s' : VS} {σ' : L2.St} {H' : Hp}, Step Tb X.K (O.with D) (wipeV ix s1) (wipe σ ix) H1 s' σ' H' → Pres X.K O s1 σ H1 (O.with D) s' σ' H' := fun S => by
      refine ⟨fun d v h => S.rp (Rp.mono (fun a z => ?_) (fun a o e _ _ => e) _ _ h), fun i c p hi e => ?_⟩
      · rcases z with (z | z) | ⟨j, z⟩
        · exact .inl (.inl z)
        · exact .inr (by rw [z]; exact hD)
        · exact .inl (.inr ⟨j, (own_wipe fl j a).mp z⟩)
      · have hx : i ∉ ix := fun z => (flat_no (flat_all fl z) c).2.2 hi
        obtain ⟨h2, e2⟩ := S.lk i c (by rw [(wipeV_get i ix s1).1 hx]; exact hi)
        obtain ⟨v, ev, q, eq, C⟩ := S.fr.slot i _ h2
        rw [e2, wipe_get i ix σ hx, e] at ev; cases ev; cases eq
        exact C
    refine ⟨fun i m H' => i + m = xs.length ∧ ∃ acc s', ∃ ws : List (Key × V), Step Tb X.K (O.with D) (wipeV ix s1) (wipe σ ix) H1 s' (wipe σ ix) H' ∧ ix.all (fun j => flatS s'[j]?) = true ∧
        H' D = some (.dK ws) ∧ RpD X.K (Av (O.with D) s' (wipe σ ix)) H' acc ws ∧ Res (xs.drop i) acc s', ⟨xs.length, by omega, [], wipeV ix s1, [], ⟨FW, fun a o e _ _ => Same.upd hD a o e, fun _ h => .inl h, fun _ h => .inl h, fun a h => Same.free (Same.upd hD) h, rfl, fun _ c h => ⟨⟨c, h⟩, rfl⟩, fun _ _ h => ⟨h, rfl⟩⟩, ?_, upd_same, (by simp only [RpD]), res0⟩, ?_⟩
    · refine List.all_eq_true.mpr fun j hj => ?_
      cases e : (wipeV ix s1)[j]? with
      | none => rfl
      | some sv => rw [(wipeV_get j ix s1).2 hj sv e]; rfl
    · rintro i m H' ⟨em, acc, s', ws, S, fl', hHD, R, ys, s2, er, fin⟩
      obtain ⟨jgo, jst⟩ := jv _ _ _ _ (pres S)
      cases ed : xs.drop i with
      | nil =>
        have hl : xs.length ≤ i := List.drop_eq_nil_iff.mp ed
        rw [ed] at er
        cases er
        obtain ⟨SR, FRD, ownR⟩ := Step.rest F1 fl hD S fl'
        refine .inl ⟨jst i hl, ?_⟩
        have St := (lk.step S0.fr SR).1
        refine fin (.ref D) H' (S0.trans St) (LkS.er lk S0.fr SR ?_)
        refine ⟨D, rfl, S0.dom D hD, fun z => F1.odom D z hD, FRD, ws, hHD, RpD.mono (fun a z => .inl (z.imp id fun ⟨j, z⟩ => ⟨j, (ownR j a).mp z⟩)) (fun _ _ e _ _ => e) _ _ R⟩
      | cons x rest =>
        obtain ⟨ex, er'⟩ := drop_cons ed
        have hlt : i < xs.length := by
          by_cases hl : i < xs.length
          · exact hl
          · rw [List.getElem?_eq_none (by omega)] at ex; cases ex
        obtain ⟨go, yl⟩ := jgo i x ex
        rw [ed] at er
        refine .inr ⟨go, fun H2 => (i + 1) + (m - 1) = xs.length ∧ ∃ acc s', ∃ ws : List (Key × V), Step Tb X.K (O.with D) (wipeV ix s1) (wipe σ ix) H1 s' (wipe σ ix) H2 ∧ ix.all (fun j => flatS s'[j]?) = true ∧
          H2 D = some (.dK ws) ∧ RpD X.K (Av (O.with D) s' (wipe σ ix)) H2 acc ws ∧ Res (xs.drop (i + 1)) acc s', fun H2 z => ⟨m - 1, by omega, z⟩, fun v H2 hy => ?_⟩
        obtain ⟨sm, rp⟩ := yl v H2 hy
        have Se := Step.ext S.fr sm
        have rp' := rp S.fr.avdom
        -- what a turn comes to, as a run in which nothing raises
        have er : vb (f x) (fun _ => vb tt fun b => if b = true then vb tk fun rk => vb (vOpt ((evD rk).bind keyOf)) fun k => vb te fun r => vb (vOpt (evD r)) fun y => if acc.length < 16777216 then vb (vWipe ix) fun _ => vDcL ix f tt tk te rest (putD acc k y) else vStuck
          else vb (vWipe ix) fun _ => vDcL ix f tt tk te rest acc) s' = .ok (ys, s2) := er
        refine ⟨O.with D, s', x, Se.fr, rp', ?_⟩
        unfold vb at er
        cases eg : f x s' with
        | error e => rw [eg] at er; cases er
        | ok pr =>
          obtain ⟨_, s3⟩ := pr
          rw [eg] at er
          refine fun σ3 H3 S3 agree => ?_
          have T3 := (S.trans Se).trans S3
          have ew : wipe σ3 ix = wipe σ ix := by
            apply List.ext_getElem?
            intro j
            by_cases hj : j ∈ ix
            · have l3 : σ3.length = σ.length := by rw [T3.len, wipe_length]
              have n1 : ∀ (τ : L2.St), j < τ.length → (wipe τ ix)[j]? = some none := fun τ hl => by
                have : ∀ (ix : List Nat), j ∈ ix → (wipe τ ix)[j]? = some none := by
                  intro ix
                  induction ix with
                  | nil => intro h; cases h
                  | cons k ix ih =>
                    intro h
                    show ((wipe τ ix).set k none)[j]? = _
                    by_cases e : j = k
                    · subst e; rw [List.getElem?_set_self (by rw [wipe_length]; exact hl)]
                    · rw [List.getElem?_set_ne (Ne.symm e)]; exact ih ((List.mem_cons.mp h).resolve_left e)
                exact this ix hj
              by_cases hl : j < σ.length
              · rw [n1 σ3 (by rw [l3]; exact hl), n1 σ hl]
              · rw [List.getElem?_eq_none (by rw [wipe_length]; omega), List.getElem?_eq_none (by rw [wipe_length]; omega)]
            · rw [wipe_get j ix σ3 hj, agree j hj]
          refine ⟨ew, O.with D, s3, T3.fr, ?_⟩
          dsimp only at er
          cases et : tt s3 with
          | error e => rw [et] at er; cases er
          | ok pr =>
            obtain ⟨b, s4⟩ := pr
            rw [et] at er
            refine fun H4 S4 => ?_
            have T4 := T3.trans S4
            have hH4 : ∀ {H5 : Hp} {s5 : VS}, Step Tb X.K (O.with D) s' (wipe σ ix) H' s5 σ3 H5 → H5 D = some (.dK ws) := fun T => T.keep D _ hHD (fun _ z => nomatch z) fun z => S.fr.avoid D z.own (.inr rfl)
            cases b with
            | false =>
              refine iteF ?_
              have er : vb (vWipe ix) (fun _ => vDcL ix f tt tk te rest acc) s4 = .ok (ys, s2) := er
              unfold vb vWipe at er
              by_cases fl4 : ix.all (fun j => flatS s4[j]?) = true
              · rw [if_pos fl4] at er
                have U := (Se.trans S3).trans S4
                refine ⟨by omega, acc, wipeV ix s4, ws, Step.wipe T4 ew fl4, ?_, hH4 U, ?_, ys, s2, by rw [er']; exact er, fin⟩
                · refine List.all_eq_true.mpr fun j hj => ?_
                  cases e : (wipeV ix s4)[j]? with
                  | none => rfl
                  | some sv => rw [(wipeV_get j ix s4).2 hj sv e]; rfl
                · rw [← ew]
                  exact RpD.mono (fun a z => .inl (z.imp id fun ⟨j, z⟩ => ⟨j, (own_wipe fl4 j a).mp z⟩)) (fun _ _ e _ _ => e) _ _ (rpd_step U R)
              · rw [if_neg fl4] at er; cases er
            | true =>
              refine iteT ⟨O.with D, s4, T4.fr, ?_⟩
              have er : vb tk (fun rk => vb (vOpt ((evD rk).bind keyOf)) fun k => vb te fun r => vb (vOpt (evD r)) fun y => if acc.length < 16777216 then vb (vWipe ix) fun _ => vDcL ix f tt tk te rest (putD acc k y) else vStuck) s4 = .ok (ys, s2) := er
              unfold vb at er
              cases ek : tk s4 with
              | error e => rw [ek] at er; cases er
              | ok pk =>
              obtain ⟨rk, s4'⟩ := pk
              rw [ek] at er
              dsimp only at er
              refine fun yk H4' S4' E4' => ?_
              have T4' := T4.trans S4'
              cases ekv : (evD rk).bind keyOf with
              | none => rw [ekv] at er; cases er
              | some key =>
              rw [ekv] at er
              obtain ⟨kd, ekd, eko⟩ := Option.bind_eq_some_iff.mp ekv
              have Rk := E4'.evD ekd
              have hky : yk = kV key := rp_key eko Rk
              refine ⟨O.with D, s4', T4'.fr, ?_⟩
              have er : vb te (fun r => vb (vOpt (evD r)) fun y => if acc.length < 16777216 then vb (vWipe ix) fun _ => vDcL ix f tt tk te rest (putD acc key y) else vStuck) s4' = .ok (ys, s2) := er
              unfold vb at er
              cases ee : te s4' with
              | error e => rw [ee] at er; cases er
              | ok pr =>
                obtain ⟨r, s5⟩ := pr
                rw [ee] at er
                dsimp only at er
                refine fun y H5 S5 E5 => ?_
                have T5 := T4'.trans S5
                have U := (((Se.trans S3).trans S4).trans S4').trans S5
                have hD5 := hH4 U
                cases ev : evD r with
                | none => rw [ev] at er; cases er
                | some yd =>
                  rw [ev] at er
                  have Ry := E5.evD ev
                  have er : (if acc.length < 16777216 then vb (vWipe ix) fun _ => vDcL ix f tt tk te rest (putD acc key yd) else vStuck) s5 = .ok (ys, s2) := er
                  by_cases hc : acc.length < 16777216
                  · rw [if_pos hc] at er
                    unfold vb vWipe at er
                    by_cases fl5 : ix.all (fun j => flatS s5[j]?) = true
                    · rw [if_pos fl5] at er
                      refine ⟨ws, key, hky, hD5, cap_lt R.length hc, ?_⟩
                      have R5 := rpd_step U R
                      have avD : ∀ {s : VS} {τ : L2.St}, Av (O.with D) s τ D := fun {_ _} => .inl (.inr rfl)
                      have grow : ∀ a o, H5 a = some o → NTb o → ¬ Av (O.with D) s5 σ3 a → upd H5 D (.dK (putK ws key y)) a = some o := fun a o e _ n => by rw [upd_ne fun z => n (by rw [z]; exact avD)]; exact e
                      have FG : FR Tb X.K (O.with D) s5 σ3 (upd H5 D (.dK (putK ws key y))) := by
                        refine ⟨T5.fr.len, fun j sv hj => ?_, T5.fr.inj, T5.fr.avoid, fun p hp z => ?_, tabs_upd T5.fr.tabs fun u e => .inr ⟨ws, by rw [hH4 U] at e; exact (Option.some.inj e).symm⟩⟩
                        · obtain ⟨v, ev, sl⟩ := T5.fr.slot j sv hj
                          refine ⟨v, ev, ?_⟩
                          have own1 : ∀ p c, OwnAt s5 σ3 j p → Cont X.K (Av (O.with D) s5 σ3) H5 p c → Cont X.K (Av (O.with D) s5 σ3) (upd H5 D (.dK (putK ws key y))) p c := fun p c hp C =>
                            C.mono (fun _ z => .inl z) grow (upd_ne fun z => T5.fr.avoid p ⟨j, hp⟩ (.inr z))
                          cases sv with
                          | un => trivial
                          | d x => obtain ⟨w, ew, R⟩ := sl; exact ⟨w, ew, Rp.mono (fun _ z => .inl z) grow _ _ R⟩
                          | own c => obtain ⟨p, ep, C⟩ := sl; subst ep; exact ⟨p, rfl, own1 p c ⟨ev, c, .inl hj⟩ C⟩
                          | io c => obtain ⟨p, ep, C⟩ := sl; subst ep; exact ⟨p, rfl, own1 p c ⟨ev, c, .inr (.inl hj)⟩ C⟩
                          | lk c => obtain ⟨p, ep, C⟩ := sl; subst ep; exact ⟨p, rfl, own1 p c ⟨ev, c, .inr (.inr hj)⟩ C⟩
                          | rd xs => obtain ⟨a, vs, ep, R, Rl⟩ := sl; exact ⟨a, vs, ep, R.mono (fun _ z => .inl z) grow, RpL.mono (fun _ z => .inl z) grow _ _ Rl⟩
                        · by_cases e : p = D
                          · rw [e, upd_same] at z; cases z
                          · rw [upd_ne e] at z; exact T5.fr.odom p hp z
                      have T6 : Step Tb X.K (O.with D) (wipeV ix s1) (wipe σ ix) H1 s5 σ3 (upd H5 D (.dK (putK ws key y))) :=
                        ⟨FG, fun a o e t n => by rw [upd_ne (ne_of_none e hD)]; exact T5.keep a o e t n, T5.new, T5.mnew, fun a z => by
                          by_cases e : a = D
                          · rw [e]; exact hD
                          · rw [upd_ne e] at z; exact T5.dom a z, T5.len, T5.io, T5.lk⟩
                      have R6 : RpD X.K (Av (O.with D) s5 σ3) (upd H5 D (.dK (putK ws key y))) (putD acc key yd) (putK ws key y) := RpD.mono (fun _ z => .inl z) grow _ _ (R5.put Ry)
                      refine ⟨by omega, putD acc key yd, wipeV ix s5, putK ws key y, Step.wipe T6 ew fl5, ?_, upd_same, ?_, ys, s2, by rw [er']; exact er, fin⟩
                      · refine List.all_eq_true.mpr fun j hj => ?_
                        cases e : (wipeV ix s5)[j]? with
                        | none => rfl
                        | some sv => rw [(wipeV_get j ix s5).2 hj sv e]; rfl
                      · rw [← ew]
                        exact RpD.mono (fun a z => .inl (z.imp id fun ⟨j, z⟩ => ⟨j, (own_wipe fl5 j a).mp z⟩)) (fun _ _ e _ _ => e) _ _ R6
                    · rw [if_neg fl5] at er; cases er
                  · rw [if_neg hc] at er; cases er
  · rw [if_neg fl] at q; exact q.elim
/-- {k: v for target in iter if ..} -/
theorem ve_dc {k : Nat} (c : VC X W k) (hi : VI Tb X W tg iter fi) (ok : BlkOk X.N X.env.scope scope own)
    (hg : ∀ (s : Shared) (H : Hp) (C : Addr) (cl : List (Str × Addr)) (fp : List Addr), VGD Tb (X.blk s H scope (compEnvC scope cl C X.env) fp) (own.map (·.2)) tg f)
    (ht : ∀ (s : Shared) (H : Hp) (C : Addr) (cl : List (Str × Addr)) (fp : List Addr), VC (X.blk s H scope (compEnvC scope cl C X.env) fp) W0 k → VTs Tb (X.blk s H scope (compEnvC scope cl C X.env) fp) W0 ifs tt)
    (hk : ∀ (s : Shared) (H : Hp) (C : Addr) (cl : List (Str × Addr)) (fp : List Addr), VC (X.blk s H scope (compEnvC scope cl C X.env) fp) W0 k → VE Tb (X.blk s H scope (compEnvC scope cl C X.env) fp) W0 kx tk)
    (he : ∀ (s : Shared) (H : Hp) (C : Addr) (cl : List (Str × Addr)) (fp : List Addr), VC (X.blk s H scope (compEnvC scope cl C X.env) fp) W0 k → VE Tb (X.blk s H scope (compEnvC scope cl C X.env) fp) W0 elt te) (hs : ∀ x, foldedSetIterable iter X.env x = pure x := by intro _; rfl) :
    VE Tb X W (.DictComp kx elt [⟨tg, iter, ifs, 0⟩] scope pos) (vDc (own.map (·.2)) fi f tt tk te) := by
  have cb : ∀ (s : Shared) (H : Hp) (C : Addr) (cl : List (Str × Addr)) (fp : List Addr), VC (X.blk s H scope (compEnvC scope cl C X.env) fp) W0 k := fun s H C cl fp => ⟨c.calm, c.nd, takes0, c.rm⟩
  exact PE.wk (pe_dc c.calm c.nd hi ok hg (fun s H C cl fp => ht s H C cl fp (cb s H C cl fp)) (fun s H C cl fp => hk s H C cl fp (cb s H C cl fp)) (fun s H C cl fp => he s H C cl fp (cb s H C cl fp)) hs) fun σ H Q h => dc_wk h
end
/-! sorted of a dict whose keys are ints -/
def keyInts : List (Da × Da) → Option (List Int)
  | [] => some []
  | (.int i, _) :: r => (keyInts r).map fun ns => i :: ns
  | _ :: _ => none
theorem keyInts_rel {K : PySem.W.Frag} {O : AS} {H : Hp} : ∀ {kvs : List (Da × Da)} {ks : List (Key × V)} {ns : List Int}, RpD K O H kvs ks → keyInts kvs = some ns → ks.map (·.1) = ns.map Sum.inl
  | [], ks, ns, h, e => by simp only [RpD] at h; subst h; cases e; rfl
  | (a, x) :: r, ks, ns, h, e => by
    simp only [RpD] at h
    obtain ⟨key, u, ws, rfl, rfl, ru, h⟩ := h
    cases key with
    | inl i =>
      obtain ⟨ms, e1, rfl⟩ := Option.map_eq_some_iff.mp (show (keyInts r).map (fun ns => i :: ns) = some ns from e)
      rw [List.map_cons, List.map_cons, keyInts_rel h e1]
    | inr s => cases e
def sorted4 (vs : List Da) : Option EV := match vs with
  | [.dict kvs] => (keyInts kvs).bind fun ns => if ns.length < 64 ∧ tkD (.dict kvs) = false then some (.own (.l ((sortI ns).map PyData.int))) else none
  | _ => none
theorem c_sorted4 {X : Cx} (hc : X.calm = true) : CallV X (.builtin "sorted") sorted4 := by
  refine ⟨_, call_sortedDI hc, fun O H xs vs z Q hd R e q => ?_⟩
  match xs, e, R with
  | [.dict kvs], e, R =>
    obtain ⟨ns, e1, e⟩ := Option.bind_eq_some_iff.mp (show ((keyInts kvs).bind fun ns => if ns.length < 64 ∧ tkD (.dict kvs) = false then some (EV.own (.l ((sortI ns).map PyData.int))) else none) = some z from e)
    split at e
    · rename_i hn
      cases e
      obtain ⟨v, rfl, r⟩ := R.one
      obtain ⟨a, ks, rfl, h1, r1⟩ := r.dict hn.2
      refine ⟨a, ks, ns, rfl, .of h1, keyInts_rel r1 e1, hn.1, fun ys p hp hs hh => ?_⟩
      rw [sorted_uniq (hp.trans (sortI_perm ns).symm) hs (sortI_sorted ns)]
      exact q _ _ (Same.upd hh) (NR.lst (RpL.ofInts _) hh)
    · cases e
  | [], e, _ => cases e
  | [.none], e, _ => cases e
  | [.bool _], e, _ => cases e
  | [.int _], e, _ => cases e
  | [.str _], e, _ => cases e
  | [.tuple _], e, _ => cases e
  | [.list _], e, _ => cases e
  | x :: _ :: _, e, _ => cases x <;> cases e
end VL
set_option Elab.async false
set_option linter.all false
set_option maxRecDepth 100000
set_option maxHeartbeats 0
/-! sorted(xs, key=f), xs ints, f's keys ints, f keeping every object -/
namespace VL
open PySem PySem.Spec PyProof.Rows PySem.W PySem.Calls
/-- every object of h₀ stands in h -/
def Kp (h₀ h : Heap) : Prop := ∀ b o, h₀.get? b = some o → h.get? b = some o
theorem Kp.but {h₀ h h' : Heap} {a : Addr} (F : Kp h₀ h) (hs : Heap.SameBut a h h') (h0 : h₀.get? a = none) : Kp h₀ h' := fun b o e => (hs.2 b (fun q => by rw [q, h0] at e; cases e)).trans (F b o e)
theorem Kp.trans {h₀ h h' : Heap} (F : Kp h₀ h) (G : Kp h h') : Kp h₀ h' := fun b o e => G b o (F b o e)
theorem Kp.push {h₀ h : Heap} (F : Kp h₀ h) (o : Obj) : Kp h₀ (h.push o) := fun b ob e => Heap.get?_push_of_some _ (F b ob e)
section
variable {prog : Program} {w : World} {A : Around} {E : Value → Shared → Prop} {s : Shared} {h₀ : Heap} {a kS : Addr} {vs : List Value} {keys : Array Value} {e e1 : Nat} {P : PySem.Fin → Shared → Prop}
theorem kt_tail {st : SortSt} {out : List Value} (F : Kp h₀ s.heap) (nk : s.heap.get? kS = some (seqObj "list" keys e)) (k0 : h₀.get? kS = none) (na : s.heap.get? a = some (seqObj "list" #[] e1)) (a0 : h₀.get? a = none) (hka : kS ≠ a)
    (hsz : keys.size ≤ sizeLine) (hz : out.length ≤ sizeLine) (hfl : failedOf st = none) (ho : (arrOf st).map (·.2) = out.toArray)
    (h : ∀ h' tk c, Kp h₀ h' → h'.get? a = some (seqObj "list" out.toArray c) → P (.done (.ret .none)) { s with heap := h', toks := tk }) :
    wpAny (model prog w) A (ksk_tail a false e1 (.ref kS) st) P E s := by
  have s1 := Heap.SameBut.update s.heap kS (Obj.mapSeq fun _ => (#[] : Array Value))
  have na1 : (s.heap.update kS (Obj.mapSeq fun _ => (#[] : Array Value))).get? a = some (seqObj "list" #[] e1) := (s1.2 a hka.symm).trans na
  have s2 := Heap.SameBut.update (s.heap.update kS (Obj.mapSeq fun _ => (#[] : Array Value))) a (Obj.mapSeq fun _ => out.toArray)
  obtain ⟨c2, hc2⟩ : ∃ c2, ((s.heap.update kS (Obj.mapSeq fun _ => (#[] : Array Value))).update a (Obj.mapSeq fun _ => out.toArray)).get? a = some (seqObj "list" out.toArray c2) :=
    ⟨_, get?_update_seq na1 fun _ => out.toArray⟩
  have hz2 : out.toArray.size ≤ sizeLine + 1 := by
    rw [List.size_toArray]
    exact Nat.le_succ_of_le hz
  unfold ksk_tail
  simp only [Bool.false_eq_true, if_false]
  rw [ho]
  refine wpAny_bind (listUpdate_at nk rfl ?_ hsz (Nat.zero_le _))
  refine wpAny_bind (wpAny_letGo ?_)
  refine wpAny_bind (seqEpoch_at na1 rfl ?_)
  refine wpAny_bind (listUpdate_at na1 rfl ?_ (Nat.zero_le _) hz2)
  rw [hfl]
  simp only [bne_self_eq_false, Bool.false_eq_true, if_false]
  exact wpAny_pure (h _ _ c2 ((F.but s1 k0).but s2 a0) hc2)
theorem kt_end {κ : PyProof.Rows.KeyKind} (F : Kp h₀ s.heap) (nk : s.heap.get? kS = some (seqObj "list" keys e)) (k0 : h₀.get? kS = none) (na : s.heap.get? a = some (seqObj "list" #[] e1)) (a0 : h₀.get? a = none) (hka : kS ≠ a)
    (S : SortsAt prog w A s κ keys.toList) (hsz : keys.size = vs.length) (hZ : vs.length ≤ sizeLine)
    (h : ∀ h' tk c, Kp h₀ h' → h'.get? a = some (seqObj "list" (sortVals κ false keys.toList vs).toArray c) → P (.done (.ret .none)) { s with heap := h', toks := tk }) :
    wpAny (model prog w) A (ksk_end a false vs.toArray e1 (.ref kS) keys) P E s := by
  obtain ⟨kd, h1, h2⟩ := S.kind
  have hkl : keys.toList.length = vs.length := by
    rw [Array.length_toList]
    exact hsz
  have hK : PyProof.Rows.KeysOf κ (keys.zip vs.toArray) := keysOf_zip S.keys
  have hol : (sortVals κ false keys.toList vs).length = vs.length := sortVals_length false hkl
  have hss : (keys.zip vs.toArray).size = vs.length := by rw [Array.size_zip, hsz, List.size_toArray, Nat.min_self]
  have fin : ∀ st' : SortSt, (arrOf st').Perm (keys.zip vs.toArray) → SortedToK κ (arrOf st') (keys.zip vs.toArray).size →
      Stable κ (arrOf st') (keys.zip vs.toArray) → (arrOf st').map (·.2) = (sortVals κ false keys.toList vs).toArray := by
    intro st' hp hs ht
    have e := sort_out (rev := false) (keys := keys) (items := vs.toArray) (xs := arrOf st') (κ := κ) hK (by simpa using hp) (by simpa using hs) (by simpa using ht)
    have e' := congrArg List.toArray e
    rw [Array.toArray_toList] at e'
    simpa using e'
  unfold ksk_end
  simp only [Bool.false_eq_true, if_false]
  by_cases hl2 : vs.toArray.size < 2
  · rw [if_pos hl2, if_pos hl2]
    refine wpAny_bind (wpAny_pure ?_)
    rw [StateT.run_pure]
    refine wpAny_bind (wpAny_pure ?_)
    try dsimp only
    refine kt_tail (st := SortSt.mk' general' (keys.zip vs.toArray) #[] 7 none) F nk k0 na a0 hka (by rw [hsz]; exact hZ) (by rw [hol]; exact hZ) rfl (fin _ (Array.Perm.refl _) ?_ (Stable.refl _)) h
    intro i j hij hj
    rw [hss] at hj
    rw [List.size_toArray] at hl2
    have : i = j := by omega
    subst this
    exact KeyOrd.kle_refl _
  · rw [if_neg hl2, if_neg hl2]
    rw [List.size_toArray] at hl2
    refine wpAny_bind (h2 (by omega) _ ?_)
    refine wpAny_bind (wpAny_mono (H.wpS_sortRunsSt (κ := κ) (kd := kd) (a₀ := keys.zip vs.toArray)
      (st := SortSt.mk' kd (keys.zip vs.toArray) #[] 7 none)
      (Q := fun _ st' => failedOf st' = none ∧ (arrOf st').map (·.2) = (sortVals κ false keys.toList vs).toArray)
      h1 hK ⟨Array.Perm.refl _, rfl, rfl⟩ rfl (Stable.refl _) (by rw [hss]; omega) fun st' a1 a2 a3 a4 => ⟨a2, fin st' a1 a3 a4⟩) ?_ fun _ _ e => e)
    rintro ⟨⟨⟩, st'⟩ s' ⟨rfl, hf, ho⟩
    try dsimp only at ho ⊢
    exact kt_tail F nk k0 na a0 hka (by rw [hsz]; exact hZ) (by rw [hol]; exact hZ) hf ho h
/-- a call gives the int k and keeps every object -/
def KEnd (k : Int) (s₁ : Shared) (v : Value) (s₂ : Shared) : Prop := ∃ h' tk t, s₂ = { s₁ with heap := h', toks := tk } ∧ v = .int k t ∧ Kp s₁.heap h'
abbrev IntV (v : Value) (k : Int) : Prop := ∃ t, v = .int k t
variable {ks : List Int}
theorem kt_rest {f : Value} (F : Kp h₀ s.heap) (nk : s.heap.get? kS = some (seqObj "list" #[] 0)) (k0 : h₀.get? kS = none) (na : s.heap.get? a = some (seqObj "list" #[] e1)) (a0 : h₀.get? a = none) (hka : kS ≠ a)
    (hlen : ks.length = vs.length) (hZ : vs.length ≤ sizeLine) (hu : A.units < cLine)
    (turn : ∀ (i : Nat) (v : Value) (k : Int), vs[i]? = some v → ks[i]? = some k → ∀ (h : Heap) (tk : Nat), Kp h₀ h →
      wpAny (model prog w) A (call f [v]) (KEnd k { s with heap := h, toks := tk }) (fun _ _ => False) { s with heap := h, toks := tk })
    (h : ∀ h' tk out c, Kp h₀ h' → h'.get? a = some (seqObj "list" (List.toArray out) c) → KeyedOut false (ks.map PyData.int) vs out → P (.done (.ret .none)) { s with heap := h', toks := tk }) :
    wpAny (model prog w) A (ksk_rest a f false vs.toArray e1 (.ref kS)) P E s := by
  unfold ksk_rest
  refine wpAny_bind (wpAny_rule ?_)
  first
    | rw [List.forIn_toArray]
    | (rw [← Array.forIn_toList]; simp only [List.toList_toArray])
    | rw [← Array.forIn_toList]
  refine wpAny_bind (ksk_fold (fun i s' => ∃ h' tk kA e, s' = { s with heap := h', toks := tk } ∧ Kp h₀ h' ∧ h'.get? kS = some (seqObj "list" kA e) ∧ h'.get? a = some (seqObj "list" #[] e1) ∧ EachIs IntV kA.toList (ks.take i)) vs 0 s
    ⟨s.heap, s.toks, #[], 0, rfl, F, nk, na, by rw [List.take_zero]; exact EachIs.nil⟩ ?step ?done)
  case step =>
    rintro j x s' hx ⟨h', tk, kA, e, rfl, F', nk', na', hk⟩
    simp only [Nat.zero_add] at hk ⊢
    have hj : j < vs.length := (List.getElem?_eq_some_iff.mp hx).1
    obtain ⟨k, hkj⟩ : ∃ k, ks[j]? = some k := ⟨_, List.getElem?_eq_getElem (by omega)⟩
    have hz : kA.size ≤ vs.length := by
      have h1 := hk.length
      rw [Array.length_toList, List.length_take] at h1
      omega
    refine wpAny_bind (wpAny_attempt (wpAny_mono (turn j x k hx hkj h' tk F') (fun v s'' he => ?_) fun _ _ hF => hF.elim))
    obtain ⟨g, tk2, t, rfl, rfl, G⟩ := he
    try dsimp only
    have gk := G _ _ nk'
    have ga := G _ _ na'
    have s1 := Heap.SameBut.update g kS (Obj.mapSeq (·.push (Value.int k t)))
    obtain ⟨c2, hc2⟩ : ∃ c2, (g.update kS (Obj.mapSeq (·.push (Value.int k t)))).get? kS = some (seqObj "list" (kA.push (Value.int k t)) c2) := ⟨_, get?_update_seq gk (·.push (Value.int k t))⟩
    have ek : ks.take (j + 1) = ks.take j ++ [k] := by rw [List.take_add_one, hkj]; simp
    have ea : (kA.push (Value.int k t)).toList = kA.toList ++ [Value.int k t] := by simp
    refine wpAny_bind (listUpdate_at gk rfl ?_ (Nat.le_trans hz hZ) (Nat.le_trans (Nat.le_of_eq (Array.size_push ..)) (Nat.succ_le_succ (Nat.le_trans hz hZ))))
    refine wpAny_pure ⟨rfl, _, _, kA.push (Value.int k t), c2, rfl, (F'.trans G).but s1 k0, hc2, (s1.2 a hka.symm).trans ga, ?_⟩
    rw [ea, ek]
    exact each_snoc ⟨t, rfl⟩ hk
  case done =>
    rintro s' ⟨h', tk, kA, e, rfl, F', nk', na', hk⟩
    have e3 : ks.take (0 + vs.length) = ks := List.take_of_length_le (by omega)
    rw [e3] at hk
    have hk' : EachIs (fun v k => ∃ as, Reads h' v k as) kA.toList (ks.map PyData.int) := each_map PyData.int (hk.mono fun v n ⟨t, q⟩ => ⟨[], q ▸ .int n t⟩)
    have hal : AllAlike (ks.map PyData.int) := AllAlike.of (enc := PyData.int) (bs := ks) fun b b' => by simp [alike]
    have hsk : Sortable (ks.map PyData.int) := Sortable.others (enc := PyData.int) (bs := ks) fun b => ⟨(fun z => by cases z), fun xs z => (by cases z)⟩
    have hsz : kA.size = vs.length := by
      have h1 := hk'.length
      rw [Array.length_toList, List.length_map] at h1
      omega
    try dsimp only
    refine wpAny_bind (listItems_at nk' rfl ?_)
    refine kt_end (κ := dataKind h' (ks.map PyData.int)) F' nk' k0 na' a0 hka (SortsAt.data (s := { s with heap := h', toks := tk }) hk' hal hsk fun d hd => ?_) hsz hZ fun h3 tk3 c F3 N3 => h h3 tk3 _ c F3 N3 ⟨h', kA.toList, hal, rfl, hk'⟩
    obtain ⟨n, _, rfl⟩ := List.mem_map.mp hd
    exact hu
theorem kt_tree {f : Value} {n : Nat} (F : Kp h₀ s.heap) (ho : s.heap.get? a = some (seqObj "list" vs.toArray n)) (ha0 : h₀.get? a = none)
    (hlen : ks.length = vs.length) (hZ : vs.length ≤ sizeLine) (hu : A.units < cLine) (hsz : h₀.objs.size ≤ a)
    (turn : ∀ (i : Nat) (v : Value) (k : Int), vs[i]? = some v → ks[i]? = some k → ∀ (h : Heap) (tk : Nat), Kp h₀ h →
      wpAny (model prog w) A (call f [v]) (KEnd k { s with heap := h, toks := tk }) (fun _ _ => False) { s with heap := h, toks := tk })
    (h : ∀ h' tk out c, Kp h₀ h' → h'.get? a = some (seqObj "list" (List.toArray out) c) → KeyedOut false (ks.map PyData.int) vs out → P (.done (.ret .none)) { s with heap := h', toks := tk }) :
    wpAny (model prog w) A (ksk_tree a f false) P E s := by
  have ha : a < s.heap.objs.size := Heap.lt_size ho
  have s1 := Heap.SameBut.update s.heap a (Obj.mapSeq fun _ => (#[] : Array Value))
  obtain ⟨e1, ho1⟩ : ∃ e1, (s.heap.update a (Obj.mapSeq fun _ => (#[] : Array Value))).get? a = some (seqObj "list" #[] e1) := ⟨_, get?_update_seq ho fun _ => #[]⟩
  have F1 := F.but s1 ha0
  have hkS : ((s.heap.update a (Obj.mapSeq fun _ => (#[] : Array Value))).push (seqObj "tuple" vs.toArray 0)).objs.size = s.heap.objs.size + 1 := by rw [size_push', Heap.size_update]
  unfold ksk_tree
  refine wpAny_bind (listItems_at ho rfl ?_)
  refine wpAny_bind (listUpdate_at ho rfl ?_ (by rw [List.size_toArray]; exact hZ) (Nat.zero_le _))
  refine wpAny_bind (seqEpoch_at ho1 rfl ?_)
  refine wpAny_bind (wpAny_newTuple ?_ (by show vs.length ≤ _; exact hZ))
  refine wpAny_bind (wpAny_newList ?_ (Nat.zero_le _))
  refine wpAny_holding ?_
  exact kt_rest (s := { s with heap := ((s.heap.update a (Obj.mapSeq fun _ => (#[] : Array Value))).push (seqObj "tuple" vs.toArray 0)).push (seqObj "list" #[] 0) }) (kS := ((s.heap.update a (Obj.mapSeq fun _ => (#[] : Array Value))).push (seqObj "tuple" vs.toArray 0)).objs.size)
    ((F1.push _).push _) (Heap.get?_push_size _ rfl) (Heap.get?_none_of_le (by rw [hkS]; exact Nat.le_trans hsz (Nat.le_succ_of_le (Nat.le_of_lt ha)))) (Heap.get?_push_of_some _ (Heap.get?_push_of_some _ ho1)) ha0 (by rw [hkS]; exact Nat.ne_of_gt (Nat.lt_succ_of_lt ha)) hlen hZ hu turn h
/-- sorted(xs, key=f) -/
theorem kt_sorted {l : Addr} {f : Addr} {Q : Value → Shared → Prop} (hl : s.heap.IsList l vs.toArray) (hlen : ks.length = vs.length) (hZ : vs.length ≤ sizeLine) (hu : A.units + 2 < cLine)
    (turn : ∀ (i : Nat) (v : Value) (k : Int), vs[i]? = some v → ks[i]? = some k → ∀ (h : Heap) (tk : Nat), Kp s.heap h →
      wpAny (model prog w) A.in1.in1 (call (.ref f) [v]) (KEnd k { s with heap := h, toks := tk }) (fun _ _ => False) { s with heap := h, toks := tk })
    (h : ∀ D h' tk out c, Kp s.heap h' → s.heap.objs.size ≤ D → h'.get? D = some (seqObj "list" (List.toArray out) c) → KeyedOut false (ks.map PyData.int) vs out → Q (.ref D) { s with heap := h', toks := tk }) :
    wpAny (model prog w) A (call (.builtin "sorted") [.ref l] [(Str.ofString "key", .ref f)]) Q E s := by
  refine sorted_of_sort hl hZ (PyProof.Rows.ksk_s1 _ _) (fun _ => PyProof.Rows.ksk_l1 _ _) fun E' => ?_
  rw [PyProof.Rows.ksk_t1]
  exact kt_tree (h₀ := s.heap) (s := { s with heap := copyHeap s.heap vs }) (fun _ _ => copyHeap_old) (copyHeap_at s.heap vs) (Heap.get?_none_of_le (Nat.le_succ _)) hlen hZ (by show A.units + 1 + 1 < cLine; omega) (Nat.le_succ _) turn fun h' tk out c F' N' k' => ⟨rfl, h _ h' tk out c F' (Nat.le_succ _) N' k'⟩
end
end VL
set_option Elab.async false
set_option linter.all false
set_option maxRecDepth 100000
set_option maxHeartbeats 0
/-! sorted(xs, key=lambda y: x * y), x a captured name -/
namespace VL
open PySem PySem.Spec PyProof.Rows PySem.W PySem.Calls
/-- the names of lambda y: x * y -/
structure LamM (sc scope : Scope) (x y : Str) : Prop where
  kind : scope.kind = .function
  co : scope.isCoroutine = false
  gen : scope.isGenerator = false
  noc : ∀ z ∈ scope.names, z.2 ≠ .cell
  x : scope.names.lookup x = some .free
  y : scope.names.lookup y = some .local
  free : ∀ z ∈ scope.names, z.2 = .free → sc.names.lookup z.1 = some .cell ∨ sc.names.lookup z.1 = some .free
section
variable {prog : Program} {w : World} {A : Around} {s : Shared} {f c' cc : Addr} {qual x y : Str} {params : Arguments} {scope sc : Scope} {clos : List (Str × Addr)} {pm ctv : Value} {m n : Int} {tm tn : Tok} {p1 p2 p3 : Pos}
theorem lam_mul (hroom : A.depth < recursionLimit) (hlim : s.heap.NoLimit) (ho : s.heap.get? f = some (kla_obj "<lambda>" qual params (.BinOp (.Name x p1) .Mult (.Name y p2) p3) scope clos pm c' ctv)) (hcd : s.heap.CodeRec (.ref c') qual) (L : LamM sc scope x y)
    (hc : clos.lookup x = some cc) (hv : s.heap.IsCell cc (some (.int m tm))) (hbind : ∀ v, bindArgs (kla_fn "<lambda>" qual params (.BinOp (.Name x p1) .Mult (.Name y p2) p3) scope clos pm (.ref c') ctv) ⟨[v], []⟩ = pure [(y, v)])
    (hm : IntMulOk m n) (hd1 : (x == ("__debug__" : Str)) = false) (hd2 : (y == ("__debug__" : Str)) = false) (hd3 : (x == ("__classdict__" : Str)) = false) :
    wpAny (model prog w) A (call (.ref f) [.int n tn]) (KEnd (m * n) s) (fun _ _ => False) s := by
  refine wpAny_call (kla_callFunE hroom ho rfl L.co L.gen rfl hcd ?_)
  rw [hbind]
  refine wpAny_pure (wpAny_newFunctionEnv L.noc (fun z hz => ?_) (fun h₁ hns hsb => ⟨hlim.fresh _ hsb, ?_⟩) L.kind)
  · rw [List.mem_singleton.mp hz]
    exact L.y
  · have kp : Kp s.heap h₁ := fun b o e => hsb.extBut b o (Nat.ne_of_lt (Heap.lt_size e)) (Heap.get?_push_of_some _ e)
    refine kla_codeExpr ?_
    refine wpAny_BinOp ?_
    refine wpAny_Name (wpAny_loadName_free (c := cc) (v := .int m tm) L.kind L.x hc (hv.keeps kp) ?_ hd3) hd1
    refine wpAny_Name (wpAny_loadName_local (v := .int n tn) L.kind L.y hns (by simp) ?_) hd2
    exact mul_int ⟨h₁, _, _, rfl, rfl, kp⟩ hm
end
theorem each_int : ∀ {out : List Value} {ns : List Int}, EachIs IntV out ns → L2.Vals (ns.map L2.V.int) out
  | _, _, .nil => .nil
  | _, _, .cons h t => .cons h (each_int t)
theorem int_each : ∀ {ns : List Int} {out : List Value}, L2.Vals (ns.map L2.V.int) out → EachIs IntV out ns
  | [], _, h => by cases h; exact .nil
  | n :: ns, _, h => by
    cases h with
    | cons h1 h2 => exact .cons h1 (int_each h2)
/-- sorted by x * y -/
def mulSort (m : Int) (ns : List Int) : List Int := ns.mergeSort fun a b => decide (m * a ≤ m * b)
theorem mulSort_len (m : Int) (ns : List Int) : (mulSort m ns).length = ns.length := List.length_mergeSort _
section
open L2 LamX
variable {X : Cx} {te : TE} {e : Expr} {i : Nat} {x y : Str} {c P : Addr} {params : Arguments} {scope : Scope} {p p1 p2 p3 lpos kpos pos : Pos}
def tSortMul (X : Cx) (i : Nat) (P : Addr) (te : TE) : TE := fun σ H Q => te σ H fun v H1 => ∃ (a : Addr) (ns : List Int) (m : Int), v = .ref a ∧ SqL X.K H1 a (ns.map V.int) ∧ σ[i]? = some (some (.int m)) ∧ (∀ n ∈ ns, CMulW m n) ∧ TabS H1 P (X.env.qual ++ "<lambda>") ∧
  ∀ H2 p, ButP P H1 H2 → TabS H2 P (X.env.qual ++ "<lambda>") → H2 p = none → Q (.ref p) (upd H2 p (.lst ((mulSort m ns).map V.int)))
theorem pe_sortMul (hg : Gl X "sorted") (hmg : X.mg "sorted" = none) (ha : PE X e te) (TB : TabB X.base X.mg c P) (hcode : X.env.code = .ref c) (L : LamM X.env.scope scope x y) (hdef : defaultsOf params X.env = ([], []))
    (hbind : ∀ (q : Str) (cl : List (Str × Addr)) (pm cv ctv v : Value), bindArgs (kla_fn "<lambda>" q params (.BinOp (.Name x p1) .Mult (.Name y p2) p3) scope cl pm cv ctv) ⟨[v], []⟩ = pure [(y, v)])
    (hN : X.N[i]? = some x) (hvis : Vis X.env.scope x) (hr : Room 2 X.A) (hd1 : (x == ("__debug__" : Str)) = false) (hd2 : (y == ("__debug__" : Str)) = false) (hd3 : (x == ("__classdict__" : Str)) = false)
    (hs : starEach [e] X.env = (false, eval e X.env) :: starEach [] X.env := by rfl) :
    PE X (.Call (.Name "sorted" p) [e] [⟨some "key", .Lambda params (.BinOp (.Name x p1) .Mult (.Name y p2) p3) scope lpos, kpos⟩] pos) (tSortMul X i P te) := by
  refine ⟨fun pins s σ H Q I h => ?_⟩
  have hfree : ∀ z ∈ scope.names, z.2 = .free → ∃ c, X.env.cells.lookup z.1 = some c := fun z hz e => I.ok.has _ ((L.free z hz e).imp id id)
  refine wpAny_Call_Name_kw (ld_blt (u := .builtin "sorted") I hg hmg (by decide +kernel) ?_ (by decide) (by decide))
  refine PyProof.Rows.callWith_kw (thn ((pa_cons ha pa_nil hs).run pos pins s σ H (fun vs H1 => match vs with
    | [v] => ∃ (a : Addr) (ns : List Int) (m : Int), v = .ref a ∧ SqL X.K H1 a (ns.map V.int) ∧ σ[i]? = some (some (.int m)) ∧ (∀ n ∈ ns, CMulW m n) ∧ TabS H1 P (X.env.qual ++ "<lambda>") ∧
        ∀ H2 p, ButP P H1 H2 → TabS H2 P (X.env.qual ++ "<lambda>") → H2 p = none → Q (.ref p) (upd H2 p (.lst ((mulSort m ns).map V.int)))
    | _ => False) I h) fun us s1 ⟨vs, H1, I1, r1, q1⟩ => ?_) ?_ ?_ rfl rfl
  rotate_left
  · show backTo pos (starEach [e] X.env) = _
    rw [hs]; rfl
  · show (backTo pos (starEach [e] X.env)).any (·.1) = false
    rw [hs]; rfl
  obtain ⟨v, rfl⟩ : ∃ v, vs = [v] := by
    match vs, q1 with
    | [v], _ => exact ⟨v, rfl⟩
  obtain ⟨a, ns, m, rfl, hl, hσ, hm, hT, q⟩ := q1
  obtain ⟨u, rfl, ru⟩ := vals1 r1
  obtain rfl : u = Value.ref a := ru
  show wpAny _ _ (evalAll [do let v ← eval (.Lambda params (.BinOp (.Name x p1) .Mult (.Name y p2) p3) scope lpos) X.env; standAt pos; pure v]) _ _ s1
  refine wpAny_evalAll_cons (wpAny_bind (lam_mk I1 TB hcode hT hdef hfree fun f c' pm' ctv H2 s2 I2 B T2 hf hfn hfr hco => wpAny_bind (wpAny_standAt (wpAny_pure (wpAny_evalAll_nil ?_)))))
  show wpAny _ _ (call (.builtin "sorted") [.ref a] [(Str.ofString "key", .ref f)]) _ _ s2
  have hl2 : SqL X.K H2 a (ns.map V.int) := by
    obtain ⟨ps, hP, _⟩ := hT
    rcases hl with hl | hl
    · left
      rcases hl with hl | ⟨o, hl⟩
      · exact .inl (B.keep a _ (fun z => by rw [z, hP] at hl; cases hl) hl)
      · exact .inr ⟨o, B.keep a _ (fun z => by rw [z, hP] at hl; cases hl) hl⟩
    · exact .inr hl
  obtain ⟨its, rv, pl, hz⟩ := I2.list hl2
  have hlen := rv.length
  rw [List.length_map] at hlen hz
  -- the captured name
  obtain ⟨mm, hns, hloc⟩ := I2.loc
  obtain ⟨uu, ruu, lk⟩ := hloc i x (.int m) hN hσ hvis
  obtain ⟨tm, rfl⟩ := ruu
  have hxm : (x, NameKind.free) ∈ scope.names := PySem.mem_of_lookup L.x
  obtain ⟨cc, hcc, hcell⟩ : ∃ cc, X.env.cells.lookup x = some cc ∧ s2.heap.IsCell cc (some (.int m tm)) := by
    rcases lk with ⟨hk, _⟩ | ⟨_, cc, h1, h2⟩
    · have hk' : X.env.scope.names.lookup x = some .local := hk
      rcases L.free _ hxm rfl with z | z <;> (rw [show X.env.scope.names.lookup x = _ from z] at hk'; cases hk')
    · exact ⟨cc, h1, h2⟩
  have hclo : (cloFrom X.env.cells scope.names []).lookup x = some cc := by
    obtain ⟨c2, h2⟩ := mem_lookup (cloFrom_has (cells := X.env.cells) (acc := []) hxm)
    rcases cloFrom_mem (PySem.mem_of_lookup h2) with z | ⟨_, z⟩
    · cases z
    · rw [h2, z, hcc]; rfl
  obtain ⟨⟨oc, vs, tq, hoc, hdc, hvc⟩, _, _⟩ := (show ObjOk X.prog X.w H2 s2.heap c' (CodeO c' (X.env.qual ++ "<lambda>")) from I2.hok c' _ hco)
  refine kt_sorted (vs := its) (ks := ns.map fun n => m * n) pl.isList (by rw [List.length_map]; omega) (by omega) (by have := hr.un; omega) (fun j v k hv hk h tk kp => ?_) fun D h' tk out cnt kp hD hget hK => ?_
  · rw [List.getElem?_map] at hk
    obtain ⟨n, hn, rfl⟩ := Option.map_eq_some_iff.mp hk
    have hvn : v = its[j]'(List.getElem?_eq_some_iff.mp hv).1 := ((List.getElem?_eq_some_iff.mp hv).2).symm
    obtain ⟨w, hw, rw'⟩ := rv.get (show (ns.map V.int)[j]? = some (.int n) by rw [List.getElem?_map, hn]; rfl)
    rw [hv] at hw
    cases hw
    obtain ⟨tn, rfl⟩ := rw'
    exact lam_mul (s := { s2 with heap := h, toks := tk }) (L := L) (show X.A.depth < recursionLimit from hr.depth) (I2.nolimit.keeps kp) (kp _ _ hf) ⟨c', oc, vs, tq, rfl, kp _ _ hoc, hdc, hvc⟩ hclo (hcell.keeps kp) (fun v => hbind _ _ _ _ _ v) (hm n (List.mem_of_getElem? hn)).ok hd1 hd2 hd3
  · have hR := keyedOut_each (R := IntV) (bs := ns) (fun n => PyData.int (m * n)) (by rw [List.map_map] at hK; exact hK) (int_each rv)
    rw [dataLe_int] at hR
    have ho := each_int hR
    have hlo : ((mulSort m ns).map V.int).length ≤ sizeLine := by rw [List.length_map, mulSort_len]; omega
    exact ⟨.ref D, upd H2 D (.lst ((mulSort m ns).map V.int)), I2.laid (o := .lst ((mulSort m ns).map V.int)) (t' := tk) kp hD (show ObjOk _ _ _ _ _ (.lst _) from ⟨hlo, out, cnt, ho, hget⟩), rfl, q H2 D B T2 (I2.hok.fresh hD)⟩
/-! as a mirror -/
def sortMulD (m : Int) : Da → Option EV
  | .list xs => (ints? xs).bind fun ns => if (ns.all fun n => decide (m.natAbs.log2 + n.natAbs.log2 < 1000000)) = true then some (.own (.l ((mulSort m ns).map PyData.int))) else none
  | _ => none
def intSlot : Option SV → Option Int
  | some (.d (.int m)) => some m
  | _ => none
def vSortMul (i : Nat) (fe : VM EV) : VM EV := vb fe fun r => vb (vRd r) fun xs => fun s => match (intSlot s[i]?).bind fun m => sortMulD m xs with
  | some z => .ok (z, s)
  | none => .error .stuck
theorem ve_sortMul {Tb : List (Addr × Str)} {W : WX} {fe : VM EV} {k : Nat} (A : LamAt Tb X P c) (r : VC X W k) (hmg : X.mg "sorted" = none) (ha : VE Tb X W e fe) (L : LamM X.env.scope scope x y) (hN : X.N[i]? = some x := by rfl) (hg : Gl X "sorted" := by rfl) (hk : 2 ≤ k := by decide)
    (hdef : defaultsOf params X.env = ([], []) := by rfl)
    (hbind : ∀ (q : Str) (cl : List (Str × Addr)) (pm cv ctv v : Value), bindArgs (kla_fn "<lambda>" q params (.BinOp (.Name x p1) .Mult (.Name y p2) p3) scope cl pm cv ctv) ⟨[v], []⟩ = pure [(y, v)] := by intros; rfl)
    (hvis : Vis X.env.scope x := by first | exact Or.inl rfl | exact Or.inr (Or.inl rfl) | exact Or.inr (Or.inr rfl)) (hd1 : dunder x = false := by decide) (hd2 : dunder y = false := by decide)
    (hs : starEach [e] X.env = (false, eval e X.env) :: starEach [] X.env := by rfl) :
    VE Tb X W (.Call (.Name "sorted" p) [e] [⟨some "key", .Lambda params (.BinOp (.Name x p1) .Mult (.Name y p2) p3) scope lpos, kpos⟩] pos) (vSortMul i fe) := by
  refine PE.wk (pe_sortMul hg hmg ha A.tb A.code L hdef hbind hN hvis (r.rm.mono hk) (dun hd1).1 (dun hd2).1 (dun hd1).2 hs) fun σ H Q h => ?_
  obtain ⟨O, st, F, h⟩ := h
  refine tV.bind F h fun rr s1 v H1 S1 E1 h => ?_
  obtain ⟨xd, Rx, h⟩ := h.rd S1.fr E1
  cases em : (intSlot s1[i]?).bind fun m => sortMulD m xd with
  | none =>
    rw [em] at h
    exact h.elim
  | some z =>
  rw [em] at h
  obtain ⟨m, e1, e2⟩ := Option.bind_eq_some_iff.mp em
  have hsl : s1[i]? = some (.d (.int m)) := by
    cases q : s1[i]? with
    | none => rw [q] at e1; cases e1
    | some sv =>
      rw [q] at e1
      match sv, e1 with
      | .d (.int j), e1 => cases e1; rfl
  obtain ⟨vv, ev, w, rfl, Rm⟩ := S1.fr.slot i _ hsl
  simp only [Rp] at Rm
  subst Rm
  match xd, e2, Rx with
  | .list xs, e2, Rx =>
    obtain ⟨ns, e3, e2⟩ := Option.bind_eq_some_iff.mp (show ((ints? xs).bind fun ns => if (ns.all fun n => decide (m.natAbs.log2 + n.natAbs.log2 < 1000000)) = true then some (EV.own (.l ((mulSort m ns).map PyData.int))) else none) = some z from e2)
    split at e2
    · rename_i hb
      cases e2
      obtain ⟨a, vs, rfl, h1, r1⟩ := Rx.list
      obtain rfl := ints?_some e3
      obtain rfl := r1.ints
      refine ⟨a, ns, m, rfl, .inl (.inl h1), ev, fun n hn => (of_decide_eq_true (List.all_eq_true.mp hb n hn) : m.natAbs.log2 + n.natAbs.log2 < 1000000), S1.fr.tabs _ A.mem, fun H2 q B T2 hq => ?_⟩
      have S2 := S1.trans (S1.fr.but B A.mem A.uni T2)
      exact h _ _ (S2.trans (Step.ext S2.fr (Same.upd hq))) ((NR.er S2.fr (Same.upd hq) (NR.lst (RpL.ofInts _) hq)).back S2.dom)
    · cases e2
end
end VL
set_option Elab.async false
set_option linter.all false
set_option maxRecDepth 100000
set_option maxHeartbeats 0
/-! several defs that make lambdas -/
namespace VL
open PySem PySem.Spec PyProof.Rows L2 LamX NdefX PySem.Calls He
def lamMB (sc scope : Scope) (x y : Str) : Bool :=
  decide (scope.kind = .function) && !scope.isCoroutine && !scope.isGenerator && (scope.names.all fun z => !decide (z.2 = .cell)) && decide (scope.names.lookup x = some .free) && decide (scope.names.lookup y = some .local) &&
    scope.names.all fun z => !decide (z.2 = .free) || decide (sc.names.lookup z.1 = some .cell) || decide (sc.names.lookup z.1 = some .free)
theorem lamM_by {sc scope : Scope} {x y : Str} (h : lamMB sc scope x y = true) : LamM sc scope x y := by
  unfold lamMB at h
  simp only [Bool.and_eq_true, Bool.or_eq_true, Bool.not_eq_true', decide_eq_true_eq, decide_eq_false_iff_not, List.all_eq_true] at h
  obtain ⟨⟨⟨⟨⟨⟨h1, h2⟩, h3⟩, h4⟩, h5⟩, h6⟩, h7⟩ := h
  refine ⟨h1, h2, h3, fun z hz => h4 z hz, h5, h6, fun z hz e => ?_⟩
  rcases h7 z hz with (q | q) | q
  · exact absurd e q
  · exact .inl q
  · exact .inr q
theorem lamAt_of {Tb : List (Addr × Str)} {X : Cx} {P cc : Addr} {q : Str} (hq : X.env.qual ++ "<lambda>" = q) (hm : (P, q) ∈ Tb) (hu : ∀ p ∈ Tb, p.1 = P → p.2 = q) (TB : TabB X.base X.mg cc P) (hc : X.env.code = .ref cc) : LamAt Tb X P cc := by
  subst hq
  exact ⟨hm, hu, TB, hc⟩
theorem nodup_eq {α β : Type} {g : α → β} : ∀ {l : List α}, (l.map g).Nodup → ∀ {a b : α}, a ∈ l → b ∈ l → g a = g b → a = b
  | [], _, _, _, h, _, _ => by cases h
  | x :: l, nd, a, b, ha, hb, e => by
    rw [List.map_cons, List.nodup_cons] at nd
    have ih := @nodup_eq α β g l nd.2
    cases ha with
    | head =>
      cases hb with
      | head => rfl
      | tail _ h => exact absurd (List.mem_map.mpr ⟨b, h, e.symm⟩) nd.1
    | tail _ h1 =>
      cases hb with
      | head => exact absurd (List.mem_map.mpr ⟨a, h1, e⟩) nd.1
      | tail _ h2 => exact ih h1 h2 e
section
variable {K : PySem.W.Frag} {tq : List (Defn × Str)}
/-- the tables: where they stand, what they tell -/
def tabsQ (K : PySem.W.Frag) (tq : List (Defn × Str)) : List (Addr × Str) := tq.map fun p => ((cT K p.1).2, p.2)
theorem tq_in : ∀ p ∈ tabsQ K tq, ∃ c ∈ (tq.map (·.1)).map (cT K), c.2 = p.1 := fun p hp => by
  obtain ⟨r, hr, rfl⟩ := List.mem_map.mp hp
  exact ⟨_, List.mem_map.mpr ⟨r.1, List.mem_map.mpr ⟨r, hr, rfl⟩, rfl⟩, rfl⟩
theorem tq_mem {r : Defn × Str} (hr : r ∈ tq) : ((cT K r.1).2, r.2) ∈ tabsQ K tq := List.mem_map.mpr ⟨r, hr, rfl⟩
theorem tq_uni (nd : ((tq.map (·.1)).map fun p => (cT K p).2).Nodup) {r : Defn × Str} (hr : r ∈ tq) : ∀ p ∈ tabsQ K tq, p.1 = (cT K r.1).2 → p.2 = r.2 := fun p hp e => by
  obtain ⟨t, ht, rfl⟩ := List.mem_map.mp hp
  have e : (cT K t.1).2 = (cT K r.1).2 := e
  rw [List.map_map] at nd
  rw [nodup_eq nd ht hr e]
theorem tq_cs {r : Defn × Str} (hr : r ∈ tq) : cT K r.1 ∈ (tq.map (·.1)).map (cT K) := List.mem_map.mpr ⟨r.1, List.mem_map.mpr ⟨r, hr, rfl⟩, rfl⟩
end
end VL
set_option Elab.async false
set_option linter.all false
set_option maxRecDepth 100000
set_option maxHeartbeats 0
/-! len(set(x)), x a list or a tuple of ints -/
namespace VL
open PySem PySem.Spec PyProof.Rows L2
def addC (acc : List Int) (n : Int) : List Int := if n ∈ acc then acc else acc ++ [n]
theorem addC_all : ∀ (l acc : List Int), acc.Nodup → (l.foldl addC acc).Nodup ∧ (∀ n, n ∈ l.foldl addC acc ↔ n ∈ acc ∨ n ∈ l) ∧ (l.foldl addC acc).length ≤ acc.length + l.length
  | [], acc, h => ⟨h, fun n => by simp, by simp⟩
  | x :: l, acc, h => by
    rw [List.foldl_cons]
    have h1 : (addC acc x).Nodup := by
      unfold addC
      split
      · exact h
      · rename_i hx
        exact List.nodup_append.mpr ⟨h, List.pairwise_singleton _ _, fun a ha b hb => by
          rw [List.mem_singleton] at hb
          subst hb
          exact fun e => hx (e ▸ ha)⟩
    have h2 : ∀ n, n ∈ addC acc x ↔ n ∈ acc ∨ n = x := fun n => by
      unfold addC
      split
      · rename_i hx
        exact ⟨.inl, fun q => q.elim id fun e => e ▸ hx⟩
      · simp
    have h3 : (addC acc x).length ≤ acc.length + 1 := by
      unfold addC
      split
      · omega
      · simp
    obtain ⟨i1, i2, i3⟩ := addC_all l (addC acc x) h1
    refine ⟨i1, fun n => ?_, by rw [List.length_cons]; omega⟩
    rw [i2 n, h2 n, List.mem_cons, or_assoc]
/-- each number once -/
def dedI (ns : List Int) : List Int := ns.foldl addC []
section
variable {X : Cx}
def tLenSet (K : PySem.W.Frag) (ta : TE) : TE := fun σ H Q => ta σ H fun x H1 => ∃ (l : Addr) (ns : List Int), x = V.ref l ∧ (SqL K H1 l (ns.map V.int) ∨ SqT K H1 l (ns.map V.int)) ∧ ns.length ≤ 1000 ∧ Q (.int (dedI ns).length) H1
end
/-! as a mirror -/
def lenSetD : Da → Option EV
  | .list xs => (ints? xs).bind fun ns => if ns.length ≤ 1000 then some (.d (.int (dedI ns).length)) else none
  | .tuple xs => (ints? xs).bind fun ns => if ns.length ≤ 1000 then some (.d (.int (dedI ns).length)) else none
  | _ => none
def vLenSet (fa : VM EV) : VM EV := vb fa fun r => vb (vRd r) fun x => vOpt (lenSetD x)
section
variable {Tb : List (Addr × Str)} {X : Cx} {W : WX} {a : Expr} {pos p p2 q : Pos} {fa : VM EV}
end
end VL
set_option Elab.async false
set_option linter.all false
set_option maxRecDepth 100000
set_option maxHeartbeats 0
/-! min of a list of tuples of ints -/
namespace VL
open PySem PySem.Spec PyProof.Rows L2 SeqAt PySem.W
section
variable {prog : Program} {w : World} {A : Around} {E : Value → Shared → Prop} {s : Shared}
theorem lt_TI {v u : Value} {ns ms : List Int} {Q : Value → Shared → Prop} (hu : A.units < cLine) (hv : IsTI s.heap v ns) (hw : IsTI s.heap u ms) (h : Q (.bool (HT.lexLt ns ms)) s) : wpAny (model prog w) A (richCompare .Lt v u) Q E s := by
  obtain ⟨a, o, its, n, rfl, ho, hc, hd, hi⟩ := hv
  obtain ⟨b, o2, its2, n2, rfl, ho2, hc2, hd2, hi2⟩ := hw
  have l1 := hi.length
  have l2 := hi2.length
  rw [Array.length_toList] at l1 l2
  have at1 : ∀ j (h1 : j < its.size), ∃ t, its[j] = .int (ns.getD j 0) t := fun j h1 => by
    obtain ⟨t, e⟩ := ints_at j hi (by rw [Array.length_toList]; exact h1)
    have : its.toList[j]? = some its[j] := by rw [Array.getElem?_toList, Array.getElem?_eq_getElem h1]
    rw [this] at e
    exact ⟨t, Option.some.inj e⟩
  have at2 : ∀ j (h1 : j < its2.size), ∃ t, its2[j] = .int (ms.getD j 0) t := fun j h1 => by
    obtain ⟨t, e⟩ := ints_at j hi2 (by rw [Array.length_toList]; exact h1)
    have : its2.toList[j]? = some its2[j] := by rw [Array.getElem?_toList, Array.getElem?_eq_getElem h1]
    rw [this] at e
    exact ⟨t, Option.some.inj e⟩
  refine RcLt.tuples (e := fun j => ns.getD j 0 == ms.getD j 0) (r := fun j => decide (ns.getD j 0 < ms.getD j 0)) ⟨o, ho, hc, n, hd⟩ ⟨o2, ho2, hc2, n2, hd2⟩ hu (fun j h1 h2 => ?_) (fun j h1 h2 _ => ?_) prog w E Q ?_
  · obtain ⟨t, e1⟩ := at1 j h1
    obtain ⟨t2, e2⟩ := at2 j h2
    rw [e1, e2]
    exact SeqAt.EqAt.int_int _ _ _ _
  · obtain ⟨t, e1⟩ := at1 j h1
    obtain ⟨t2, e2⟩ := at2 j h2
    rw [e1, e2]
    exact fun prog w E Q h => HT.rcLt_int _ _ _ _ _ _ prog w E Q h
  · have e := first_lex ns ms 0 its.size its2.size (fun j => ns.getD j 0 == ms.getD j 0) (fun j => decide (ns.getD j 0 < ms.getD j 0)) (fun j _ => by rw [Nat.zero_add]; exact ⟨rfl, rfl⟩) (by omega)
    rw [← List.range_eq_range', ← l1, ← l2] at e
    rw [e]
    exact h
end
section
variable {X : Cx}
def minP (p0 : V × List Int) (ps : List (V × List Int)) : V × List Int := ps.foldl (fun b y => if HT.lexLt y.2 b.2 = true then y else b) p0
def minT (l : List Int) (ls : List (List Int)) : List Int := ls.foldl (fun b y => if HT.lexLt y b = true then y else b) l
theorem minP_ok : ∀ (ps : List (V × List Int)) (p0 : V × List Int), (minP p0 ps).2 = minT p0.2 (ps.map (·.2)) ∧ minP p0 ps ∈ p0 :: ps
  | [], p0 => ⟨rfl, List.mem_cons_self⟩
  | p :: ps, p0 => by
    unfold minP minT
    rw [List.map_cons, List.foldl_cons, List.foldl_cons]
    by_cases h : HT.lexLt p.2 p0.2 = true
    · rw [if_pos h, if_pos h]
      obtain ⟨i1, i2⟩ := minP_ok ps p
      exact ⟨i1, List.mem_cons_of_mem _ i2⟩
    · rw [if_neg h, if_neg h]
      obtain ⟨i1, i2⟩ := minP_ok ps p0
      refine ⟨i1, ?_⟩
      rcases List.mem_cons.mp i2 with e | e
      · unfold minP at e; rw [e]; exact List.mem_cons_self
      · exact List.mem_cons_of_mem _ (List.mem_cons_of_mem _ e)
def rMinT (K : PySem.W.Frag) : List V → Hp → VK → Prop := fun vs H Q => ∃ (a : Addr) (p0 : V × List Int) (ps : List (V × List Int)), vs = [V.ref a] ∧ SqL K H a ((p0 :: ps).map (·.1)) ∧ TIs K H (p0 :: ps) ∧ Q (minP p0 ps).1 H
theorem cr_minT (hc : X.calm = true) (hu : X.A.units + 2 < cLine) : CallR X (.builtin "min") (rMinT X.K) := by
  intro pins s σ H vs us Q I r h
  obtain ⟨a, p0, ps, rfl, hs, hT, q⟩ := h
  obtain ⟨its, rv, hl, hz⟩ := I.list hs
  rw [Vals.ref1 r]
  obtain ⟨e1, e2⟩ := ps_back I hT rv
  have hlen : its.length = ps.length + 1 := by have := congrArg List.length e1; simpa using this.symm
  have atv : ∀ (i : Nat) (v : Value), its.toArray[i]? = some v → v ∈ its ∧ (p0 :: ps).getD i (V.non, []) = (backV v, kv s.heap v) := fun i v hv => by
    have hv : its[i]? = some v := by simpa using hv
    refine ⟨List.mem_of_getElem? hv, ?_⟩
    rw [e1, List.getD_eq_getElem?_getD, List.getElem?_map, hv]; rfl
  refine call_min_walkH (iter_listW (A := X.A.in1) (I.ok.hd hc) hl.isList fun s₂ e W st hfp hw hk => ?_)
  refine ⟨_, _, _, _, _, _, _, s.heap, (fun i j => HT.lexLt ((p0 :: ps).getD i (V.non, [])).2 ((p0 :: ps).getD j (V.non, [])).2), rfl, W, st, hfp, by rw [List.size_toArray]; omega, hw, hk, fun i j vi vj s' Q' E' hk' hi hj hq => ?_, fun v s' hP m => ?_⟩
  · obtain ⟨m1, g1⟩ := atv i vi hi
    obtain ⟨m2, g2⟩ := atv j vj hj
    dsimp only at hq
    rw [g1, g2] at hq
    exact lt_TI (by show X.A.units + 1 < cLine; omega) ((e2 vi m1).2.1.keeps fun b o e _ => hk' b o e) ((e2 vj m2).2.1.keeps fun b o e _ => hk' b o e) hq
  · obtain ⟨h', tk, rfl, hk'⟩ := moved_old e rfl m
    obtain ⟨m1, g1⟩ := atv _ v hP
    have en : its.toArray.size - 1 = ps.length := by rw [List.size_toArray]; omega
    have ef := (argBest_fold (fun (p q : V × List Int) => HT.lexLt p.2 q.2) (V.non, []) p0 ps ps.length (Nat.le_refl _)).2
    rw [List.take_length] at ef
    rw [en] at g1
    rw [g1] at ef
    have eq : (minP p0 ps).1 = backV v := congrArg Prod.fst ef.symm
    rw [eq] at q
    obtain ⟨b, rfl⟩ := (e2 v m1).1
    exact ⟨.ref b, H, I.kept hk', rfl, q⟩
end
/-! as a value -/
def minTD : List Da → Option EV
  | [.list xs] => (tis? xs).bind fun ls => match ls with
    | [] => none
    | l :: ls => some (.d (.tuple ((minT l ls).map PyData.int)))
  | _ => none
def minE (vs : List Da) : Option EV := match minD vs with
  | some z => some z
  | none => minTD vs
theorem c_minE {X : Cx} (hc : X.calm = true) (hu : X.A.units + 64 < cLine) : CallV X (.builtin "min") minE := by
  obtain ⟨r2, h2, w2⟩ := c_min (X := X) hc
  refine ⟨_, CallR.or h2 (cr_minT hc (by omega)), fun O H xs vs z Q hd R e q => ?_⟩
  unfold minE at e
  split at e
  · rename_i z' e1
    cases e
    exact .inl (w2 O H xs vs z Q hd R e1 q)
  · match xs, e, R with
    | [.list xs], e, R =>
      obtain ⟨ls, e2, e3⟩ := Option.bind_eq_some_iff.mp (show (tis? xs).bind _ = some z from e)
      obtain ⟨v, rfl, r⟩ := R.one
      obtain ⟨a, vs, rfl, h, r⟩ := r.list
      obtain ⟨ps, rfl, rfl, h1, h2⟩ := tis_ps e2 r
      cases ps with
      | nil => cases e3
      | cons p0 ps =>
        cases e3
        obtain ⟨i1, i2⟩ := minP_ok ps p0
        refine .inr ⟨a, p0, ps, rfl, .of h, h1, ?_⟩
        have R2 := h2 _ i2
        rw [i1] at R2
        exact q _ H (Same.refl H) R2
end VL
set_option Elab.async false
set_option linter.all false
set_option maxRecDepth 100000
set_option maxHeartbeats 0
/-! max, min of a tuple of ints -/
namespace VL
open PySem PySem.Spec PyProof.Rows L2 SeqAt PySem.W
section
variable {X : Cx}
def rMaxTI (K : PySem.W.Frag) : List V → Hp → VK → Prop := fun vs H Q => ∃ (a : Addr) (ns : List Int), vs = [V.ref a] ∧ SqT K H a (ns.map V.int) ∧ 0 < ns.length ∧ ∀ m, m ∈ ns → (∀ y, y ∈ ns → y ≤ m) → Q (.int m) H
def rMinTI (K : PySem.W.Frag) : List V → Hp → VK → Prop := fun vs H Q => ∃ (a : Addr) (ns : List Int), vs = [V.ref a] ∧ SqT K H a (ns.map V.int) ∧ 0 < ns.length ∧ ∀ m, m ∈ ns → (∀ y, y ∈ ns → m ≤ y) → Q (.int m) H
end
/-! as values -/
def maxTI : List Da → Option EV
  | [.tuple xs] => (ints? xs).bind fun ns => match ns with
    | [] => none
    | n :: ns => some (.d (.int (maxI n ns)))
  | _ => none
def minTI : List Da → Option EV
  | [.tuple xs] => (ints? xs).bind fun ns => match ns with
    | [] => none
    | n :: ns => some (.d (.int (minI n ns)))
  | _ => none
def maxE (vs : List Da) : Option EV := match maxD vs with
  | some z => some z
  | none => maxTI vs
def minX (vs : List Da) : Option EV := match minE vs with
  | some z => some z
  | none => minTI vs
end VL
set_option Elab.async false
set_option linter.all false
set_option maxRecDepth 100000
set_option maxHeartbeats 0
/-! try: body, except C [as e]: return (word, e.f ..), as a statement -/
namespace VL
open PySem PySem.Spec PyProof.Rows L2 LamX NdefX PySem.Calls
def vTryR (cl : List (Str × Str × List Str)) (g : VM Ctl) : VM Ctl := fun s => match g s with
  | .ok r => .ok r
  | .error (.exc C fs s') => match hearD cl C fs with
    | some v => .ok (.rt (.d v), s')
    | none => .error .stuck
  | .error .stuck => .error .stuck
theorem vs_try {Tb : List (Addr × Str)} {X : Cx} {W : WX} {k : Nat} {L : List HcT} {cl : List (Str × Str × List Str)} {body : List Stmt} {hd : ExceptHandler} {hds : List ExceptHandler} {g : VM Ctl} {pos : Pos} (c : VC X W k) (hcl : ClPs X X.N X.env.scope (hd :: hds) L) (ap : ExApart X.K L) (hL : HcL X.mg cl L)
    (hb : ∀ (pn : List (Addr × Obj)) (xe : Value → Shared → Prop) (W' : WX), VC (X.tr pn xe) W' k → VSs Tb (X.tr pn xe) W' body g) (hs : X.stack = X.env :: X.outer := by rfl) (hf : X.env.frame = some X.env.locals := by rfl) :
    VSt Tb X W (.Try body (hd :: hds) [] [] pos) (vTryR cl g) := by
  obtain ⟨l, hok, hw⟩ := cls_all hcl
  refine PS.wk (ps_try_cl (X := X) (tb := fun W' => tVS Tb X.K X.mg (fun cls d σ' H' => σ'.length = X.N.length → W' cls d σ' H') g) (Wout := W) hs hf c.nd c.tk
    (fun W' pn xe tk => hb pn xe _ ⟨c.calm, c.nd, takes_len tk, c.rm⟩) (hok X rfl rfl rfl rfl)) fun D σ H h => ?_
  obtain ⟨O, st, F, h⟩ := h
  refine ⟨O, st, F, ?_⟩
  unfold vTryR at h
  cases e : g st with
  | ok r =>
    obtain ⟨r, s'⟩ := r
    rw [e] at h
    exact h
  | error er =>
    rw [e] at h
    cases er with
    | stuck => exact h.elim
    | exc C fs s' =>
      dsimp only at h
      cases eh : hearD cl C fs with
      | none => rw [eh] at h; exact h.elim
      | some v =>
        rw [eh] at h
        obtain ⟨CS, w, fl, vs, hm, hmem, el, rfl⟩ := hearD_some hL eh
        intro Ca d σ' H2 ws hmC S hd2 hr2 he2 hlen
        rw [hm] at hmC
        cases hmC
        obtain ⟨us, eu, Ru⟩ := lks_rel he2 hr2 el
        refine hw W D (CS, w, fl) σ' H2 d ws us hmem ap hlen hd2 eu fun p hp => ?_
        have R : RpL X.K (Av O s' σ') H2 (.str w :: vs) (V.str w :: us) := .cons (by simp only [Rp]) Ru
        exact h _ σ' _ (S.trans (Step.ext S.fr (Same.upd hp))) ((NR.er S.fr (Same.upd hp) (NR.tup S.fr.avdom R hp)).back S.dom)
end VL
set_option Elab.async false
set_option linter.all false
set_option maxRecDepth 100000
/-! running a mirror, step by step -/
namespace VL
open PySem PySem.Spec PyProof.Rows L2
section
variable {α β : Type} {s s1 s2 : VS} {x y z : Da} {i j : Int} {k n : Nat} {c : OC} {f : VM EV} {fs : VM (List EV)} {g : VM Ctl} {r : EV} {rs : List EV} {e : Err} {b : Bool}
def bnd (r : Res (α × VS)) (g : α → VM β) : Res (β × VS) := match r with
  | .ok (a, s) => g a s
  | .error e => .error e
theorem m_vb {f : VM α} {g : α → VM β} : vb f g s = bnd (f s) g := rfl
theorem bnd_ok {a : α} {g : α → VM β} : bnd (.ok (a, s)) g = g a s := rfl
theorem bnd_er {g : α → VM β} : bnd (.error e) g = .error e := rfl
theorem m_vr {a : α} : vr a s = .ok (a, s) := rfl
theorem m_stuck : (vStuck : VM α) s = .error .stuck := rfl
def bS (r : Res (Ctl × VS)) (g : VM Ctl) : Res (Ctl × VS) := match r with
  | .ok (.nx, s) => g s
  | r => r
theorem m_seq {f g : VM Ctl} : vSeq f g s = bS (f s) g := by
  unfold vSeq vb bS
  cases f s with
  | ok p => obtain ⟨c, s1⟩ := p; cases c <;> rfl
  | error e => rfl
theorem bS_nx : bS (.ok (.nx, s)) g = g s := rfl
theorem bS_bk : bS (.ok (.bk, s)) g = .ok (.bk, s) := rfl
theorem bS_ct : bS (.ok (.ct, s)) g = .ok (.ct, s) := rfl
theorem bS_rt : bS (.ok (.rt r, s)) g = .ok (.rt r, s) := rfl
theorem bS_er : bS (.error e) g = .error e := rfl
def bI (r : Res (Bool × VS)) (a b : VM α) : Res (α × VS) := match r with
  | .ok (true, s) => a s
  | .ok (false, s) => b s
  | .error e => .error e
theorem m_if {c : VM Bool} {a b : VM Ctl} : vIf c a b s = bI (c s) a b := by
  unfold vIf vb bI
  cases c s with
  | ok p => obtain ⟨k, s1⟩ := p; cases k <;> rfl
  | error e => rfl
theorem m_ite {c : VM Bool} {a b : VM EV} : vIte c a b s = bI (c s) a b := by
  unfold vIte vb bI
  cases c s with
  | ok p => obtain ⟨k, s1⟩ := p; cases k <;> rfl
  | error e => rfl
theorem bI_t {a b : VM α} : bI (.ok (true, s)) a b = a s := rfl
theorem bI_f {a b : VM α} : bI (.ok (false, s)) a b = b s := rfl
theorem bI_er {a b : VM α} : bI (.error e) a b = .error e := rfl
theorem m_and {c d : VM Bool} : vAnd c d s = bI (c s) d (vr false) := by
  unfold vAnd vb bI
  cases c s with
  | ok p => obtain ⟨k, s1⟩ := p; cases k <;> rfl
  | error e => rfl
theorem m_or {c d : VM Bool} : vOr c d s = bI (c s) (vr true) d := by
  unfold vOr vb bI
  cases c s with
  | ok p => obtain ⟨k, s1⟩ := p; cases k <;> rfl
  | error e => rfl
theorem m_not {c : VM Bool} : vNot c s = bnd (c s) fun k => vr (!k) := rfl
theorem m_bool : vBool f s = bnd (f s) fun r => vOpt (evB r) := rfl
theorem evB_b : evB (.d (.bool b)) = some b := rfl
theorem m_opt {a : α} : vOpt (some a) s = .ok (a, s) := rfl
theorem m_optn : vOpt (none : Option α) s = .error .stuck := rfl
theorem m_tru : vTru f s = bnd (f s) fun r => vb (vRd r) fun x => vOpt (truD x) := rfl
theorem tru_b : truD (.bool b) = some b := rfl
theorem tru_i : truD (.int i) = some (i != 0) := rfl
theorem tru_n : truD .none = some false := rfl
theorem tru_l {xs : List Da} : truD (.list xs) = some (!xs.isEmpty) := rfl
theorem tru_t {xs : List Da} : truD (.tuple xs) = some (!xs.isEmpty) := rfl
/-! names, constants -/
def varR (i : Nat) (s : VS) : Option SV → Res (EV × VS)
  | some (.d x) => .ok (.d x, s)
  | some (.own _) => .ok (.loan i, s)
  | some (.io _) => .ok (.loan i, s)
  | some (.lk _) => .ok (.loan i, s)
  | some (.rd _) => .ok (.loan i, s)
  | _ => .error .stuck
theorem m_var : vVar k s = varR k s s[k]? := by
  unfold vVar varR
  cases s[k]? with
  | none => rfl
  | some v => cases v <;> rfl
theorem var_d : varR k s (some (.d x)) = .ok (.d x, s) := rfl
theorem var_own : varR k s (some (.own c)) = .ok (.loan k, s) := rfl
theorem var_io : varR k s (some (.io c)) = .ok (.loan k, s) := rfl
theorem var_lk : varR k s (some (.lk c)) = .ok (.loan k, s) := rfl
theorem var_rd {xs : List Da} : varR k s (some (.rd xs)) = .ok (.loan k, s) := rfl
theorem m_c : vC x s = .ok (.d x, s) := rfl
theorem st_d : VL.settle (.d x) = .d x := rfl
theorem st_o : VL.settle (.own c) = .d c.data := rfl
theorem st_l : VL.settle (.loan k) = .loan k := rfl
theorem oc_l {xs : List Da} : OC.data (.l xs) = .list xs := rfl
theorem oc_m {xs : List (Da × Da)} : OC.data (.m xs) = .dict xs := rfl
def rdR (s : VS) : Option SV → Res (Da × VS)
  | some (.own c) => .ok (c.data, s)
  | some (.io c) => .ok (c.data, s)
  | some (.lk c) => .ok (c.data, s)
  | _ => .error .stuck
theorem rd_d : vRd (.d x) s = .ok (x, s) := rfl
theorem rd_o : vRd (.own c) s = .ok (c.data, s) := rfl
theorem rd_l : vRd (.loan k) s = rdR s s[k]? := by
  unfold vRd rdR
  dsimp only
  all_goals rcases s[k]? with _ | v
  all_goals first | rfl | (cases v <;> first | rfl | (rename_i c; cases c <;> rfl))
theorem rdR_own : rdR s (some (.own c)) = .ok (c.data, s) := rfl
theorem rdR_io : rdR s (some (.io c)) = .ok (c.data, s) := rfl
theorem rdR_lk : rdR s (some (.lk c)) = .ok (c.data, s) := rfl
/-! operators -/
theorem m_bin {g : Da → Da → Option EV} {fa fb : VM EV} : vBin g fa fb s = bnd (fa s) fun ra => vb fb fun rb => vb (vRd (VL.settle ra)) fun x => vb (vRd rb) fun y => vOpt (g x y) := rfl
theorem m_un {g : Da → Option EV} {fa : VM EV} : vUn g fa s = bnd (fa s) fun ra => vb (vRd ra) fun x => vOpt (g x) := rfl
theorem m_call {g : List Da → Option EV} : vCall g fs s = bnd (fs s) fun rs => vb (vRds rs) fun xs => vOpt (g xs) := rfl
theorem m_rdn : vRds [] s = .ok ([], s) := rfl
theorem m_rdc : vRds (r :: rs) s = bnd (vRd r s) fun x => vb (vRds rs) fun xs => vr (x :: xs) := rfl
theorem m_cons : vCons f fs s = bnd (f s) fun r => vb fs fun rs => vr (VL.settle r :: rs) := rfl
theorem m_conss : vConsS f fs s = bnd (f s) fun r => vb (vRd r) fun x => vb (vOpt (seqD x)) fun xs => vb fs fun rs => vr (xs.map .d ++ rs) := rfl
theorem m_tup : vTuple fs s = bnd (fs s) fun rs => vb (vOpt (dts rs)) fun xs => if xs.length ≤ 16777216 then vr (.d (.tuple xs)) else vStuck := rfl
theorem m_lst : vList fs s = bnd (fs s) fun rs => vb (vOpt (dts rs)) fun xs => if xs.length ≤ 16777216 then vr (.own (.l xs)) else vStuck := rfl
theorem dts_n : dts [] = some [] := rfl
theorem dts_c : dts (.d x :: rs) = (dts rs).map (x :: ·) := rfl
theorem o_map {γ : Type} {a : α} {h : α → γ} : Option.map h (some a) = some (h a) := rfl
theorem o_bind {γ : Type} {a : α} {h : α → Option γ} : Option.bind (some a) h = h a := rfl
theorem add_i : addD (.int i) (.int j) = some (.d (.int (i + j))) := rfl
theorem sub_i : subD (.int i) (.int j) = some (.d (.int (i - j))) := rfl
theorem mul_i : mulD (.int i) (.int j) = if i.natAbs.log2 + j.natAbs.log2 < 1000000 then some (.d (.int (i * j))) else none := rfl
theorem mod_i : modD (.int i) (.int j) = if 0 < j then some (.d (.int (i % j))) else none := rfl
theorem fdiv_i : fdivD (.int i) (.int j) = if 0 < j ∧ j.natAbs.log2 < 9000 then some (.d (.int (i / j))) else none := rfl
theorem pow_i : powD (.int i) (.int j) = if 0 ≤ j ∧ j ≤ 1000000 ∧ i.natAbs < 2 ^ 64 then some (.d (.int (i ^ j.toNat))) else none := rfl
theorem neg_i : negD (.int i) = some (.d (.int (-i))) := rfl
theorem iadd_i : iaddD (.int i) (.int j) = some (.d (.int (i + j))) := rfl
theorem abs_i : absD [.int i] = some (.d (.int (if i < 0 then -i else i))) := rfl
theorem int_i : toIntD [.int i] = some (.d (.int i)) := rfl
theorem int_b : toIntD [.bool b] = some (.d (.int (if b then 1 else 0))) := rfl
theorem len_l {xs : List Da} : lenD [.list xs] = some (.d (.int xs.length)) := rfl
theorem len_t {xs : List Da} : lenD [.tuple xs] = some (.d (.int xs.length)) := rfl
theorem add_l {xs ys : List Da} : addD (.list xs) (.list ys) = if xs.length + ys.length ≤ 16777216 then some (.own (.l (xs ++ ys))) else none := rfl
theorem add_t {xs ys : List Da} : addD (.tuple xs) (.tuple ys) = if xs.length + ys.length ≤ 16777216 then some (.d (.tuple (xs ++ ys))) else none := rfl
theorem lt_i : ltD (.int i) (.int j) = some (.d (.bool (decide (i < j)))) := rfl
theorem le_i : leD (.int i) (.int j) = some (.d (.bool (decide (i ≤ j)))) := rfl
theorem gt_i : gtD (.int i) (.int j) = some (.d (.bool (decide (j < i)))) := rfl
theorem ge_i : geD (.int i) (.int j) = some (.d (.bool (decide (j ≤ i)))) := rfl
theorem eq_i : eqD (.int i) (.int j) = some (.d (.bool (decide (i = j)))) := by
  show (if SeqAt.shaped (.int i) = true ∧ SeqAt.shaped (.int j) = true then some (EV.d (.bool (PyData.eqv (.int i) (.int j)))) else none) = _
  rw [if_pos ⟨rfl, rfl⟩]
  congr 3
theorem ne_i : neD (.int i) (.int j) = some (.d (.bool (!decide (i = j)))) := by
  show (if SeqAt.shaped (.int i) = true ∧ SeqAt.shaped (.int j) = true then some (EV.d (.bool (!PyData.eqv (.int i) (.int j)))) else none) = _
  rw [if_pos ⟨rfl, rfl⟩]
  congr 4
theorem eqF_i : eqF (.int i) (.int j) = some (.d (.bool (decide (i = j)))) := rfl
theorem neF_i : neF (.int i) (.int j) = some (.d (.bool (!decide (i = j)))) := rfl
theorem tuple_l {xs : List Da} : tupleD [.list xs] = some (.d (.tuple xs)) := rfl
theorem tuple_t {xs : List Da} : tupleD [.tuple xs] = some (.d (.tuple xs)) := rfl
theorem list_l {xs : List Da} : listD [.list xs] = some (.own (.l xs)) := rfl
theorem list_t {xs : List Da} : listD [.tuple xs] = some (.own (.l xs)) := rfl
theorem ix_l {xs : List Da} : ixD (.list xs) (.int i) = (atI xs i).map .d := rfl
theorem ix_t {xs : List Da} : ixD (.tuple xs) (.int i) = (atI xs i).map .d := rfl
theorem at_nat {xs : List Da} (h : 0 ≤ i) : atI xs i = xs[i.toNat]? := by
  unfold atI ixN
  rw [if_pos h]
  by_cases hi : i < xs.length
  · rw [if_pos hi]; rfl
  · rw [if_neg hi, List.getElem?_eq_none (by omega)]; rfl
/-! statements -/
theorem m_ret : vRet f s = bnd (f s) fun r => vr (.rt r) := rfl
theorem m_drop : vDrop f s = bnd (f s) fun _ => vNx := rfl
theorem m_nx : vNx s = .ok (.nx, s) := rfl
theorem m_asg {g : EV → VM Unit} : vAsg f g s = bnd (f s) fun r => vb (vNoX (g r)) fun _ => vNx := rfl
def nxR (r : Res (α × VS)) : Res (α × VS) := match r with
  | .ok p => .ok p
  | .error _ => .error .stuck
theorem m_nox {f : VM α} : vNoX f s = nxR (f s) := by
  unfold vNoX nxR
  cases f s <;> rfl
theorem nx_ok {p : α × VS} : nxR (.ok p) = .ok p := rfl
theorem set_d : vSet k (.d x) s = if wrOk s[k]? = true then .ok ((), s.set k (.d x)) else .error .stuck := rfl
theorem set_o : vSet k (.own c) s = if wrOk s[k]? = true then .ok ((), s.set k (.own c)) else .error .stuck := rfl
theorem setD_ : vSetD k x s = if wrOk s[k]? = true then .ok ((), s.set k (.d x)) else .error .stuck := rfl
theorem wr_un : wrOk (some .un) = true := rfl
theorem wr_d : wrOk (some (.d x)) = true := rfl
theorem wr_o : wrOk (some (.own c)) = true := rfl
theorem wr_rd {xs : List Da} : wrOk (some (.rd xs)) = true := rfl
theorem m_aug {g : Da → Da → Option EV} : vAug k g f s = bnd (vVar k s) fun r0 => vb f fun r => vb (vRd r0) fun x => vb (vRd r) fun y => vb (vOpt (g x y)) fun z => vb (vNoX (vSet k z)) fun _ => vNx := rfl
theorem m_asgD {g : Da → VM Unit} : vAsgD f g s = bnd (f s) fun r => vb (vOpt (evD r)) fun x => vb (vNoX (g x)) fun _ => vNx := rfl
theorem evD_d : evD (.d x) = some x := rfl
theorem evD_o : evD (.own c) = some c.data := rfl
theorem m_frzn {g : VM α} : vFrz [] g s = g s := rfl
theorem m_frzc {k : Nat} {is : List Nat} {g : VM α} : vFrz (k :: is) g s = vFrz is g (frz1 k s) := rfl
def frzR (k : Nat) (s : VS) : Option SV → VS
  | some (.own c) => s.set k (.d c.data)
  | _ => s
theorem m_frz1 : frz1 k s = frzR k s s[k]? := by
  unfold frz1 frzR
  cases s[k]? with
  | none => rfl
  | some v => cases v <;> rfl
theorem fz_d : frzR k s (some (.d x)) = s := rfl
theorem fz_un : frzR k s (some .un) = s := rfl
theorem fz_io : frzR k s (some (.io c)) = s := rfl
theorem fz_lk : frzR k s (some (.lk c)) = s := rfl
theorem fz_rd {xs : List Da} : frzR k s (some (.rd xs)) = s := rfl
theorem fz_o : frzR k s (some (.own c)) = s.set k (.d c.data) := rfl
theorem m_sub {fo fi : VM EV} : vSub fo fi x s = bnd (fo s) fun ro => vb fi fun ri => vb (vRd ri) fun i => vb (vApp setD ro [i, x]) fun _ => vr () := rfl
theorem m_augS {g : Da → Da → Option EV} {fo fi fe : VM EV} : vAugS g fo fi fe s = bnd (fo s) fun ro => vb fi fun ri => vb (vRd ri) fun i => vb (vOpt (intD i)) fun k => vb (vCt ro) fun xs => vb (vOpt (atI xs k)) fun old => vb fe fun re => vb (vRd re) fun y =>
  vb (vOpt ((g old y).bind evD)) fun new => vb (vApp setD ro [.int k, new]) fun _ => vNx := rfl
def apR (k : Nat) (g : List Da → List Da → Option (List Da × Da)) (as : List Da) (s : VS) : Option SV → Res (EV × VS)
  | some (.own (.l xs)) => match g xs as with
    | some (ys, z) => .ok (.d z, s.set k (.own (.l ys)))
    | none => .error .stuck
  | some (.io (.l xs)) => match g xs as with
    | some (ys, z) => .ok (.d z, s.set k (.io (.l ys)))
    | none => .error .stuck
  | _ => .error .stuck
theorem m_app {g : List Da → List Da → Option (List Da × Da)} {as : List Da} : vApp g (.loan k) as s = apR k g as s s[k]? := by
  unfold vApp mutL apR putC
  dsimp only
  cases h : s[k]? with
  | none => rfl
  | some v =>
    cases v with
    | own c => cases c with
      | l xs =>
        dsimp only
        cases g xs as with
        | none => rfl
        | some q => obtain ⟨ys, z⟩ := q; dsimp only; rw [h]
      | m _ => rfl
    | io c => cases c with
      | l xs =>
        dsimp only
        cases g xs as with
        | none => rfl
        | some q => obtain ⟨ys, z⟩ := q; dsimp only; rw [h]
      | m _ => rfl
    | _ => rfl
theorem ap_o {g : List Da → List Da → Option (List Da × Da)} {as xs : List Da} : apR k g as s (some (.own (.l xs))) = match g xs as with
    | some (ys, z) => .ok (.d z, s.set k (.own (.l ys)))
    | none => .error .stuck := rfl
theorem ap_io {g : List Da → List Da → Option (List Da × Da)} {as xs : List Da} : apR k g as s (some (.io (.l xs))) = match g xs as with
    | some (ys, z) => .ok (.d z, s.set k (.io (.l ys)))
    | none => .error .stuck := rfl
def ctR (s : VS) : Option SV → Res (List Da × VS)
  | some (.own (.l xs)) => .ok (xs, s)
  | some (.io (.l xs)) => .ok (xs, s)
  | _ => .error .stuck
theorem m_ct : vCt (.loan k) s = ctR s s[k]? := by
  unfold vCt mutL ctR
  dsimp only
  cases s[k]? with
  | none => rfl
  | some v =>
    cases v with
    | own c => cases c <;> rfl
    | io c => cases c <;> rfl
    | _ => rfl
theorem ct_o {xs : List Da} : ctR s (some (.own (.l xs))) = .ok (xs, s) := rfl
theorem ct_io {xs : List Da} : ctR s (some (.io (.l xs))) = .ok (xs, s) := rfl
def isR (s : VS) : Option SV → Res (Unit × VS)
  | some (.own (.l xs)) => .ok ((), s)
  | some (.io (.l xs)) => .ok ((), s)
  | _ => .error .stuck
theorem m_isl : vIsL (.loan k) s = isR s s[k]? := by
  unfold vIsL isR
  cases h : s[k]? with
  | none => simp [mutL, h]
  | some v =>
    cases v with
    | own c => cases c <;> simp [mutL, h]
    | io c => cases c <;> simp [mutL, h]
    | _ => simp [mutL, h]
theorem is_o {xs : List Da} : isR s (some (.own (.l xs))) = .ok ((), s) := rfl
theorem is_io {xs : List Da} : isR s (some (.io (.l xs))) = .ok ((), s) := rfl
theorem m_mut {g : List Da → List Da → Option (List Da × Da)} {fo : VM EV} : vMut g fo fs s = bnd (fo s) fun ro => vb (vIsL ro) fun _ => vb fs fun rs => vb (vOpt (dts rs)) fun as => vApp g ro as := rfl
theorem m_mutB {g : List Da → List Da → Option (List Da × Da)} {fo : VM EV} : vMutB g fo fs s = bnd (fo s) fun ro => vb (vIsL ro) fun _ => vb fs fun rs => vb (vRds rs) fun as => vApp g ro as := rfl
theorem m_mut0 {g : List Da → List Da → Option (List Da × Da)} {fo : VM EV} : vMut0 g fo s = bnd (fo s) fun ro => vb (vIsL ro) fun _ => vApp g ro [] := rfl
theorem setD_i {xs : List Da} (h : 0 ≤ i) (h2 : i < xs.length) : setD xs [.int i, x] = some (xs.set i.toNat x, .none) := by
  show (ixN xs.length i).map _ = _
  unfold ixN
  rw [if_pos h, if_pos h2]; rfl
theorem intD_i : intD (.int i) = some i := rfl
/-! slices -/
theorem m_sl {fe : VM EV} {lo hi : VM (Option Int)} : vSl fe lo hi s = bnd (fe s) fun r => vb lo fun l => vb hi fun h => vb (vRdS (VL.settle r)) fun x => vOpt (slD x l h) := rfl
theorem m_pn : vPart none s = .ok (none, s) := rfl
theorem m_ps : vPart (some f) s = bnd (f s) fun r => match r with
    | .d (.int i) => vr (some i)
    | _ => vStuck := rfl
theorem rs_d : vRdS (.d x) s = .ok (x, s) := rfl
def rsR (k : Nat) (s : VS) : Option SV → Res (Da × VS)
  | some (.rd xs) => .ok (.list xs, s)
  | o => rdR s o
theorem rs_l : vRdS (.loan k) s = rsR k s s[k]? := by
  unfold vRdS rsR
  dsimp only
  rw [rd_l]
  cases s[k]? with
  | none => rfl
  | some v => cases v <;> rfl
theorem rsR_rd {xs : List Da} : rsR k s (some (.rd xs)) = .ok (.list xs, s) := rfl
theorem rsR_o : rsR k s (some (.own c)) = .ok (c.data, s) := rfl
theorem rsR_io : rsR k s (some (.io c)) = .ok (c.data, s) := rfl
theorem sl_l {xs : List Da} {lo hi : Option Int} : slD (.list xs) lo hi = some (.own (.l (cutD xs lo hi))) := rfl
theorem sl_t {xs : List Da} {lo hi : Option Int} : slD (.tuple xs) lo hi = some (.d (.tuple (cutD xs lo hi))) := rfl
/-! calls -/
theorem m_callF {m : FM} : vCallF m fs s = bnd (fs s) fun rs => callF m rs := rfl
def argR : List EV → VS → Option VS := fun rs s => argSV s rs
theorem arg_n : argSV s [] = some [] := rfl
theorem arg_c : argSV s (r :: rs) = (argSV1 s r).bind fun a => (argSV s rs).map (a :: ·) := rfl
theorem arg_d : argSV1 s (.d x) = some (.d x) := rfl
def arR : Option SV → Option SV
  | some (.own c) => some (.io c)
  | some (.io c) => some (.io c)
  | some (.lk c) => some (.lk c)
  | some (.rd xs) => some (.rd xs)
  | _ => none
theorem arg_l : argSV1 s (.loan k) = arR s[k]? := by
  unfold argSV1 arR
  dsimp only
  all_goals rcases s[k]? with _ | v
  all_goals first | rfl | (cases v <;> first | rfl | (rename_i c; cases c <;> rfl))
theorem ar_o : arR (some (.own c)) = some (.io c) := rfl
theorem ar_io : arR (some (.io c)) = some (.io c) := rfl
theorem ar_lk : arR (some (.lk c)) = some (.lk c) := rfl
theorem ar_rd {xs : List Da} : arR (some (.rd xs)) = some (.rd xs) := rfl
theorem callF_ok {m : FM} {st0 o : VS} {r : EV} (nd : (loans rs).Nodup) (ha : argSV s rs = some st0) (hm : m st0 = .ok (r, o)) (hr : ∀ i, r ≠ .loan i) : callF m rs s = .ok (r, putOuts rs o s) := by
  unfold callF
  rw [if_pos nd, ha]
  dsimp only
  rw [hm]
  cases r with
  | loan i => exact absurd rfl (hr i)
  | d x => rfl
  | own c => rfl
theorem put_n {o : VS} : putOuts [] o s = s := by unfold putOuts; cases o <;> rfl
theorem put_d {o : VS} {v : SV} : putOuts (.d x :: rs) (v :: o) s = putOuts rs o s := by
  rw [putOuts]
  intro i c h; cases h
theorem put_io {o : VS} : putOuts (.loan k :: rs) (.io c :: o) s = putOuts rs o (putC k c s) := rfl
def ptR (k : Nat) (c : OC) (s : VS) : Option SV → VS
  | some (.own _) => s.set k (.own c)
  | some (.io _) => s.set k (.io c)
  | _ => s
theorem m_put : putC k c s = ptR k c s s[k]? := by
  unfold putC ptR
  cases s[k]? with
  | none => rfl
  | some v => cases v <;> rfl
theorem pt_o {c' : OC} : ptR k c s (some (.own c')) = s.set k (.own c) := rfl
theorem pt_io {c' : OC} : ptR k c s (some (.io c')) = s.set k (.io c) := rfl
/-- the run of a def -/
theorem run_ok {N : Nat} {g : VM Ctl} {st0 : VS} {c : Ctl} {s : VS} {r : EV} (h : g (st0 ++ List.replicate (N - st0.length) .un) = .ok (c, s)) (hr : retV c s = some r) : runF N g st0 = .ok (r, outs st0 s) := by
  unfold runF
  rw [h]
  dsimp only
  rw [hr]
end
end VL
set_option Elab.async false
set_option linter.all false
set_option maxRecDepth 100000
/-! loops and comprehensions of a mirror -/
namespace VL
open PySem PySem.Spec PyProof.Rows L2
section
variable {α β : Type} {s s1 s2 s3 : VS} {x y z : Da} {i j : Int} {k n : Nat} {c : OC} {f te : VM EV} {fs : VM (List EV)} {g : VM Ctl} {r : EV} {rs : List EV} {e : Err} {b : Bool} {xs ys : List Da} {ix : List Nat} {gt : Da → VM Unit} {tt : VM Bool} {fi : VM (List Da × Lks)} {L : Lks}
/-! sources -/
theorem i_seq : vItSeq f s = bnd (f s) vSrc := rfl
theorem src_l : vSrc (.d (.list xs)) s = .ok ((xs, []), s) := rfl
theorem src_t : vSrc (.d (.tuple xs)) s = .ok ((xs, []), s) := rfl
theorem src_o : vSrc (.own (.l xs)) s = .ok ((xs, []), s) := rfl
def srR (i : Nat) (s : VS) : Option SV → Res ((List Da × Lks) × VS)
  | some (.own (.l xs)) => .ok ((xs, [(i, false)]), s.set i (.lk (.l xs)))
  | some (.io (.l xs)) => .ok ((xs, [(i, true)]), s.set i (.lk (.l xs)))
  | some (.lk (.l xs)) => .ok ((xs, []), s)
  | _ => .error .stuck
theorem src_n : vSrc (.loan k) s = srR k s s[k]? := by
  unfold vSrc srR
  dsimp only
  all_goals rcases s[k]? with _ | v
  all_goals first | rfl | (cases v <;> first | rfl | (rename_i c; cases c <;> rfl))
theorem sr_o : srR k s (some (.own (.l xs))) = .ok ((xs, [(k, false)]), s.set k (.lk (.l xs))) := rfl
theorem sr_io : srR k s (some (.io (.l xs))) = .ok ((xs, [(k, true)]), s.set k (.lk (.l xs))) := rfl
theorem sr_lk : srR k s (some (.lk (.l xs))) = .ok ((xs, []), s) := rfl
theorem i_rng : vItRng fs s = bnd (fs s) fun rs => vb (vRds rs) fun xs => vb (vOpt (rangeD xs)) fun ys => vr (ys, []) := rfl
theorem i_enum : vItEnum fs s = bnd (fs s) fun rs => match rs with
  | [r] => vb (vSrc r) fun q => vr (enumD 0 q.1, q.2)
  | _ => vStuck := rfl
theorem i_zip : vItZip fs s = bnd (fs s) fun rs => match rs with
  | [r, r2] => vb (vSrc r) fun q => vb (vSrc r2) fun q2 => vr (zipD q.1 q2.1, q.2 ++ q2.2)
  | _ => vStuck := rfl
theorem i_rev : vItRev f s = bnd (f s) fun r => vb (vSrc r) fun q => vr (q.1.reverse, q.2) := rfl
theorem unl_n : unlock [] s = s := rfl
theorem unl_c {L : Lks} : unlock ((k, b) :: L) s = unlock1 k b (unlock L s) := rfl
def ulR (k : Nat) (b : Bool) (s : VS) : Option SV → VS
  | some (.lk c) => s.set k (ownB b c)
  | _ => s
theorem unl_1 : unlock1 k b s = ulR k b s s[k]? := by
  unfold unlock1 ulR
  cases s[k]? with
  | none => rfl
  | some v => cases v <;> rfl
theorem ul_lk : ulR k b s (some (.lk c)) = s.set k (ownB b c) := rfl
theorem ob_t : ownB true c = .io c := rfl
theorem ob_f : ownB false c = .own c := rfl
/-! for -/
theorem m_for : vFor fi gt g s = bnd (fi s) fun p => fun s => match vForL gt g p.1 s with
  | .ok (c, s2) => .ok (c, unlock p.2 s2)
  | .error (.exc C fs s2) => .error (.exc C fs (unlock p.2 s2))
  | .error .stuck => .error .stuck := rfl
/-- a loop whose turns all go on -/
theorem forL_inv (R : List Da → VS → Prop) (step : ∀ x xs s, R (x :: xs) s → ∃ s1 c s2, gt x s = .ok ((), s1) ∧ g s1 = .ok (c, s2) ∧ (c = .nx ∨ c = .ct) ∧ R xs s2) :
    ∀ xs s, R xs s → ∃ s', vForL gt g xs s = .ok (.nx, s') ∧ R [] s'
  | [], s, h => ⟨s, rfl, h⟩
  | x :: xs, s, h => by
    obtain ⟨s1, c, s2, h1, h2, hc, h3⟩ := step x xs s h
    obtain ⟨s', h4, h5⟩ := forL_inv R step xs s2 h3
    refine ⟨s', ?_, h5⟩
    show vb (vNoX (gt x)) _ s = _
    rw [m_vb, m_nox, h1, nx_ok, bnd_ok, m_vb, h2, bnd_ok]
    rcases hc with rfl | rfl <;> exact h4
theorem for_inv (R : List Da → VS → Prop) (step : ∀ x xs s, R (x :: xs) s → ∃ s1 c s2, gt x s = .ok ((), s1) ∧ g s1 = .ok (c, s2) ∧ (c = .nx ∨ c = .ct) ∧ R xs s2)
    (hi : fi s = .ok ((xs, L), s1)) (h0 : R xs s1) : ∃ s', vFor fi gt g s = .ok (.nx, unlock L s') ∧ R [] s' := by
  obtain ⟨s', h1, h2⟩ := forL_inv R step xs s1 h0
  exact ⟨s', by rw [m_for, hi, bnd_ok]; dsimp only; rw [h1], h2⟩
/-! comprehensions -/
theorem lcG_inv (R : List Da → List Da → VS → Prop) (step : ∀ x xs acc s, R (x :: xs) acc s → ∃ s1 b s2, gt x s = .ok ((), s1) ∧ tt s1 = .ok (b, s2) ∧
      (b = false → ix.all (fun j => flatS s2[j]?) = true ∧ R xs acc (wipeV ix s2)) ∧ (b = true → ∃ r y s3, te s2 = .ok (r, s3) ∧ evD r = some y ∧ ix.all (fun j => flatS s3[j]?) = true ∧ R xs (acc ++ [y]) (wipeV ix s3))) :
    ∀ xs acc s, R xs acc s → ∃ ys s', vLcG ix gt tt te xs s = .ok (ys, s') ∧ R [] (acc ++ ys) s'
  | [], acc, s, h => ⟨[], s, rfl, by rw [List.append_nil]; exact h⟩
  | x :: xs, acc, s, h => by
    obtain ⟨s1, b, s2, h1, h2, hf, ht⟩ := step x xs acc s h
    cases b with
    | false =>
      obtain ⟨fl, h3⟩ := hf rfl
      obtain ⟨ys, s', h4, h5⟩ := lcG_inv R step xs acc _ h3
      refine ⟨ys, s', ?_, h5⟩
      show vb (gt x) _ s = _
      rw [m_vb, h1, bnd_ok, m_vb, h2, bnd_ok, if_neg Bool.false_ne_true, m_vb]
      unfold vWipe
      rw [if_pos fl, bnd_ok]
      exact h4
    | true =>
      obtain ⟨r, y, s3, h3, h4, fl, h5⟩ := ht rfl
      obtain ⟨ys, s', h6, h7⟩ := lcG_inv R step xs _ _ h5
      refine ⟨y :: ys, s', ?_, by rw [List.append_assoc] at h7; exact h7⟩
      show vb (gt x) _ s = _
      rw [m_vb, h1, bnd_ok, m_vb, h2, bnd_ok, if_pos rfl, m_vb, h3, bnd_ok, m_vb, h4, m_opt, bnd_ok, m_vb]
      unfold vWipe
      rw [if_pos fl, bnd_ok, m_vb, h6, bnd_ok]
      rfl
theorem lcF_of (hi : fi s = .ok ((xs, L), s1)) (fl : ix.all (fun j => flatS s1[j]?) = true) (hG : vLcG ix gt tt te xs (wipeV ix s1) = .ok (ys, s2)) (hl : ys.length ≤ 16777216) :
    vLcF ix fi gt tt te s = .ok (.own (.l ys), unlock L (restV s1 ix s2)) := by
  show vb fi _ s = _
  rw [m_vb, hi, bnd_ok]
  dsimp only
  rw [if_pos fl, hG]
  dsimp only
  rw [if_pos hl]
/-- one that changes nothing: p, h of each item -/
theorem lcG_pure {γ : Type} {enc : γ → Da} {base : VS} (p : γ → Bool) (h : γ → Da) (xs : List γ) (step : ∀ x ∈ xs, ∃ s1 s2, gt (enc x) base = .ok ((), s1) ∧ tt s1 = .ok (p x, s2) ∧
      (p x = false → ix.all (fun j => flatS s2[j]?) = true ∧ wipeV ix s2 = base) ∧ (p x = true → ∃ r s3, te s2 = .ok (r, s3) ∧ evD r = some (h x) ∧ ix.all (fun j => flatS s3[j]?) = true ∧ wipeV ix s3 = base)) :
    vLcG ix gt tt te (xs.map enc) base = .ok ((xs.filter p).map h, base) := by
  induction xs with
  | nil => rfl
  | cons x xs ih =>
    have ih := ih fun y hy => step y (List.mem_cons_of_mem _ hy)
    obtain ⟨s1, s2, h1, h2, hf, ht⟩ := step x List.mem_cons_self
    show vb (gt (enc x)) _ base = _
    cases hp : p x with
    | false =>
      obtain ⟨fl, h3⟩ := hf hp
      rw [m_vb, h1, bnd_ok, m_vb, h2, hp, bnd_ok, if_neg Bool.false_ne_true, m_vb]
      unfold vWipe
      rw [if_pos fl, bnd_ok, h3, List.filter_cons_of_neg (by rw [hp]; exact Bool.false_ne_true)]
      exact ih
    | true =>
      obtain ⟨r, s3, h3, h4, fl, h5⟩ := ht hp
      rw [m_vb, h1, bnd_ok, m_vb, h2, hp, bnd_ok, if_pos rfl, m_vb, h3, bnd_ok, m_vb, h4, m_opt, bnd_ok, m_vb]
      unfold vWipe
      rw [if_pos fl, bnd_ok, h5, m_vb, ih, bnd_ok, List.filter_cons_of_pos hp]
      rfl
theorem wp_n : wipeV [] s = s := rfl
theorem wp_c : wipeV (k :: ix) s = (wipeV ix s).set k .un := rfl
theorem rt_n {s0 : VS} : restV s0 [] s = s := rfl
theorem rt_c {s0 : VS} : restV s0 (k :: ix) s = (restV s0 ix s).set k (s0[k]?.getD .un) := rfl
theorem fl_un : flatS (some .un) = true := rfl
theorem fl_d : flatS (some (.d x)) = true := rfl
theorem m_unpT {fl : List (Da → VM Unit)} : vUnpT fl x s = bnd (vOpt (tupD x) s) fun xs => vUnp fl xs := rfl
theorem tupD_t : tupD (.tuple xs) = some xs := rfl
theorem unp_n : vUnp [] [] s = .ok ((), s) := rfl
theorem unp_c {fn : Da → VM Unit} {fl : List (Da → VM Unit)} : vUnp (fn :: fl) (x :: xs) s = bnd (fn x s) fun _ => vUnp fl xs := rfl
theorem range_1 : rangeD [.int i] = if -1000000000 ≤ i ∧ i ≤ 1000000000 then some (rngD 0 i.toNat 1) else none := rfl
theorem range_2 : rangeD [.int i, .int j] = if -1000000000 ≤ i ∧ i ≤ 1000000000 ∧ -1000000000 ≤ j ∧ j ≤ 1000000000 then some (rngD i (j - i).toNat 1) else none := rfl
theorem ext_l {zs : List Da} : extendD xs [.list zs] = if xs.length + zs.length ≤ 16777216 then some (xs ++ zs, .none) else none := rfl
theorem ext_t {zs : List Da} : extendD xs [.tuple zs] = if xs.length + zs.length ≤ 16777216 then some (xs ++ zs, .none) else none := rfl
theorem app_1 : appendD xs [x] = if xs.length < 16777216 then some (xs ++ [x], .none) else none := rfl
theorem m_pc : vPc f fs s = bnd (f s) fun r => vb fs fun rs => vr (r :: rs) := rfl
theorem m_par {is : List Nat} : vPar is fs s = bnd (fs s) fun rs => fun s => match vRelease rs s with
  | some (rs', s2) => match vStore is rs' s2 with
    | some s3 => .ok (.nx, s3)
    | none => .error .stuck
  | none => .error .stuck := rfl
theorem rl_n : vRelease [] s = some ([], s) := rfl
theorem rl_d : vRelease (.d x :: rs) s = (vRelease rs s).map fun q => (.d x :: q.1, q.2) := rfl
theorem rl_o : vRelease (.own c :: rs) s = (vRelease rs s).map fun q => (.own c :: q.1, q.2) := rfl
def rlR (k : Nat) (rs : List EV) (s : VS) : Option SV → Option (List EV × VS)
  | some (.own c) => (vRelease rs (s.set k .un)).map fun q => (.own c :: q.1, q.2)
  | _ => none
theorem rl_l : vRelease (.loan k :: rs) s = rlR k rs s s[k]? := by
  rw [vRelease]
  unfold rlR
  cases s[k]? with
  | none => rfl
  | some v => cases v <;> rfl
theorem rlR_o : rlR k rs s (some (.own c)) = (vRelease rs (s.set k .un)).map fun q => (.own c :: q.1, q.2) := rfl
theorem sr_n : vStore [] [] s = some s := rfl
theorem sto_d {is : List Nat} : vStore (k :: is) (.d x :: rs) s = if wrOk s[k]? = true then vStore is rs (s.set k (.d x)) else none := rfl
theorem sto_o {is : List Nat} : vStore (k :: is) (.own c :: rs) s = if wrOk s[k]? = true then vStore is rs (s.set k (.own c)) else none := rfl
end
end VL
set_option Elab.async false
set_option linter.all false
set_option maxRecDepth 100000
/-! stepping, later constructs -/
namespace VL
open PySem PySem.Spec PyProof.Rows L2
section
variable {α β : Type} {s s1 s2 s3 : VS} {x y z : Da} {i j : Int} {k n : Nat} {c : OC} {f fa fb te : VM EV} {fs : VM (List EV)} {r : EV} {rs : List EV} {e : Err} {b : Bool} {xs ys : List Da}
theorem mulE_i : mulE (.int i) (.int j) = if i.natAbs.log2 + j.natAbs.log2 < 1000000 then some (.d (.int (i * j))) else none := rfl
theorem mulE_t : mulE (.tuple xs) (.int i) = if xs ≠ [] ∧ -1000000 ≤ i ∧ i ≤ 1000 ∧ xs.length ≤ 1000 then some (.d (.tuple (List.replicate i.toNat xs).flatten)) else none := rfl
theorem m_andV : vAndV fa fb s = bnd (fa s) fun r => vb (vOpt (evD r)) fun x => vb (vOpt (truD x)) fun k => if k = true then fb else vr (.d x) := rfl
theorem m_orV : vOrV fa fb s = bnd (fa s) fun r => vb (vOpt (evD r)) fun x => vb (vOpt (truD x)) fun k => if k = true then vr (.d x) else fb := rfl
theorem m_notE : vNotE fa s = bnd (fa s) fun r => vb (vRd r) fun x => vb (vOpt (truD x)) fun k => vr (.d (.bool (!k))) := rfl
theorem m_lenSet : vLenSet fa s = bnd (fa s) fun r => vb (vRd r) fun x => vOpt (lenSetD x) := rfl
theorem m_listRg : vListRg fa s = bnd (fa s) fun r => vb (vRd r) fun x => vOpt (lstRgD (.int 0) x) := rfl
theorem ite_t {γ : Type} {a b : γ} : (if true = true then a else b) = a := rfl
theorem ite_f {γ : Type} {a b : γ} : (if false = true then a else b) = b := rfl
theorem m_chain {g g' : Da → Da → Option EV} {fc : VM EV} : vChain g g' fa fb fc s = bnd (fa s) fun ra => vb fb fun rb => vb (vRd (VL.settle ra)) fun x => vb (vRd (VL.settle rb)) fun y => vb (vOpt ((g x y).bind evB)) fun k => if k = true then vb fc fun rc => vb (vRd (VL.settle rb)) fun y => vb (vRd rc) fun z => vOpt (g' y z) else vC (.bool false) := rfl
def fgts (is : List Nat) (s : VS) : VS := is.foldl (fun s i => fgt1 i s) s
def fgE (is : List Nat) (r : Res (Ctl × VS)) : Res (Ctl × VS) := match r with
  | .ok (.nx, s') => .ok (.nx, fgts is s')
  | .ok (.ct, s') => .ok (.ct, fgts is s')
  | r => r
variable {is : List Nat} {g : VM Ctl}
theorem m_fgt {g : VM α} : vFgt is g s = g (fgts is s) := rfl
theorem m_fgtE : vFgtE is g s = fgE is (g s) := rfl
theorem fgE_nx : fgE is (.ok (.nx, s)) = .ok (.nx, fgts is s) := rfl
theorem fgE_ct : fgE is (.ok (.ct, s)) = .ok (.ct, fgts is s) := rfl
theorem fgE_bk : fgE is (.ok (.bk, s)) = .ok (.bk, s) := rfl
theorem fgE_rt : fgE is (.ok (.rt r, s)) = .ok (.rt r, s) := rfl
theorem fgE_er : fgE is (.error e) = .error e := rfl
theorem fgts_n : fgts [] s = s := rfl
theorem fgts_c : fgts (k :: is) s = fgts is (fgt1 k s) := rfl
def fgR (k : Nat) (s : VS) : Option SV → VS
  | some (.io _) => s
  | some (.lk _) => s
  | _ => s.set k .un
theorem m_fgt1 : fgt1 k s = fgR k s s[k]? := by
  unfold fgt1 fgR
  cases s[k]? with
  | none => rfl
  | some v => cases v <;> rfl
theorem fg_d : fgR k s (some (.d x)) = s.set k .un := rfl
theorem fg_o : fgR k s (some (.own c)) = s.set k .un := rfl
theorem fg_un : fgR k s (some .un) = s.set k .un := rfl
theorem fg_rd {xs : List Da} : fgR k s (some (.rd xs)) = s.set k .un := rfl
theorem fg_io : fgR k s (some (.io c)) = s := rfl
theorem fg_lk : fgR k s (some (.lk c)) = s := rfl
end
/-! calls of defs that change none of their arguments -/
section
variable {m : FM} {s : VS} {r : EV} {x y z w : Da}
theorem callF_1 (h : m [.d x] = .ok (r, [.d x])) (hr : ∀ i, r ≠ .loan i) : callF m [.d x] s = .ok (r, s) := by
  rw [callF_ok (by simp [loans]) (by rfl) h hr, put_d, put_n]
theorem callF_2 (h : m [.d x, .d y] = .ok (r, [.d x, .d y])) (hr : ∀ i, r ≠ .loan i) : callF m [.d x, .d y] s = .ok (r, s) := by
  rw [callF_ok (by simp [loans]) (by rfl) h hr, put_d, put_d, put_n]
theorem callF_3 (h : m [.d x, .d y, .d z] = .ok (r, [.d x, .d y, .d z])) (hr : ∀ i, r ≠ .loan i) : callF m [.d x, .d y, .d z] s = .ok (r, s) := by
  rw [callF_ok (by simp [loans]) (by rfl) h hr, put_d, put_d, put_d, put_n]
theorem dl {x : Da} : ∀ i, EV.d x ≠ .loan i := fun i h => by cases h
theorem ol {c : OC} : ∀ i, EV.own c ≠ .loan i := fun i h => by cases h
end
/-! loops as folds -/
section
variable {γ ρ : Type} {enc : γ → Da} {St : ρ → VS} {f : ρ → γ → ρ} {gt : Da → VM Unit} {g : VM Ctl} {fi : VM (List Da × Lks)} {L : Lks}
theorem forL_fold (Ok : List γ → ρ → Prop) (step : ∀ x xs a, Ok (x :: xs) a → ∃ s1 c, gt (enc x) (St a) = .ok ((), s1) ∧ g s1 = .ok (c, St (f a x)) ∧ (c = .nx ∨ c = .ct) ∧ Ok xs (f a x)) :
    ∀ xs a, Ok xs a → vForL gt g (xs.map enc) (St a) = .ok (.nx, St (xs.foldl f a))
  | [], a, _ => rfl
  | x :: xs, a, h => by
    obtain ⟨s1, c, h1, h2, hc, h3⟩ := step x xs a h
    have ih := forL_fold Ok step xs _ h3
    show vb (vNoX (gt (enc x))) _ (St a) = _
    rw [m_vb, m_nox, h1, nx_ok, bnd_ok, m_vb, h2, bnd_ok]
    rcases hc with rfl | rfl <;> exact ih
theorem run_exc {N : Nat} {g : VM Ctl} {st0 s : VS} {C : Str} {fs : List (Str × Da)} (h : g (st0 ++ List.replicate (N - st0.length) .un) = .error (.exc C fs s)) : runF N g st0 = .error (.exc C fs (outs st0 s)) := by
  unfold runF
  rw [h]
theorem run_d {N : Nat} {g : VM Ctl} {st0 st s o : VS} {x : Da} (h : g st = .ok (.rt (.d x), s)) (hst : st0 ++ List.replicate (N - st0.length) .un = st := by rfl) (ho : outs st0 s = o := by rfl) : runF N g st0 = .ok (.d x, o) := by
  subst hst; subst ho; exact run_ok h rfl
theorem run_own {N : Nat} {g : VM Ctl} {st0 st s o : VS} {c : OC} (h : g st = .ok (.rt (.own c), s)) (hst : st0 ++ List.replicate (N - st0.length) .un = st := by rfl) (ho : outs st0 s = o := by rfl) : runF N g st0 = .ok (.own c, o) := by
  subst hst; subst ho; exact run_ok h rfl
/-- what a name holds is given back -/
theorem run_loan {N : Nat} {g : VM Ctl} {st0 st s o : VS} {c : OC} {i : Nat} (h : g st = .ok (.rt (.loan i), s)) (hi : s[i]? = some (.own c) := by rfl) (hst : st0 ++ List.replicate (N - st0.length) .un = st := by rfl) (ho : outs st0 s = o := by rfl) : runF N g st0 = .ok (.own c, o) := by
  subst hst; subst ho
  exact run_ok h (by unfold retV; dsimp only; simp only [hi])
theorem run_e {N : Nat} {g : VM Ctl} {st0 st s o : VS} {C : Str} {fs : List (Str × Da)} (h : g st = .error (.exc C fs s)) (hst : st0 ++ List.replicate (N - st0.length) .un = st := by rfl) (ho : outs st0 s = o := by rfl) : runF N g st0 = .error (.exc C fs o) := by
  subst hst; subst ho; exact run_exc h
theorem callF_e {m : FM} {rs : List EV} {st0 o s : VS} {C : Str} {fs : List (Str × Da)} (nd : (loans rs).Nodup) (ha : argSV s rs = some st0) (hm : m st0 = .error (.exc C fs o)) : callF m rs s = .error (.exc C fs (putOuts rs o s)) := by
  unfold callF
  rw [if_pos nd, ha]
  dsimp only
  rw [hm]
theorem m_raise {C : Str} {nm : List Str} {fs : VM (List EV)} {s : VS} : vRaise C nm fs s = bnd (fs s) fun rs => vb (vOpt (dts rs)) fun xs => fun s => if xs.length = nm.length then .error (.exc C (nm.zip xs).reverse s) else .error .stuck := rfl
theorem for_fold (Ok : List γ → ρ → Prop) (step : ∀ x xs a, Ok (x :: xs) a → ∃ s1 c, gt (enc x) (St a) = .ok ((), s1) ∧ g s1 = .ok (c, St (f a x)) ∧ (c = .nx ∨ c = .ct) ∧ Ok xs (f a x))
    {xs : List γ} {a : ρ} {s : VS} (hi : fi s = .ok ((xs.map enc, L), St a)) (h0 : Ok xs a) : vFor fi gt g s = .ok (.nx, unlock L (St (xs.foldl f a))) := by
  rw [m_for, hi, bnd_ok]; dsimp only; rw [forL_fold Ok step xs a h0]
end
end VL
local macro_rules
  | `(tactic| simp! only [$as,*]) => `(tactic| simp only [VL.m_vb, VL.bnd_ok, VL.bnd_er, VL.m_vr, VL.m_stuck, VL.m_seq, VL.bS_nx, VL.bS_bk, VL.bS_ct, VL.bS_rt, VL.bS_er, VL.m_if, VL.m_ite, VL.bI_t, VL.bI_f, VL.bI_er, VL.m_and, VL.m_or, VL.m_not, VL.m_bool, VL.evB_b, VL.m_opt, VL.m_optn, VL.m_tru, VL.tru_b, VL.tru_i, VL.tru_n, VL.tru_l, VL.tru_t, VL.m_var, VL.var_d, VL.var_own, VL.var_io, VL.var_lk, VL.var_rd, VL.m_c, VL.st_d, VL.st_o, VL.st_l, VL.oc_l, VL.oc_m, VL.rd_d, VL.rd_o, VL.rd_l, VL.rdR_own, VL.rdR_io, VL.rdR_lk, VL.m_bin, VL.m_un, VL.m_call, VL.m_rdn, VL.m_rdc, VL.m_cons, VL.m_conss, VL.m_tup, VL.m_lst, VL.dts_n, VL.dts_c, VL.o_map, VL.o_bind, VL.add_i, VL.sub_i, VL.mul_i, VL.mod_i, VL.fdiv_i, VL.pow_i, VL.neg_i, VL.iadd_i, VL.abs_i, VL.int_i, VL.int_b, VL.len_l, VL.len_t, VL.add_l, VL.add_t, VL.lt_i, VL.le_i, VL.gt_i, VL.ge_i, VL.eq_i, VL.ne_i, VL.eqF_i, VL.neF_i, VL.tuple_l, VL.tuple_t, VL.list_l, VL.list_t, VL.ix_l, VL.ix_t, VL.m_ret, VL.m_drop, VL.m_nx, VL.m_asg, VL.m_nox, VL.nx_ok, VL.set_d, VL.set_o, VL.setD_, VL.wr_un, VL.wr_d, VL.wr_o, VL.wr_rd, VL.m_aug, VL.m_asgD, VL.evD_d, VL.evD_o, VL.m_frzn, VL.m_frzc, VL.m_frz1, VL.fz_d, VL.fz_un, VL.fz_io, VL.fz_lk, VL.fz_rd, VL.fz_o, VL.m_sub, VL.m_augS, VL.m_app, VL.ap_o, VL.ap_io, VL.m_ct, VL.ct_o, VL.ct_io, VL.m_isl, VL.is_o, VL.is_io, VL.m_mut, VL.m_mutB, VL.m_mut0, VL.intD_i, VL.m_sl, VL.m_pn, VL.m_ps, VL.rs_d, VL.rs_l, VL.rsR_rd, VL.rsR_o, VL.rsR_io, VL.sl_l, VL.sl_t, VL.arg_n, VL.arg_c, VL.arg_d, VL.arg_l, VL.ar_o, VL.ar_io, VL.ar_lk, VL.ar_rd, VL.put_n, VL.put_d, VL.put_io, VL.m_put, VL.pt_o, VL.pt_io, VL.i_seq, VL.src_l, VL.src_t, VL.src_o, VL.src_n, VL.sr_o, VL.sr_io, VL.sr_lk, VL.i_rng, VL.i_enum, VL.i_zip, VL.i_rev, VL.unl_n, VL.unl_c, VL.unl_1, VL.ul_lk, VL.ob_t, VL.ob_f, VL.wp_n, VL.wp_c, VL.rt_n, VL.rt_c, VL.fl_un, VL.fl_d, VL.m_unpT, VL.tupD_t, VL.unp_n, VL.unp_c, VL.range_1, VL.range_2, VL.ext_l, VL.ext_t, VL.app_1, VL.m_pc, VL.m_par, VL.rl_n, VL.rl_d, VL.rl_o, VL.rl_l, VL.rlR_o, VL.sr_n, VL.sto_d, VL.sto_o, VL.mulE_i, VL.mulE_t, VL.m_andV, VL.m_orV, VL.m_notE, VL.m_lenSet, VL.m_listRg, VL.ite_t, VL.ite_f, VL.m_chain, VL.m_fgt, VL.m_fgtE, VL.fgE_nx, VL.fgE_ct, VL.fgE_bk, VL.fgE_rt, VL.fgE_er, VL.fgts_n, VL.fgts_c, VL.m_fgt1, VL.fg_d, VL.fg_o, VL.fg_un, VL.fg_rd, VL.fg_io, VL.fg_lk, VL.m_raise, List.getElem?_cons_zero, List.getElem?_cons_succ, List.set_cons_zero, List.set_cons_succ, Option.map_some, Option.bind_some, if_true, and_self, $as,*])
set_option Elab.async false
set_option linter.all false
set_option maxRecDepth 100000
namespace LB
open PySem PySem.Spec PyProof.Rows L2 VL
/-- _law_bag -/
def g__law_bag : VM Ctl :=
  (vRet ((vList ((vCons (vC (.int 0)) ((vCons (vC (.int 1234567891)) ((vCons (vC (.int 0)) ((vCons ((vLcF [1] (vItSeq ((vSl (vVar 0) (vPart none) (vPart (some (vC (.int 63))))))) (vSetD 1) (vr true) ((vCall absD ((vCons (vVar 1) (vr []))))))) (vr []))))))))))))
def F__law_bag : FM := runF 2 g__law_bag
/-- _law_take -/
def law_take_s1 : VM Ctl :=
  (vIf ((vBool (vBin gtD ((vBin ixD (vVar 0) (vC (.int 0)))) (vC (.int 0))))) (vSeq (vAsg ((vBin modD ((vCall toIntD ((vCons ((vBin ixD (vVar 0) (vC (.int 0)))) (vr []))))) (vVar 1))) (vSet 4))
      (vSeq (vAsgD ((vBin fdivD ((vCall toIntD ((vCons ((vBin ixD (vVar 0) (vC (.int 0)))) (vr []))))) (vVar 1))) (vSub (vVar 0) (vC (.int 0))))
      (vFrz [4] (vRet (vVar 4))))) vNx)
def law_take_s2 : VM Ctl :=
  (vIf ((vBool (vBin geD (vVar 2) ((vBin powD (vC (.int 10)) (vC (.int 18))))))) (vFrz [2] (vAsgD (vVar 2) (vSub (vVar 0) (vC (.int 0))))) vNx)
def law_take_s3 : VM Ctl :=
  (vIf ((vBool (vBin eqF ((vBin ixD (vVar 0) (vC (.int 0)))) (vC (.int 0))))) (vSeq (vAsg ((vBin ixD ((vBin addD ((vSl ((vBin ixD (vVar 0) (vC (.int 3)))) (vPart (some ((vBin ixD (vVar 0) (vC (.int 2)))))) (vPart none))) ((vList ((vCons (vC (.int 0)) (vr []))))))) (vC (.int 0)))) (vSet 2))
      (vSeq (vAugS iaddD (vVar 0) (vC (.int 2)) (vC (.int 1)))
      (vSeq (vFrz [2] law_take_s2)
      (vSeq (vFrz [2] (vAsg ((vBin addD ((vBin addD ((vBin mulE ((vBin ixD (vVar 0) (vC (.int 1)))) (vC (.int 48271)))) ((vBin modD ((vCall toIntD ((vCons (vVar 2) (vr []))))) (vC (.int 2147483647)))))) ((vBin mulE (vC (.int 7919)) ((vBin ixD (vVar 0) (vC (.int 2)))))))) (vSet 3)))
      (vFrz [3] (vAsgD ((vBin modD ((vCall toIntD ((vCons (vVar 3) (vr []))))) (vC (.int 2147483647)))) (vSub (vVar 0) (vC (.int 1))))))))) vNx)
def g__law_take : VM Ctl :=
  (vSeq law_take_s3
      (vSeq law_take_s1
      (vSeq (vAsg ((vBin modD ((vCall toIntD ((vCons ((vBin mulE ((vBin addD ((vBin ixD (vVar 0) (vC (.int 1)))) (vC (.int 1)))) (vC (.int 39373)))) (vr []))))) (vC (.int 1000000007)))) (vSet 5))
      (vSeq (vFrz [5] (vAsg ((vBin modD ((vCall toIntD ((vCons ((vBin mulE ((vBin modD ((vCall toIntD ((vCons ((vBin mulE (vVar 5) (vVar 5))) (vr []))))) (vC (.int 998244353)))) (vC (.int 30011)))) (vr []))))) (vC (.int 998244353)))) (vSet 6)))
      (vFrz [6] (vRet ((vBin modD ((vCall toIntD ((vCons ((vBin fdivD (vVar 6) (vC (.int 7)))) (vr []))))) (vVar 1)))))))))
def F__law_take : FM := runF 7 g__law_take
/-- _law_alike -/
def law_alike_s1 : VM Ctl :=
  (vIf ((vOr ((vBool (vBin neF ((vIsi [.tuple] (vVar 4))) ((vIsi [.tuple] (vVar 5)))))) ((vBool (vBin neF ((vCall lenD ((vCons (vVar 4) (vr []))))) ((vCall lenD ((vCons (vVar 5) (vr [])))))))))) (vRet (vC (.bool false))) vNx)
def law_alike_s2 : VM Ctl :=
  (vIf ((vBool (vBin neF (vVar 4) (vVar 5)))) (vRet (vC (.bool false))) vNx)
def law_alike_s3 : VM Ctl :=
  (vIf ((vTru ((vIsi [.tuple, .list] (vVar 4))))) (vSeq (vFrz [4, 5] law_alike_s1)
      (vFrz [4, 5] (vDrop ((vMutB extendD (vVar 2) ((vCons ((vCall zipL ((vCons (vVar 4) ((vCons (vVar 5) (vr []))))))) (vr [])))))))) (vFrz [4, 5] law_alike_s2))
def law_alike_s4 : VM Ctl :=
  (vIf ((vBool (vBin neF ((vIsi [.tuple, .list] (vVar 4))) ((vIsi [.tuple, .list] (vVar 5)))))) (vRet (vC (.bool false))) vNx)
def law_alike_s5 : VM Ctl :=
  (vIf ((vOr ((vBool (vBin neF ((vIsi [.bool] (vVar 4))) ((vIsi [.bool] (vVar 5)))))) ((vBool (vBin neF ((vIsi [.str] (vVar 4))) ((vIsi [.str] (vVar 5)))))))) (vRet (vC (.bool false))) vNx)
def law_alike_s6 : VM Ctl :=
  (vWhile ((vBool (vBin ltD (vVar 3) ((vCall lenD ((vCons (vVar 2) (vr [])))))))) (vSeq (vFrz [3] (vAsgD ((vBin ixD (vVar 2) (vVar 3))) (vUnpT [(vSetD 4), (vSetD 5)])))
      (vSeq (vAug 3 iaddD (vC (.int 1)))
      (vSeq (vFrz [4, 5] law_alike_s5)
      (vSeq (vFrz [4, 5] law_alike_s4)
      (vFrz [4] law_alike_s3))))))
def g__law_alike : VM Ctl :=
  (vSeq (vPar [2, 3] (vPc ((vList ((vCons ((vTuple ((vCons (vVar 0) ((vCons (vVar 1) (vr []))))))) (vr []))))) ((vPc (vC (.int 0)) (vr [])))))
      (vSeq (vFrz [3] law_alike_s6)
      (vRet (vC (.bool true)))))
def F__law_alike : FM := runF 6 g__law_alike
/-- _law_yard -/
def g__law_yard : VM Ctl :=
  (vRet ((vCall tupleD ((vCons ((vLcF [2] (vItRng ((vCons ((vBin addD (vC (.int 1)) ((vCallF F__law_take ((vCons (vVar 0) ((vCons (vVar 1) (vr []))))))))) (vr [])))) (vSetD 2) (vr true) ((vCallF F__law_take ((vCons (vVar 0) ((vCons (vC (.int 2)) (vr []))))))))) (vr []))))))
def F__law_yard : FM := runF 3 g__law_yard
/-- _law_codes -/
def law_codes_s1 : VM Ctl :=
  (vFor (vItSeq (vVar 2)) (vSetD 5) (vFrz [5] (vDrop ((vMutB extendD (vVar 4) ((vCons ((vLcF [6] (vItRng ((vCons ((vCall lenD ((vCons (vVar 0) (vr []))))) (vr [])))) (vSetD 6) (vr true) ((vBin addD (vVar 5) ((vTuple ((vCons (vVar 6) (vr []))))))))) (vr []))))))))
def law_codes_s2 : VM Ctl :=
  (vFor (vItRng ((vCons (vVar 1) (vr [])))) (vSetD 3) (vSeq (vAsg ((vList (vr []))) (vSet 4))
      (vSeq (vFrz [2] law_codes_s1)
      (vPar [2] (vPc (vVar 4) (vr []))))))
def g__law_codes : VM Ctl :=
  (vSeq (vAsg ((vList ((vCons ((vTuple (vr []))) (vr []))))) (vSet 2))
      (vSeq law_codes_s2
      (vFrz [2] (vRet (vVar 2)))))
def F__law_codes : FM := runF 7 g__law_codes
/-- _law_rolled -/
def g__law_rolled : VM Ctl :=
  (vRet ((vLcF [3] (vItRng ((vCons ((vCall lenD ((vCons (vVar 0) (vr []))))) (vr [])))) (vSetD 3) (vr true) ((vLcF [4] (vItSeq (vVar 1)) (vSetD 4) (vBool (vBin eqF ((vBin ixD (vVar 2) (vVar 4))) (vVar 3))) (vVar 4))))))
def F__law_rolled : FM := runF 5 g__law_rolled
/-- _law_pass -/
def law_pass_s1 : VM Ctl :=
  (vFor (vItZip ((vCons (vVar 0) ((vCons ((vCallF F__law_rolled ((vCons (vVar 0) ((vCons (vVar 1) ((vCons (vVar 2) (vr []))))))))) (vr [])))))) (vUnpT [(vSetD 4), (vSetD 5)]) (vFrz [4, 5] (vDrop ((vMutB extendD (vVar 3) ((vCons ((vIte ((vBool (vBin eqF (vVar 4) (vC (.int 0))))) (vVar 5) ((vUn revD (vVar 5))))) (vr []))))))))
def g__law_pass : VM Ctl :=
  (vSeq (vAsg ((vList (vr []))) (vSet 3))
      (vSeq law_pass_s1
      (vRet (vVar 3))))
def F__law_pass : FM := runF 6 g__law_pass
/-- _law_some -/
def g__law_some : VM Ctl :=
  (vRet ((vBin ixD (vVar 1) ((vCallF F__law_take ((vCons (vVar 0) ((vCons ((vCall lenD ((vCons (vVar 1) (vr []))))) (vr []))))))))))
def F__law_some : FM := runF 2 g__law_some
/-- _law_mixed -/
def law_mixed_s1 : VM Ctl :=
  (vWhile ((vBool (vBin neF (vVar 2) ((vList (vr [])))))) (vDrop ((vMut appendD (vVar 3) ((vCons ((vMut popAtD (vVar 2) ((vCons ((vCallF F__law_take ((vCons (vVar 0) ((vCons ((vCall lenD ((vCons (vVar 2) (vr []))))) (vr []))))))) (vr []))))) (vr [])))))))
def g__law_mixed : VM Ctl :=
  (vSeq (vPar [2, 3] (vPc ((vCall listD ((vCons (vVar 1) (vr []))))) ((vPc ((vList (vr []))) (vr [])))))
      (vSeq law_mixed_s1
      (vRet (vVar 3))))
def F__law_mixed : FM := runF 4 g__law_mixed
/-- _law_is_int -/
def g__law_is_int : VM Ctl :=
  (vRet ((vAndV ((vIsi [.int] (vVar 0))) ((vNotE ((vIsi [.bool] (vVar 0))))))))
def F__law_is_int : FM := runF 1 g__law_is_int
/-- is_integer -/
def g_is_integer : VM Ctl :=
  (vRet ((vAndV ((vIsi [.int] (vVar 0))) ((vNotE ((vIsi [.bool] (vVar 0))))))))
def F_is_integer : FM := runF 1 g_is_integer
/-- is_within -/
def g_is_within : VM Ctl :=
  (vRet ((vAndV ((vCallF F_is_integer ((vCons (vVar 0) (vr []))))) ((vChain leD leD (vVar 1) (vVar 0) (vVar 2))))))
def F_is_within : FM := runF 3 g_is_within
/-- rolled -/
def g_rolled : VM Ctl :=
  (vRet ((vCall tupleD ((vCons ((vLcF [3] (vItRng ((vCons ((vCall lenD ((vCons (vVar 0) (vr []))))) (vr [])))) (vSetD 3) (vr true) ((vCall tupleD ((vCons ((vLcF [4] (vItSeq (vVar 1)) (vSetD 4) (vBool (vBin eqF ((vBin ixD (vVar 2) (vVar 4))) (vVar 3))) (vVar 4))) (vr []))))))) (vr []))))))
def F_rolled : FM := runF 5 g_rolled
/-- pulled -/
def pulled_s1 : VM Ctl :=
  (vFor (vItZip ((vCons (vVar 0) ((vCons (vVar 1) (vr [])))))) (vUnpT [(vSetD 3), (vSetD 4)]) (vFgtE [3, 4] (vFrz [3, 4] (vDrop ((vMutB extendD (vVar 2) ((vCons ((vIte ((vBool (vBin eqF (vVar 3) (vC (.int (1)))))) ((vUn revD (vVar 4))) (vVar 4))) (vr [])))))))))
def g_pulled : VM Ctl :=
  (vSeq (vAsg ((vList (vr []))) (vSet 2))
      (vSeq pulled_s1
      (vRet ((vCall tupleD ((vCons (vVar 2) (vr []))))))))
def F_pulled : FM := runF 5 g_pulled
/-- one_pass -/
def one_pass_s1 : VM Ctl :=
  (vIf ((vNot ((vTru ((vCallF F_is_within ((vCons (vVar 3) ((vCons (vC (.int 0)) ((vCons ((vBin subD ((vCall lenD ((vCons (vVar 0) (vr []))))) (vC (.int 1)))) (vr []))))))))))))) (vFrz [3] (vRaise "NoTrack" ["track"] ((vCons (vVar 3) (vr []))))) vNx)
def one_pass_s2 : VM Ctl :=
  (vFor (vItSeq (vVar 2)) (vSetD 3) (vFgtE [3] (vFrz [3] one_pass_s1)))
def g_one_pass : VM Ctl :=
  (vSeq one_pass_s2
      (vRet ((vCallF F_pulled ((vCons (vVar 0) ((vCons ((vCallF F_rolled ((vCons (vVar 0) ((vCons (vVar 1) ((vCons (vVar 2) (vr []))))))))) (vr [])))))))))
def F_one_pass : FM := runF 4 g_one_pass
/-- _law_orders -/
def law_orders_s1 : VM Ctl :=
  (vFor (vItRng ((vCons ((vBin subD (vVar 2) (vC (.int 1)))) ((vCons ((vUn negD (vC (.int 1)))) ((vCons ((vUn negD (vC (.int 1)))) (vr [])))))))) (vSetD 4) (vFgtE [4] (vFrz [4] (vDrop ((vMut appendD (vVar 3) ((vCons ((vCallF F__law_pass ((vCons (vVar 0) ((vCons ((vBin ixD (vVar 3) ((vUn negD (vC (.int 1)))))) ((vCons ((vLcF [5] (vItSeq (vVar 1)) (vSetD 5) (vr true) ((vBin ixD (vVar 5) (vVar 4))))) (vr []))))))))) (vr [])))))))))
def g__law_orders : VM Ctl :=
  (vSeq (vAsg ((vList ((vCons ((vListRg ((vCall lenD ((vCons (vVar 1) (vr []))))))) (vr []))))) (vSet 3))
      (vSeq law_orders_s1
      (vRet (vVar 3))))
def F__law_orders : FM := runF 6 g__law_orders
/-- _law_in_order -/
def law_in_order_s1 : VM Ctl :=
  (vIf ((vBool (vBin notinF (vVar 4) ((vLcF [7, 8] (vItSeq (vVar 5)) (vUnpT [(vSetD 7), (vSetD 8)]) (vr true) (vVar 7)))))) (vFrz [4, 6] (vDrop ((vMut appendD (vVar 5) ((vCons ((vTuple ((vCons (vVar 4) ((vCons ((vIte ((vBool (vBin eqF ((vBin modD ((vCall toIntD ((vCons (vVar 6) (vr []))))) (vC (.int 2)))) (vC (.int 0))))) (vC (.int 1)) ((vUn negD (vC (.int 1)))))) (vr []))))))) (vr []))))))) vNx)
def law_in_order_s2 : VM Ctl :=
  (vFor (vItSeq ((vBin ixD ((vCallF F__law_orders ((vCons (vVar 0) ((vCons (vVar 3) ((vCons (vVar 1) (vr []))))))))) ((vUn negD (vC (.int 1))))))) (vSetD 6) (vFgtE [6] (vSeq (vFrz [6] (vAsg ((vBin ixD (vVar 3) (vVar 6))) (vSet 4)))
      (vFrz [4] law_in_order_s1))))
def law_in_order_s3 : VM Ctl :=
  (vFor (vItSeq (vVar 2)) (vSetD 4) (vFrz [4] (vDrop ((vMutB extendD (vVar 3) ((vCons ((vList ((vCons (vVar 4) ((vCons (vVar 4) (vr []))))))) (vr []))))))))
def g__law_in_order : VM Ctl :=
  (vSeq (vAsg ((vCallF F__law_codes ((vCons (vVar 0) ((vCons (vVar 1) (vr []))))))) (vSet 2))
      (vSeq (vAsg ((vList (vr []))) (vSet 3))
      (vSeq (vFrz [2] law_in_order_s3)
      (vSeq (vAsg ((vList (vr []))) (vSet 5))
      (vSeq law_in_order_s2
      (vRet (vVar 5)))))))
def F__law_in_order : FM := runF 9 g__law_in_order
/-- codes_many -/
def codes_many_s1 : VM Ctl :=
  (vFor (vItRng ((vCons (vVar 1) (vr [])))) (vSetD 3) (vFgtE [3] (vFrz [2] (vAsg ((vBin mulE (vVar 2) ((vCall lenD ((vCons (vVar 0) (vr []))))))) (vSet 2)))))
def g_codes_many : VM Ctl :=
  (vSeq (vAsg (vC (.int 1)) (vSet 2))
      (vSeq codes_many_s1
      (vFrz [2] (vRet (vVar 2)))))
def F_codes_many : FM := runF 4 g_codes_many
/-- place_of -/
def place_of_s1 : VM Ctl :=
  (vFor (vItSeq (vVar 1)) (vSetD 4) (vFgtE [4, 5] (vSeq (vFrz [3, 4] (vPar [5] (vPc ((vIte ((vBool (vBin eqF (vVar 3) (vC (.int 1))))) (vVar 4) ((vBin subD ((vBin subD ((vCall lenD ((vCons (vVar 0) (vr []))))) (vC (.int 1)))) (vVar 4))))) (vr []))))
      (vSeq (vFrz [2, 5] (vAsg ((vBin addD ((vBin mulE (vVar 2) ((vCall lenD ((vCons (vVar 0) (vr []))))))) (vVar 5))) (vSet 2)))
      (vFrz [3, 4] (vPar [3] (vPc ((vIte ((vBool (vBin eqF ((vBin ixD (vVar 0) (vVar 4))) (vC (.int (1)))))) ((vBin subD (vC (.int 0)) (vVar 3))) (vVar 3))) (vr []))))))))
def g_place_of : VM Ctl :=
  (vSeq (vPar [2, 3] (vPc (vC (.int 0)) ((vPc (vC (.int 1)) (vr [])))))
      (vSeq place_of_s1
      (vFrz [2] (vRet (vVar 2)))))
def F_place_of : FM := runF 6 g_place_of
/-- code_at -/
def code_at_s1 : VM Ctl :=
  (vFor (vItRng ((vCons (vVar 1) (vr [])))) (vSetD 6) (vFgtE [6, 7] (vSeq (vFrz [5] (vAsg ((vBin fdivD (vVar 5) ((vCall lenD ((vCons (vVar 0) (vr []))))))) (vSet 5)))
      (vSeq (vFrz [5] (vPar [7, 2] (vPc ((vBin fdivD (vVar 2) (vVar 5))) ((vPc ((vBin modD (vVar 2) (vVar 5))) (vr []))))))
      (vSeq (vFrz [4, 7] (vDrop ((vMut appendD (vVar 3) ((vCons ((vIte ((vBool (vBin eqF (vVar 4) (vC (.int 1))))) (vVar 7) ((vBin subD ((vBin subD ((vCall lenD ((vCons (vVar 0) (vr []))))) (vC (.int 1)))) (vVar 7))))) (vr [])))))))
      (vFrz [4] (vPar [4] (vPc ((vIte ((vBool (vBin eqF ((vBin ixD (vVar 0) ((vBin ixD (vVar 3) ((vUn negD (vC (.int 1)))))))) (vC (.int (1)))))) ((vBin subD (vC (.int 0)) (vVar 4))) (vVar 4))) (vr [])))))))))
def code_at_s2 : VM Ctl :=
  (vIf ((vNot ((vBool (vChain leD ltD (vC (.int 0)) (vVar 2) ((vCallF F_codes_many ((vCons (vVar 0) ((vCons (vVar 1) (vr [])))))))))))) (vRaise "Nothing" [] (vr [])) vNx)
def g_code_at : VM Ctl :=
  (vSeq code_at_s2
      (vSeq (vPar [3, 4, 5] (vPc ((vList (vr []))) ((vPc (vC (.int 1)) ((vPc ((vCallF F_codes_many ((vCons (vVar 0) ((vCons (vVar 1) (vr []))))))) (vr [])))))))
      (vSeq code_at_s1
      (vRet ((vCall tupleD ((vCons (vVar 3) (vr [])))))))))
def F_code_at : FM := runF 8 g_code_at
/-- next_code -/
def g_next_code : VM Ctl :=
  (vSeq (vAsg ((vBin addD ((vCallF F_place_of ((vCons (vVar 0) ((vCons (vVar 1) (vr []))))))) (vC (.int 1)))) (vSet 2))
      (vFrz [2] (vRet ((vIte ((vBool (vBin eqF (vVar 2) ((vCallF F_codes_many ((vCons (vVar 0) ((vCons ((vCall lenD ((vCons (vVar 1) (vr []))))) (vr [])))))))))) (vC .none) ((vCallF F_code_at ((vCons (vVar 0) ((vCons ((vCall lenD ((vCons (vVar 1) (vr []))))) ((vCons (vVar 2) (vr []))))))))))))))
def F_next_code : FM := runF 3 g_next_code
/-- comes_first -/
def comes_first_s1 : VM Ctl :=
  (vIf ((vBool (vBin neF (vVar 4) (vVar 5)))) (vFrz [3, 4, 5] (vRet ((vBin eqF ((vBin ltD (vVar 4) (vVar 5))) ((vBin eqF (vVar 3) (vC (.int 1)))))))) vNx)
def comes_first_s2 : VM Ctl :=
  (vFor (vItZip ((vCons (vVar 1) ((vCons (vVar 2) (vr [])))))) (vUnpT [(vSetD 4), (vSetD 5)]) (vFgtE [4, 5] (vSeq (vFrz [4, 5] comes_first_s1)
      (vFrz [3, 4] (vPar [3] (vPc ((vIte ((vBool (vBin eqF ((vBin ixD (vVar 0) (vVar 4))) (vC (.int (1)))))) ((vBin subD (vC (.int 0)) (vVar 3))) (vVar 3))) (vr [])))))))
def g_comes_first : VM Ctl :=
  (vSeq (vAsg (vC (.int 1)) (vSet 3))
      (vSeq comes_first_s2
      (vRet (vC (.bool false)))))
def F_comes_first : FM := runF 6 g_comes_first
/-- with_track -/
def with_track_s1 : VM Ctl :=
  (vIf ((vBool (vBin eqF (vVar 1) (vC (.int (1)))))) (vRet ((vLcF [3, 4] (vItRev (vVar 2)) (vUnpT [(vSetD 3), (vSetD 4)]) (vr true) ((vTuple ((vCons ((vTuple ((vCons (vVar 0) ((vConsS (vVar 3) (vr []))))))) ((vCons ((vBin subD (vC (.int 0)) (vVar 4))) (vr [])))))))))) vNx)
def g_with_track : VM Ctl :=
  (vSeq with_track_s1
      (vRet ((vLcF [3, 4] (vItSeq (vVar 2)) (vUnpT [(vSetD 3), (vSetD 4)]) (vr true) ((vTuple ((vCons ((vTuple ((vCons (vVar 0) ((vConsS (vVar 3) (vr []))))))) ((vCons (vVar 4) (vr [])))))))))))
def F_with_track : FM := runF 5 g_with_track
/-- codes_in_order -/
def codes_in_order_s1 : VM Ctl :=
  (vFor (vItEnum ((vCons (vVar 0) (vr [])))) (vUnpT [(vSetD 5), (vSetD 6)]) (vFgtE [5, 6] (vFrz [4, 5, 6] (vDrop ((vMutB extendD (vVar 2) ((vCons ((vCallF F_with_track ((vCons (vVar 5) ((vCons (vVar 6) ((vCons (vVar 4) (vr []))))))))) (vr [])))))))))
def codes_in_order_s2 : VM Ctl :=
  (vFor (vItRng ((vCons (vVar 1) (vr [])))) (vSetD 3) (vFgtE [3, 4, 5, 6] (vSeq (vPar [4, 2] (vPc (vVar 2) ((vPc ((vList (vr []))) (vr [])))))
      codes_in_order_s1)))
def codes_in_order_s3 : VM Ctl :=
  (vIf ((vBool (vBin gtD ((vCallF F_codes_many ((vCons (vVar 0) ((vCons (vVar 1) (vr []))))))) (vC (.int (4096)))))) (vRaise "TooMany" ["what", "limit"] ((vCons (vC (.str "codes")) ((vCons (vC (.int (4096))) (vr [])))))) vNx)
def g_codes_in_order : VM Ctl :=
  (vSeq codes_in_order_s3
      (vSeq (vAsg ((vList ((vCons ((vTuple ((vCons ((vTuple (vr []))) ((vCons (vC (.int 1)) (vr []))))))) (vr []))))) (vSet 2))
      (vSeq codes_in_order_s2
      (vRet ((vCall tupleD ((vCons (vVar 2) (vr [])))))))))
def F_codes_in_order : FM := runF 7 g_codes_in_order
/-- sign_of -/
def g_sign_of : VM Ctl :=
  (vRet ((vIte ((vBool (vBin eqF ((vBin modD ((vCall lenD ((vCons ((vLcF [2] (vItSeq (vVar 1)) (vSetD 2) (vBool (vBin eqF ((vBin ixD (vVar 0) (vVar 2))) (vC (.int (1))))) (vVar 2))) (vr []))))) (vC (.int 2)))) (vC (.int 0))))) (vC (.int 1)) ((vUn negD (vC (.int 1)))))))
def F_sign_of : FM := runF 3 g_sign_of
/-- rolling_of -/
def g_rolling_of : VM Ctl :=
  (vRet ((vCall tupleD ((vCons ((vLcF [3] (vItSeq (vVar 0)) (vSetD 3) (vr true) ((vBin ixD (vVar 3) ((vBin subD ((vBin subD (vVar 1) (vC (.int 1)))) (vVar 2))))))) (vr []))))))
def F_rolling_of : FM := runF 4 g_rolling_of
/-- orders_by -/
def orders_by_s1 : VM Ctl :=
  (vFor (vItRng ((vCons (vVar 2) (vr [])))) (vSetD 4) (vFgtE [4] (vFrz [4] (vDrop ((vMut appendD (vVar 3) ((vCons ((vCallF F_one_pass ((vCons (vVar 0) ((vCons ((vBin ixD (vVar 3) ((vUn negD (vC (.int 1)))))) ((vCons ((vCallF F_rolling_of ((vCons (vVar 1) ((vCons (vVar 2) ((vCons (vVar 4) (vr []))))))))) (vr []))))))))) (vr [])))))))))
def g_orders_by : VM Ctl :=
  (vSeq (vAsg ((vList ((vCons ((vTupRg ((vCall lenD ((vCons (vVar 1) (vr []))))))) (vr []))))) (vSet 3))
      (vSeq orders_by_s1
      (vRet ((vCall tupleD ((vCons (vVar 3) (vr []))))))))
def F_orders_by : FM := runF 5 g_orders_by
/-- order_by -/
def g_order_by : VM Ctl :=
  (vRet ((vBin ixD ((vCallF F_orders_by ((vCons (vVar 0) ((vCons (vVar 1) ((vCons (vVar 2) (vr []))))))))) ((vUn negD (vC (.int 1)))))))
def F_order_by : FM := runF 3 g_order_by
/-- order_of -/
def g_order_of : VM Ctl :=
  (vSeq (vAsg (vLcF [3, 4] (vItEnum ((vCons (vVar 1) (vr [])))) (vUnpT [(vSetD 3), (vSetD 4)]) (vr true) ((vTuple ((vCons ((vCallF F_place_of ((vCons (vVar 0) ((vCons (vVar 4) (vr []))))))) ((vCons ((vBin mulE ((vCallF F_sign_of ((vCons (vVar 0) ((vCons (vVar 4) (vr []))))))) (vVar 3))) ((vCons (vVar 3) (vr [])))))))))) (vSet 2))
      (vFrz [2] (vRet ((vCall tupleD ((vCons ((vLcF [5, 6, 3] (vItSeq ((vCall sorted3 ((vCons (vVar 2) (vr [])))))) (vUnpT [(vSetD 5), (vSetD 6), (vSetD 3)]) (vr true) (vVar 3))) (vr []))))))))
def F_order_of : FM := runF 7 g_order_of
/-- places_of -/
def g_places_of : VM Ctl :=
  (vRet ((vCall tupleD ((vCons ((vLcF [2] (vItSeq (vVar 1)) (vSetD 2) (vr true) ((vCallF F_place_of ((vCons (vVar 0) ((vCons (vVar 2) (vr []))))))))) (vr []))))))
def F_places_of : FM := runF 3 g_places_of
/-- plan_of -/
def g_plan_of : VM Ctl :=
  (vRet ((vCall tupleD ((vCons ((vLcF [3] (vItSeq (vVar 2)) (vSetD 3) (vr true) ((vCallF F_code_at ((vCons (vVar 0) ((vCons (vVar 1) ((vCons (vVar 3) (vr []))))))))))) (vr []))))))
def F_plan_of : FM := runF 4 g_plan_of
/-- is_sorted -/
def g_is_sorted : VM Ctl :=
  (vRet ((vCall allD ((vCons ((vLcF [1, 2] (vItZip ((vCons (vVar 0) ((vCons ((vSl (vVar 0) (vPart (some (vC (.int 1)))) (vPart none))) (vr [])))))) (vUnpT [(vSetD 1), (vSetD 2)]) (vr true) ((vBin leD (vVar 1) (vVar 2))))) (vr []))))))
def F_is_sorted : FM := runF 3 g_is_sorted
/-- row_by -/
def g_row_by : VM Ctl :=
  (vRet ((vCall tupleD ((vCons ((vLcF [2] (vItSeq (vVar 1)) (vSetD 2) (vr true) ((vBin ixD (vVar 0) (vVar 2))))) (vr []))))))
def F_row_by : FM := runF 3 g_row_by
/-- sorts -/
def g_sorts : VM Ctl :=
  (vRet ((vCallF F_is_sorted ((vCons ((vCallF F_row_by ((vCons (vVar 0) ((vCons ((vCallF F_order_by ((vCons (vVar 1) ((vCons (vVar 2) ((vCons (vVar 3) (vr []))))))))) (vr []))))))) (vr []))))))
def F_sorts : FM := runF 4 g_sorts
/-- flat_yard -/
def flat_yard_s1 : VM Ctl :=
  (vIf ((vBool (vBin gtD ((vCallF F_codes_many ((vCons (vVar 0) ((vCons (vVar 1) (vr []))))))) (vC (.int (12)))))) (vRaise "TooMany" ["what", "limit"] ((vCons (vC (.str "tracks")) ((vCons (vC (.int (12))) (vr [])))))) vNx)
def g_flat_yard : VM Ctl :=
  (vSeq flat_yard_s1
      (vRet ((vCall tupleD ((vCons ((vLcF [2, 3] (vItSeq ((vCallF F_codes_in_order ((vCons (vVar 0) ((vCons (vVar 1) (vr [])))))))) (vUnpT [(vSetD 2), (vSetD 3)]) (vr true) ((vIte ((vBool (vBin eqF (vVar 3) (vC (.int 1))))) (vC (.int (0))) (vC (.int (1))))))) (vr [])))))))
def F_flat_yard : FM := runF 4 g_flat_yard
/-- is_steady -/
def g_is_steady : VM Ctl :=
  (vRet ((vOrV ((vBin eqF (vVar 1) (vC (.int 0)))) ((vOrV ((vBin notinF (vC (.int (1))) (vVar 0))) ((vAndV ((vBin notinF (vC (.int (0))) (vVar 0))) ((vBin eqF ((vBin modD (vVar 1) (vC (.int 2)))) (vC (.int 0)))))))))))
def F_is_steady : FM := runF 2 g_is_steady
/-- _law_row -/
def g__law_row : VM Ctl :=
  (vRet ((vCall tupleD ((vCons ((vLcF [3] (vItRng ((vCons ((vBin addD (vC (.int 1)) ((vCallF F__law_take ((vCons (vVar 0) ((vCons (vVar 1) (vr []))))))))) (vr [])))) (vSetD 3) (vr true) ((vCallF F__law_take ((vCons (vVar 0) ((vCons (vVar 2) (vr []))))))))) (vr []))))))
def F__law_row : FM := runF 4 g__law_row
/-- _law_one_take -/
def law_one_take_s1 : VM Ctl :=
  (vIf ((vBool (vBin ltD ((vCall lenD ((vCons (vVar 7) (vr []))))) ((vCall lenD ((vCons (vVar 6) (vr [])))))))) (vr .bk) vNx)
def law_one_take_s2 : VM Ctl :=
  (vIf ((vBool (vBin neF (vVar 3) ((vList (vr [])))))) (vFrz [3, 6] (vAsg ((vLcF [8] (vItSeq (vVar 6)) (vSetD 8) (vIteT ((vBool (vBin eqF (vVar 2) (vC (.int 1))))) ((vBool (vBin gtD (vVar 8) ((vCall maxD ((vCons (vVar 3) (vr [])))))))) ((vBool (vBin ltD (vVar 8) ((vCall minD ((vCons (vVar 3) (vr []))))))))) (vVar 8))) (vSet 7))) vNx)
def law_one_take_s3 : VM Ctl :=
  (vFor (vItRng ((vCons ((vCall lenD ((vCons (vVar 1) (vr []))))) (vr [])))) (vSetD 5) (vFgtE [5, 6, 7] (vSeq (vFrz [4] (vAsg ((vIte ((vBool (vBin neF (vVar 4) ((vList (vr [])))))) ((vLcF [8] (vItSeq (vVar 4)) (vSetD 8) (vBool (vBin eqF ((vBin ixD (vVar 0) (vVar 8))) ((vCall minD ((vCons ((vLcF [9] (vItSeq (vVar 4)) (vSetD 9) (vr true) ((vBin ixD (vVar 0) (vVar 9))))) (vr []))))))) (vVar 8))) ((vList (vr []))))) (vSet 6)))
      (vSeq (vFrz [6] (vPar [7] (vPc (vVar 6) (vr []))))
      (vSeq (vFrz [3] law_one_take_s2)
      (vSeq (vFrz [3, 7] (vAsg ((vBin addD (vVar 3) (vVar 7))) (vSet 3)))
      (vSeq (vFrz [4, 7] (vAsg ((vLcF [8] (vItSeq (vVar 4)) (vSetD 8) (vBool (vBin notinF (vVar 8) (vVar 7))) (vVar 8))) (vSet 4)))
      (vFrz [6, 7] law_one_take_s1))))))))
def g__law_one_take : VM Ctl :=
  (vSeq (vPar [3, 4] (vPc ((vList (vr []))) ((vPc ((vCall listD ((vCons (vVar 1) (vr []))))) (vr [])))))
      (vSeq law_one_take_s3
      (vFrz [3] (vRet ((vIte ((vBool (vBin eqF (vVar 2) (vC (.int 1))))) ((vCall sorted3 ((vCons (vVar 3) (vr []))))) ((vUn revD ((vCall sorted3 ((vCons (vVar 3) (vr [])))))))))))))
def F__law_one_take : FM := runF 10 g__law_one_take
/-- _law_filling -/
def law_filling_s1 : VM Ctl :=
  (vIf ((vBool (vBin neF (vVar 2) ((vList (vr [])))))) (vSeq (vFrz [2, 4] (vDrop ((vMut appendD (vVar 3) ((vCons ((vCallF F__law_one_take ((vCons (vVar 0) ((vCons (vVar 2) ((vCons (vVar 4) (vr []))))))))) (vr [])))))))
      (vFrz [2] (vAsg (vLcF [5] (vItSeq (vVar 2)) (vSetD 5) (vBool (vBin notinF (vVar 5) ((vBin ixD (vVar 3) ((vUn negD (vC (.int 1)))))))) (vVar 5)) (vSet 2)))) vNx)
def law_filling_s2 : VM Ctl :=
  (vFor (vItSeq (vVar 1)) (vSetD 4) (vFgtE [4] (vFrz [2] law_filling_s1)))
def g__law_filling : VM Ctl :=
  (vSeq (vPar [2, 3] (vPc ((vListRg ((vCall lenD ((vCons (vVar 0) (vr []))))))) ((vPc ((vList (vr []))) (vr [])))))
      (vSeq law_filling_s2
      (vRet (vVar 3))))
def F__law_filling : FM := runF 6 g__law_filling
/-- _law_needed -/
def g__law_needed : VM Ctl :=
  (vSeq (vAsg ((vCallF F__law_filling ((vCons (vVar 0) ((vCons (vVar 1) (vr []))))))) (vSet 2))
      (vFrz [2] (vRet ((vIte ((vBool (vBin eqF ((vCall sumD ((vCons ((vLcF [3] (vItSeq (vVar 2)) (vSetD 3) (vr true) ((vCall lenD ((vCons (vVar 3) (vr []))))))) (vr []))))) ((vCall lenD ((vCons (vVar 0) (vr [])))))))) ((vCall lenD ((vCons (vVar 2) (vr []))))) (vC .none))))))
def F__law_needed : FM := runF 4 g__law_needed
/-- _law_signs -/
def g__law_signs : VM Ctl :=
  (vRet ((vCall tupleD ((vCons ((vLcF [2, 3] (vItSeq ((vCallF F__law_in_order ((vCons (vVar 0) ((vCons (vVar 1) (vr [])))))))) (vUnpT [(vSetD 2), (vSetD 3)]) (vr true) (vVar 3))) (vr []))))))
def F__law_signs : FM := runF 4 g__law_signs
/-- are_integers -/
def g_are_integers : VM Ctl :=
  (vRet ((vAndV ((vIsi [.tuple] (vVar 0))) ((vCall allD ((vCons ((vLcF [1] (vItSeq (vVar 0)) (vSetD 1) (vr true) ((vCallF F_is_integer ((vCons (vVar 1) (vr []))))))) (vr []))))))))
def F_are_integers : FM := runF 2 g_are_integers
/-- stand_by -/
def g_stand_by : VM Ctl :=
  (vRet ((vCall allD ((vCons ((vLcF [2, 3] (vItZip ((vCons (vVar 1) ((vCons ((vSl (vVar 1) (vPart (some (vC (.int 1)))) (vPart none))) (vr [])))))) (vUnpT [(vSetD 2), (vSetD 3)]) (vr true) ((vBin ltD ((vBin mulE (vVar 0) (vVar 2))) ((vBin mulE (vVar 0) (vVar 3))))))) (vr []))))))
def F_stand_by : FM := runF 4 g_stand_by
/-- is_parting -/
def is_parting_s1 : VM Ctl :=
  (vIf ((vOr ((vBool (vBin neF ((vCall sorted3 ((vCons (vVar 3) (vr []))))) ((vListRg ((vCall lenD ((vCons (vVar 0) (vr [])))))))))) ((vNot ((vTru ((vCallF F_is_sorted ((vCons ((vLcF [5] (vItSeq (vVar 3)) (vSetD 5) (vr true) ((vBin ixD (vVar 0) (vVar 5))))) (vr []))))))))))) (vRet (vC (.bool false))) vNx)
def is_parting_s2 : VM Ctl :=
  (vIf ((vOr ((vNot ((vTru ((vIsi [.tuple] (vVar 2))))))) ((vOr ((vBool (vBin gtD ((vCall lenD ((vCons (vVar 2) (vr []))))) ((vCall lenD ((vCons (vVar 1) (vr [])))))))) ((vNot ((vTru ((vCall allD ((vCons ((vLcF [4] (vItSeq (vVar 2)) (vSetD 4) (vr true) ((vCallF F_are_integers ((vCons (vVar 4) (vr []))))))) (vr []))))))))))))) (vRet (vC (.bool false))) vNx)
def g_is_parting : VM Ctl :=
  (vSeq is_parting_s2
      (vSeq (vAsg (vLc2 [4, 5] [5] (vItSeq (vVar 2)) (vSetD 4) (vr true) (vItSeq (vVar 4)) (vSetD 5) (vr true) (vVar 5)) (vSet 3))
      (vSeq (vFrz [3] is_parting_s1)
      (vRet ((vCall allD ((vCons ((vLcF [6, 4] (vItZip ((vCons (vVar 1) ((vCons (vVar 2) (vr [])))))) (vUnpT [(vSetD 6), (vSetD 4)]) (vr true) ((vCallF F_stand_by ((vCons (vVar 6) ((vCons (vVar 4) (vr []))))))))) (vr [])))))))))
def F_is_parting : FM := runF 7 g_is_parting
/-- signs_of -/
def g_signs_of : VM Ctl :=
  (vRet ((vCall tupleD ((vCons ((vLcF [2, 3] (vItSeq ((vCallF F_codes_in_order ((vCons (vVar 0) ((vCons (vVar 1) (vr [])))))))) (vUnpT [(vSetD 2), (vSetD 3)]) (vr true) (vVar 3))) (vr []))))))
def F_signs_of : FM := runF 4 g_signs_of
/-- one_take -/
def one_take_s1 : VM Ctl :=
  (vIf ((vBool (vBin ltD ((vCall lenD ((vCons (vVar 7) (vr []))))) ((vCall lenD ((vCons (vVar 6) (vr [])))))))) (vr .bk) vNx)
def one_take_s2 : VM Ctl :=
  (vFor (vItSeq ((vCall sorted4 ((vCons ((vDc [8] (vItSeq (vVar 1)) (vSetD 8) (vr true) ((vBin ixD (vVar 0) (vVar 8))) (vC (.bool true)))) (vr [])))))) (vSetD 5) (vFgtE [5, 6, 7] (vSeq (vFrz [5] (vAsg (vLcF [8] (vItSeq (vVar 1)) (vSetD 8) (vBool (vBin eqF ((vBin ixD (vVar 0) (vVar 8))) (vVar 5))) (vVar 8)) (vSet 6)))
      (vSeq (vFrz [4, 6] (vAsg (vLcF [8] (vItSeq (vVar 6)) (vSetD 8) (vOr ((vBool (vBin isE (vVar 4) (vC .none)))) ((vBool (vBin gtD ((vBin mulE (vVar 2) (vVar 8))) ((vBin mulE (vVar 2) (vVar 4))))))) (vVar 8)) (vSet 7)))
      (vSeq (vFrz [7] (vDrop ((vMutB extendD (vVar 3) ((vCons (vVar 7) (vr [])))))))
      (vSeq (vFrz [6, 7] one_take_s1)
      (vAsg ((vIte ((vBool (vBin eqF (vVar 2) (vC (.int 1))))) ((vCall maxD ((vCons (vVar 3) (vr []))))) ((vCall minD ((vCons (vVar 3) (vr []))))))) (vSet 4))))))))
def g_one_take : VM Ctl :=
  (vSeq (vPar [3, 4] (vPc ((vList (vr []))) ((vPc (vC .none) (vr [])))))
      (vSeq one_take_s2
      (vRet ((vCall tupleD ((vCons ((vSortMul 2 (vVar 3))) (vr []))))))))
def F_one_take : FM := runF 9 g_one_take
/-- takes_and_left -/
def takes_and_left_s1 : VM Ctl :=
  (vIf ((vTru (vVar 3))) (vSeq (vFrz [3, 4] (vDrop ((vMut appendD (vVar 2) ((vCons ((vCallF F_one_take ((vCons (vVar 0) ((vCons (vVar 3) ((vCons (vVar 4) (vr []))))))))) (vr [])))))))
      (vFrz [3] (vAsg (vLcF [5] (vItSeq (vVar 3)) (vSetD 5) (vBool (vBin notinF (vVar 5) ((vBin ixD (vVar 2) ((vUn negD (vC (.int 1)))))))) (vVar 5)) (vSet 3)))) vNx)
def takes_and_left_s2 : VM Ctl :=
  (vFor (vItSeq (vVar 1)) (vSetD 4) (vFgtE [4] (vFrz [3] takes_and_left_s1)))
def g_takes_and_left : VM Ctl :=
  (vSeq (vPar [2, 3] (vPc ((vList (vr []))) ((vPc ((vListRg ((vCall lenD ((vCons (vVar 0) (vr []))))))) (vr [])))))
      (vSeq takes_and_left_s2
      (vFrz [2, 3] (vRet ((vTuple ((vCons (vVar 2) ((vCons (vVar 3) (vr [])))))))))))
def F_takes_and_left : FM := runF 6 g_takes_and_left
/-- left_by -/
def g_left_by : VM Ctl :=
  (vRet ((vCall tupleD ((vCons ((vBin ixD ((vCallF F_takes_and_left ((vCons (vVar 0) ((vCons (vVar 1) (vr []))))))) (vC (.int 1)))) (vr []))))))
def F_left_by : FM := runF 2 g_left_by
/-- can_sort -/
def g_can_sort : VM Ctl :=
  (vRet ((vBin eqF ((vCallF F_left_by ((vCons (vVar 0) ((vCons ((vCallF F_signs_of ((vCons (vVar 1) ((vCons (vVar 2) (vr []))))))) (vr []))))))) ((vTuple (vr []))))))
def F_can_sort : FM := runF 3 g_can_sort
/-- filling -/
def g_filling : VM Ctl :=
  (vRet ((vCall tupleD ((vCons ((vBin ixD ((vCallF F_takes_and_left ((vCons (vVar 0) ((vCons (vVar 1) (vr []))))))) (vC (.int 0)))) (vr []))))))
def F_filling : FM := runF 2 g_filling
/-- runs_needed -/
def g_runs_needed : VM Ctl :=
  (vRet ((vCall lenD ((vCons ((vCallF F_filling ((vCons (vVar 0) ((vCons ((vBin mulE ((vTuple ((vCons (vC (.int 1)) (vr []))))) ((vCall lenD ((vCons (vVar 0) (vr []))))))) (vr []))))))) (vr []))))))
def F_runs_needed : FM := runF 1 g_runs_needed
end LB
set_option Elab.async false
set_option linter.all false
set_option maxRecDepth 100000
namespace LB
open PySem PySem.Spec PyProof.Rows L2 VL
theorem seq_then {f g : VM Ctl} {s s1 : VS} {r : Res (Ctl × VS)} (h : f s = .ok (.nx, s1)) (h2 : g s1 = r) : vSeq f g s = r := by rw [m_seq, h]; exact h2
theorem at_0 {x : Da} {xs : List Da} : atI (x :: xs) 0 = some x := by rw [at_nat (by decide)]; rfl
theorem at_1 {x y : Da} {xs : List Da} : atI (x :: y :: xs) 1 = some y := by rw [at_nat (by decide)]; rfl
theorem at_2 {x y z : Da} {xs : List Da} : atI (x :: y :: z :: xs) 2 = some z := by rw [at_nat (by decide)]; rfl
theorem at_3 {x y z w : Da} {xs : List Da} : atI (x :: y :: z :: w :: xs) 3 = some w := by rw [at_nat (by decide)]; rfl
theorem sd_0 {x y : Da} {xs : List Da} : setD (x :: xs) [.int 0, y] = some (y :: xs, .none) := by rw [setD_i (by decide) (by simp only [List.length_cons]; omega)]; rfl
theorem sd_1 {x y z : Da} {xs : List Da} : setD (x :: y :: xs) [.int 1, z] = some (x :: z :: xs, .none) := by rw [setD_i (by decide) (by simp only [List.length_cons]; omega)]; rfl
theorem sd_2 {x y z w : Da} {xs : List Da} : setD (x :: y :: z :: xs) [.int 2, w] = some (x :: y :: w :: xs, .none) := by rw [setD_i (by decide) (by simp only [List.length_cons]; omega)]; rfl
theorem cut_from {xs : List Da} {i : Int} (h : 0 ≤ i) : VL.cutD xs (some i) none = xs.drop i.toNat := by
  obtain ⟨k, rfl⟩ := Int.eq_ofNat_of_zero_le h
  unfold VL.cutD
  rw [show HT.sIx xs.length 0 (some (k : Int)) = min k xs.length from HT.sIx_nat xs.length 0 k, HT.sIx_none]
  show List.take _ _ = List.drop k xs
  by_cases hk : k ≤ xs.length
  · rw [Nat.min_eq_left hk, List.take_of_length_le (by rw [List.length_drop]; exact Nat.le_refl _)]
  · rw [Nat.min_eq_right (by omega), List.drop_of_length_le (Nat.le_refl _), List.drop_of_length_le (by omega), List.take_nil]
def bagL (b0 b1 b2 : Int) (cs : List Int) : List Da := [.int b0, .int b1, .int b2, .list (cs.map PyData.int)]
/-- a bag of which n more numbers may be drawn -/
def BagOk (n : Nat) (bag : List Da) : Prop := ∃ (b0 b1 b2 : Int) (cs : List Int), bag = bagL b0 b1 b2 cs ∧ 0 ≤ b0 ∧ 0 ≤ b1 ∧ b1 < 4294967296 ∧ 0 ≤ b2 ∧ b2 + n ≤ 4611686018427387904 ∧ (∀ c ∈ cs, 0 ≤ c) ∧ cs.length ≤ 100000
theorem BagOk.mono {m n : Nat} {bag : List Da} (h : BagOk n bag) (hm : m ≤ n) : BagOk m bag := by
  obtain ⟨b0, b1, b2, cs, e, h0, h1, h2, h3, h4, h5, h6⟩ := h
  exact ⟨b0, b1, b2, cs, e, h0, h1, h2, h3, by omega, h5, h6⟩
theorem lg {i : Int} (h0 : 0 ≤ i) (h1 : i < 9223372036854775808) : i.natAbs.log2 < 64 := by
  by_cases h : i.natAbs = 0
  · rw [h]; decide
  · exact (Nat.log2_lt h).mpr (by omega)
theorem mulg {i j : Int} (h0 : 0 ≤ i) (h1 : i < 9223372036854775808) (g0 : 0 ≤ j) (g1 : j < 9223372036854775808) : i.natAbs.log2 + j.natAbs.log2 < 1000000 := by
  have := lg h0 h1
  have := lg g0 g1
  omega
theorem head_cell (cs : List Int) (k : Nat) (h : ∀ c ∈ cs, 0 ≤ c) : ∃ c : Int, 0 ≤ c ∧ atI ((cs.map PyData.int).drop k ++ [.int 0]) 0 = some (.int c) := by
  rw [at_nat (by decide)]
  by_cases hk : k < cs.length
  · refine ⟨cs[k], h _ (List.getElem_mem hk), ?_⟩
    have : (0 : Int).toNat = 0 := rfl
    rw [this, List.getElem?_append_left (by rw [List.length_drop, List.length_map]; omega), List.getElem?_drop, List.getElem?_map, Nat.add_zero, List.getElem?_eq_getElem hk]; rfl
  · refine ⟨0, by decide, ?_⟩
    rw [List.drop_of_length_le (by rw [List.length_map]; omega)]; rfl
theorem take_ok {n : Nat} {bag : List Da} {m : Int} (hb : BagOk (n + 1) bag) (hm : 0 < m) (hm2 : m < 9223372036854775808) :
    ∃ (v : Int) (bag' : List Da), F__law_take [.io (.l bag), .d (.int m)] = .ok (.d (.int v), [.io (.l bag'), .d (.int m)]) ∧ 0 ≤ v ∧ v < m ∧ BagOk n bag' := by
  obtain ⟨b0, b1, b2, cs, rfl, h0, h1, h2, h3, h4, h5, h6⟩ := hb
  have key : ∃ (v : Int) (b0' b1' b2' : Int) (s : VS), g__law_take ([.io (.l (bagL b0 b1 b2 cs)), .d (.int m)] ++ List.replicate (7 - 2) .un) = .ok (.rt (.d (.int v)), .io (.l (bagL b0' b1' b2' cs)) :: s) ∧ s ≠ [] ∧ 0 ≤ v ∧ v < m ∧ BagOk n (bagL b0' b1' b2' cs) := by
    have e : ([.io (.l (bagL b0 b1 b2 cs)), .d (.int m)] ++ List.replicate (7 - 2) .un : VS) = [.io (.l (bagL b0 b1 b2 cs)), .d (.int m), .un, .un, .un, .un, .un] := rfl
    rw [e]
    unfold g__law_take law_take_s3 law_take_s2 law_take_s1 bagL
    have hml := lg (Int.le_of_lt hm) hm2
    -- the second half
    have fin : ∀ (b0 b1 b2 : Int) (x2 x3 : SV), 0 ≤ b0 → 0 ≤ b1 → b1 < 4294967296 → 0 ≤ b2 → b2 + n ≤ 4611686018427387904 → ∃ (v : Int) (b0' b1' b2' : Int) (s : VS), (vSeq (vIf ((VL.vBool (vBin gtD ((vBin ixD (vVar 0) (vC (.int 0)))) (vC (.int 0))))) (vSeq (vAsg ((vBin modD ((vCall toIntD ((vCons ((vBin ixD (vVar 0) (vC (.int 0)))) (vr []))))) (vVar 1))) (vSet 4))
      (vSeq (vAsgD ((vBin fdivD ((vCall toIntD ((vCons ((vBin ixD (vVar 0) (vC (.int 0)))) (vr []))))) (vVar 1))) (vSub (vVar 0) (vC (.int 0))))
      (vFrz [4] (vRet (vVar 4))))) vNx)
      (vSeq (vAsg ((vBin modD ((vCall toIntD ((vCons ((vBin mulE ((vBin addD ((vBin ixD (vVar 0) (vC (.int 1)))) (vC (.int 1)))) (vC (.int 39373)))) (vr []))))) (vC (.int 1000000007)))) (vSet 5))
      (vSeq (vFrz [5] (vAsg ((vBin modD ((vCall toIntD ((vCons ((vBin mulE ((vBin modD ((vCall toIntD ((vCons ((vBin mulE (vVar 5) (vVar 5))) (vr []))))) (vC (.int 998244353)))) (vC (.int 30011)))) (vr []))))) (vC (.int 998244353)))) (vSet 6)))
      (vFrz [6] (vRet ((vBin modD ((vCall toIntD ((vCons ((vBin fdivD (vVar 6) (vC (.int 7)))) (vr []))))) (vVar 1))))))))
        [.io (.l [.int b0, .int b1, .int b2, .list (cs.map PyData.int)]), .d (.int m), x2, x3, .un, .un, .un] = .ok (.rt (.d (.int v)), .io (.l [.int b0', .int b1', .int b2', .list (cs.map PyData.int)]) :: s) ∧ s ≠ [] ∧ 0 ≤ v ∧ v < m ∧ BagOk n [.int b0', .int b1', .int b2', .list (cs.map PyData.int)] := by
      intro b0 b1 b2 x2 x3 h0 h1 h2 h3 h4
      by_cases hb : 0 < b0
      · simp! only [at_0, at_1, at_2, at_3, sd_0, sd_1, sd_2, hm, hb, decide_true]
        rw [if_pos ⟨trivial, by omega⟩]
        simp! only [at_0, at_1, at_2, at_3, sd_0, sd_1, sd_2]
        exact ⟨_, _, _, _, _, rfl, by simp, Int.emod_nonneg _ (by omega), Int.emod_lt_of_pos _ hm, _, _, _, cs, rfl, Int.ediv_nonneg h0 (by omega), h1, h2, h3, h4, h5, h6⟩
      · have g1 : (b1 + 1).natAbs.log2 + (39373 : Int).natAbs.log2 < 1000000 := mulg (by omega) (by omega) (by decide) (by decide)
        simp! only [at_0, at_1, at_2, at_3, sd_0, sd_1, sd_2, hm, hb, decide_false, g1]
        have p1 : (0 : Int) < 1000000007 := by decide
        have p2 : (0 : Int) < 998244353 := by decide
        simp! only [p1, p2]
        generalize hx : (b1 + 1) * 39373 % 1000000007 = x
        have x0 : 0 ≤ x := by rw [← hx]; exact Int.emod_nonneg _ (by decide)
        have x1 : x < 1000000007 := by rw [← hx]; exact Int.emod_lt_of_pos _ (by decide)
        have g2 : x.natAbs.log2 + x.natAbs.log2 < 1000000 := mulg x0 (by omega) x0 (by omega)
        simp! only [g2, p2]
        generalize hy : x * x % 998244353 = y
        have y0 : 0 ≤ y := by rw [← hy]; exact Int.emod_nonneg _ (by decide)
        have y1 : y < 998244353 := by rw [← hy]; exact Int.emod_lt_of_pos _ (by decide)
        have g3 : y.natAbs.log2 + (30011 : Int).natAbs.log2 < 1000000 := mulg y0 (by omega) (by decide) (by decide)
        have p3 : (0 : Int) < 7 ∧ (7 : Int).natAbs.log2 < 9000 := by decide
        simp! only [g3, p2, p3, hm]
        exact ⟨_, _, _, _, _, rfl, by simp, Int.emod_nonneg _ (by omega), Int.emod_lt_of_pos _ hm, _, _, _, cs, rfl, h0, h1, h2, h3, h4, h5, h6⟩
    by_cases hz : b0 = 0
    · subst hz
      obtain ⟨cell, c0, hc⟩ := head_cell cs b2.toNat h5
      have pw : (0 : Int) ≤ 18 ∧ (18 : Int) ≤ 1000000 ∧ (10 : Int).natAbs < 2 ^ 64 := by decide
      have q1 := mulg h1 (by omega) (show (0 : Int) ≤ 48271 by decide) (by decide)
      have q2 := mulg (show (0 : Int) ≤ 7919 by decide) (by decide) (show 0 ≤ b2 + 1 by omega) (by omega)
      have p1 : (0 : Int) < 2147483647 := by decide
      have l2 : ([PyData.int 0] : List Da).length ≤ 16777216 := by decide
      have l3 : ((cs.map PyData.int).drop b2.toNat).length + ([PyData.int 0] : List Da).length ≤ 16777216 := by rw [List.length_drop, List.length_map]; show _ + 1 ≤ _; omega
      generalize hst : b1 * 48271 + cell % 2147483647 + 7919 * (b2 + 1) = stir
      have s0 : 0 ≤ stir % 2147483647 := Int.emod_nonneg _ (by decide)
      have s1 : stir % 2147483647 < 4294967296 := by have := Int.emod_lt_of_pos stir p1; omega
      by_cases hw : 10 ^ (18 : Int).toNat ≤ cell
      · obtain ⟨v, b0', b1', b2', s, e, r⟩ := fin cell (stir % 2147483647) (b2 + 1) (.d (.int cell)) (.d (.int stir)) c0 s0 s1 (by omega) (by omega)
        refine ⟨v, b0', b1', b2', s, seq_then ?_ e, r⟩
        simp! only [at_0, at_1, at_2, at_3, sd_0, sd_1, sd_2, decide_true, cut_from h3, l2, l3, hc, pw, q1, q2, p1, hw, hst]
      · obtain ⟨v, b0', b1', b2', s, e, r⟩ := fin 0 (stir % 2147483647) (b2 + 1) (.d (.int cell)) (.d (.int stir)) (by decide) s0 s1 (by omega) (by omega)
        refine ⟨v, b0', b1', b2', s, seq_then ?_ e, r⟩
        simp! only [at_0, at_1, at_2, at_3, sd_0, sd_1, sd_2, decide_true, decide_false, cut_from h3, l2, l3, hc, pw, q1, q2, p1, hw, hst]
    · obtain ⟨v, b0', b1', b2', s, e, r⟩ := fin b0 b1 b2 .un .un h0 h1 h2 h3 (by omega)
      refine ⟨v, b0', b1', b2', s, seq_then ?_ e, r⟩
      simp! only [at_0, decide_false, hz]
  obtain ⟨v, b0', b1', b2', s, e, hs, hv, hv2, hb'⟩ := key
  refine ⟨v, _, ?_, hv, hv2, hb'⟩
  cases s with
  | nil => exact absurd rfl hs
  | cons x s => exact run_ok (c := .rt (.d (.int v))) e rfl
end LB
set_option Elab.async false
set_option linter.all false
set_option maxRecDepth 100000
namespace LB
open PySem PySem.Spec PyProof.Rows L2 VL
/-- ints as a tuple -/
def tupI (xs : List Int) : Da := .tuple (xs.map PyData.int)
theorem cut_to {xs : List Da} {i : Int} (h : 0 ≤ i) : VL.cutD xs none (some i) = xs.take i.toNat := by
  obtain ⟨k, rfl⟩ := Int.eq_ofNat_of_zero_le h
  unfold VL.cutD
  rw [show HT.sIx xs.length xs.length (some (k : Int)) = min k xs.length from HT.sIx_nat xs.length xs.length k, HT.sIx_none]
  show List.take (min k xs.length - 0) (List.drop 0 xs) = List.take k xs
  rw [Nat.sub_zero, List.drop_zero]
  by_cases hk : k ≤ xs.length
  · rw [Nat.min_eq_left hk]
  · rw [Nat.min_eq_right (by omega), List.take_of_length_le (Nat.le_refl _), List.take_of_length_le (by omega)]
theorem bag_ok (ns : List Int) : ∃ cs : List Int, F__law_bag [.rd (ns.map PyData.int)] = .ok (.own (.l (bagL 0 1234567891 0 cs)), [.rd (ns.map PyData.int)]) ∧ (∀ c ∈ cs, 0 ≤ c) ∧ cs.length ≤ 63 := by
  refine ⟨(ns.take 63).map fun i => if i < 0 then -i else i, ?_, ?_, ?_⟩
  · refine run_ok (c := .rt (.own (.l (bagL 0 1234567891 0 ((ns.take 63).map fun i => if i < 0 then -i else i))))) (s := [.rd (ns.map PyData.int), .un]) ?_ rfl
    show g__law_bag [.rd (ns.map PyData.int), .un] = _
    have lc : vLcF [1] (vItSeq (vSl (vVar 0) (vPart none) (vPart (some (vC (.int 63)))))) (vSetD 1) (vr true) (vCall absD (vCons (vVar 1) (vr []))) [.rd (ns.map PyData.int), .un] = .ok (.own (.l (((ns.take 63).filter fun _ => true).map fun i => PyData.int (if i < 0 then -i else i))), [.rd (ns.map PyData.int), .un]) := by
      refine lcF_of (xs := (ns.take 63).map PyData.int) (L := []) (s1 := [.rd (ns.map PyData.int), .un]) (s2 := [.rd (ns.map PyData.int), .un]) ?_ rfl ?_ ?_
      · simp! only [cut_to (show (0 : Int) ≤ 63 by decide)]
        rw [List.map_take]; rfl
      · exact lcG_pure (p := fun _ => true) (h := fun i => PyData.int (if i < 0 then -i else i)) (ns.take 63) fun i _ => ⟨[.rd (ns.map PyData.int), .d (.int i)], [.rd (ns.map PyData.int), .d (.int i)], by simp! only [], rfl, fun h => absurd h (by decide), fun _ => ⟨.d (.int (if i < 0 then -i else i)), [.rd (ns.map PyData.int), .d (.int i)], by simp! only [], rfl, rfl, rfl⟩⟩
      · rw [List.length_map]
        have := List.length_filter_le (fun _ => true) (ns.take 63)
        have := List.length_take_le 63 ns
        omega
    unfold g__law_bag
    simp! only [lc]
    rw [List.filter_eq_self.mpr (by simp)]
    simp! only [List.length_cons, List.length_nil]
    unfold bagL
    rw [List.map_map]
    rfl
  · intro c hc
    obtain ⟨i, _, rfl⟩ := List.mem_map.mp hc
    split <;> omega
  · rw [List.length_map]; exact List.length_take_le 63 ns
/-- a list of one's own, or a parameter's -/
theorem arg_ob {s : VS} {k : Nat} {b : Bool} {c : OC} (h : s[k]? = some (ownB b c)) : argSV1 s (.loan k) = some (.io c) := by
  rw [arg_l, h]; cases b <;> rfl
theorem put_ob {s : VS} {k : Nat} {b : Bool} {c c' : OC} (h : s[k]? = some (ownB b c)) : putC k c' s = s.set k (ownB b c') := by
  rw [m_put, h]; cases b <;> rfl
theorem take_at {n k : Nat} {s : VS} {b : Bool} {bag : List Da} {m : Int} (hs : s[k]? = some (ownB b (.l bag))) (hb : BagOk (n + 1) bag) (hm : 0 < m) (hm2 : m < 9223372036854775808) :
    ∃ (v : Int) (bag' : List Da), callF F__law_take [.loan k, .d (.int m)] s = .ok (.d (.int v), s.set k (ownB b (.l bag'))) ∧ 0 ≤ v ∧ v < m ∧ BagOk n bag' := by
  obtain ⟨v, bag', h, h0, h1, hb'⟩ := take_ok hb hm hm2
  refine ⟨v, bag', ?_, h0, h1, hb'⟩
  rw [callF_ok (by simp [loans]) (by rw [arg_c, arg_ob hs]; rfl) h (fun i => by intro z; cases z), put_io, put_ob hs, put_d, put_n]
theorem rngD_map (n : Nat) : rngD 0 n 1 = (List.range n).map fun (i : Nat) => PyData.int (Int.ofNat i) := by
  unfold rngD
  apply List.map_congr_left
  intro i _
  rw [Int.zero_add, Int.mul_one]; rfl
end LB
set_option Elab.async false
set_option linter.all false
set_option maxRecDepth 100000
namespace LB
open PySem PySem.Spec PyProof.Rows L2 VL
def codesX (n : Nat) (A : List (List Int)) : List (List Int) := A.flatMap fun c => (List.range n).map fun (t : Nat) => c ++ [Int.ofNat t]
def codesP (n : Nat) : Nat → List (List Int)
  | 0 => [[]]
  | p + 1 => codesX n (codesP n p)
end LB
set_option Elab.async false
set_option linter.all false
set_option maxRecDepth 100000
namespace LB
open PySem PySem.Spec PyProof.Rows L2 VL
def listI (xs : List Int) : Da := .list (xs.map PyData.int)
def intN (n : Nat) : Da := .int (Int.ofNat n)
theorem ix_seq {x : Da} {xs : List Da} {i : Int} (h : seqD x = some xs) : ixD x (.int i) = (atI xs i).map .d := by
  cases x with
  | list _ => cases h; rfl
  | tuple _ => cases h; rfl
  | _ => cases h
theorem at_get {xs : List Int} {w : Nat} (h : w < xs.length) : atI (xs.map PyData.int) (Int.ofNat w) = some (.int (xs.getD w 0)) := by
  rw [at_nat (show (0 : Int) ≤ Int.ofNat w from Int.natCast_nonneg w)]
  show (xs.map PyData.int)[w]? = _
  rw [List.getElem?_map, List.getElem?_eq_getElem h, List.getD_eq_getElem?_getD, List.getElem?_eq_getElem h]; rfl
/-- the wagons of a track -/
def laneP (ord : List Nat) (rs : List Int) (t : Nat) : List Nat := ord.filter fun w => decide (rs.getD w 0 = Int.ofNat t)
/-- one pass: the through tracks as they lie, the stubs the other way about -/
def passP (ord : List Nat) (rs : List Int) : Nat → List Int → List Nat
  | _, [] => []
  | t, k :: ks => (if k = 0 then laneP ord rs t else (laneP ord rs t).reverse) ++ passP ord rs (t + 1) ks
def zipK (ord : List Nat) (rs : List Int) : Nat → List Int → List Da
  | _, [] => []
  | t, k :: ks => .tuple [.int k, .list ((laneP ord rs t).map intN)] :: zipK ord rs (t + 1) ks
end LB
set_option Elab.async false
set_option linter.all false
set_option maxRecDepth 100000
namespace LB
open PySem PySem.Spec PyProof.Rows L2 VL
theorem while_inv {c : VM Bool} {g : VM Ctl} (R : Nat → VS → Prop) (Q : VS → Prop) (step : ∀ n s, R n s → ∃ b s1, c s = .ok (b, s1) ∧ (b = false → Q s1) ∧ (b = true → ∃ k s2 m, g s1 = .ok (k, s2) ∧ (k = .nx ∨ k = .ct) ∧ m < n ∧ R m s2)) :
    ∀ (fu n : Nat) (s : VS), n < fu → R n s → ∃ s', vWhileN c g fu s = .ok (.nx, s') ∧ Q s'
  | 0, n, s, h, _ => by omega
  | fu + 1, n, s, h, hR => by
    obtain ⟨b, s1, h1, hf, ht⟩ := step n s hR
    cases b with
    | false =>
      refine ⟨s1, ?_, hf rfl⟩
      show vb c _ s = _
      rw [m_vb, h1, bnd_ok]; rfl
    | true =>
      obtain ⟨k, s2, m, h2, hk, hm, hR2⟩ := ht rfl
      obtain ⟨s', h3, hQ⟩ := while_inv R Q step fu m s2 (by omega) hR2
      refine ⟨s', ?_, hQ⟩
      show vb c _ s = _
      rw [m_vb, h1, bnd_ok, if_pos rfl, m_vb, h2, bnd_ok]
      rcases hk with rfl | rfl <;> exact h3
mutual
def nodesD : Da → Nat
  | .list xs => 1 + nodesL xs
  | .tuple xs => 1 + nodesL xs
  | _ => 1
def nodesL : List Da → Nat
  | [] => 0
  | x :: xs => nodesD x + nodesL xs
end
theorem nodesD_pos (x : Da) : 1 ≤ nodesD x := by cases x <;> simp only [nodesD] <;> omega
theorem nodesL_len : ∀ xs : List Da, xs.length ≤ nodesL xs
  | [] => Nat.zero_le _
  | x :: xs => by
    have := nodesL_len xs
    have := nodesD_pos x
    simp only [nodesL, List.length_cons]; omega
theorem nodesL_app : ∀ xs ys : List Da, nodesL (xs ++ ys) = nodesL xs + nodesL ys
  | [], ys => by simp [nodesL]
  | x :: xs, ys => by simp only [List.cons_append, nodesL, nodesL_app xs ys]; omega
def dupD (x : Da) : Da := .tuple [x, x]
theorem zip_dup : ∀ xs : List Da, zipD xs xs = xs.map dupD
  | [] => rfl
  | x :: xs => by show _ :: zipD xs xs = _; rw [zip_dup xs]; rfl
/-- data that the comparing meets: no dicts, texts that may be laid -/
def GoodD (x : Da) : Prop := ∃ n, shF n x = true
theorem good_list {xs : List Da} (h : GoodD (.list xs)) : ∀ x ∈ xs, GoodD x := by
  obtain ⟨n, h⟩ := h
  cases n with
  | zero => simp only [shF] at h; cases h
  | succ n =>
    simp only [shF] at h
    intro x hx
    refine ⟨n, ?_⟩
    induction xs with
    | nil => cases hx
    | cons y ys ih =>
      simp only [shFs, Bool.and_eq_true] at h
      rcases List.mem_cons.mp hx with rfl | hx
      · exact h.1
      · exact ih h.2 hx
theorem good_tuple {xs : List Da} (h : GoodD (.tuple xs)) : ∀ x ∈ xs, GoodD x := by
  obtain ⟨n, h⟩ := h
  refine good_list (xs := xs) ⟨n, ?_⟩
  cases n with
  | zero => simp only [shF] at h; cases h
  | succ n => simp only [shF] at h ⊢; exact h
theorem isi_run {ks : List KT} {f : VM EV} {s : VS} : vIsi ks f s = bnd (f s) fun r => vb (vRd r) fun x => vOpt (isiD ks x) := rfl
theorem isi_nd {ks : List KT} {x : Da} (h : tkD x = false) : isiD ks x = some (.d (.bool (ks.any fun k => isKT k x))) := by
  unfold isiD
  rw [h]; rfl
theorem isi_l {ks : List KT} {xs : List Da} : isiD ks (.list xs) = some (.d (.bool (ks.any fun k => isKT k (.list xs)))) := rfl
theorem isi_t {ks : List KT} {xs : List Da} : isiD ks (.tuple xs) = some (.d (.bool (ks.any fun k => isKT k (.tuple xs)))) := rfl
theorem good_nd {x : Da} (h : GoodD x) : tkD x = false := by
  obtain ⟨n, h⟩ := h
  cases x with
  | dict kvs => cases n <;> (simp only [shF] at h; cases h)
  | _ => rfl
theorem neF_b {a b : Bool} : neF (.bool a) (.bool b) = some (.d (.bool (!(a == b)))) := by
  show (if shF 64 (.bool a) = true ∧ shF 64 (.bool b) = true then some (EV.d (.bool (!PyData.eqv (.bool a) (.bool b)))) else none) = _
  rw [if_pos ⟨rfl, rfl⟩]
  simp only [PyData.eqv]
/-- a leaf is what it is -/
theorem neF_leaf {x : Da} (h : GoodD x) (hl : ∀ xs, x ≠ .list xs) (ht : ∀ xs, x ≠ .tuple xs) : neF x x = some (.d (.bool false)) := by
  obtain ⟨n, h⟩ := h
  cases x with
  | none => rfl
  | bool b => rw [neF_b]; simp
  | int i => rw [neF_i]; simp
  | str y =>
    have h64 : shF 64 (.str y) = true := by simp only [shF] at h ⊢; exact h
    show (if shF 64 (.str y) = true ∧ shF 64 (.str y) = true then some (EV.d (.bool (!PyData.eqv (.str y) (.str y)))) else none) = _
    rw [if_pos ⟨h64, h64⟩]
    simp only [PyData.eqv, beq_self_eq_true, Bool.not_true]
  | list xs => exact absurd rfl (hl xs)
  | tuple xs => exact absurd rfl (ht xs)
  | dict kvs => simp only [shF] at h; cases h
/-- one turn -/
def AlR (x y : Da) (N : Nat) (n : Nat) (s : VS) : Prop := ∃ (A B : List Da) (x4 x5 : SV), s = [.d x, .d y, .own (.l ((A ++ B).map dupD)), .d (.int (Int.ofNat A.length)), x4, x5] ∧ n = nodesL B ∧ A.length + nodesL B = N ∧ (∀ z ∈ B, GoodD z) ∧ wrOk (some x4) = true ∧ wrOk (some x5) = true
theorem alike_s6_ok {x y : Da} {N : Nat} (hN : N ≤ 1000000) {n : Nat} {s : VS} (h : AlR x y N n s) : ∃ s', law_alike_s6 s = .ok (.nx, s') ∧ ∃ (l : List Da) (x3 x4 x5 : SV), s' = [.d x, .d y, .own (.l l), x3, x4, x5] := by
  have hfu : n < fuel := by
    obtain ⟨A, B, x4, x5, rfl, rfl, e, _⟩ := h
    show _ < 1000000000
    omega
  unfold law_alike_s6 vWhile
  refine while_inv (AlR x y N) (fun s' => ∃ (l : List Da) (x3 x4 x5 : SV), s' = [.d x, .d y, .own (.l l), x3, x4, x5]) (fun n s hR => ?_) fuel n s hfu h
  obtain ⟨A, B, x4, x5, rfl, rfl, e, hg, h4, h5⟩ := hR
  refine ⟨decide (Int.ofNat A.length < (((A ++ B).map dupD).length : Int)), [.d x, .d y, .own (.l ((A ++ B).map dupD)), .d (.int (Int.ofNat A.length)), x4, x5], by simp! only [], fun _ => ⟨_, _, _, _, rfl⟩, fun hb => ?_⟩
  have hb := of_decide_eq_true hb
  cases B with
  | nil => rw [List.append_nil, List.length_map] at hb; exact absurd hb (by show ¬ ((A.length : Int) < A.length); omega)
  | cons z B =>
    have hz := hg z List.mem_cons_self
    have hB := fun w hw => hg w (List.mem_cons_of_mem _ hw)
    have kz : ∀ ks, isiD ks z = some (.d (.bool (ks.any fun k => isKT k z))) := fun ks => isi_nd (good_nd hz)
    have at1 : atI ((A ++ z :: B).map dupD) (Int.ofNat A.length) = some (dupD z) := by
      rw [at_nat (show (0 : Int) ≤ Int.ofNat A.length from Int.natCast_nonneg _)]
      show ((A ++ z :: B).map dupD)[A.length]? = _
      rw [List.getElem?_map, List.getElem?_append_right (Nat.le_refl _), Nat.sub_self]; rfl
    have at2 : Int.ofNat A.length + 1 = Int.ofNat (A ++ [z]).length := by rw [List.length_append]; rfl
    simp only [nodesL] at e ⊢
    have key : ∀ s2, (∃ B', s2 = [.d x, .d y, .own (.l ((A ++ z :: B').map dupD)), .d (.int (Int.ofNat (A ++ [z]).length)), .d z, .d z] ∧ nodesL B' + 1 = nodesD z + nodesL B ∧ ∀ w ∈ B', GoodD w) → ∃ m, m < nodesD z + nodesL B ∧ AlR x y N m s2 := fun s2 ⟨B', e2, e3, e4⟩ =>
      ⟨nodesL B', by omega, A ++ [z], B', .d z, .d z, by rw [e2, List.append_assoc]; rfl, rfl, by rw [List.length_append]; simp only [List.length_cons, List.length_nil]; omega, e4, rfl, rfl⟩
    have head : ∀ (r : VM Ctl) (q : Res (Ctl × VS)), r [.d x, .d y, .own (.l ((A ++ z :: B).map dupD)), .d (.int (Int.ofNat (A ++ [z]).length)), .d z, .d z] = q →
        (vSeq (vFrz [3] (vAsgD (vBin ixD (vVar 2) (vVar 3)) (vUnpT [vSetD 4, vSetD 5]))) (vSeq (vAug 3 iaddD (vC (.int 1))) (vSeq (vFrz [4, 5] law_alike_s5) (vSeq (vFrz [4, 5] law_alike_s4) r)))) [.d x, .d y, .own (.l ((A ++ z :: B).map dupD)), .d (.int (Int.ofNat A.length)), x4, x5] = q := fun r q hq => by
      refine seq_then (s1 := [.d x, .d y, .own (.l ((A ++ z :: B).map dupD)), .d (.int (Int.ofNat A.length)), .d z, .d z]) ?_ (seq_then (s1 := [.d x, .d y, .own (.l ((A ++ z :: B).map dupD)), .d (.int (Int.ofNat (A ++ [z]).length)), .d z, .d z]) ?_ (seq_then (s1 := [.d x, .d y, .own (.l ((A ++ z :: B).map dupD)), .d (.int (Int.ofNat (A ++ [z]).length)), .d z, .d z]) ?_ (seq_then (s1 := [.d x, .d y, .own (.l ((A ++ z :: B).map dupD)), .d (.int (Int.ofNat (A ++ [z]).length)), .d z, .d z]) ?_ hq)))
      · simp! only [at1, dupD, h4, h5]
      · simp! only [at2]
      · unfold law_alike_s5
        simp! only [isi_run, kz, neF_b, beq_self_eq_true, Bool.not_true]
      · unfold law_alike_s4
        simp! only [isi_run, kz, neF_b, beq_self_eq_true, Bool.not_true]
    have capB : nodesD z + nodesL B ≤ 1000000 := by omega
    have lenAB : ((A ++ z :: B).map dupD).length ≤ 1000000 := by
      have := nodesL_len B
      have := nodesD_pos z
      rw [List.length_map, List.length_append, List.length_cons]; omega
    have tail : ∀ zs : List Da, nodesD z = 1 + nodesL zs → (∀ w ∈ zs, GoodD w) → ∃ B', (A ++ z :: B).map dupD ++ zipD zs zs = (A ++ z :: B').map dupD ∧ nodesL B' + 1 = nodesD z + nodesL B ∧ (∀ w ∈ B', GoodD w) := fun zs hzs hgz => by
      refine ⟨B ++ zs, by rw [zip_dup, ← List.map_append, List.append_assoc]; rfl, by rw [nodesL_app]; omega, fun w hw => ?_⟩
      rcases List.mem_append.mp hw with hw | hw
      · exact hB w hw
      · exact hgz w hw
    by_cases hl : ∃ zs, z = .list zs
    · obtain ⟨zs, rfl⟩ := hl
      obtain ⟨B', e1, e2, e3⟩ := tail zs (by simp only [nodesD]) (good_list hz)
      obtain ⟨m, hm, hR⟩ := key _ ⟨B', rfl, e2, e3⟩
      have lz : zs.length ≤ 1000000 := by have := nodesL_len zs; simp only [nodesD] at capB; omega
      have c1 : min zs.length zs.length ≤ 16777216 := by omega
      have c2 : ((A ++ .list zs :: B).map dupD).length + (zipD zs zs).length ≤ 16777216 := by rw [zipD_len]; omega
      refine ⟨.nx, _, m, head _ _ ?_, .inl rfl, hm, hR⟩
      unfold law_alike_s3 law_alike_s1
      simp! only [isi_run, isi_l, isi_t, neF_b, neF_i, beq_self_eq_true, Bool.not_true, decide_true, List.any_cons, List.any_nil, isKT, Bool.or_false, Bool.or_true, Bool.true_or, Bool.false_or, zipL, seqD, c1, ext_l, c2, e1]
    · by_cases ht : ∃ zs, z = .tuple zs
      · obtain ⟨zs, rfl⟩ := ht
        obtain ⟨B', e1, e2, e3⟩ := tail zs (by simp only [nodesD]) (good_tuple hz)
        obtain ⟨m, hm, hR⟩ := key _ ⟨B', rfl, e2, e3⟩
        have lz : zs.length ≤ 1000000 := by have := nodesL_len zs; simp only [nodesD] at capB; omega
        have c1 : min zs.length zs.length ≤ 16777216 := by omega
        have c2 : ((A ++ .tuple zs :: B).map dupD).length + (zipD zs zs).length ≤ 16777216 := by rw [zipD_len]; omega
        refine ⟨.nx, _, m, head _ _ ?_, .inl rfl, hm, hR⟩
        unfold law_alike_s3 law_alike_s1
        simp! only [isi_run, isi_l, isi_t, neF_b, neF_i, beq_self_eq_true, Bool.not_true, decide_true, List.any_cons, List.any_nil, isKT, Bool.or_false, Bool.or_true, Bool.true_or, Bool.false_or, zipL, seqD, c1, ext_l, c2, e1]
      · have n1 : nodesD z = 1 := by cases z <;> first | rfl | exact absurd ⟨_, rfl⟩ hl | exact absurd ⟨_, rfl⟩ ht
        have k1 : isKT .tuple z = false := by cases z <;> first | rfl | exact absurd ⟨_, rfl⟩ ht
        have k2 : isKT .list z = false := by cases z <;> first | rfl | exact absurd ⟨_, rfl⟩ hl
        obtain ⟨m, hm, hR⟩ := key _ ⟨B, rfl, by omega, hB⟩
        refine ⟨.nx, _, m, head _ _ ?_, .inl rfl, hm, hR⟩
        unfold law_alike_s3 law_alike_s2
        simp! only [isi_run, kz, List.any_cons, List.any_nil, k1, k2, Bool.or_false, neF_leaf hz (fun zs e => hl ⟨zs, e⟩) (fun zs e => ht ⟨zs, e⟩)]
/-- what is compared with itself is alike -/
theorem alike_refl {x : Da} (hg : GoodD x) (hn : nodesD x ≤ 900000) : F__law_alike [.d x, .d x] = .ok (.d (.bool true), [.d x, .d x]) := by
  obtain ⟨s', hs, l, x3, x4, x5, rfl⟩ := alike_s6_ok (x := x) (y := x) (N := nodesL [x]) (by simp only [nodesL]; omega) (n := nodesL [x]) (s := [.d x, .d x, .own (.l [dupD x]), .d (.int 0), .un, .un]) ⟨[], [x], .un, .un, rfl, rfl, by simp, fun z hz => by rw [List.mem_singleton.mp hz]; exact hg, rfl, rfl⟩
  refine run_ok (c := .rt (.d (.bool true))) (s := [.d x, .d x, .own (.l l), x3, x4, x5]) ?_ rfl
  show g__law_alike [.d x, .d x, .un, .un, .un, .un] = _
  unfold g__law_alike
  refine seq_then (s1 := [.d x, .d x, .own (.l [dupD x]), .d (.int 0), .un, .un]) ?_ (seq_then (s1 := [.d x, .d x, .own (.l l), x3, x4, x5]) ?_ ?_)
  · simp! only [dupD, List.length_cons, List.length_nil, show (0 + 1 + 1 : Nat) ≤ 16777216 by decide, show (0 + 1 : Nat) ≤ 16777216 by decide]
  · simp! only []; exact hs
  · simp! only []
end LB
set_option Elab.async false
set_option linter.all false
set_option maxRecDepth 100000
namespace LB
open PySem PySem.Spec PyProof.Rows L2 VL
section
variable {γ : Type} {s s1 base : VS} {fi : VM (List Da × Lks)} {L : Lks} {ix : List Nat} {gt : Da → VM Unit} {tt : VM Bool} {te : VM EV} {enc : γ → Da}
/-- a comprehension with a test that changes nothing -/
theorem lc_of {p : γ → Bool} {h : γ → Da} {xs : List γ} (hi : fi s = .ok ((xs.map enc, L), s1)) (fl : ix.all (fun j => flatS s1[j]?) = true) (hb : wipeV ix s1 = base)
    (step : ∀ x ∈ xs, ∃ s1 s2, gt (enc x) base = .ok ((), s1) ∧ tt s1 = .ok (p x, s2) ∧
      (p x = false → ix.all (fun j => flatS s2[j]?) = true ∧ wipeV ix s2 = base) ∧ (p x = true → ∃ r s3, te s2 = .ok (r, s3) ∧ evD r = some (h x) ∧ ix.all (fun j => flatS s3[j]?) = true ∧ wipeV ix s3 = base)) (hl : xs.length ≤ 16777216) :
    vLcF ix fi gt tt te s = .ok (.own (.l ((xs.filter p).map h)), unlock L (restV s1 ix base)) :=
  lcF_of hi fl (hb ▸ lcG_pure p h xs (hb ▸ step)) (by rw [List.length_map]; exact Nat.le_trans (List.length_filter_le _ _) hl)
theorem lc_map {h : γ → Da} {xs : List γ} (hi : fi s = .ok ((xs.map enc, L), s1)) (fl : ix.all (fun j => flatS s1[j]?) = true) (hb : wipeV ix s1 = base)
    (step : ∀ x ∈ xs, ∃ s2 r s3, gt (enc x) base = .ok ((), s2) ∧ te s2 = .ok (r, s3) ∧ evD r = some (h x) ∧ ix.all (fun j => flatS s3[j]?) = true ∧ wipeV ix s3 = base) (hl : xs.length ≤ 16777216) :
    vLcF ix fi gt (vr true) te s = .ok (.own (.l (xs.map h)), unlock L (restV s1 ix base)) := by
  have := lc_of (tt := vr true) (p := fun _ => true) (h := h) (te := te) hi fl hb (fun x hx => by
    obtain ⟨s2, r, s3, h1, h2, h3⟩ := step x hx
    exact ⟨s2, s2, h1, rfl, fun z => absurd z (by decide), fun _ => ⟨r, s3, h2, h3⟩⟩) hl
  rwa [List.filter_eq_self.mpr (by simp)] at this
/-- ints in a row -/
theorem inB_ints {i : Int} : ∀ l : List Int, inB (.int i) (l.map PyData.int) = decide (i ∈ l)
  | [] => rfl
  | x :: l => by
    have ih := inB_ints (i := i) l
    unfold inB at ih ⊢
    rw [List.map_cons, List.any_cons, ih]
    simp only [PyData.eqv, List.mem_cons, Bool.decide_or]
    congr 1
    by_cases h : i = x
    · subst h; simp
    · rw [decide_eq_false h]; exact beq_eq_false_iff_ne.mpr fun z => h z.symm
theorem shFs_intL (n : Nat) : ∀ c : List Int, shFs n (c.map PyData.int) = true
  | [] => by simp only [List.map_nil, shFs]
  | x :: c => by simp only [List.map_cons, shFs, shF, shFs_intL n c, Bool.and_self]
end
end LB
set_option Elab.async false
set_option linter.all false
set_option maxRecDepth 100000
namespace LB
open PySem PySem.Spec PyProof.Rows L2 VL
theorem shFs_all {n : Nat} : ∀ {l : List Da}, (∀ x ∈ l, shF n x = true) → shFs n l = true
  | [], _ => by simp only [shFs]
  | x :: l, h => by simp only [shFs, h x List.mem_cons_self, shFs_all fun y hy => h y (List.mem_cons_of_mem _ hy), Bool.and_self]
theorem neF_nil {l : List Da} (h : ∀ x ∈ l, shF 63 x = true) : neF (.list l) (.list []) = some (.d (.bool (!l.isEmpty))) := by
  show (if shF 64 (.list l) = true ∧ shF 64 (.list []) = true then some (EV.d (.bool (!PyData.eqv (.list l) (.list [])))) else none) = _
  rw [if_pos ⟨by simp only [shF]; exact shFs_all h, rfl⟩]
  cases l with
  | nil => simp only [PyData.eqv, PyData.eqvAll]; rfl
  | cons x l => simp only [PyData.eqv, PyData.eqvAll]; rfl
/-! a comprehension that draws -/
theorem asg_own {f : VM EV} {S S' : VS} {xs : List Da} {k : Nat} (h : f S = .ok (.own (.l xs), S')) (hw : wrOk S'[k]? = true) : vAsg f (vSet k) S = .ok (.nx, S'.set k (.own (.l xs))) := by
  rw [m_asg, h]
  simp only [bnd_ok, m_vb, m_vr, set_o, m_nox, hw, if_true, nx_ok, m_nx]
/-! what is heard -/
/-! alike -/
theorem alike_at {x : Da} {s : VS} (hg : GoodD x) (hn : nodesD x ≤ 900000) : callF F__law_alike [.d x, .d x] s = .ok (.d (.bool true), s) := callF_2 (alike_refl hg hn) dl
theorem nodes_intN : ∀ l : List Nat, nodesL (l.map intN) = l.length
  | [] => rfl
  | x :: l => by rw [List.map_cons, List.length_cons]; simp only [nodesL, nodes_intN l]; show 1 + _ = _; omega
theorem shFs_intN (n : Nat) (l : List Nat) : shFs n (l.map intN) = true := shFs_all fun x hx => by
  obtain ⟨i, _, rfl⟩ := List.mem_map.mp hx; rfl
theorem tests_ok {f : VM EV} {s s' : VS} (h : f s = .ok (.d (.bool true), s')) : vIf (vNot (vTru f)) (vRet (vC (.bool false))) vNx s = .ok (.nx, s') := by
  simp only [m_if, m_not, m_tru, h, bnd_ok, m_vb, rd_d, tru_b, m_opt, m_vr, Bool.not_true, bI_f, m_nx]
end LB
set_option Elab.async false
set_option linter.all false
set_option maxRecDepth 100000
/-! codes in order: the plain mathematics -/
namespace LB
open PySem PySem.Spec PyProof.Rows L2 VL
structure Cd where
  code : List Int
  sign : Int
def cdT (t : Nat) (kind : Int) (l : List Cd) : List Cd := if kind = 1 then l.reverse.map fun e => ⟨Int.ofNat t :: e.code, 0 - e.sign⟩ else l.map fun e => ⟨Int.ofNat t :: e.code, e.sign⟩
def cdTs : Nat → List Int → List Cd → List Cd
  | _, [], _ => []
  | t, k :: ks, l => cdT t k l ++ cdTs (t + 1) ks l
/-- the codes of k passes, in order -/
def cdP (y : List Int) : Nat → List Cd
  | 0 => [⟨[], 1⟩]
  | k + 1 => cdTs 0 y (cdP y k)
structure CdK (y : List Int) (k : Nat) (e : Cd) : Prop where
  len : e.code.length = k
  sg : e.sign = 1 ∨ e.sign = -1
  dig : ∀ d ∈ e.code, 0 ≤ d ∧ d < y.length
/-! ### where the wagons of a plan stand -/
def dirC (sg : Int) (l : List Nat) : List Nat := if sg = 1 then l else l.reverse
def digC (p k : Nat) (code : List Int) : Int := code.getD (p - 1 - k) 0
/-- the order after k of p passes -/
def ordP (y : List Int) (pl : List (List Int)) (p : Nat) : Nat → List Nat
  | 0 => List.range pl.length
  | k + 1 => passP (ordP y pl p k) (pl.map (digC p k)) 0 y
def grpC (pl : List (List Int)) (p k : Nat) (e : Cd) : List Nat := (List.range pl.length).filter fun w => decide ((pl.getD w []).drop (p - k) = e.code)
def allC (pl : List (List Int)) (p k : Nat) (l : List Cd) : List Nat := l.flatMap fun e => dirC e.sign (grpC pl p k e)
section
variable {y : List Int} {p : Nat} {pl : List (List Int)}
end
/-! ### the codes differ -/
def cdNe (a b : Cd) : Prop := a.code ≠ b.code
/-! ### place and sign of a code -/
/-- the sign of a code -/
def sgP (y : List Int) : List Int → Int
  | [] => 1
  | t :: c => if y.getD t.toNat 0 = 1 then 0 - sgP y c else sgP y c
/-- its place -/
def plP (y : List Int) : List Int → Nat
  | [] => 0
  | t :: c => t.toNat * y.length ^ c.length + if y.getD t.toNat 0 = 1 then y.length ^ c.length - 1 - plP y c else plP y c
def DigOk (y : List Int) (c : List Int) : Prop := ∀ d ∈ c, 0 ≤ d ∧ d < y.length
theorem plP_lt {y : List Int} : ∀ {c : List Int}, DigOk y c → plP y c < y.length ^ c.length
  | [], _ => Nat.one_pos
  | t :: c, h => by
    have ih := plP_lt (y := y) fun d hd => h d (List.mem_cons_of_mem _ hd)
    obtain ⟨h1, h2⟩ := h t List.mem_cons_self
    have h3 : t.toNat + 1 ≤ y.length := by omega
    have h4 := Nat.mul_le_mul_right (y.length ^ c.length) h3
    rw [Nat.add_mul, Nat.one_mul] at h4
    unfold plP
    rw [List.length_cons, Nat.pow_succ, Nat.mul_comm (y.length ^ c.length)]
    split <;> omega
end LB
set_option Elab.async false
set_option linter.all false
set_option maxRecDepth 100000
/-! codes in order: each code rolled twice -/
namespace LB
open PySem PySem.Spec PyProof.Rows L2 VL
section
variable {y : List Int} {p : Nat} {pl : List (List Int)}
end
/-! ### each code twice -/
def dblP (l : List (List Int)) : List (List Int) := l.flatMap fun c => [c, c]
/-- one wagon of the doubled plan looked at -/
def stepC (pl : List (List Int)) (acc : List Cd) (w : Nat) : List Cd := if acc.any (fun e => e.code == pl.getD w []) = true then acc else acc ++ [⟨pl.getD w [], if w % 2 = 0 then 1 else -1⟩]
end LB
set_option Elab.async false
set_option linter.all false
set_option maxRecDepth 100000
/-! the mirrors of _law_orders, _law_in_order -/
namespace LB
open PySem PySem.Spec PyProof.Rows L2 VL
/-- a list read: a datum, or a list handed in -/
def RdSv (sv : SV) (xs : List Da) : Prop := (∃ o, sv = .d o ∧ seqD o = some xs) ∨ sv = .io (.l xs)
theorem at_lastE {α : Type} {enc : α → Da} {xs : List α} {x : α} : atI ((xs ++ [x]).map enc) (-1) = some (enc x) := by
  unfold atI ixN
  rw [List.length_map, List.length_append, if_neg (by decide), if_pos (by simp; omega), Option.bind_some]
  have : (-1 + ((xs.length + ([x] : List α).length : Nat) : Int)).toNat = xs.length := by simp; omega
  rw [this, List.getElem?_map, List.getElem?_append_right (Nat.le_refl _), Nat.sub_self]; rfl
theorem at_getE {α : Type} {xs : List α} {enc : α → Da} {w : Nat} {dflt : α} (h : w < xs.length) : atI (xs.map enc) (Int.ofNat w) = some (enc (xs.getD w dflt)) := by
  rw [at_nat (show (0 : Int) ≤ Int.ofNat w from Int.natCast_nonneg w)]
  show (xs.map enc)[w]? = _
  rw [List.getElem?_map, List.getElem?_eq_getElem h, List.getD_eq_getElem?_getD, List.getElem?_eq_getElem h]; rfl
section
variable {y p : Da} {F : SV} {sv : SV} {pl : List (List Int)}
end
section
variable {ks : List Int} {pl : List (List Int)} {p : Nat} {sv : SV}
def ordD (ks : List Int) (pl : List (List Int)) (p k : Nat) : Da := .list ((ordP ks pl p k).map intN)
def ordsD (ks : List Int) (pl : List (List Int)) (p k : Nat) : List Da := (List.range (k + 1)).map fun j => ordD ks pl p j
theorem lstRg_nat {n : Nat} (h : n ≤ 16000000) : lstRgD (.int 0) (.int (n : Int)) = some (.own (.l ((List.range n).map intN))) := by
  have e : rgOkB 0 (n : Int) = true := by
    unfold rgOkB
    simp only [Bool.and_eq_true, decide_eq_true_eq]
    refine ⟨⟨⟨⟨by omega, by omega⟩, by omega⟩, by omega⟩, by omega⟩
  unfold lstRgD
  dsimp only
  rw [if_pos e]
  unfold rgD
  rw [Int.sub_zero, Int.toNat_natCast]
  have e2 : ((List.range n).map fun i => PyData.int (0 + (i : Nat))) = (List.range n).map intN := List.map_congr_left fun i _ => by
    unfold intN
    show PyData.int (0 + (i : Int)) = .int (i : Int)
    rw [Int.zero_add]
  rw [e2]
end
end LB
set_option Elab.async false
set_option linter.all false
set_option maxRecDepth 100000
/-! the mirror of _law_in_order -/
namespace LB
open PySem PySem.Spec PyProof.Rows L2 VL
def cdD (e : Cd) : Da := .tuple [tupI e.code, .int e.sign]
theorem shF_tupI (n : Nat) (c : List Int) : shF (n + 1) (tupI c) = true := by
  unfold tupI
  simp only [shF, shFs_intL]
def o4 : Option (List Int) → SV
  | none => .un
  | some c => .d (tupI c)
section
variable {y p cs : Da} {pl : List (List Int)} {acc : List Cd} {o : Option (List Int)}
end
section
variable {ks : List Int} {p : Nat}
end
end LB
set_option Elab.async false
set_option linter.all false
set_option maxRecDepth 100000
/-! places of codes -/
namespace LB
open PySem PySem.Spec PyProof.Rows L2 VL
/-! ### the plain law -/
def plZ (y : List Int) : List Int → Int
  | [] => 0
  | t :: c => t * (y.length : Int) ^ c.length + if y.getD t.toNat 0 = 1 then (y.length : Int) ^ c.length - 1 - plZ y c else plZ y c
theorem plZ_eq {y : List Int} : ∀ {c : List Int}, DigOk y c → plZ y c = (plP y c : Int)
  | [], _ => rfl
  | t :: c, h => by
    have hc : DigOk y c := fun d hd => h d (List.mem_cons_of_mem _ hd)
    have ih := plZ_eq hc
    have hlt := plP_lt hc
    obtain ⟨h1, h2⟩ := h t List.mem_cons_self
    have ht : (t.toNat : Int) = t := by omega
    unfold plZ plP
    rw [ih, Int.natCast_add, Int.natCast_mul, ht, Int.natCast_pow]
    split
    · have : ((y.length ^ c.length - 1 - plP y c : Nat) : Int) = ((y.length ^ c.length : Nat) : Int) - 1 - (plP y c : Int) := by omega
      rw [this, Int.natCast_pow]
    · rfl
theorem plZ_cons (y : List Int) (t : Int) (c : List Int) : plZ y (t :: c) = t * (y.length : Int) ^ c.length + if y.getD t.toNat 0 = 1 then (y.length : Int) ^ c.length - 1 - plZ y c else plZ y c := rfl
def plStep (y : List Int) (a : Int × Int) (t : Int) : Int × Int := (a.1 * y.length + (if a.2 = 1 then t else (y.length : Int) - 1 - t), if y.getD t.toNat 0 = 1 then 0 - a.2 else a.2)
theorem mulNZ {f n N t r : Int} : (f * n + t) * N + r = f * (n * N) + (t * N + r) := by rw [Int.add_mul, Int.mul_assoc, Int.add_assoc]
theorem plFold {y : List Int} : ∀ (c : List Int) (f s : Int), s = 1 ∨ s = -1 → (c.foldl (plStep y) (f, s)).1 = f * (y.length : Int) ^ c.length + if s = 1 then plZ y c else (y.length : Int) ^ c.length - 1 - plZ y c
  | [], f, s, hs => by
    show f = f * (y.length : Int) ^ 0 + if s = 1 then 0 else (y.length : Int) ^ 0 - 1 - 0
    rw [Int.pow_zero, Int.mul_one]
    split <;> omega
  | t :: c, f, s, hs => by
    show (c.foldl (plStep y) (plStep y (f, s) t)).1 = _
    have e0 : plStep y (f, s) t = (f * y.length + (if s = 1 then t else (y.length : Int) - 1 - t), if y.getD t.toNat 0 = 1 then 0 - s else s) := rfl
    rw [e0, plFold c _ _ (by rcases hs with rfl | rfl <;> split <;> first | exact .inl rfl | exact .inr rfl)]
    rw [List.length_cons, Int.pow_succ', mulNZ, plZ_cons]
    congr 1
    generalize (y.length : Int) ^ c.length = N
    generalize plZ y c = r
    generalize (y.length : Int) = n
    have ne : ¬ ((-1 : Int) = 1) := by decide
    have oe : (1 : Int) = 1 := rfl
    have z1 : ¬ ((0 : Int) - 1 = 1) := by decide
    have z2 : (0 : Int) - -1 = 1 := by decide
    have e : (n - 1 - t) * N = n * N - N - t * N := by rw [Int.sub_mul, Int.sub_mul, Int.one_mul]
    rcases hs with rfl | rfl
    · by_cases hk : y.getD t.toNat 0 = 1
      · simp only [hk, if_true, z1, if_false]
      · simp only [hk, if_true, if_false]
    · by_cases hk : y.getD t.toNat 0 = 1
      · simp only [hk, if_true, ne, z2, if_false, e]; omega
      · simp only [hk, if_true, ne, if_false, e]; omega
/-! ### the mirrors -/
section
variable {ks : List Int} {c : List Int} {p : Nat}
theorem at_dig {t : Int} (h : 0 ≤ t ∧ t < ks.length) : atI (ks.map PyData.int) t = some (.int (ks.getD t.toNat 0)) := by
  obtain ⟨k, rfl⟩ := Int.eq_ofNat_of_zero_le h.1
  exact at_getE (enc := PyData.int) (dflt := 0) (by omega)
/-- no number grows too great -/
def Fit (n p : Nat) : Prop := n ^ p < 9000000000000000000
theorem Fit.le {n p q : Nat} (h : Fit n p) (hn : 0 < n) (hq : q ≤ p) : n ^ q < 9000000000000000000 := Nat.lt_of_le_of_lt (Nat.pow_le_pow_right hn hq) h
theorem many_turn {x : Da} {f : Int} {ys : List Da} (h1 : f.natAbs.log2 + (ys.length : Int).natAbs.log2 < 1000000) {xt : Da} :
    (vFgtE [3] (vFrz [2] (vAsg (vBin mulE (vVar 2) (vCall lenD (vCons (vVar 0) (vr [])))) (vSet 2)))) [.d (.tuple ys), .d x, .d (.int f), .d xt] = .ok (.nx, [.d (.tuple ys), .d x, .d (.int (f * ys.length)), .un]) := by
  simp! only [h1]
theorem many_ok (hn : 0 < ks.length) (hf : Fit ks.length p) (hn2 : ks.length ≤ 1000000) (hp : p ≤ 1000000) : F_codes_many [.d (tupI ks), .d (.int p)] = .ok (.d (.int ((ks.length ^ p : Nat) : Int)), [.d (tupI ks), .d (.int p)]) := by
  have hr : (-1000000000 : Int) ≤ (p : Int) ∧ (p : Int) ≤ 1000000000 := by omega
  have hfold : ∀ k q : Nat, (List.range' k q).foldl (fun (a _ : Nat) => a + 1) k = k + q := fun k q => by
    induction q generalizing k with
    | zero => rfl
    | succ q ih => rw [List.range'_succ, List.foldl_cons, ih]; omega
  have loop : codes_many_s1 [.d (tupI ks), .d (.int p), .d (.int ((ks.length ^ 0 : Nat) : Int)), .un] = .ok (.nx, [.d (tupI ks), .d (.int p), .d (.int ((ks.length ^ p : Nat) : Int)), .un]) := by
    have e := hfold 0 p
    rw [Nat.zero_add] at e
    unfold codes_many_s1
    have F := for_fold (gt := vSetD 3) (g := (vFgtE [3] (vFrz [2] (vAsg (vBin mulE (vVar 2) (vCall lenD (vCons (vVar 0) (vr [])))) (vSet 2))))) (fi := vItRng (vCons (vVar 1) (vr []))) (s := [.d (tupI ks), .d (.int p), .d (.int ((ks.length ^ 0 : Nat) : Int)), .un]) (enc := intN) (L := []) (St := fun (k : Nat) => [.d (tupI ks), .d (.int p), .d (.int ((ks.length ^ k : Nat) : Int)), .un]) (f := fun a _ => a + 1) (fun xs k => k + xs.length ≤ p) (fun x xs k h => ⟨[.d (tupI ks), .d (.int p), .d (.int ((ks.length ^ k : Nat) : Int)), .d (intN x)], .nx, by simp! only [], ?st, .inl rfl, by rw [List.length_cons] at h; omega⟩) (xs := List.range' 0 p) (a := 0) ?hi (by rw [List.length_range']; omega)
    · rw [e] at F; exact F
    · rw [List.length_cons] at h
      have g := hf.le hn (q := k) (by omega)
      have t := many_turn (x := .int p) (f := ((ks.length ^ k : Nat) : Int)) (ys := ks.map PyData.int) (xt := intN x) (by rw [List.length_map]; exact mulg (by omega) (by omega) (by omega) (by omega))
      rw [List.length_map] at t
      have e2 : ((ks.length ^ (k + 1) : Nat) : Int) = ((ks.length ^ k : Nat) : Int) * (ks.length : Int) := by rw [Nat.pow_succ, Int.natCast_mul]
      rw [e2]
      exact t
    · have e3 : rngD 0 p 1 = (List.range' 0 p).map intN := by rw [rngD_map, List.range_eq_range']; rfl
      simp! only [range_1, hr, Int.toNat_natCast, e3]
  refine run_d (st := [.d (tupI ks), .d (.int p), .un, .un]) (s := [.d (tupI ks), .d (.int p), .d (.int ((ks.length ^ p : Nat) : Int)), .un]) ?_
  unfold g_codes_many
  refine seq_then (s1 := [.d (tupI ks), .d (.int p), .d (.int ((ks.length ^ 0 : Nat) : Int)), .un]) ?_ (seq_then loop ?_)
  · simp! only []; rfl
  · simp! only []
/-- one track of place_of -/
theorem place_turn {x : Da} {f s t k n : Int} {y : Da} (hy : lenD [y] = some (.d (.int n))) (hk : ixD y (.int t) = some (.d (.int k))) (hm : f.natAbs.log2 + n.natAbs.log2 < 1000000) :
    vFgtE [4, 5] (vSeq (vFrz [3, 4] (vPar [5] (vPc ((vIte ((vBool (vBin eqF (vVar 3) (vC (.int 1))))) (vVar 4) ((vBin subD ((vBin subD ((vCall lenD ((vCons (vVar 0) (vr []))))) (vC (.int 1)))) (vVar 4))))) (vr []))))
      (vSeq (vFrz [2, 5] (vAsg ((vBin addD ((vBin mulE (vVar 2) ((vCall lenD ((vCons (vVar 0) (vr []))))))) (vVar 5))) (vSet 2)))
      (vFrz [3, 4] (vPar [3] (vPc ((vIte ((vBool (vBin eqF ((vBin ixD (vVar 0) (vVar 4))) (vC (.int (1)))))) ((vBin subD (vC (.int 0)) (vVar 3))) (vVar 3))) (vr []))))))
      [.d y, .d x, .d (.int f), .d (.int s), .d (.int t), .un] = .ok (.nx, [.d y, .d x, .d (.int (f * n + if s = 1 then t else n - 1 - t)), .d (.int (if k = 1 then 0 - s else s)), .un, .un]) := by
  by_cases h1 : s = 1 <;> by_cases h2 : k = 1
  all_goals simp! only [hy, hk, hm, h1, h2, decide_true, decide_false, if_false]
theorem place_ok (hd : DigOk ks c) (hn : 0 < ks.length) (hn2 : ks.length ≤ 1000000) (hf : Fit ks.length c.length) : F_place_of [.d (tupI ks), .d (tupI c)] = .ok (.d (.int (plP ks c)), [.d (tupI ks), .d (tupI c)]) := by
  have hb : ∀ (a b : List Int), a ++ b = c → 0 ≤ (a.foldl (plStep ks) (0, 1)).1 ∧ (a.foldl (plStep ks) (0, 1)).1 < 9000000000000000000 := fun a b e => by
    have da : DigOk ks a := fun d h => hd d (by rw [← e]; exact List.mem_append_left _ h)
    have h1 := plFold (y := ks) a 0 1 (.inl rfl)
    rw [if_pos rfl, Int.zero_mul, Int.zero_add, plZ_eq da] at h1
    have h2 := plP_lt da
    have h3 := hf.le hn (q := a.length) (by rw [← e, List.length_append]; omega)
    omega
  have loop : place_of_s1 [.d (tupI ks), .d (tupI c), .d (.int 0), .d (.int 1), .un, .un] = .ok (.nx, [.d (tupI ks), .d (tupI c), .d (.int (c.foldl (plStep ks) (0, 1)).1), .d (.int (c.foldl (plStep ks) (0, 1)).2), .un, .un]) := by
    unfold place_of_s1
    refine for_fold (enc := PyData.int) (L := []) (St := fun (a : Int × Int) => [.d (tupI ks), .d (tupI c), .d (.int a.1), .d (.int a.2), .un, .un]) (f := plStep ks) (fun xs a => ∃ pre, pre ++ xs = c ∧ a = pre.foldl (plStep ks) (0, 1)) (fun t xs a h => ⟨[.d (tupI ks), .d (tupI c), .d (.int a.1), .d (.int a.2), .d (.int t), .un], .nx, by simp! only [], ?_, .inl rfl, ?_⟩) (xs := c) (a := (0, 1)) ?_ ⟨[], rfl, rfl⟩
    · obtain ⟨pre, e, rfl⟩ := h
      have hb2 := hb pre (t :: xs) e
      have ht : 0 ≤ t ∧ t < ks.length := hd t (by rw [← e]; simp)
      exact place_turn (y := tupI ks) (n := ks.length) (k := ks.getD t.toNat 0) (by unfold tupI; rw [len_t, List.length_map]) (by unfold tupI; rw [ix_t, at_dig ht]; rfl) (mulg hb2.1 (by omega) (by omega) (by omega))
    · obtain ⟨pre, e, rfl⟩ := h
      exact ⟨pre ++ [t], by rw [List.append_assoc]; exact e, by rw [List.foldl_append]; rfl⟩
    · unfold tupI
      simp! only []
  have e1 := plFold (y := ks) c 0 1 (.inl rfl)
  rw [if_pos rfl, Int.zero_mul, Int.zero_add, plZ_eq hd] at e1
  rw [e1] at loop
  refine run_d (st := [.d (tupI ks), .d (tupI c), .un, .un, .un, .un]) (s := [.d (tupI ks), .d (tupI c), .d (.int (plP ks c)), .d (.int (c.foldl (plStep ks) (0, 1)).2), .un, .un]) ?_
  unfold g_place_of
  refine seq_then (s1 := [.d (tupI ks), .d (tupI c), .d (.int 0), .d (.int 1), .un, .un]) ?_ (seq_then loop ?_)
  · simp! only []
  · simp! only []
end
end LB
set_option Elab.async false
set_option linter.all false
set_option maxRecDepth 100000
/-! codes at places -/
namespace LB
open PySem PySem.Spec PyProof.Rows L2 VL
/-- what is left of a place -/
def plQ (y : List Int) (s : Int) (c : List Int) : Int := if s = 1 then plZ y c else (y.length : Int) ^ c.length - 1 - plZ y c
section
variable {ks c : List Int} {p : Nat}
theorem many_at (hn : 0 < ks.length) (hf : Fit ks.length p) (hn2 : ks.length ≤ 1000000) (hp : p ≤ 1000000) (s : VS) : callF F_codes_many [.d (tupI ks), .d (.int p)] s = .ok (.d (.int ((ks.length ^ p : Nat) : Int)), s) := callF_2 (many_ok hn hf hn2 hp) dl
/-- the code behind c -/
def nxD (y : List Int) (c : List Int) : Da := match (cdP y c.length)[plP y c + 1]? with
  | some e => tupI e.code
  | none => .none
end
end LB
set_option Elab.async false
set_option linter.all false
set_option maxRecDepth 100000
/-! which code comes first -/
namespace LB
open PySem PySem.Spec PyProof.Rows L2 VL
def sgn (y : List Int) (s : Int) (t : Int) : Int := if y.getD t.toNat 0 = 1 then 0 - s else s
section
variable {ks c d : List Int} {y x z : Da}
def pairI (p : Int × Int) : Da := .tuple [.int p.1, .int p.2]
end
end LB
set_option Elab.async false
set_option linter.all false
set_option maxRecDepth 100000
set_option maxHeartbeats 0
/-! the program's own pass: is_integer, is_within, rolled, pulled, one_pass -/
namespace LB
open PySem PySem.Spec PyProof.Rows L2 VL
def isI : Da → Bool
  | .int _ => true
  | _ => false
def tupN (l : List Nat) : Da := .tuple (l.map intN)
def lanesD (ord : List Nat) (rs : List Int) (n : Nat) : List Da := (List.range n).map fun t => tupN (laneP ord rs t)
/-! pulled -/
def zipT (ord : List Nat) (rs : List Int) : Nat → List Int → List (Int × List Nat)
  | _, [] => []
  | t, k :: ks => (k, laneP ord rs t) :: zipT ord rs (t + 1) ks
def pairD (p : Int × List Nat) : Da := .tuple [.int p.1, tupN p.2]
def pullF (acc : List Nat) (p : Int × List Nat) : List Nat := acc ++ if p.1 = 1 then p.2.reverse else p.2
def withB (m : Int) : Da → Bool
  | .int i => decide (0 ≤ i) && decide (i ≤ m)
  | _ => false
end LB
set_option Elab.async false
set_option linter.all false
set_option maxRecDepth 100000
set_option maxHeartbeats 0
/-! rolling_of, orders_by, order_by -/
namespace LB
open PySem PySem.Spec PyProof.Rows L2 VL
section
variable {ks : List Int} {pl : List (List Int)} {p : Nat}
def ordsT (ks : List Int) (pl : List (List Int)) (p k : Nat) : List Da := (List.range (k + 1)).map fun j => tupN (ordP ks pl p j)
end
end LB
set_option Elab.async false
set_option linter.all false
set_option maxRecDepth 100000
set_option maxHeartbeats 0
/-! sign_of, with_track, codes_in_order -/
namespace LB
open PySem PySem.Spec PyProof.Rows L2 VL
section
variable {ks : List Int} {c : List Int} {p : Nat}
/-! codes_in_order -/
def enumK : Nat → List Int → List (Nat × Int)
  | _, [] => []
  | t, k :: ks => (t, k) :: enumK (t + 1) ks
def ekD (x : Nat × Int) : Da := .tuple [intN x.1, .int x.2]
def ordStep (l : List Cd) (a : List Cd × Bool) (x : Nat × Int) : List Cd × Bool := (a.1 ++ cdT x.1 x.2 l, true)
def s4 (l : List Cd) (b : Bool) : SV := if b = true then SV.d (.list (l.map cdD)) else SV.own (.l (l.map cdD))
end
end LB
set_option Elab.async false
set_option linter.all false
set_option maxRecDepth 100000
set_option maxHeartbeats 0
/-! order_of: by codes alone -/
namespace LB
open PySem PySem.Spec PyProof.Rows L2 VL
section
variable {y : List Int} {pl : List (List Int)} {p : Nat}
/-- the mark of a wagon -/
def markC (y : List Int) (pl : List (List Int)) (w : Nat) : List Int := [(plP y (pl.getD w []) : Int), sgP y (pl.getD w []) * (w : Int), (w : Int)]
/-! the mirror -/
theorem ints_ok : ∀ ns : List Int, ints? (ns.map PyData.int) = some ns
  | [] => rfl
  | n :: ns => by show (ints? (ns.map PyData.int)).map (n :: ·) = _; rw [ints_ok ns]; rfl
end
end LB
set_option Elab.async false
set_option linter.all false
set_option maxRecDepth 100000
set_option maxHeartbeats 0
/-! orders told by marks; steady yards (plain) -/
namespace LB
open PySem PySem.Spec PyProof.Rows L2 VL
/-! steady -/
def steadyB (y : List Int) (p : Nat) : Bool := p == 0 || (!decide ((1 : Int) ∈ y) || (!decide ((0 : Int) ∈ y) && p % 2 == 0))
/-! the flat yard -/
def flatK (y : List Int) (p : Nat) : List Int := (cdP y p).map fun e => if e.sign = 1 then 0 else 1
end LB
set_option Elab.async false
set_option linter.all false
set_option maxRecDepth 100000
set_option maxHeartbeats 0
/-! is_sorted, row_by, sorts, places_of, plan_of, is_steady, flat_yard, _law_row -/
namespace LB
open PySem PySem.Spec PyProof.Rows L2 VL
/-- whether a row rises -/
def risB (row : List Int) : Bool := ((row.zip (row.drop 1)).map fun q => decide (q.1 ≤ q.2)).all id
section
variable {y : List Int} {pl : List (List Int)} {p : Nat}
theorem places_run {yd c : Da} {P : Da} {a b : Da} (h : ∀ s, callF F_place_of [.d yd, .d c] s = .ok (.d P, s)) : (vCallF F_place_of (vCons (vVar 0) (vCons (vVar 2) (vr [])))) [.d yd, .d a, .d c] = .ok (.d P, [.d yd, .d a, .d c]) := by
  generalize F_place_of = m at h ⊢
  simp! only [m_callF, h]
theorem places_ok (hW : ∀ c ∈ pl, c.length = p) (hD : ∀ c ∈ pl, DigOk y c) (hn : 0 < y.length) (hn2 : y.length ≤ 1000000) (hf : Fit y.length p) (hl : pl.length ≤ 16000000) :
    F_places_of [.d (tupI y), .d (.tuple (pl.map tupI))] = .ok (.d (tupI (pl.map fun c => (plP y c : Int))), [.d (tupI y), .d (.tuple (pl.map tupI))]) := by
  have lc : (vLcF [2] (vItSeq (vVar 1)) (vSetD 2) (vr true) ((vCallF F_place_of ((vCons (vVar 0) ((vCons (vVar 2) (vr [])))))))) [.d (tupI y), .d (.tuple (pl.map tupI)), .un] = .ok (.own (.l ((pl.map fun c => (plP y c : Int)).map PyData.int)), [.d (tupI y), .d (.tuple (pl.map tupI)), .un]) := by
    rw [List.map_map]
    refine lc_map (enc := tupI) (xs := pl) (L := []) (base := [.d (tupI y), .d (.tuple (pl.map tupI)), .un]) (s1 := [.d (tupI y), .d (.tuple (pl.map tupI)), .un]) (h := fun c => .int (plP y c)) (by simp! only []) rfl rfl
      (fun c hc => ⟨[.d (tupI y), .d (.tuple (pl.map tupI)), .d (tupI c)], .d (.int (plP y c)), [.d (tupI y), .d (.tuple (pl.map tupI)), .d (tupI c)], by simp! only [], places_run (a := .tuple (pl.map tupI)) (b := .none) (fun s => callF_2 (place_ok (hD c hc) hn hn2 (by rw [hW c hc]; exact hf)) dl), rfl, rfl, rfl⟩) (by omega)
  refine run_d (st := [.d (tupI y), .d (.tuple (pl.map tupI)), .un]) (s := [.d (tupI y), .d (.tuple (pl.map tupI)), .un]) ?_
  unfold g_places_of
  simp! only [lc]; rfl
theorem flat_no (hn : 0 < y.length) (hm : 12 < y.length ^ p) (hf : Fit y.length p) (hp : p ≤ 1000000) (hk : y.length ≤ 1000000) :
    F_flat_yard [.d (tupI y), .d (.int (p : Int))] = .error (.exc "TooMany" [("limit", .int 12), ("what", .str "tracks")] [.d (tupI y), .d (.int (p : Int))]) := by
  have hmany := many_at hn hf hk hp
  have hgt : decide ((12 : Int) < ((y.length ^ p : Nat) : Int)) = true := decide_eq_true (by omega)
  have guard : flat_yard_s1 [.d (tupI y), .d (.int (p : Int)), .un, .un] = .error (.exc "TooMany" [("limit", .int 12), ("what", .str "tracks")] [.d (tupI y), .d (.int (p : Int)), .un, .un]) := by
    unfold flat_yard_s1
    generalize F_codes_many = m at hmany ⊢
    simp! only [m_callF, hmany, hgt]
    rfl
  refine run_e (st := [.d (tupI y), .d (.int (p : Int)), .un, .un]) (s := [.d (tupI y), .d (.int (p : Int)), .un, .un]) ?_
  unfold g_flat_yard
  simp! only [guard]
end
theorem row_ok {n : Nat} {bag : List Da} {m k : Nat} (hb : BagOk (n + m + 1) bag) (hm : 0 < m) (hm2 : m ≤ 1000) (hk : 0 < k) (hk2 : k ≤ 1000) :
    ∃ (ys : List Int) (bag' : List Da), F__law_row [.io (.l bag), .d (.int (m : Int)), .d (.int (k : Int))] = .ok (.d (tupI ys), [.io (.l bag'), .d (.int (m : Int)), .d (.int (k : Int))]) ∧ 1 ≤ ys.length ∧ ys.length ≤ m ∧ (∀ y ∈ ys, 0 ≤ y ∧ y < k) ∧ BagOk n bag' := by
  obtain ⟨v, bag1, h1, v0, v1, hb1⟩ := take_at (k := 0) (s := [.io (.l bag), .d (.int (m : Int)), .d (.int (k : Int)), .un]) (b := true) rfl hb (show (0 : Int) < (m : Int) by omega) (by omega)
  obtain ⟨w, rfl⟩ := Int.eq_ofNat_of_zero_le v0
  have hr : -1000000000 ≤ (1 + (w : Int)) ∧ (1 + (w : Int)) ≤ 1000000000 := by omega
  have hi : (vItRng ((vCons ((vBin addD (vC (.int 1)) ((vCallF F__law_take ((vCons (vVar 0) ((vCons (vVar 1) (vr []))))))))) (vr [])))) [.io (.l bag), .d (.int (m : Int)), .d (.int (k : Int)), .un] = .ok ((rngD 0 (w + 1) 1, []), [.io (.l bag1), .d (.int (m : Int)), .d (.int (k : Int)), .un]) := by
    have e : (1 + (w : Int)).toNat = w + 1 := by omega
    simp! only [m_callF, h1, ob_t, range_1, hr, e]
  obtain ⟨ys, s', hG, q, bag2, e1, e2, hb2, h01, hl⟩ := lcG_inv (ix := [3]) (gt := vSetD 3) (tt := vr true) (te := vCallF F__law_take (vCons (vVar 0) (vCons (vVar 2) (vr []))))
    (fun xs acc s => ∃ (q : List Int) (bag' : List Da), acc = q.map PyData.int ∧ s = [.io (.l bag'), .d (.int (m : Int)), .d (.int (k : Int)), .un] ∧ BagOk (n + xs.length) bag' ∧ (∀ y ∈ q, 0 ≤ y ∧ y < k) ∧ q.length + xs.length = w + 1)
    (fun x xs acc s hR => by
      obtain ⟨q, bag', rfl, rfl, hb', h01, hl⟩ := hR
      obtain ⟨v, bag2, h2, v0, v1, hb2⟩ := take_at (k := 0) (s := [.io (.l bag'), .d (.int (m : Int)), .d (.int (k : Int)), .d x]) (b := true) (n := n + xs.length) (m := (k : Int)) rfl hb' (by omega) (by omega)
      refine ⟨[.io (.l bag'), .d (.int (m : Int)), .d (.int (k : Int)), .d x], true, _, by simp! only [], rfl, fun h => absurd h (by decide), fun _ => ⟨.d (.int v), .int v, [.io (.l bag2), .d (.int (m : Int)), .d (.int (k : Int)), .d x], ?_, rfl, rfl, q ++ [v], bag2, by rw [List.map_append]; rfl, rfl, hb2, fun y hy => ?_, ?_⟩⟩
      · simp! only [m_callF, h2, ob_t]
      · rcases List.mem_append.mp hy with hy | hy
        · exact h01 y hy
        · rw [List.mem_singleton.mp hy]; exact ⟨v0, v1⟩
      · rw [List.length_append]; simp only [List.length_cons, List.length_nil] at hl ⊢; omega) (rngD 0 (w + 1) 1) [] [.io (.l bag1), .d (.int (m : Int)), .d (.int (k : Int)), .un]
    ⟨[], bag1, rfl, rfl, by rw [rngD_len]; exact hb1.mono (by omega), fun _ h => (by cases h), by rw [rngD_len]; simp⟩
  rw [List.nil_append] at e1
  subst e1 e2
  have hl : q.length = w + 1 := by simpa using hl
  have lc := lcF_of (ix := [3]) (s2 := [.io (.l bag2), .d (.int (m : Int)), .d (.int (k : Int)), .un]) hi rfl hG (by rw [List.length_map]; omega)
  refine ⟨q, bag2, ?_, by omega, by omega, h01, hb2.mono (by simp)⟩
  refine run_ok (c := .rt (.d (tupI q))) (s := [.io (.l bag2), .d (.int (m : Int)), .d (.int (k : Int)), .un]) ?_ rfl
  show g__law_row [.io (.l bag), .d (.int (m : Int)), .d (.int (k : Int)), .un] = _
  unfold g__law_row
  simp! only [lc]
  rfl
end LB
set_option Elab.async false
set_option linter.all false
set_option maxRecDepth 100000
set_option maxHeartbeats 0
/-! small helpers of the laws' own steps -/
namespace LB
open PySem PySem.Spec PyProof.Rows L2 VL
theorem fall_ok {c : VM Bool} {s s' : VS} (h : c s = .ok (false, s')) : vIf c (vRet (vC (.bool false))) vNx s = .ok (.nx, s') := by
  rw [m_if, h, bI_f, m_nx]
theorem row_at {n k : Nat} {s : VS} {b : Bool} {bag : List Da} {m c : Nat} (hs : s[k]? = some (ownB b (.l bag))) (hb : BagOk (n + m + 1) bag) (hm : 0 < m) (hm2 : m ≤ 1000) (hk : 0 < c) (hk2 : c ≤ 1000) :
    ∃ (ys : List Int) (bag' : List Da), callF F__law_row [.loan k, .d (.int (m : Int)), .d (.int (c : Int))] s = .ok (.d (tupI ys), s.set k (ownB b (.l bag'))) ∧ 1 ≤ ys.length ∧ ys.length ≤ m ∧ (∀ y ∈ ys, 0 ≤ y ∧ y < c) ∧ BagOk n bag' := by
  obtain ⟨ys, bag', h, h0, h1, h2, hb'⟩ := row_ok hb hm hm2 hk hk2
  refine ⟨ys, bag', ?_, h0, h1, h2, hb'⟩
  rw [callF_ok (by simp [loans]) (by rw [arg_c, arg_ob hs]; rfl) h (fun i => by intro z; cases z), put_io, put_ob hs, put_d, put_d, put_n]
end LB
set_option Elab.async false
set_option linter.all false
set_option maxRecDepth 100000
set_option maxHeartbeats 0
/-! the filling, plain: one take, all takes; it leaves none exactly if there is a parting -/
namespace LB
open PySem PySem.Spec PyProof.Rows L2 VL
def rN (row : List Int) (w : Nat) : Int := row.getD w 0
def mnR (row : List Int) (rest : List Nat) : Int := match rest.map (rN row) with
  | [] => 0
  | n :: ns => minI n ns
theorem mnR_ok {row : List Int} {rest : List Nat} (h : rest ≠ []) : (∃ w ∈ rest, rN row w = mnR row rest) ∧ ∀ w ∈ rest, mnR row rest ≤ rN row w := by
  cases rest with
  | nil => exact absurd rfl h
  | cons a l =>
    obtain ⟨h1, h2, h3⟩ := minI_ok (l.map (rN row)) (rN row a)
    show (∃ w ∈ a :: l, rN row w = minI (rN row a) (l.map (rN row))) ∧ ∀ w ∈ a :: l, minI (rN row a) (l.map (rN row)) ≤ rN row w
    refine ⟨?_, fun w hw => ?_⟩
    · rcases h1 with h1 | h1
      · exact ⟨a, List.mem_cons_self, h1.symm⟩
      · obtain ⟨w, hw, e⟩ := List.mem_map.mp h1
        exact ⟨w, List.mem_cons_of_mem _ hw, e⟩
    · rcases List.mem_cons.mp hw with rfl | hw
      · exact h2
      · exact h3 _ (List.mem_map_of_mem hw)
def hereG (row : List Int) (rest : List Nat) : List Nat := rest.filter fun w => decide (rN row w = mnR row rest)
/-- a wagon's side of those that are taken -/
def edgeOk (sg : Int) (taken : List Nat) (w : Nat) : Bool := if sg = 1 then taken.all fun x => decide (x < w) else taken.all fun x => decide (w < x)
def someG (row : List Int) (sg : Int) (taken rest : List Nat) : List Nat := (hereG row rest).filter (edgeOk sg taken)
def outN (l s : List Nat) : List Nat := l.filter fun w => !decide (w ∈ s)
theorem mem_out {l s : List Nat} {w : Nat} : w ∈ outN l s ↔ w ∈ l ∧ w ∉ s := by
  unfold outN
  rw [List.mem_filter]
  simp
def takeL (row : List Int) (sg : Int) : Nat → List Nat → List Nat → List Nat
  | 0, t, _ => t
  | k + 1, t, r => if (someG row sg t r).length < (hereG row r).length then t ++ someG row sg t r else takeL row sg k (t ++ someG row sg t r) (outN r (someG row sg t r))
/-- the side that a sign asks of two wagons, the first ahead -/
def sideR (row : List Int) (sg : Int) (x y : Nat) : Prop := (sg = 1 → rN row x ≤ rN row y) ∧ (sg ≠ 1 → rN row y ≤ rN row x)
structure TkI (row : List Int) (sg : Int) (t r : List Nat) : Prop where
  nd : (t ++ r).Nodup
  lt : ∀ x ∈ t, ∀ y ∈ r, rN row x < rN row y
  dir : ∀ x ∈ t, ∀ y ∈ t, x < y → sideR row sg x y
structure TkO (row : List Int) (sg : Int) (t r T : List Nat) : Prop where
  nd : T.Nodup
  sub : ∀ w ∈ T, w ∈ t ∨ w ∈ r
  sup : ∀ w ∈ t, w ∈ T
  le : ∀ x ∈ T, ∀ y, y ∈ t ∨ y ∈ r → y ∉ T → rN row x ≤ rN row y
  dir : ∀ x ∈ T, ∀ y ∈ T, x < y → sideR row sg x y
  ne : t ≠ [] ∨ r ≠ [] → T ≠ []
  max : ∀ P : Nat → Prop, (∀ x, x ∈ t ∨ x ∈ r → P x → ∀ y, y ∈ t ∨ y ∈ r → ¬ P y → rN row x ≤ rN row y) → (∀ x, x ∈ t ∨ x ∈ r → P x → ∀ y, y ∈ t ∨ y ∈ r → P y → x < y → sideR row sg x y) → ∀ w, w ∈ t ∨ w ∈ r → P w → w ∈ T
section
variable {row : List Int} {sg : Int}
theorem here_mem {r : List Nat} {w : Nat} : w ∈ hereG row r ↔ w ∈ r ∧ rN row w = mnR row r := by
  unfold hereG; rw [List.mem_filter, decide_eq_true_eq]
theorem some_mem {t r : List Nat} {w : Nat} : w ∈ someG row sg t r ↔ (w ∈ r ∧ rN row w = mnR row r) ∧ edgeOk sg t w = true := by
  unfold someG; rw [List.mem_filter, here_mem]
theorem edge_iff {t : List Nat} {w : Nat} : edgeOk sg t w = true ↔ (sg = 1 → ∀ x ∈ t, x < w) ∧ (sg ≠ 1 → ∀ x ∈ t, w < x) := by
  unfold edgeOk
  by_cases h : sg = 1
  · rw [if_pos h, List.all_eq_true]
    exact ⟨fun q => ⟨fun _ x hx => of_decide_eq_true (q x hx), fun z => absurd h z⟩, fun q x hx => decide_eq_true (q.1 h x hx)⟩
  · rw [if_neg h, List.all_eq_true]
    exact ⟨fun q => ⟨fun z => absurd z h, fun _ x hx => of_decide_eq_true (q x hx)⟩, fun q x hx => decide_eq_true (q.2 h x hx)⟩
/-- what holds of t and what is taken next -/
theorem TkI.next {t r : List Nat} (I : TkI row sg t r) : (t ++ someG row sg t r ++ outN r (someG row sg t r)).Nodup ∧ ∀ x ∈ t ++ someG row sg t r, ∀ y ∈ t ++ someG row sg t r, x < y → sideR row sg x y := by
  have hs : ∀ w ∈ someG row sg t r, w ∈ r ∧ rN row w = mnR row r ∧ edgeOk sg t w = true := fun w hw => ⟨(some_mem.mp hw).1.1, (some_mem.mp hw).1.2, (some_mem.mp hw).2⟩
  obtain ⟨n1, n2, n3⟩ := List.nodup_append.mp I.nd
  refine ⟨?_, fun x hx y hy hxy => ?_⟩
  · refine List.nodup_append.mpr ⟨List.nodup_append.mpr ⟨n1, ?_, fun a ha b hb => n3 a ha b (hs b hb).1⟩, List.Pairwise.filter _ n2, fun a ha b hb => ?_⟩
    · exact List.Pairwise.filter _ (List.Pairwise.filter _ n2)
    · obtain ⟨b1, b2⟩ := mem_out.mp hb
      rcases List.mem_append.mp ha with ha | ha
      · exact n3 a ha b b1
      · exact fun e => b2 (e ▸ ha)
  · rcases List.mem_append.mp hx with hx | hx <;> rcases List.mem_append.mp hy with hy | hy
    · exact I.dir x hx y hy hxy
    · obtain ⟨y1, _, y3⟩ := hs y hy
      have := I.lt x hx y y1
      refine ⟨fun _ => by omega, fun h => ?_⟩
      have := (edge_iff.mp y3).2 h x hx
      omega
    · obtain ⟨x1, _, x3⟩ := hs x hx
      have := I.lt y hy x x1
      refine ⟨fun h => ?_, fun _ => by omega⟩
      have := (edge_iff.mp x3).1 h y hy
      omega
    · obtain ⟨_, x2, _⟩ := hs x hx
      obtain ⟨_, y2, _⟩ := hs y hy
      exact ⟨fun _ => by omega, fun _ => by omega⟩
theorem filter_all {l : List Nat} {p : Nat → Bool} (h : ¬ (l.filter p).length < l.length) : ∀ w ∈ l, p w = true := by
  have h1 := List.length_filter_le p l
  have h2 : (l.filter p).length = l.length := by omega
  exact List.length_filter_eq_length_iff.mp h2
theorem takeL_ok : ∀ {k : Nat} {t r : List Nat}, TkI row sg t r → r.length ≤ k → TkO row sg t r (takeL row sg k t r)
  | 0, t, r, I, hk => by
    have hr : r = [] := List.eq_nil_of_length_eq_zero (by omega)
    subst hr
    have nd := I.nd
    rw [List.append_nil] at nd
    show TkO row sg t [] t
    exact ⟨nd, fun w h => .inl h, fun w h => h, fun x _ y hy n => absurd (hy.resolve_right fun z => by cases z) n, I.dir, fun h => h.resolve_right fun z => z rfl, fun P _ _ w h _ => h.resolve_right fun z => by cases z⟩
  | k + 1, t, r, I, hk => by
    obtain ⟨nd2, dir2⟩ := I.next
    unfold takeL
    by_cases hp : (someG row sg t r).length < (hereG row r).length
    · rw [if_pos hp]
      have nd3 := (List.nodup_append.mp nd2).1
      -- one that is here and not taken
      have hex : ∃ u ∈ hereG row r, edgeOk sg t u = false := by
        apply Classical.byContradiction
        intro hn
        have : (hereG row r).filter (edgeOk sg t) = hereG row r := List.filter_eq_self.mpr fun a ha => by
          cases q : edgeOk sg t a with
          | true => rfl
          | false => exact absurd ⟨a, ha, q⟩ hn
        unfold someG at hp
        rw [this] at hp
        exact Nat.lt_irrefl _ hp
      obtain ⟨u, hu, eu⟩ := hex
      obtain ⟨hu1, hu2⟩ := here_mem.mp hu
      have rne : r ≠ [] := fun z => by rw [z] at hu1; cases hu1
      obtain ⟨_, mn⟩ := mnR_ok (row := row) rne
      -- what is out of side has one of t against it
      have against : ∀ v, edgeOk sg t v = false → ∃ x ∈ t, (sg = 1 → v ≤ x) ∧ (sg ≠ 1 → x ≤ v) := fun v hv => by
        apply Classical.byContradiction
        intro hn
        have : edgeOk sg t v = true := edge_iff.mpr ⟨fun h x hx => by
          apply Classical.byContradiction
          intro z
          exact hn ⟨x, hx, fun _ => by omega, fun q => absurd h q⟩, fun h x hx => by
          apply Classical.byContradiction
          intro z
          exact hn ⟨x, hx, fun q => absurd q h, fun _ => by omega⟩⟩
        rw [this] at hv; cases hv
      refine ⟨nd3, fun w h => ?_, fun w h => List.mem_append_left _ h, fun x hx y hy n => ?_, dir2, fun _ z => ?_, fun P A1 A2 w hw hP => ?_⟩
      · rcases List.mem_append.mp h with h | h
        · exact .inl h
        · exact .inr (some_mem.mp h).1.1
      · have hy : y ∈ r := hy.resolve_left fun z => n (List.mem_append_left _ z)
        rcases List.mem_append.mp hx with hx | hx
        · have := I.lt x hx y hy; omega
        · have := (some_mem.mp hx).1.2
          have := mn y hy
          omega
      · obtain ⟨x, hx, _⟩ := against u eu
        rw [(List.append_eq_nil_iff.mp z).1] at hx; cases hx
      · apply Classical.byContradiction
        intro hn
        have hwr : w ∈ r := hw.resolve_left fun z => hn (List.mem_append_left _ z)
        have hmw := mn w hwr
        -- whoever stands against a wagon of the same lot
        have clash : ∀ v, v ∈ r → P v → edgeOk sg t v = false → (∀ x ∈ t, P x) → False := fun v hv hPv ev hPt => by
          obtain ⟨x, hx, c1, c2⟩ := against v ev
          have hlt := I.lt x hx v hv
          have hne : v ≠ x := fun e => by rw [e] at hlt; exact Int.lt_irrefl _ hlt
          by_cases hs : sg = 1
          · have := (A2 v (.inr hv) hPv x (.inl hx) (hPt x hx) (by have := c1 hs; omega)).1 hs
            omega
          · have := (A2 x (.inl hx) (hPt x hx) v (.inr hv) hPv (by have := c2 hs; omega)).2 hs
            omega
        have hPt : ∀ x ∈ t, P x := fun x hx => by
          apply Classical.byContradiction
          intro z
          have := A1 w (.inr hwr) hP x (.inl hx) z
          have := I.lt x hx w hwr
          omega
        by_cases hm : rN row w = mnR row r
        · have ew : edgeOk sg t w = false := by
            cases q : edgeOk sg t w with
            | false => rfl
            | true => exact absurd (List.mem_append_right _ (some_mem.mpr ⟨⟨hwr, hm⟩, q⟩)) hn
          exact clash w hwr hP ew hPt
        · have hPu : P u := by
            apply Classical.byContradiction
            intro z
            have := A1 w (.inr hwr) hP u (.inr hu1) z
            omega
          exact clash u hu1 hPu eu hPt
    · rw [if_neg hp]
      have hall := filter_all hp
      have hsh : ∀ w, w ∈ someG row sg t r ↔ w ∈ hereG row r := fun w => ⟨fun h => (List.mem_filter.mp h).1, fun h => List.mem_filter.mpr ⟨h, hall w h⟩⟩
      have I2 : TkI row sg (t ++ someG row sg t r) (outN r (someG row sg t r)) := by
        refine ⟨nd2, fun x hx y hy => ?_, dir2⟩
        obtain ⟨y1, y2⟩ := mem_out.mp hy
        rcases List.mem_append.mp hx with hx | hx
        · exact I.lt x hx y y1
        · have rne : r ≠ [] := fun z => by rw [z] at y1; cases y1
          have h1 := (some_mem.mp hx).1.2
          have h2 := (mnR_ok (row := row) rne).2 y y1
          have h3 : rN row y ≠ mnR row r := fun e => y2 ((hsh y).mpr (here_mem.mpr ⟨y1, e⟩))
          omega
      have hk2 : (outN r (someG row sg t r)).length ≤ k := by
        by_cases rne : r = []
        · subst rne; exact Nat.zero_le _
        · obtain ⟨w, hw, e⟩ := (mnR_ok (row := row) rne).1
          have hws : w ∈ someG row sg t r := (hsh w).mpr (here_mem.mpr ⟨hw, e⟩)
          have : (outN r (someG row sg t r)).length < r.length := by
            apply Classical.byContradiction
            intro z
            have := filter_all z w hw
            simp at this
            exact this hws
          omega
      have O := takeL_ok I2 hk2
      have into : ∀ w, (w ∈ t ++ someG row sg t r ∨ w ∈ outN r (someG row sg t r)) ↔ (w ∈ t ∨ w ∈ r) := fun w => by
        constructor
        · rintro (h | h)
          · rcases List.mem_append.mp h with h | h
            · exact .inl h
            · exact .inr (some_mem.mp h).1.1
          · exact .inr (mem_out.mp h).1
        · rintro (h | h)
          · exact .inl (List.mem_append_left _ h)
          · by_cases q : w ∈ someG row sg t r
            · exact .inl (List.mem_append_right _ q)
            · exact .inr (mem_out.mpr ⟨h, q⟩)
      refine ⟨O.nd, fun w h => (into w).mp (O.sub w h), fun w h => O.sup w (List.mem_append_left _ h), fun x hx y hy n => O.le x hx y ((into y).mpr hy) n, O.dir, fun h => O.ne ?_, fun P A1 A2 w hw hP => O.max P (fun x hx hPx y hy n => A1 x ((into x).mp hx) hPx y ((into y).mp hy) n) (fun x hx hPx y hy hPy q => A2 x ((into x).mp hx) hPx y ((into y).mp hy) hPy q) w ((into w).mpr hw) hP⟩
      rcases h with h | h
      · exact .inl fun z => h (List.append_eq_nil_iff.mp z).1
      · obtain ⟨w, hw, e⟩ := (mnR_ok (row := row) h).1
        exact .inl fun z => by
          have : w ∈ someG row sg t r := (hsh w).mpr (here_mem.mpr ⟨hw, e⟩)
          rw [(List.append_eq_nil_iff.mp z).2] at this; cases this
/-- what a code with a sign takes, in no order -/
def takeG (row : List Int) (sg : Int) (left : List Nat) : List Nat := takeL row sg left.length [] left
theorem takeG_ok {left : List Nat} (h : left.Nodup) : TkO row sg [] left (takeG row sg left) := takeL_ok ⟨h, fun x hx => by (cases hx), fun x hx => by (cases hx)⟩ (Nat.le_refl _)
end
/-! in their order -/
def sortN (l : List Nat) : List Nat := (sortI (l.map fun (w : Nat) => (w : Int))).map Int.toNat
theorem sortN_perm (l : List Nat) : (sortN l).Perm l := by
  have h := (sortI_perm (l.map fun (w : Nat) => (w : Int))).map Int.toNat
  rw [List.map_map] at h
  have e : (Int.toNat ∘ fun (w : Nat) => (w : Int)) = id := funext fun w => Int.toNat_natCast w
  rw [e, List.map_id] at h
  exact h
theorem sortN_int (l : List Nat) : (sortN l).map (fun (w : Nat) => (w : Int)) = sortI (l.map fun (w : Nat) => (w : Int)) := by
  unfold sortN
  rw [List.map_map]
  have : ∀ x ∈ sortI (l.map fun (w : Nat) => (w : Int)), ((fun (w : Nat) => (w : Int)) ∘ Int.toNat) x = id x := fun x hx => by
    obtain ⟨w, _, rfl⟩ := List.mem_map.mp ((sortI_perm _).mem_iff.mp hx)
    show ((Int.toNat (w : Int) : Nat) : Int) = w
    omega
  rw [List.map_congr_left this, List.map_id]
theorem sortN_le (l : List Nat) : (sortN l).Pairwise (· ≤ ·) := by
  have h := sortI_sorted (l.map fun (w : Nat) => (w : Int))
  rw [← sortN_int, List.pairwise_map] at h
  exact h.imp fun {a b} q => by omega
theorem sortN_lt {l : List Nat} (h : l.Nodup) : (sortN l).Pairwise (· < ·) := by
  have h2 : (sortN l).Nodup := (sortN_perm l).nodup_iff.mpr h
  exact (List.pairwise_and_iff.mpr ⟨sortN_le l, h2⟩).imp fun {a b} q => by have := q.1; have := q.2; omega
def ordG (sg : Int) (l : List Nat) : List Nat := if sg = 1 then sortN l else (sortN l).reverse
theorem ordG_perm (sg : Int) (l : List Nat) : (ordG sg l).Perm l := by
  unfold ordG
  split
  · exact sortN_perm l
  · exact (List.reverse_perm _).trans (sortN_perm l)
def dirOk (sg : Int) (l : List Nat) : Prop := if sg = 1 then l.Pairwise (· < ·) else l.Pairwise (· > ·)
theorem ordG_dir {sg : Int} {l : List Nat} (h : l.Nodup) : dirOk sg (ordG sg l) := by
  unfold dirOk ordG
  split
  · exact sortN_lt h
  · exact List.pairwise_reverse.mpr (sortN_lt h)
/-- the take -/
def takeO (row : List Int) (sg : Int) (left : List Nat) : List Nat := ordG sg (takeG row sg left)
/-- the filling of what is left, and what it leaves -/
def fillG (row : List Int) : List Int → List Nat → List (List Nat)
  | [], _ => []
  | sg :: ss, left => if left = [] then [] else takeO row sg left :: fillG row ss (outN left (takeO row sg left))
def restG (row : List Int) : List Int → List Nat → List Nat
  | [], left => left
  | sg :: ss, left => if left = [] then [] else restG row ss (outN left (takeO row sg left))
/-- a parting of some wagons -/
structure PartG (row : List Int) (signs : List Int) (left : List Nat) (th : List (List Nat)) : Prop where
  len : th.length ≤ signs.length
  perm : th.flatten.Perm left
  cls : (th.flatten.map (rN row)).Pairwise (· ≤ ·)
  dir : ∀ p ∈ signs.zip th, dirOk p.1 p.2
theorem out_nodup {l s : List Nat} (h : l.Nodup) : (outN l s).Nodup := List.Pairwise.filter _ h
theorem fill_split {row : List Int} : ∀ {signs : List Int} {left : List Nat}, left.Nodup → ((fillG row signs left).flatten ++ restG row signs left).Perm left
  | [], left, _ => by show ([] ++ left).Perm left; exact .refl _
  | sg :: ss, left, h => by
    unfold fillG restG
    by_cases hl : left = []
    · rw [if_pos hl, if_pos hl, hl]; exact .refl _
    · rw [if_neg hl, if_neg hl, List.flatten_cons, List.append_assoc]
      have ih := fill_split (row := row) (signs := ss) (left := outN left (takeO row sg left)) (out_nodup h)
      refine (ih.append_left _).trans ?_
      have O := takeG_ok (row := row) (sg := sg) h
      have hp : (takeO row sg left).Perm (takeG row sg left) := ordG_perm _ _
      have h1 : (takeO row sg left).Perm (left.filter fun w => decide (w ∈ takeO row sg left)) := by
        refine (List.perm_ext_iff_of_nodup (hp.nodup_iff.mpr O.nd) (List.Pairwise.filter _ h)).mpr fun a => ?_
        rw [List.mem_filter, decide_eq_true_eq]
        exact ⟨fun q => ⟨(O.sub a (hp.mem_iff.mp q)).resolve_left fun z => (by cases z), q⟩, fun q => q.2⟩
      exact (h1.append_right _).trans (List.filter_append_perm _ _)
theorem fill_part {row : List Int} : ∀ {signs : List Int} {left : List Nat}, left.Nodup → restG row signs left = [] → PartG row signs left (fillG row signs left)
  | [], left, _, h => by
    have h : left = [] := h
    subst h
    exact ⟨Nat.le_refl _, .refl _, .nil, fun p hp => (by cases hp)⟩
  | sg :: ss, left, h, hr => by
    have sp := fill_split (row := row) (signs := sg :: ss) h
    rw [hr, List.append_nil] at sp
    refine ⟨?_, sp, ?_, ?_⟩
    all_goals unfold fillG
    all_goals unfold restG at hr
    all_goals by_cases hl : left = []
    · rw [if_pos hl]; exact Nat.zero_le _
    · rw [if_neg hl] at hr ⊢
      exact Nat.succ_le_succ (fill_part (out_nodup h) hr).len
    · rw [if_pos hl]; exact .nil
    · rw [if_neg hl] at hr ⊢
      have P := fill_part (out_nodup h) hr
      have O := takeG_ok (row := row) (sg := sg) h
      have hp : (takeO row sg left).Perm (takeG row sg left) := ordG_perm _ _
      rw [List.flatten_cons, List.map_append, List.pairwise_append]
      refine ⟨?_, P.cls, fun a ha b hb => ?_⟩
      · rw [List.pairwise_map]
        have hd := ordG_dir (sg := sg) O.nd
        have hd : dirOk sg (takeO row sg left) := hd
        unfold dirOk at hd
        split at hd
        · rename_i hs
          exact hd.imp_of_mem fun {x y} hx hy q => (O.dir x (hp.mem_iff.mp hx) y (hp.mem_iff.mp hy) q).1 hs
        · rename_i hs
          exact hd.imp_of_mem fun {x y} hx hy q => (O.dir y (hp.mem_iff.mp hy) x (hp.mem_iff.mp hx) q).2 hs
      · obtain ⟨x, hx, rfl⟩ := List.mem_map.mp ha
        obtain ⟨y, hy, rfl⟩ := List.mem_map.mp hb
        obtain ⟨y1, y2⟩ := mem_out.mp (P.perm.mem_iff.mp hy)
        exact O.le x (hp.mem_iff.mp hx) y (.inr y1) fun z => y2 (hp.mem_iff.mpr z)
    · rw [if_pos hl, List.zip_nil_right]; exact fun p hp => by cases hp
    · rw [if_neg hl] at hr ⊢
      have P := fill_part (out_nodup h) hr
      intro p hp
      rw [List.zip_cons_cons] at hp
      rcases List.mem_cons.mp hp with rfl | hp
      · exact ordG_dir (takeG_ok (row := row) (sg := sg) h).nd
      · exact P.dir p hp
theorem dir_side {row : List Int} {sg : Int} {l : List Nat} (hd : dirOk sg l) (hc : (l.map (rN row)).Pairwise (· ≤ ·)) : ∀ x ∈ l, ∀ y ∈ l, x < y → sideR row sg x y := by
  rw [List.pairwise_map] at hc
  induction l with
  | nil => intro x hx; cases hx
  | cons a l ih =>
    obtain ⟨c1, c2⟩ := List.pairwise_cons.mp hc
    have hd2 : dirOk sg l ∧ ∀ y ∈ l, (sg = 1 → a < y) ∧ (sg ≠ 1 → y < a) := by
      unfold dirOk at hd ⊢
      by_cases hs : sg = 1
      · rw [if_pos hs] at hd ⊢
        obtain ⟨d1, d2⟩ := List.pairwise_cons.mp hd
        exact ⟨d2, fun y hy => ⟨fun _ => d1 y hy, fun z => absurd hs z⟩⟩
      · rw [if_neg hs] at hd ⊢
        obtain ⟨d1, d2⟩ := List.pairwise_cons.mp hd
        exact ⟨d2, fun y hy => ⟨fun z => absurd z hs, fun _ => d1 y hy⟩⟩
    have ih := ih hd2.1 c2
    intro x hx y hy hxy
    rcases List.mem_cons.mp hx with ex | hx' <;> rcases List.mem_cons.mp hy with ey | hy'
    · omega
    · rw [ex] at hxy ⊢
      refine ⟨fun _ => c1 y hy', fun hs => ?_⟩
      have := (hd2.2 y hy').2 hs; omega
    · rw [ey] at hxy ⊢
      refine ⟨fun hs => ?_, fun _ => c1 x hx'⟩
      have := (hd2.2 x hx').1 hs; omega
    · exact ih x hx' y hy' hxy
theorem zip_map_filter {α : Type} {f : List Nat → List Nat} : ∀ {ss : List α} {ths : List (List Nat)}, ss.zip (ths.map f) = (ss.zip ths).map fun p => (p.1, f p.2)
  | [], _ => rfl
  | _ :: _, [] => rfl
  | s :: ss, t :: ths => by rw [List.map_cons, List.zip_cons_cons, List.zip_cons_cons, List.map_cons, zip_map_filter]
theorem flatten_filter {p : Nat → Bool} : ∀ {ths : List (List Nat)}, (ths.map (List.filter p)).flatten = ths.flatten.filter p
  | [] => rfl
  | t :: ths => by rw [List.map_cons, List.flatten_cons, List.flatten_cons, List.filter_append, flatten_filter]
/-- THE FILLING LEAVES NONE where there is a parting -/
theorem part_fill {row : List Int} : ∀ {signs : List Int} {left : List Nat} {th : List (List Nat)}, left.Nodup → PartG row signs left th → restG row signs left = []
  | [], left, th, _, P => by
    have h := P.len
    have : th = [] := List.eq_nil_of_length_eq_zero (by simpa using h)
    subst this
    exact List.Perm.nil_eq P.perm |>.symm
  | sg :: ss, left, th, h, P => by
    unfold restG
    by_cases hl : left = []
    · rw [if_pos hl]
    rw [if_neg hl]
    cases th with
    | nil => exact absurd (List.Perm.nil_eq P.perm).symm hl
    | cons l ths =>
      have hp := P.perm
      have hc := P.cls
      rw [List.flatten_cons] at hp hc
      rw [List.map_append, List.pairwise_append] at hc
      obtain ⟨c1, c2, c3⟩ := hc
      have hd := P.dir
      rw [List.zip_cons_cons] at hd
      have O := takeG_ok (row := row) (sg := sg) h
      have hpm : ∀ w, w ∈ takeO row sg left ↔ w ∈ takeG row sg left := fun w => (ordG_perm _ _).mem_iff
      have side := dir_side (row := row) (hd (sg, l) List.mem_cons_self) c1
      have sub : ∀ w ∈ l, w ∈ takeG row sg left := fun w hw => by
        refine O.max (fun x => x ∈ l) (fun x _ hx y hy n => ?_) (fun x _ hx y _ hy q => side x hx y hy q) w (.inr (hp.mem_iff.mp (List.mem_append_left _ hw))) hw
        have hy : y ∈ left := hy.resolve_left fun z => (by cases z)
        have hy : y ∈ ths.flatten := (List.mem_append.mp (hp.mem_iff.mpr hy)).resolve_left n
        exact c3 _ (List.mem_map_of_mem hx) _ (List.mem_map_of_mem hy)
      refine part_fill (th := ths.map (List.filter fun w => !decide (w ∈ takeO row sg left))) (out_nodup h) ⟨?_, ?_, ?_, fun p hp2 => ?_⟩
      · rw [List.length_map]; have := P.len; simpa using this
      · rw [flatten_filter]
        have h1 := hp.filter fun w => !decide (w ∈ takeO row sg left)
        rw [List.filter_append, List.filter_eq_nil_iff.mpr fun a ha => by
          have := (hpm a).mpr (sub a ha)
          simp [this], List.nil_append] at h1
        exact h1
      · rw [flatten_filter]
        exact List.Pairwise.sublist (List.Sublist.map _ List.filter_sublist) c2
      · rw [zip_map_filter] at hp2
        obtain ⟨q, hq, rfl⟩ := List.mem_map.mp hp2
        have := hd q (List.mem_cons_of_mem _ hq)
        unfold dirOk at this ⊢
        split at this
        · rename_i hs; rw [if_pos hs]; exact List.Pairwise.filter _ this
        · rename_i hs; rw [if_neg hs]; exact List.Pairwise.filter _ this
end LB
set_option Elab.async false
set_option linter.all false
set_option maxRecDepth 100000
set_option maxHeartbeats 0
/-! the law's own one_take, filling: the mirrors -/
namespace LB
open PySem PySem.Spec PyProof.Rows L2 VL
section
variable {gt : Da → VM Unit} {g : VM Ctl} {fi : VM (List Da × Lks)}
/-- a loop that a turn may break -/
theorem forL_brk (R : List Da → VS → Prop) (E : VS → Prop) (step : ∀ x xs s, R (x :: xs) s → ∃ s1 c s2, gt x s = .ok ((), s1) ∧ g s1 = .ok (c, s2) ∧ (((c = .nx ∨ c = .ct) ∧ R xs s2) ∨ (c = .bk ∧ E s2))) (fin : ∀ s, R [] s → E s) :
    ∀ xs s, R xs s → ∃ s', vForL gt g xs s = .ok (.nx, s') ∧ E s'
  | [], s, h => ⟨s, rfl, fin s h⟩
  | x :: xs, s, h => by
    obtain ⟨s1, c, s2, h1, h2, hc⟩ := step x xs s h
    rcases hc with ⟨hc, h3⟩ | ⟨rfl, h3⟩
    · obtain ⟨s', h4, h5⟩ := forL_brk R E step fin xs s2 h3
      refine ⟨s', ?_, h5⟩
      show vb (vNoX (gt x)) _ s = _
      rw [m_vb, m_nox, h1, nx_ok, bnd_ok, m_vb, h2, bnd_ok]
      rcases hc with rfl | rfl <;> exact h4
    · refine ⟨s2, ?_, h3⟩
      show vb (vNoX (gt x)) _ s = _
      rw [m_vb, m_nox, h1, nx_ok, bnd_ok, m_vb, h2, bnd_ok]
      exact m_nx
theorem for_brk {L : Lks} {xs : List Da} {s s1 : VS} (R : List Da → VS → Prop) (E : VS → Prop) (step : ∀ x xs s, R (x :: xs) s → ∃ s1 c s2, gt x s = .ok ((), s1) ∧ g s1 = .ok (c, s2) ∧ (((c = .nx ∨ c = .ct) ∧ R xs s2) ∨ (c = .bk ∧ E s2))) (fin : ∀ s, R [] s → E s)
    (hi : fi s = .ok ((xs, L), s1)) (h0 : R xs s1) : ∃ s', vFor fi gt g s = .ok (.nx, unlock L s') ∧ E s' := by
  obtain ⟨s', h1, h2⟩ := forL_brk R E step fin xs s1 h0
  exact ⟨s', by rw [m_for, hi, bnd_ok]; dsimp only; rw [h1], h2⟩
end
theorem m_iteT {gt ga gb : VM Bool} {s : VS} : vIteT gt ga gb s = bnd (gt s) fun c => if c = true then ga else gb := rfl
theorem intN_ints (l : List Nat) : l.map intN = (l.map fun (w : Nat) => (w : Int)).map PyData.int := by rw [List.map_map]; rfl
theorem ints_nats (l : List Nat) : ints? (l.map intN) = some (l.map fun (w : Nat) => (w : Int)) := by rw [intN_ints, ints_ok]
def mxN (t : List Nat) : Int := match t.map fun (w : Nat) => (w : Int) with
  | [] => 0
  | n :: ns => maxI n ns
def mnN (t : List Nat) : Int := match t.map fun (w : Nat) => (w : Int) with
  | [] => 0
  | n :: ns => minI n ns
theorem maxD_nats {t : List Nat} (h : t ≠ []) : maxD [.list (t.map intN)] = some (.d (.int (mxN t))) := by
  cases t with
  | nil => exact absurd rfl h
  | cons a l =>
    show (ints? ((a :: l).map intN)).bind _ = _
    rw [ints_nats]; rfl
theorem minD_nats {t : List Nat} (h : t ≠ []) : minD [.list (t.map intN)] = some (.d (.int (mnN t))) := by
  cases t with
  | nil => exact absurd rfl h
  | cons a l =>
    show (ints? ((a :: l).map intN)).bind _ = _
    rw [ints_nats]; rfl
theorem minD_row {row : List Int} {r : List Nat} (h : r ≠ []) : minD [.list (r.map fun w => PyData.int (rN row w))] = some (.d (.int (mnR row r))) := by
  have e : (r.map fun w => PyData.int (rN row w)) = (r.map (rN row)).map PyData.int := by rw [List.map_map]; rfl
  rw [e]
  cases r with
  | nil => exact absurd rfl h
  | cons a l =>
    show (ints? (((a :: l).map (rN row)).map PyData.int)).bind _ = _
    rw [ints_ok]; rfl
theorem mxN_lt {t : List Nat} (h : t ≠ []) (w : Nat) : decide (mxN t < (w : Int)) = t.all fun x => decide (x < w) := by
  cases t with
  | nil => exact absurd rfl h
  | cons a l =>
    obtain ⟨h1, h2, h3⟩ := maxI_ok (l.map fun (w : Nat) => (w : Int)) (a : Int)
    have e : mxN (a :: l) = maxI (a : Int) (l.map fun (w : Nat) => (w : Int)) := rfl
    rw [e]
    cases q : (a :: l).all fun x => decide (x < w) with
    | true =>
      rw [List.all_eq_true] at q
      refine decide_eq_true ?_
      rcases h1 with h1 | h1
      · have := of_decide_eq_true (q a List.mem_cons_self); omega
      · obtain ⟨x, hx, ex⟩ := List.mem_map.mp h1
        have := of_decide_eq_true (q x (List.mem_cons_of_mem _ hx)); omega
    | false =>
      refine decide_eq_false fun z => ?_
      have : (a :: l).all (fun x => decide (x < w)) = true := List.all_eq_true.mpr fun x hx => decide_eq_true (by
        rcases List.mem_cons.mp hx with rfl | hx
        · omega
        · have := h3 _ (List.mem_map_of_mem hx); omega)
      rw [this] at q; cases q
theorem mnN_lt {t : List Nat} (h : t ≠ []) (w : Nat) : decide ((w : Int) < mnN t) = t.all fun x => decide (w < x) := by
  cases t with
  | nil => exact absurd rfl h
  | cons a l =>
    obtain ⟨h1, h2, h3⟩ := minI_ok (l.map fun (w : Nat) => (w : Int)) (a : Int)
    have e : mnN (a :: l) = minI (a : Int) (l.map fun (w : Nat) => (w : Int)) := rfl
    rw [e]
    cases q : (a :: l).all fun x => decide (w < x) with
    | true =>
      rw [List.all_eq_true] at q
      refine decide_eq_true ?_
      rcases h1 with h1 | h1
      · have := of_decide_eq_true (q a List.mem_cons_self); omega
      · obtain ⟨x, hx, ex⟩ := List.mem_map.mp h1
        have := of_decide_eq_true (q x (List.mem_cons_of_mem _ hx)); omega
    | false =>
      refine decide_eq_false fun z => ?_
      have : (a :: l).all (fun x => decide (w < x)) = true := List.all_eq_true.mpr fun x hx => decide_eq_true (by
        rcases List.mem_cons.mp hx with rfl | hx
        · omega
        · have := h3 _ (List.mem_map_of_mem hx); omega)
      rw [this] at q; cases q
theorem shF_nats (l : List Nat) : ∀ x ∈ l.map intN, shF 63 x = true := fun x hx => by
  obtain ⟨w, _, rfl⟩ := List.mem_map.mp hx; rfl
theorem notin_natsL {k : Nat} {l : List Nat} : notinF (intN k) (.list (l.map intN)) = some (.d (.bool (!decide (k ∈ l)))) := by
  rw [intN_ints]
  unfold intN
  show (if shF 64 (.int (Int.ofNat k)) = true ∧ shFs 63 ((l.map fun (w : Nat) => (w : Int)).map PyData.int) = true then some (EV.d (.bool (if true = true then !inB _ _ else inB _ _))) else none) = _
  rw [if_pos ⟨rfl, shFs_intL 63 _⟩, if_pos rfl, inB_ints]
  congr 5
  exact propext ⟨fun h => by
    obtain ⟨j, h1, h2⟩ := List.mem_map.mp h
    have h2 : (j : Int) = (k : Int) := h2
    have : j = k := by omega
    exact this ▸ h1, fun h => List.mem_map_of_mem h⟩
section
variable {yd lf x : Da} {row : List Int} {sg : Int} {t r : List Nat}
theorem here_lc {sv : SV} (hix : ∀ w ∈ r, ixD yd (intN w) = some (.d (.int (rN row w)))) (hl : r.length ≤ 1000000) (hne : r ≠ []) :
    (vLcF [8] (vItSeq (vVar 4)) (vSetD 8) (vBool (vBin eqF ((vBin ixD (vVar 0) (vVar 8))) ((vCall minD ((vCons ((vLcF [9] (vItSeq (vVar 4)) (vSetD 9) (vr true) ((vBin ixD (vVar 0) (vVar 9))))) (vr []))))))) (vVar 8)) [.d yd, .d lf, .d (.int sg), sv, .d (.list (r.map intN)), .d x, .un, .un, .un, .un] = .ok (.own (.l ((hereG row r).map intN)), [.d yd, .d lf, .d (.int sg), sv, .d (.list (r.map intN)), .d x, .un, .un, .un, .un]) := by
  have lc9 : ∀ w : Nat, (vLcF [9] (vItSeq (vVar 4)) (vSetD 9) (vr true) ((vBin ixD (vVar 0) (vVar 9)))) [.d yd, .d lf, .d (.int sg), sv, .d (.list (r.map intN)), .d x, .un, .un, .d (intN w), .un] = .ok (.own (.l (r.map fun w => PyData.int (rN row w))), [.d yd, .d lf, .d (.int sg), sv, .d (.list (r.map intN)), .d x, .un, .un, .d (intN w), .un]) := fun w =>
    lc_map (enc := intN) (xs := r) (L := []) (base := [.d yd, .d lf, .d (.int sg), sv, .d (.list (r.map intN)), .d x, .un, .un, .d (intN w), .un]) (s1 := [.d yd, .d lf, .d (.int sg), sv, .d (.list (r.map intN)), .d x, .un, .un, .d (intN w), .un]) (h := fun w => .int (rN row w)) (by simp! only []) rfl rfl
      (fun v hv => ⟨[.d yd, .d lf, .d (.int sg), sv, .d (.list (r.map intN)), .d x, .un, .un, .d (intN w), .d (intN v)], .d (.int (rN row v)), [.d yd, .d lf, .d (.int sg), sv, .d (.list (r.map intN)), .d x, .un, .un, .d (intN w), .d (intN v)], by simp! only [], by simp! only [hix v hv], rfl, rfl, rfl⟩) (by omega)
  have hm := minD_row (row := row) hne
  refine lc_of (enc := intN) (xs := r) (L := []) (base := [.d yd, .d lf, .d (.int sg), sv, .d (.list (r.map intN)), .d x, .un, .un, .un, .un]) (s1 := [.d yd, .d lf, .d (.int sg), sv, .d (.list (r.map intN)), .d x, .un, .un, .un, .un]) (p := fun w => decide (rN row w = mnR row r)) (h := intN) (by simp! only []) rfl rfl
    (fun w hw => ⟨[.d yd, .d lf, .d (.int sg), sv, .d (.list (r.map intN)), .d x, .un, .un, .d (intN w), .un], [.d yd, .d lf, .d (.int sg), sv, .d (.list (r.map intN)), .d x, .un, .un, .d (intN w), .un], by simp! only [], ?_, fun _ => ⟨rfl, rfl⟩, fun _ => ⟨.d (intN w), [.d yd, .d lf, .d (.int sg), sv, .d (.list (r.map intN)), .d x, .un, .un, .d (intN w), .un], by simp! only [], rfl, rfl, rfl⟩⟩) (by omega)
  have h1 := lc9 w
  generalize r.map (fun w => PyData.int (rN row w)) = Z at h1 hm
  simp! only [h1, hm, hix w hw]
theorem t1_ok {T : List Da} (hix : ∀ w ∈ r, ixD yd (intN w) = some (.d (.int (rN row w)))) (hl : r.length ≤ 1000000) :
    (vFrz [4] (vAsg ((vIte ((vBool (vBin neF (vVar 4) ((vList (vr [])))))) ((vLcF [8] (vItSeq (vVar 4)) (vSetD 8) (vBool (vBin eqF ((vBin ixD (vVar 0) (vVar 8))) ((vCall minD ((vCons ((vLcF [9] (vItSeq (vVar 4)) (vSetD 9) (vr true) ((vBin ixD (vVar 0) (vVar 9))))) (vr []))))))) (vVar 8))) ((vList (vr []))))) (vSet 6))) [.d yd, .d lf, .d (.int sg), .own (.l T), .own (.l (r.map intN)), .d x, .un, .un, .un, .un] = .ok (.nx, [.d yd, .d lf, .d (.int sg), .own (.l T), .d (.list (r.map intN)), .d x, .own (.l ((hereG row r).map intN)), .un, .un, .un]) := by
  have hn := neF_nil (shF_nats r)
  have l0 : ([] : List Da).length ≤ 16777216 := Nat.zero_le _
  by_cases hne : r = []
  · subst hne
    have h2 : hereG row [] = [] := rfl
    rw [h2]
    simp only [List.map_nil] at hn ⊢
    have hn : neF (.list []) (.list []) = some (.d (.bool false)) := hn
    simp! only [hn, l0]
  · have lc := here_lc (lf := lf) (x := x) (sg := sg) (sv := .own (.l T)) hix hl hne
    have he : (r.map intN).isEmpty = false := by cases r with
      | nil => exact absurd rfl hne
      | cons _ _ => rfl
    rw [he] at hn
    generalize r.map intN = R at hn lc ⊢
    simp! only [hn, l0, lc, Bool.not_false]
theorem t2_ok {T R H : List Da} :
    (vFrz [6] (vPar [7] (vPc (vVar 6) (vr [])))) [.d yd, .d lf, .d (.int sg), .own (.l T), .d (.list R), .d x, .own (.l H), .un, .un, .un] = .ok (.nx, [.d yd, .d lf, .d (.int sg), .own (.l T), .d (.list R), .d x, .d (.list H), .d (.list H), .un, .un]) := by
  simp! only []
/-- the taken ones of the least class -/
def s7 (t : List Nat) (S : List Da) : SV := if t = [] then .d (.list S) else .own (.l S)
theorem t3_ok {R : List Da} (hl : r.length ≤ 1000000) :
    (vFrz [3] law_one_take_s2) [.d yd, .d lf, .d (.int sg), .own (.l (t.map intN)), .d (.list R), .d x, .d (.list ((hereG row r).map intN)), .d (.list ((hereG row r).map intN)), .un, .un]
      = .ok (.nx, [.d yd, .d lf, .d (.int sg), .d (.list (t.map intN)), .d (.list R), .d x, .d (.list ((hereG row r).map intN)), s7 t ((someG row sg t r).map intN), .un, .un]) := by
  have hn := neF_nil (shF_nats t)
  have l0 : ([] : List Da).length ≤ 16777216 := Nat.zero_le _
  have hh : (hereG row r).length ≤ r.length := List.length_filter_le _ _
  unfold law_one_take_s2
  by_cases hne : t = []
  · subst hne
    have h2 : someG row sg [] r = hereG row r := List.filter_eq_self.mpr fun w _ => by unfold edgeOk; split <;> rfl
    rw [h2]
    unfold s7
    rw [if_pos rfl]
    simp only [List.map_nil] at hn ⊢
    have hn : neF (.list []) (.list []) = some (.d (.bool false)) := hn
    simp! only [hn, l0]
  · unfold s7
    rw [if_neg hne]
    have lc : (vLcF [8] (vItSeq (vVar 6)) (vSetD 8) (vIteT ((vBool (vBin eqF (vVar 2) (vC (.int 1))))) ((vBool (vBin gtD (vVar 8) ((vCall maxD ((vCons (vVar 3) (vr [])))))))) ((vBool (vBin ltD (vVar 8) ((vCall minD ((vCons (vVar 3) (vr []))))))))) (vVar 8)) [.d yd, .d lf, .d (.int sg), .d (.list (t.map intN)), .d (.list R), .d x, .d (.list ((hereG row r).map intN)), .d (.list ((hereG row r).map intN)), .un, .un]
        = .ok (.own (.l ((someG row sg t r).map intN)), [.d yd, .d lf, .d (.int sg), .d (.list (t.map intN)), .d (.list R), .d x, .d (.list ((hereG row r).map intN)), .d (.list ((hereG row r).map intN)), .un, .un]) := by
      refine lc_of (enc := intN) (xs := hereG row r) (L := []) (base := [.d yd, .d lf, .d (.int sg), .d (.list (t.map intN)), .d (.list R), .d x, .d (.list ((hereG row r).map intN)), .d (.list ((hereG row r).map intN)), .un, .un]) (s1 := [.d yd, .d lf, .d (.int sg), .d (.list (t.map intN)), .d (.list R), .d x, .d (.list ((hereG row r).map intN)), .d (.list ((hereG row r).map intN)), .un, .un]) (p := edgeOk sg t) (h := intN) (by simp! only []) rfl rfl
        (fun w hw => ⟨[.d yd, .d lf, .d (.int sg), .d (.list (t.map intN)), .d (.list R), .d x, .d (.list ((hereG row r).map intN)), .d (.list ((hereG row r).map intN)), .d (intN w), .un], [.d yd, .d lf, .d (.int sg), .d (.list (t.map intN)), .d (.list R), .d x, .d (.list ((hereG row r).map intN)), .d (.list ((hereG row r).map intN)), .d (intN w), .un], by simp! only [], ?_, fun _ => ⟨rfl, rfl⟩, fun _ => ⟨.d (intN w), [.d yd, .d lf, .d (.int sg), .d (.list (t.map intN)), .d (.list R), .d x, .d (.list ((hereG row r).map intN)), .d (.list ((hereG row r).map intN)), .d (intN w), .un], by simp! only [], rfl, rfl, rfl⟩⟩) (by omega)
      have h1 := maxD_nats hne
      have h2 := minD_nats hne
      have h3 : gtD (intN w) (.int (mxN t)) = some (.d (.bool (t.all fun x => decide (x < w)))) := by
        rw [← mxN_lt hne w]; rfl
      have h4 : ltD (intN w) (.int (mnN t)) = some (.d (.bool (t.all fun x => decide (w < x)))) := by
        rw [← mnN_lt hne w]; rfl
      unfold edgeOk
      generalize PyData.list (t.map intN) = TT at h1 h2 ⊢
      generalize intN w = wd at h3 h4 ⊢
      by_cases hs : sg = 1
      · rw [if_pos hs]
        simp! only [m_iteT, hs, decide_true, h1, h3]
      · rw [if_neg hs]
        simp! only [m_iteT, hs, decide_false, h2, h4, if_false, Bool.false_eq_true]
    have he : (t.map intN).isEmpty = false := by cases t with
      | nil => exact absurd rfl hne
      | cons _ _ => rfl
    rw [he] at hn
    generalize t.map intN = TT at hn lc ⊢
    simp! only [hn, l0, lc, Bool.not_false]
theorem t4_ok {T R H S : List Da} {q : List Nat} (hn : T.length + S.length ≤ 16777216) :
    (vFrz [3, 7] (vAsg ((vBin addD (vVar 3) (vVar 7))) (vSet 3))) [.d yd, .d lf, .d (.int sg), .d (.list T), .d (.list R), .d x, .d (.list H), s7 q S, .un, .un] = .ok (.nx, [.d yd, .d lf, .d (.int sg), .own (.l (T ++ S)), .d (.list R), .d x, .d (.list H), .d (.list S), .un, .un]) := by
  unfold s7
  split
  · simp! only [hn]
  · simp! only [hn]
theorem t5_ok {T H : List Da} {s : List Nat} (hl : r.length ≤ 1000000) :
    (vFrz [4, 7] (vAsg ((vLcF [8] (vItSeq (vVar 4)) (vSetD 8) (vBool (vBin notinF (vVar 8) (vVar 7))) (vVar 8))) (vSet 4))) [.d yd, .d lf, .d (.int sg), .own (.l T), .d (.list (r.map intN)), .d x, .d (.list H), .d (.list (s.map intN)), .un, .un] = .ok (.nx, [.d yd, .d lf, .d (.int sg), .own (.l T), .own (.l ((outN r s).map intN)), .d x, .d (.list H), .d (.list (s.map intN)), .un, .un]) := by
  have lc : (vLcF [8] (vItSeq (vVar 4)) (vSetD 8) (vBool (vBin notinF (vVar 8) (vVar 7))) (vVar 8)) [.d yd, .d lf, .d (.int sg), .own (.l T), .d (.list (r.map intN)), .d x, .d (.list H), .d (.list (s.map intN)), .un, .un]
      = .ok (.own (.l ((outN r s).map intN)), [.d yd, .d lf, .d (.int sg), .own (.l T), .d (.list (r.map intN)), .d x, .d (.list H), .d (.list (s.map intN)), .un, .un]) := by
    refine lc_of (enc := intN) (xs := r) (L := []) (base := [.d yd, .d lf, .d (.int sg), .own (.l T), .d (.list (r.map intN)), .d x, .d (.list H), .d (.list (s.map intN)), .un, .un]) (s1 := [.d yd, .d lf, .d (.int sg), .own (.l T), .d (.list (r.map intN)), .d x, .d (.list H), .d (.list (s.map intN)), .un, .un]) (p := fun w => !decide (w ∈ s)) (h := intN) (by simp! only []) rfl rfl
      (fun w hw => ⟨[.d yd, .d lf, .d (.int sg), .own (.l T), .d (.list (r.map intN)), .d x, .d (.list H), .d (.list (s.map intN)), .d (intN w), .un], [.d yd, .d lf, .d (.int sg), .own (.l T), .d (.list (r.map intN)), .d x, .d (.list H), .d (.list (s.map intN)), .d (intN w), .un], by simp! only [], ?_, fun _ => ⟨rfl, rfl⟩, fun _ => ⟨.d (intN w), [.d yd, .d lf, .d (.int sg), .own (.l T), .d (.list (r.map intN)), .d x, .d (.list H), .d (.list (s.map intN)), .d (intN w), .un], by simp! only [], rfl, rfl, rfl⟩⟩) (by omega)
    have h := notin_natsL (k := w) (l := s)
    generalize PyData.list (s.map intN) = Sd at h ⊢
    generalize intN w = wd at h ⊢
    simp! only [h]
  generalize r.map intN = R at lc ⊢
  generalize s.map intN = Sd at lc ⊢
  simp only [m_frzc, m_frzn, m_frz1, List.getElem?_cons_succ, List.getElem?_cons_zero, fz_d]
  exact asg_own lc rfl
theorem t6_ok {T R H S : List Da} :
    (vFrz [6, 7] law_one_take_s1) [.d yd, .d lf, .d (.int sg), .own (.l T), .own (.l R), .d x, .d (.list H), .d (.list S), .un, .un] = .ok (if S.length < H.length then .bk else .nx, [.d yd, .d lf, .d (.int sg), .own (.l T), .own (.l R), .d x, .d (.list H), .d (.list S), .un, .un]) := by
  unfold law_one_take_s1
  by_cases h : S.length < H.length
  · have h2 : decide ((S.length : Int) < (H.length : Int)) = true := decide_eq_true (by omega)
    rw [if_pos h]
    simp! only [h2]
  · have h2 : decide ((S.length : Int) < (H.length : Int)) = false := decide_eq_false (by omega)
    rw [if_neg h]
    simp! only [h2]
theorem take_turn (hix : ∀ w ∈ r, ixD yd (intN w) = some (.d (.int (rN row w)))) (hl : r.length ≤ 1000000) (hlt : t.length ≤ 8000000) :
    ∃ c s2, (vFgtE [5, 6, 7] (vSeq (vFrz [4] (vAsg ((vIte ((vBool (vBin neF (vVar 4) ((vList (vr [])))))) ((vLcF [8] (vItSeq (vVar 4)) (vSetD 8) (vBool (vBin eqF ((vBin ixD (vVar 0) (vVar 8))) ((vCall minD ((vCons ((vLcF [9] (vItSeq (vVar 4)) (vSetD 9) (vr true) ((vBin ixD (vVar 0) (vVar 9))))) (vr []))))))) (vVar 8))) ((vList (vr []))))) (vSet 6))) (vSeq (vFrz [6] (vPar [7] (vPc (vVar 6) (vr [])))) (vSeq (vFrz [3] law_one_take_s2) (vSeq (vFrz [3, 7] (vAsg ((vBin addD (vVar 3) (vVar 7))) (vSet 3))) (vSeq (vFrz [4, 7] (vAsg ((vLcF [8] (vItSeq (vVar 4)) (vSetD 8) (vBool (vBin notinF (vVar 8) (vVar 7))) (vVar 8))) (vSet 4))) (vFrz [6, 7] law_one_take_s1))))))) [.d yd, .d lf, .d (.int sg), .own (.l (t.map intN)), .own (.l (r.map intN)), .d x, .un, .un, .un, .un] = .ok (c, s2) ∧
      (if (someG row sg t r).length < (hereG row r).length then c = .bk ∧ ∃ x4 x5 x6 x7, s2 = [.d yd, .d lf, .d (.int sg), .own (.l ((t ++ someG row sg t r).map intN)), x4, x5, x6, x7, .un, .un]
        else c = .nx ∧ s2 = [.d yd, .d lf, .d (.int sg), .own (.l ((t ++ someG row sg t r).map intN)), .own (.l ((outN r (someG row sg t r)).map intN)), .un, .un, .un, .un, .un]) := by
  have h1 := t1_ok (lf := lf) (x := x) (sg := sg) (T := t.map intN) hix hl
  have h3 := t3_ok (yd := yd) (lf := lf) (x := x) (row := row) (sg := sg) (t := t) (R := r.map intN) hl
  have h5 := t5_ok (yd := yd) (lf := lf) (x := x) (sg := sg) (T := t.map intN ++ (someG row sg t r).map intN) (H := (hereG row r).map intN) (s := someG row sg t r) hl
  have h6 := t6_ok (yd := yd) (lf := lf) (x := x) (sg := sg) (T := t.map intN ++ (someG row sg t r).map intN) (R := (outN r (someG row sg t r)).map intN) (H := (hereG row r).map intN) (S := (someG row sg t r).map intN)
  have hsl : (someG row sg t r).length ≤ r.length := Nat.le_trans (List.length_filter_le _ _) (List.length_filter_le _ _)
  have hb := seq_then h1 (seq_then t2_ok (seq_then h3 (seq_then (t4_ok (by rw [List.length_map, List.length_map]; omega)) (seq_then h5 h6))))
  rw [List.length_map, List.length_map] at hb
  rw [List.map_append]
  by_cases hp : (someG row sg t r).length < (hereG row r).length
  · rw [if_pos hp] at hb
    refine ⟨_, _, by rw [m_fgtE, hb, fgE_bk], ?_⟩
    rw [if_pos hp]
    exact ⟨rfl, _, _, _, _, rfl⟩
  · rw [if_neg hp] at hb
    refine ⟨_, _, by rw [m_fgtE, hb, fgE_nx], ?_⟩
    rw [if_neg hp]
    refine ⟨rfl, ?_⟩
    simp only [fgts_c, fgts_n, m_fgt1, List.getElem?_cons_succ, List.getElem?_cons_zero, fg_d, List.set_cons_succ, List.set_cons_zero]
theorem take_loop {left : List Nat} (hix : ∀ w ∈ left, ixD yd (intN w) = some (.d (.int (rN row w)))) (hl : left.length ≤ 1000) (hlf : lenD [lf] = some (.d (.int (left.length : Int)))) :
    ∃ x4 x5 x6 x7, law_one_take_s3 [.d yd, .d lf, .d (.int sg), .own (.l []), .own (.l (left.map intN)), .un, .un, .un, .un, .un] = .ok (.nx, [.d yd, .d lf, .d (.int sg), .own (.l ((takeG row sg left).map intN)), x4, x5, x6, x7, .un, .un]) := by
  have hr : (-1000000000 : Int) ≤ (left.length : Int) ∧ (left.length : Int) ≤ 1000000000 := by omega
  unfold law_one_take_s3
  obtain ⟨s', h1, x4, x5, x6, x7, rfl⟩ := for_brk (L := []) (gt := vSetD 5) (g := (vFgtE [5, 6, 7] (vSeq (vFrz [4] (vAsg ((vIte ((vBool (vBin neF (vVar 4) ((vList (vr [])))))) ((vLcF [8] (vItSeq (vVar 4)) (vSetD 8) (vBool (vBin eqF ((vBin ixD (vVar 0) (vVar 8))) ((vCall minD ((vCons ((vLcF [9] (vItSeq (vVar 4)) (vSetD 9) (vr true) ((vBin ixD (vVar 0) (vVar 9))))) (vr []))))))) (vVar 8))) ((vList (vr []))))) (vSet 6))) (vSeq (vFrz [6] (vPar [7] (vPc (vVar 6) (vr [])))) (vSeq (vFrz [3] law_one_take_s2) (vSeq (vFrz [3, 7] (vAsg ((vBin addD (vVar 3) (vVar 7))) (vSet 3))) (vSeq (vFrz [4, 7] (vAsg ((vLcF [8] (vItSeq (vVar 4)) (vSetD 8) (vBool (vBin notinF (vVar 8) (vVar 7))) (vVar 8))) (vSet 4))) (vFrz [6, 7] law_one_take_s1)))))))) (xs := rngD 0 left.length 1)
    (fi := (vItRng ((vCons ((vCall lenD ((vCons (vVar 1) (vr []))))) (vr []))))) (s := [.d yd, .d lf, .d (.int sg), .own (.l []), .own (.l (left.map intN)), .un, .un, .un, .un, .un]) (s1 := [.d yd, .d lf, .d (.int sg), .own (.l []), .own (.l (left.map intN)), .un, .un, .un, .un, .un])
    (fun xs s => ∃ t r, s = [.d yd, .d lf, .d (.int sg), .own (.l (t.map intN)), .own (.l (r.map intN)), .un, .un, .un, .un, .un] ∧ takeL row sg xs.length t r = takeG row sg left ∧ (∀ w ∈ r, w ∈ left) ∧ r.length ≤ left.length ∧ t.length + xs.length * left.length ≤ left.length * left.length)
    (fun s => ∃ x4 x5 x6 x7, s = [.d yd, .d lf, .d (.int sg), .own (.l ((takeG row sg left).map intN)), x4, x5, x6, x7, .un, .un])
    (fun x xs s hR => by
      obtain ⟨t, r, rfl, ht, hr2, hl2, hl3⟩ := hR
      have hsq := Nat.mul_le_mul hl hl
      obtain ⟨c, s2, h2, h3⟩ := take_turn (lf := lf) (x := x) (sg := sg) (t := t) (r := r) (fun w hw => hix w (hr2 w hw)) (by omega) (by omega)
      refine ⟨[.d yd, .d lf, .d (.int sg), .own (.l (t.map intN)), .own (.l (r.map intN)), .d x, .un, .un, .un, .un], c, s2, by simp! only [], h2, ?_⟩
      rw [List.length_cons] at ht
      unfold takeL at ht
      by_cases hp : (someG row sg t r).length < (hereG row r).length
      · rw [if_pos hp] at h3 ht
        obtain ⟨rfl, x4, x5, x6, x7, rfl⟩ := h3
        exact .inr ⟨rfl, x4, x5, x6, x7, by rw [ht]⟩
      · rw [if_neg hp] at h3 ht
        obtain ⟨rfl, rfl⟩ := h3
        exact .inl ⟨.inl rfl, _, _, rfl, ht, fun w hw => hr2 w (mem_out.mp hw).1, Nat.le_trans (List.length_filter_le _ _) hl2, by
          have hsl : (someG row sg t r).length ≤ r.length := Nat.le_trans (List.length_filter_le _ _) (List.length_filter_le _ _)
          rw [List.length_cons, Nat.add_mul, Nat.one_mul] at hl3
          rw [List.length_append]; omega⟩)
    (fun s hR => by
      obtain ⟨t, r, rfl, ht, _⟩ := hR
      have ht : t = takeG row sg left := ht
      exact ⟨_, _, _, _, by rw [ht]⟩)
    (by simp! only [hlf, range_1, hr, Int.toNat_natCast]) ⟨[], left, rfl, by rw [rngD_len]; rfl, fun w hw => hw, Nat.le_refl _, by rw [rngD_len]; show 0 + _ ≤ _; omega⟩
  rw [unl_n] at h1
  exact ⟨x4, x5, x6, x7, h1⟩
theorem sorted_nats (l : List Nat) : sorted3 [.list (l.map intN)] = some (.own (.l ((sortN l).map intN))) := by
  refine sorted3_of ?_
  show sortedL (l.map intN) = _
  unfold sortedL
  rw [ints_nats]
  dsimp only
  rw [← sortN_int, ← intN_ints]
theorem take_end {T : List Nat} {x4 x5 x6 x7 : SV} :
    (vFrz [3] (vRet (vIte ((vBool (vBin eqF (vVar 2) (vC (.int 1))))) ((vCall sorted3 ((vCons (vVar 3) (vr []))))) ((vUn revD ((vCall sorted3 ((vCons (vVar 3) (vr [])))))))))) [.d yd, .d lf, .d (.int sg), .own (.l (T.map intN)), x4, x5, x6, x7, .un, .un] = .ok (.rt (.own (.l ((ordG sg T).map intN))), [.d yd, .d lf, .d (.int sg), .d (.list (T.map intN)), x4, x5, x6, x7, .un, .un]) := by
  have h := sorted_nats T
  unfold ordG
  by_cases hs : sg = 1
  · rw [if_pos hs]
    generalize T.map intN = TT at h ⊢
    simp! only [hs, decide_true, h]
  · rw [if_neg hs, List.map_reverse]
    generalize T.map intN = TT at h ⊢
    generalize (sortN T).map intN = S at h ⊢
    have h2 : revD (.list S) = some (.own (.l S.reverse)) := rfl
    simp! only [hs, decide_false, h, h2, if_false, Bool.false_eq_true]
theorem onetake_ok {left : List Nat} (hix : ∀ w ∈ left, ixD yd (intN w) = some (.d (.int (rN row w)))) (hl : left.length ≤ 1000) :
    F__law_one_take [.d yd, .d (.list (left.map intN)), .d (.int sg)] = .ok (.own (.l ((takeO row sg left).map intN)), [.d yd, .d (.list (left.map intN)), .d (.int sg)]) := by
  obtain ⟨x4, x5, x6, x7, h⟩ := take_loop (lf := .list (left.map intN)) (sg := sg) hix hl (by rw [len_l, List.length_map])
  have l0 : ([] : List Da).length ≤ 16777216 := Nat.zero_le _
  refine run_own (st := [.d yd, .d (.list (left.map intN)), .d (.int sg), .un, .un, .un, .un, .un, .un, .un]) (s := [.d yd, .d (.list (left.map intN)), .d (.int sg), .d (.list ((takeG row sg left).map intN)), x4, x5, x6, x7, .un, .un]) ?_
  unfold g__law_one_take
  refine seq_then (s1 := [.d yd, .d (.list (left.map intN)), .d (.int sg), .own (.l []), .own (.l (left.map intN)), .un, .un, .un, .un, .un]) ?_ (seq_then h take_end)
  simp! only [l0]
end
end LB
set_option Elab.async false
set_option linter.all false
set_option maxRecDepth 100000
set_option maxHeartbeats 0
/-! the mirrors of _law_filling, _law_needed, signs_of, is_parting -/
namespace LB
open PySem PySem.Spec PyProof.Rows L2 VL
theorem fill_nil {row : List Int} : ∀ ss : List Int, fillG row ss [] = []
  | [] => rfl
  | _ :: _ => if_pos rfl
theorem fill_cons {row : List Int} {sg : Int} {ss : List Int} {left : List Nat} : fillG row (sg :: ss) left = if left = [] then [] else takeO row sg left :: fillG row ss (outN left (takeO row sg left)) := rfl
theorem at_lastD {F : List Da} {x : Da} : atI (F ++ [x]) (-1) = some x := by
  have h := at_lastE (enc := fun (d : Da) => d) (xs := F) (x := x)
  rw [show (fun (d : Da) => d) = id from rfl, List.map_id] at h
  exact h
def fillD (l : List (List Nat)) : List Da := l.map fun T => .list (T.map intN)
/-- the left ones: as made, or looked at -/
def lfS (b : Bool) (L : List Da) : SV := if b = true then .d (.list L) else .own (.l L)
section
variable {yd sd : Da} {row : List Int} {sg : Int} {left : List Nat}
theorem fl_if {b : Bool} {L F : List Da} {sgd : Da} {e : Bool} (hn : neF (.list L) (.list []) = some (.d (.bool e))) {B : VM Ctl} {s' : VS} (hB : e = true → B [.d yd, .d sd, .d (.list L), .own (.l F), .d sgd, .un] = .ok (.nx, s')) (h0 : e = false → s' = [.d yd, .d sd, .d (.list L), .own (.l F), .d sgd, .un]) :
    (vFrz [2] (vIf (VL.vBool (vBin neF (vVar 2) (vList (vr [])))) B vNx)) [.d yd, .d sd, lfS b L, .own (.l F), .d sgd, .un] = .ok (.nx, s') := by
  have l0 : ([] : List Da).length ≤ 16777216 := Nat.zero_le _
  have e1 : (vFrz [2] (vIf (VL.vBool (vBin neF (vVar 2) (vList (vr [])))) B vNx)) [.d yd, .d sd, lfS b L, .own (.l F), .d sgd, .un] = (vIf (VL.vBool (vBin neF (vVar 2) (vList (vr [])))) B vNx) [.d yd, .d sd, .d (.list L), .own (.l F), .d sgd, .un] := by
    unfold lfS
    cases b
    · simp only [m_frzc, m_frzn, m_frz1, List.getElem?_cons_succ, List.getElem?_cons_zero, fz_o, oc_l, List.set_cons_succ, List.set_cons_zero, if_false, Bool.false_eq_true]
    · simp only [m_frzc, m_frzn, m_frz1, List.getElem?_cons_succ, List.getElem?_cons_zero, fz_d, if_true]
  rw [e1]
  cases e with
  | true =>
    have h := hB rfl
    simp! only [hn, l0, h]
  | false =>
    rw [h0 rfl]
    simp! only [hn, l0]
theorem fl_app {L F : List Da} {sgd : Da} {T : List Da} (hc : ∀ s, callF F__law_one_take [.d yd, .d (.list L), .d sgd] s = .ok (.own (.l T), s)) (hF : F.length < 16777216) :
    (vFrz [2, 4] (vDrop ((vMut appendD (vVar 3) ((vCons ((vCallF F__law_one_take ((vCons (vVar 0) ((vCons (vVar 2) ((vCons (vVar 4) (vr []))))))))) (vr []))))))) [.d yd, .d sd, .d (.list L), .own (.l F), .d sgd, .un] = .ok (.nx, [.d yd, .d sd, .d (.list L), .own (.l (F ++ [.list T])), .d sgd, .un]) := by
  generalize F__law_one_take = m at hc ⊢
  generalize PyData.list L = Ld at hc ⊢
  simp! only [m_callF, hc, app_1, hF]
theorem fl_left {F : List Da} {sgd : Da} {s : List Nat} (hl : left.length ≤ 1000) :
    (vFrz [2] (vAsg (vLcF [5] (vItSeq (vVar 2)) (vSetD 5) (vBool (vBin notinF (vVar 5) ((vBin ixD (vVar 3) ((vUn negD (vC (.int 1)))))))) (vVar 5)) (vSet 2))) [.d yd, .d sd, .d (.list (left.map intN)), .own (.l (F ++ [.list (s.map intN)])), .d sgd, .un] = .ok (.nx, [.d yd, .d sd, .own (.l ((outN left s).map intN)), .own (.l (F ++ [.list (s.map intN)])), .d sgd, .un]) := by
  have lc : (vLcF [5] (vItSeq (vVar 2)) (vSetD 5) (vBool (vBin notinF (vVar 5) ((vBin ixD (vVar 3) ((vUn negD (vC (.int 1)))))))) (vVar 5)) [.d yd, .d sd, .d (.list (left.map intN)), .own (.l (F ++ [.list (s.map intN)])), .d sgd, .un] = .ok (.own (.l ((outN left s).map intN)), [.d yd, .d sd, .d (.list (left.map intN)), .own (.l (F ++ [.list (s.map intN)])), .d sgd, .un]) := by
    refine lc_of (ix := [5]) (fi := vItSeq (vVar 2)) (gt := vSetD 5) (tt := (vBool (vBin notinF (vVar 5) ((vBin ixD (vVar 3) ((vUn negD (vC (.int 1))))))))) (te := vVar 5) (s := [.d yd, .d sd, .d (.list (left.map intN)), .own (.l (F ++ [.list (s.map intN)])), .d sgd, .un]) (enc := intN) (xs := left) (L := []) (base := [.d yd, .d sd, .d (.list (left.map intN)), .own (.l (F ++ [.list (s.map intN)])), .d sgd, .un]) (s1 := [.d yd, .d sd, .d (.list (left.map intN)), .own (.l (F ++ [.list (s.map intN)])), .d sgd, .un]) (p := fun w => !decide (w ∈ s)) (h := intN) (by simp! only []) rfl rfl
      (fun w hw => ⟨[.d yd, .d sd, .d (.list (left.map intN)), .own (.l (F ++ [.list (s.map intN)])), .d sgd, .d (intN w)], [.d yd, .d sd, .d (.list (left.map intN)), .own (.l (F ++ [.list (s.map intN)])), .d sgd, .d (intN w)], by simp! only [], ?_, fun _ => ⟨rfl, rfl⟩, fun _ => ⟨.d (intN w), [.d yd, .d sd, .d (.list (left.map intN)), .own (.l (F ++ [.list (s.map intN)])), .d sgd, .d (intN w)], by simp! only [], rfl, rfl, rfl⟩⟩) (by omega)
    have h := notin_natsL (k := w) (l := s)
    have e := at_lastD (F := F) (x := .list (s.map intN))
    generalize PyData.list (s.map intN) = Sd at h e ⊢
    generalize intN w = wd at h ⊢
    simp! only [e, h]
  generalize left.map intN = R at lc ⊢
  generalize F ++ [.list (s.map intN)] = F' at lc ⊢
  simp only [m_frzc, m_frzn, m_frz1, List.getElem?_cons_succ, List.getElem?_cons_zero, fz_d]
  exact asg_own lc rfl
theorem fl_turn {F : List Da} {b : Bool} (hix : ∀ w ∈ left, ixD yd (intN w) = some (.d (.int (rN row w)))) (hl : left.length ≤ 1000) (hF : F.length < 16777216) :
    ∃ b' left' F', (vFgtE [4] (vFrz [2] law_filling_s1)) [.d yd, .d sd, lfS b (left.map intN), .own (.l F), .d (.int sg), .un] = .ok (.nx, [.d yd, .d sd, lfS b' (left'.map intN), .own (.l F'), .un, .un]) ∧
      (if left = [] then left' = [] ∧ F' = F else left' = outN left (takeO row sg left) ∧ F' = F ++ [.list ((takeO row sg left).map intN)]) := by
  have hn := neF_nil (shF_nats left)
  by_cases hne : left = []
  · subst hne
    refine ⟨true, [], F, ?_, by rw [if_pos rfl]; exact ⟨rfl, rfl⟩⟩
    rw [m_fgtE]
    unfold law_filling_s1
    rw [fl_if (e := false) (s' := [.d yd, .d sd, .d (.list (([] : List Nat).map intN)), .own (.l F), .d (.int sg), .un]) hn (fun z => by cases z) (fun _ => rfl), fgE_nx]
    simp only [fgts_c, fgts_n, m_fgt1, List.getElem?_cons_succ, List.getElem?_cons_zero, fg_d, List.set_cons_succ, List.set_cons_zero]
    rfl
  · refine ⟨false, outN left (takeO row sg left), F ++ [.list ((takeO row sg left).map intN)], ?_, by rw [if_neg hne]; exact ⟨rfl, rfl⟩⟩
    have he : (left.map intN).isEmpty = false := by cases left with
      | nil => exact absurd rfl hne
      | cons _ _ => rfl
    rw [he] at hn
    have h1 := fl_app (yd := yd) (sd := sd) (sgd := .int sg) (L := left.map intN) (F := F) (fun s => callF_3 (onetake_ok (sg := sg) hix hl) ol) hF
    have h2 := fl_left (yd := yd) (sd := sd) (sgd := .int sg) (F := F) (s := takeO row sg left) hl
    rw [m_fgtE]
    unfold law_filling_s1
    rw [fl_if (e := true) hn (fun _ => seq_then h1 h2) (fun z => by cases z), fgE_nx]
    simp only [fgts_c, fgts_n, m_fgt1, List.getElem?_cons_succ, List.getElem?_cons_zero, fg_d, List.set_cons_succ, List.set_cons_zero]
    rfl
theorem fill_start {S : Da} {k : Int} {R : List Da} (hlen : lenD [yd] = some (.d (.int k))) (hrg : lstRgD (.int 0) (.int k) = some (.own (.l R))) :
    (vPar [2, 3] (vPc ((vListRg ((vCall lenD ((vCons (vVar 0) (vr []))))))) ((vPc ((vList (vr []))) (vr []))))) [.d yd, .d S, .un, .un, .un, .un] = .ok (.nx, [.d yd, .d S, .own (.l R), .own (.l []), .un, .un]) := by
  have l0 : ([] : List Da).length ≤ 16777216 := Nat.zero_le _
  have hlc : (vCall lenD (vCons (vVar 0) (vr []))) [.d yd, .d S, .un, .un, .un, .un] = .ok (.d (.int k), [.d yd, .d S, .un, .un, .un, .un]) := by simp! only [hlen]
  have hl2 : (vListRg (vCall lenD (vCons (vVar 0) (vr [])))) [.d yd, .d S, .un, .un, .un, .un] = .ok (.own (.l R), [.d yd, .d S, .un, .un, .un, .un]) := by
    rw [m_listRg, hlc, bnd_ok, m_vb, rd_d, bnd_ok, hrg, m_opt]
  generalize vListRg (vCall lenD (vCons (vVar 0) (vr []))) = lf at hl2 ⊢
  simp! only [hl2, l0]
theorem fill_end {S : Da} {sv : SV} {F : List Da} : (vRet (vVar 3)) [.d yd, .d S, sv, .own (.l F), .un, .un] = .ok (.rt (.loan 3), [.d yd, .d S, sv, .own (.l F), .un, .un]) := by
  simp! only []
theorem filling_ok {signs : List Int} {n : Nat} (hix : ∀ w, w < n → ixD yd (intN w) = some (.d (.int (rN row w)))) (hn : n ≤ 1000) (hlen : lenD [yd] = some (.d (.int (n : Int)))) (hs : signs.length ≤ 1000) :
    F__law_filling [.d yd, .d (tupI signs)] = .ok (.own (.l (fillD (fillG row signs (List.range n)))), [.d yd, .d (tupI signs)]) := by
  have l0 : ([] : List Da).length ≤ 16777216 := Nat.zero_le _
  have hrg := lstRg_nat (n := n) (by omega)
  have loop : ∃ sv, law_filling_s2 [.d yd, .d (tupI signs), .own (.l ((List.range n).map intN)), .own (.l []), .un, .un] = .ok (.nx, [.d yd, .d (tupI signs), sv, .own (.l (fillD (fillG row signs (List.range n)))), .un, .un]) := by
    unfold law_filling_s2
    obtain ⟨s', h1, ss, left, F, b, e1, rfl, e2, _⟩ := for_inv (L := []) (gt := vSetD 4) (g := (vFgtE [4] (vFrz [2] law_filling_s1))) (xs := signs.map PyData.int) (fi := (vItSeq (vVar 1)))
      (s := [.d yd, .d (tupI signs), .own (.l ((List.range n).map intN)), .own (.l []), .un, .un]) (s1 := [.d yd, .d (tupI signs), .own (.l ((List.range n).map intN)), .own (.l []), .un, .un])
      (fun xs s => ∃ (ss : List Int) (left : List Nat) (F : List Da) (b : Bool), xs = ss.map PyData.int ∧ s = [.d yd, .d (tupI signs), lfS b (left.map intN), .own (.l F), .un, .un] ∧ F ++ fillD (fillG row ss left) = fillD (fillG row signs (List.range n)) ∧ (∀ w ∈ left, w < n) ∧ left.length ≤ n ∧ F.length + ss.length ≤ 1000)
      (fun x xs s hR => by
        obtain ⟨ss, left, F, b, e1, rfl, e2, h3, h4, h5⟩ := hR
        cases ss with
        | nil => cases e1
        | cons sg ss =>
          rw [List.map_cons] at e1
          obtain ⟨rfl, rfl⟩ := List.cons.inj e1
          rw [List.length_cons] at h5
          obtain ⟨b', left', F', h6, h7⟩ := fl_turn (yd := yd) (sd := tupI signs) (sg := sg) (F := F) (b := b) (left := left) (fun w hw => hix w (h3 w hw)) (by omega) (by omega)
          have hset : vSetD 4 (PyData.int sg) [.d yd, .d (tupI signs), lfS b (left.map intN), .own (.l F), .un, .un] = .ok ((), [.d yd, .d (tupI signs), lfS b (left.map intN), .own (.l F), .d (.int sg), .un]) := by
            generalize lfS b (left.map intN) = sv
            simp! only []
          refine ⟨[.d yd, .d (tupI signs), lfS b (left.map intN), .own (.l F), .d (.int sg), .un], .nx, _, hset, h6, .inl rfl, ss, left', F', b', rfl, rfl, ?_⟩
          rw [fill_cons] at e2
          by_cases hne : left = []
          · rw [if_pos hne] at h7 e2
            obtain ⟨rfl, rfl⟩ := h7
            rw [fill_nil]
            exact ⟨e2, fun w hw => by (cases hw), Nat.zero_le _, by omega⟩
          · rw [if_neg hne] at h7 e2
            obtain ⟨rfl, rfl⟩ := h7
            refine ⟨?_, fun w hw => h3 w (mem_out.mp hw).1, Nat.le_trans (List.length_filter_le _ _) h4, by rw [List.length_append]; show F.length + 1 + _ ≤ _; omega⟩
            rw [← e2, List.append_assoc]; rfl)
      (by unfold tupI; simp! only []) ⟨signs, List.range n, [], false, rfl, rfl, rfl, fun w hw => List.mem_range.mp hw, by rw [List.length_range]; exact Nat.le_refl _, by simpa using hs⟩
    have : ss = [] := List.map_eq_nil_iff.mp e1.symm
    subst this
    have e2 : F ++ [] = _ := e2
    rw [List.append_nil] at e2
    rw [unl_n, e2] at h1
    exact ⟨_, h1⟩
  obtain ⟨sv, loop⟩ := loop
  refine run_loan (st := [.d yd, .d (tupI signs), .un, .un, .un, .un]) (s := [.d yd, .d (tupI signs), sv, .own (.l (fillD (fillG row signs (List.range n)))), .un, .un]) (i := 3) ?_
  unfold g__law_filling
  refine seq_then (fill_start hlen hrg) (seq_then loop ?_)
  exact fill_end
/-! needed -/
theorem sum_lens : ∀ F : List (List Nat), (F.map fun T => (T.length : Int)).sum = (F.flatten.length : Int)
  | [] => rfl
  | T :: F => by
    rw [List.map_cons, List.sum_cons, sum_lens F, List.flatten_cons, List.length_append]; omega
theorem sum_fill (F : List (List Nat)) : sumD [.list (F.map fun T => PyData.int (T.length : Int))] = some (.d (.int (F.flatten.length : Int))) := by
  have e : (F.map fun T => PyData.int (T.length : Int)) = (F.map fun T => (T.length : Int)).map PyData.int := by rw [List.map_map]; rfl
  show (ints? _).map _ = _
  rw [e, ints_ok, Option.map_some, sum_lens]
theorem needed_run {F : List Da} {sdd : Da} {n k : Int} (h : ∀ s, callF F__law_filling [.d yd, .d sdd] s = .ok (.own (.l F), s)) (hlen : lenD [yd] = some (.d (.int n)))
    (lc : (vLcF [3] (vItSeq (vVar 2)) (vSetD 3) (vr true) ((vCall lenD ((vCons (vVar 3) (vr [])))))) [.d yd, .d sdd, .d (.list F), .un] = .ok (.own (.l S), [.d yd, .d sdd, .d (.list F), .un])) (hs : sumD [.list S] = some (.d (.int k))) :
    g__law_needed [.d yd, .d sdd, .un, .un] = .ok (.rt (.d (if k = n then .int (F.length : Int) else .none)), [.d yd, .d sdd, .d (.list F), .un]) := by
  unfold g__law_needed
  refine seq_then (s1 := [.d yd, .d sdd, .own (.l F), .un]) ?_ ?_
  · generalize F__law_filling = m at h ⊢
    simp! only [m_callF, h]
  · simp only [m_frzc, m_frzn, m_frz1, List.getElem?_cons_succ, List.getElem?_cons_zero, fz_o, oc_l, List.set_cons_succ, List.set_cons_zero]
    by_cases hk : k = n
    · rw [if_pos hk]
      simp! only [lc, hs, hlen, hk, decide_true]
    · rw [if_neg hk]
      simp! only [lc, hs, hlen, hk, decide_false, if_false, Bool.false_eq_true]
theorem needed_ok {signs : List Int} {n : Nat} (hix : ∀ w, w < n → ixD yd (intN w) = some (.d (.int (rN row w)))) (hn : n ≤ 1000) (hlen : lenD [yd] = some (.d (.int (n : Int)))) (hs : signs.length ≤ 1000) :
    F__law_needed [.d yd, .d (tupI signs)] = .ok (.d (if restG row signs (List.range n) = [] then .int ((fillG row signs (List.range n)).length : Int) else .none), [.d yd, .d (tupI signs)]) := by
  have hf : ∀ s, callF F__law_filling [.d yd, .d (tupI signs)] s = .ok (.own (.l (fillD (fillG row signs (List.range n)))), s) := fun s => callF_2 (filling_ok hix hn hlen hs) ol
  have sp := fill_split (row := row) (signs := signs) (left := List.range n) List.nodup_range
  have hsum := sp.length_eq
  rw [List.length_append, List.length_range] at hsum
  have fl : (fillG row signs (List.range n)).length ≤ signs.length := by
    have : ∀ (ss : List Int) (left : List Nat), (fillG row ss left).length ≤ ss.length := fun ss => by
      induction ss with
      | nil => intro left; exact Nat.le_refl _
      | cons sg ss ih =>
        intro left
        unfold fillG
        split
        · exact Nat.zero_le _
        · exact Nat.succ_le_succ (ih _)
    exact this _ _
  generalize fillG row signs (List.range n) = F at hf hsum fl ⊢
  have lc : (vLcF [3] (vItSeq (vVar 2)) (vSetD 3) (vr true) ((vCall lenD ((vCons (vVar 3) (vr [])))))) [.d yd, .d (tupI signs), .d (.list (fillD F)), .un] = .ok (.own (.l (F.map fun T => PyData.int (T.length : Int))), [.d yd, .d (tupI signs), .d (.list (fillD F)), .un]) := by
    refine lc_map (ix := [3]) (fi := vItSeq (vVar 2)) (gt := vSetD 3) (te := (vCall lenD (vCons (vVar 3) (vr [])))) (s := [.d yd, .d (tupI signs), .d (.list (fillD F)), .un]) (enc := fun T => .list (T.map intN)) (xs := F) (L := []) (base := [.d yd, .d (tupI signs), .d (.list (fillD F)), .un]) (s1 := [.d yd, .d (tupI signs), .d (.list (fillD F)), .un]) (h := fun T => PyData.int (T.length : Int)) (by unfold fillD; simp! only []) rfl rfl
      (fun T _ => ⟨[.d yd, .d (tupI signs), .d (.list (fillD F)), .d (.list (T.map intN))], .d (.int (T.length : Int)), [.d yd, .d (tupI signs), .d (.list (fillD F)), .d (.list (T.map intN))], by simp! only [], by simp! only [List.length_map], rfl, rfl, rfl⟩) (by omega)
  have r := needed_run hf hlen lc (sum_fill F)
  have e : ((F.flatten.length : Int) = (n : Int)) ↔ restG row signs (List.range n) = [] := by
    rw [← List.length_eq_zero_iff]; omega
  have hfl : (fillD F).length = F.length := List.length_map _
  rw [hfl] at r
  refine run_d (st := [.d yd, .d (tupI signs), .un, .un]) (s := [.d yd, .d (tupI signs), .d (.list (fillD F)), .un]) ?_
  rw [r]
  by_cases h : restG row signs (List.range n) = []
  · rw [if_pos h, if_pos (e.mpr h)]
  · rw [if_neg h, if_neg fun z => h (e.mp z)]
end
end LB
set_option Elab.async false
set_option linter.all false
set_option maxRecDepth 100000
set_option maxHeartbeats 0
/-! partings turned about (plain) -/
namespace LB
open PySem PySem.Spec PyProof.Rows L2 VL
def flipS (signs : List Int) : List Int := signs.map fun s => 0 - s
def upR (row : List Int) : List Int := row.map fun x => 59 - x
def turnT (n : Nat) (F : List (List Nat)) : List (List Nat) := F.map fun T => T.map fun w => n - 1 - w
def padT (k : Nat) (F : List (List Nat)) : List (List Nat) := F ++ List.replicate (k - F.length) []
def upT (k : Nat) (F : List (List Nat)) : List (List Nat) := (padT k F).reverse.map List.reverse
section
variable {row signs : List Int} {F : List (List Nat)}
theorem PartG.lt (P : PartG row signs (List.range row.length) F) : ∀ w ∈ F.flatten, w < row.length := fun w hw => List.mem_range.mp (P.perm.mem_iff.mp hw)
end
end LB
set_option Elab.async false
set_option linter.all false
set_option maxRecDepth 100000
set_option maxHeartbeats 0
/-! the mirrors of stand_by, are_integers, is_parting: of a parting -/
namespace LB
open PySem PySem.Spec PyProof.Rows L2 VL
def pairN (p : Nat × Nat) : Da := .tuple [intN p.1, intN p.2]
theorem mul_sg {sg : Int} (hs : sg = 1 ∨ sg = -1) {w : Nat} (hw : w ≤ 1000000) : mulE (.int sg) (intN w) = some (.d (.int (sg * (w : Int)))) := by
  show mulE (.int sg) (.int (w : Int)) = _
  rw [mulE_i]
  have h1 := lg (i := (w : Int)) (by omega) (by omega)
  have h0 : sg.natAbs.log2 = 0 := by rcases hs with rfl | rfl <;> decide
  rw [if_pos (by omega)]
/-! a comprehension with two fors that changes nothing -/
section
variable {ix ix1 : List Nat} {gt gt1 : Da → VM Unit} {fi fi1 : VM (List Da × Lks)} {te : VM EV} {γ δ : Type}
end
section
variable {yd : Da} {row signs : List Int} {F : List (List Nat)} {n : Nat}
end
end LB
set_option Elab.async false
set_option linter.all false
set_option maxRecDepth 100000
set_option maxHeartbeats 0
/-! the program's one_take, plain: class by class, the classes in order -/
namespace LB
open PySem PySem.Spec PyProof.Rows L2 VL
def clsG (row : List Int) (left : List Nat) (c : Int) : List Nat := left.filter fun w => decide (rN row w = c)
def progL (row : List Int) (sg : Int) (left : List Nat) : List Int → List Nat → List Nat
  | [], t => t
  | c :: cs, t => if ((clsG row left c).filter (edgeOk sg t)).length < (clsG row left c).length then t ++ (clsG row left c).filter (edgeOk sg t) else progL row sg left cs (t ++ (clsG row left c).filter (edgeOk sg t))
section
variable {row : List Int} {sg : Int} {left : List Nat}
theorem takeL_nil : ∀ (k : Nat) (t : List Nat), takeL row sg k t [] = t
  | 0, _ => rfl
  | k + 1, t => by
    unfold takeL
    have h1 : hereG row [] = [] := rfl
    have h2 : someG row sg t [] = [] := rfl
    rw [h1, h2, if_neg (Nat.lt_irrefl _), List.append_nil]
    exact takeL_nil k t
theorem mnR_eq {r : List Nat} {c : Int} (h1 : ∃ w ∈ r, rN row w = c) (h2 : ∀ w ∈ r, c ≤ rN row w) : mnR row r = c := by
  obtain ⟨w, hw, e⟩ := h1
  have hne : r ≠ [] := fun z => by rw [z] at hw; cases hw
  obtain ⟨⟨v, hv, ev⟩, h3⟩ := mnR_ok (row := row) hne
  have := h3 w hw
  have := h2 v hv
  omega
theorem prog_take : ∀ (cs : List Int) (k : Nat) (t : List Nat), cs.Pairwise (· < ·) → (∀ c ∈ cs, ∃ w ∈ left, rN row w = c) → cs.length ≤ k →
    progL row sg left cs t = takeL row sg k t (left.filter fun w => decide (rN row w ∈ cs))
  | [], k, t, _, _, _ => by
    have : (left.filter fun w => decide (rN row w ∈ ([] : List Int))) = [] := List.filter_eq_nil_iff.mpr fun w _ => by simp
    rw [this, takeL_nil]; rfl
  | c :: cs, 0, t, _, _, h => absurd h (Nat.not_succ_le_zero _)
  | c :: cs, k + 1, t, hp, hc, hk => by
    obtain ⟨p1, p2⟩ := List.pairwise_cons.mp hp
    have hr : ∀ w, w ∈ (left.filter fun w => decide (rN row w ∈ c :: cs)) ↔ w ∈ left ∧ rN row w ∈ c :: cs := fun w => by rw [List.mem_filter, decide_eq_true_eq]
    have hmn : mnR row (left.filter fun w => decide (rN row w ∈ c :: cs)) = c := by
      refine mnR_eq ?_ fun w hw => ?_
      · obtain ⟨w, hw, e⟩ := hc c List.mem_cons_self
        exact ⟨w, (hr w).mpr ⟨hw, e ▸ List.mem_cons_self⟩, e⟩
      · rcases List.mem_cons.mp ((hr w).mp hw).2 with e | e
        · omega
        · have := p1 _ e; omega
    have hh : hereG row (left.filter fun w => decide (rN row w ∈ c :: cs)) = clsG row left c := by
      unfold hereG clsG
      rw [hmn, List.filter_filter]
      refine List.filter_congr fun w _ => ?_
      by_cases e : rN row w = c
      · simp [e]
      · simp [e]
    have hs : someG row sg t (left.filter fun w => decide (rN row w ∈ c :: cs)) = (clsG row left c).filter (edgeOk sg t) := by
      unfold someG; rw [hh]
    unfold progL takeL
    rw [hs, hh]
    by_cases hlt : ((clsG row left c).filter (edgeOk sg t)).length < (clsG row left c).length
    · rw [if_pos hlt, if_pos hlt]
    · rw [if_neg hlt, if_neg hlt]
      have hall := filter_all hlt
      have he : (clsG row left c).filter (edgeOk sg t) = clsG row left c := List.filter_eq_self.mpr hall
      rw [he]
      have ho : outN (left.filter fun w => decide (rN row w ∈ c :: cs)) (clsG row left c) = left.filter fun w => decide (rN row w ∈ cs) := by
        unfold outN
        rw [List.filter_filter]
        refine List.filter_congr fun w hw => ?_
        have hm : w ∈ clsG row left c ↔ rN row w = c := by
          unfold clsG; rw [List.mem_filter, decide_eq_true_eq]
          exact ⟨fun h => h.2, fun h => ⟨hw, h⟩⟩
        by_cases e : rN row w = c
        · have h1 : w ∈ clsG row left c := hm.mpr e
          have h2 : ¬ rN row w ∈ cs := fun z => by have := p1 _ z; omega
          simp [h1, h2]
        · have h1 : ¬ w ∈ clsG row left c := fun z => e (hm.mp z)
          simp [h1, e]
      rw [ho]
      exact prog_take cs k _ p2 (fun c' h' => hc c' (List.mem_cons_of_mem _ h')) (Nat.le_of_succ_le_succ hk)
end
def clsOf (row : List Int) (left : List Nat) : List Int := (left.map (rN row)).foldl addC []
theorem clsOf_ok (row : List Int) (left : List Nat) : (clsOf row left).Nodup ∧ (∀ n, n ∈ clsOf row left ↔ ∃ w ∈ left, rN row w = n) ∧ (clsOf row left).length ≤ left.length := by
  obtain ⟨h1, h2, h3⟩ := addC_all (left.map (rN row)) [] List.nodup_nil
  refine ⟨h1, fun n => ?_, by rw [List.length_map] at h3; unfold clsOf; simpa using h3⟩
  rw [clsOf, h2 n]
  simp
/-- the classes in order -/
def clsF (row : List Int) (left : List Nat) : List Int := sortI (clsOf row left)
theorem clsF_mem {row : List Int} {left : List Nat} (n : Int) : n ∈ clsF row left ↔ ∃ w ∈ left, rN row w = n := by
  rw [clsF, (sortI_perm _).mem_iff, (clsOf_ok row left).2.1]
theorem clsF_len {row : List Int} {left : List Nat} : (clsF row left).length ≤ left.length := by
  rw [clsF, (sortI_perm _).length_eq]; exact (clsOf_ok row left).2.2
theorem clsF_lt {row : List Int} {left : List Nat} : (clsF row left).Pairwise (· < ·) := by
  have h2 : (clsF row left).Nodup := (sortI_perm _).nodup_iff.mpr (clsOf_ok row left).1
  exact (List.pairwise_and_iff.mpr ⟨sortI_sorted _, h2⟩).imp fun {a b} q => by have := q.1; have := q.2; omega
theorem prog_all {row : List Int} {sg : Int} {left : List Nat} : progL row sg left (clsF row left) [] = takeG row sg left := by
  rw [prog_take (clsF row left) left.length [] clsF_lt (fun c hc => (clsF_mem c).mp hc) clsF_len]
  have : (left.filter fun w => decide (rN row w ∈ clsF row left)) = left := List.filter_eq_self.mpr fun w hw => decide_eq_true ((clsF_mem _).mpr ⟨w, hw, rfl⟩)
  rw [this]; rfl
theorem mulSort_le (m : Int) (ns : List Int) : (mulSort m ns).Pairwise fun a b => m * a ≤ m * b :=
  (List.pairwise_mergeSort (le := fun a b => decide (m * a ≤ m * b)) (fun a b c h1 h2 => decide_eq_true (Int.le_trans (of_decide_eq_true h1) (of_decide_eq_true h2))) (fun a b => by
    rcases Int.le_total (m * a) (m * b) with h | h
    · simp [h]
    · simp [h]) ns).imp fun {a b} h => of_decide_eq_true h
theorem mul_sort {sg : Int} {l : List Nat} (hs : sg = 1 ∨ sg = -1) : mulSort sg (l.map fun (w : Nat) => (w : Int)) = (ordG sg l).map fun (w : Nat) => (w : Int) := by
  have hp : (mulSort sg (l.map fun (w : Nat) => (w : Int))).Perm (l.map fun (w : Nat) => (w : Int)) := List.mergeSort_perm _ _
  have hl := mulSort_le sg (l.map fun (w : Nat) => (w : Int))
  rcases hs with rfl | rfl
  · unfold ordG
    rw [if_pos rfl, sortN_int]
    exact sorted_uniq (hp.trans (sortI_perm _).symm) (hl.imp fun {a b} h => by omega) (sortI_sorted _)
  · unfold ordG
    rw [if_neg (by decide), List.map_reverse, sortN_int, ← sorted_uniq (((List.reverse_perm _).trans hp).trans (sortI_perm _).symm) (List.pairwise_reverse.mpr (hl.imp fun {a b} h => by omega)) (sortI_sorted _), List.reverse_reverse]
end LB
set_option Elab.async false
set_option linter.all false
set_option maxRecDepth 100000
set_option maxHeartbeats 0
-- %N 9
/-! the mirrors of the program's one_take, takes_and_left, left_by, can_sort, filling, runs_needed -/
namespace LB
open PySem PySem.Spec PyProof.Rows L2 VL
section
variable {vd : Da}
def ctD (vd : Da) (n : Int) : Da × Da := (.int n, vd)
theorem ct_any (n : Int) : ∀ acc : List Int, ((acc.map (ctD vd)).any fun p => decide (keyOf p.1 = some (.inl n))) = decide (n ∈ acc)
  | [] => rfl
  | a :: acc => by
    rw [List.map_cons, List.any_cons, ct_any n acc]
    show (decide (some (Sum.inl a : Key) = some (.inl n)) || _) = _
    by_cases e : a = n
    · subst e; simp
    · have : ¬ n = a := fun z => e z.symm
      have h2 : ¬ (some (Sum.inl a : Key) = some (.inl n)) := fun z => e (Sum.inl.inj (Option.some.inj z))
      rw [decide_eq_false h2]
      simp [this]
theorem ct_put (acc : List Int) (n : Int) : putD (acc.map (ctD vd)) (.inl n) vd = (addC acc n).map (ctD vd) := by
  unfold putD addC
  rw [ct_any]
  by_cases h : n ∈ acc
  · rw [if_pos (decide_eq_true h), if_pos h, List.map_map]
    refine List.map_congr_left fun a _ => ?_
    show (if keyOf (PyData.int a) = some (Sum.inl n) then (PyData.int a, vd) else (PyData.int a, vd)) = _
    split <;> rfl
  · rw [if_neg (fun z => h (of_decide_eq_true z)), if_neg h, List.map_append]; rfl
theorem ct_keys : ∀ acc : List Int, keyInts (acc.map (ctD vd)) = some acc
  | [] => rfl
  | a :: acc => by
    show (keyInts (acc.map (ctD vd))).map _ = _
    rw [ct_keys acc]; rfl
theorem ct_tk : ∀ acc : List Int, tkD (.dict (acc.map (ctD vd))) = false
  | [] => rfl
  | a :: acc => by
    have h := ct_tk acc
    unfold tkD at h ⊢
    dsimp only at h ⊢
    rw [List.map_cons, List.any_cons, h]; rfl
theorem ct_sorted {acc : List Int} (h : acc.length < 64) : sorted4 [.dict (acc.map (ctD vd))] = some (.own (.l ((sortI acc).map PyData.int))) := by
  unfold sorted4
  dsimp only
  rw [ct_keys, Option.bind_some, if_pos ⟨h, ct_tk acc⟩]
section
variable {γ : Type} {s s1 base : VS} {fi : VM (List Da × Lks)} {L : Lks} {ix : List Nat} {gt : Da → VM Unit} {tk te : VM EV} {enc : γ → Da} {kk : γ → Int}
theorem dcL_of : ∀ (xs : List γ) (acc : List Int), (∀ x ∈ xs, ∃ s2 rk s3 r s4, gt (enc x) base = .ok ((), s2) ∧ tk s2 = .ok (rk, s3) ∧ evD rk = some (.int (kk x)) ∧ te s3 = .ok (r, s4) ∧ evD r = some vd ∧ ix.all (fun j => flatS s4[j]?) = true ∧ wipeV ix s4 = base) → acc.length + xs.length ≤ 16777216 →
    vDcL ix gt (vr true) tk te (xs.map enc) (acc.map (ctD vd)) base = .ok (((xs.map kk).foldl addC acc).map (ctD vd), base)
  | [], acc, _, _ => rfl
  | x :: xs, acc, h, hl => by
    obtain ⟨s2, rk, s3, r, s4, h1, h2, h3, h4, h5, h6, h7⟩ := h x List.mem_cons_self
    rw [List.length_cons] at hl
    have hk : keyOf (PyData.int (kk x)) = some (.inl (kk x)) := rfl
    have ha : (addC acc (kk x)).length ≤ acc.length + 1 := by
      unfold addC; split
      · omega
      · simp
    have ih := dcL_of xs (addC acc (kk x)) (fun y hy => h y (List.mem_cons_of_mem _ hy)) (by omega)
    rw [List.map_cons, List.map_cons, List.foldl_cons]
    unfold vDcL
    rw [m_vb, h1, bnd_ok]
    show (vb (vr true) _) s2 = _
    rw [m_vb]
    show (vb tk _) s2 = _
    rw [m_vb, h2, bnd_ok, m_vb, h3, Option.bind_some, hk]
    show (vb te _) s3 = _
    rw [m_vb, h4, bnd_ok, m_vb, h5]
    show (if (acc.map (ctD vd)).length < 16777216 then _ else vStuck) s4 = _
    rw [if_pos (by rw [List.length_map]; omega), m_vb]
    show bnd (if ix.all (fun j => flatS s4[j]?) = true then _ else _) _ = _
    rw [if_pos h6, bnd_ok, h7, ct_put]
    exact ih
theorem dc_of {xs : List γ} (hi : fi s = .ok ((xs.map enc, L), s1)) (fl : ix.all (fun j => flatS s1[j]?) = true) (hb : wipeV ix s1 = base)
    (h : ∀ x ∈ xs, ∃ s2 rk s3 r s4, gt (enc x) base = .ok ((), s2) ∧ tk s2 = .ok (rk, s3) ∧ evD rk = some (.int (kk x)) ∧ te s3 = .ok (r, s4) ∧ evD r = some vd ∧ ix.all (fun j => flatS s4[j]?) = true ∧ wipeV ix s4 = base) (hl : xs.length ≤ 16777216) :
    vDc ix fi gt (vr true) tk te s = .ok (.own (.m (((xs.map kk).foldl addC []).map (ctD vd))), unlock L (restV s1 ix base)) := by
  have e := dcL_of (vd := vd) xs [] h (by simpa using hl)
  unfold vDc
  rw [m_vb, hi, bnd_ok]
  dsimp only
  rw [if_pos fl, hb]
  rw [List.map_nil] at e
  rw [e]
end
end
/-- the edge of what is found -/
def edD (sg : Int) (t : List Nat) : Da := if t = [] then .none else .int (if sg = 1 then mxN t else mnN t)
theorem mxN_mem {t : List Nat} (h : t ≠ []) : ∃ m ∈ t, mxN t = (m : Int) := by
  cases t with
  | nil => exact absurd rfl h
  | cons a l =>
    obtain ⟨h1, _, _⟩ := maxI_ok (l.map fun (w : Nat) => (w : Int)) (a : Int)
    have e : mxN (a :: l) = maxI (a : Int) (l.map fun (w : Nat) => (w : Int)) := rfl
    rcases h1 with h1 | h1
    · exact ⟨a, List.mem_cons_self, by rw [e, h1]⟩
    · obtain ⟨x, hx, ex⟩ := List.mem_map.mp h1
      exact ⟨x, List.mem_cons_of_mem _ hx, by rw [e, ← ex]⟩
theorem mnN_mem {t : List Nat} (h : t ≠ []) : ∃ m ∈ t, mnN t = (m : Int) := by
  cases t with
  | nil => exact absurd rfl h
  | cons a l =>
    obtain ⟨h1, _, _⟩ := minI_ok (l.map fun (w : Nat) => (w : Int)) (a : Int)
    have e : mnN (a :: l) = minI (a : Int) (l.map fun (w : Nat) => (w : Int)) := rfl
    rcases h1 with h1 | h1
    · exact ⟨a, List.mem_cons_self, by rw [e, h1]⟩
    · obtain ⟨x, hx, ex⟩ := List.mem_map.mp h1
      exact ⟨x, List.mem_cons_of_mem _ hx, by rw [e, ← ex]⟩
theorem ed_nat {sg : Int} {t : List Nat} (hs : sg = 1 ∨ sg = -1) (h : t ≠ []) : ∃ m ∈ t, edD sg t = intN m ∧ ∀ w : Nat, decide (sg * (m : Int) < sg * (w : Int)) = edgeOk sg t w := by
  unfold edD edgeOk
  rw [if_neg h]
  rcases hs with rfl | rfl
  · obtain ⟨m, hm, e⟩ := mxN_mem h
    refine ⟨m, hm, by rw [if_pos rfl, e]; rfl, fun w => ?_⟩
    rw [if_pos rfl, ← mxN_lt h w, e]
    exact decide_eq_decide.mpr (by omega)
  · obtain ⟨m, hm, e⟩ := mnN_mem h
    refine ⟨m, hm, by rw [if_neg (by decide), e]; rfl, fun w => ?_⟩
    rw [if_neg (by decide), ← mnN_lt h w, e]
    exact decide_eq_decide.mpr (by omega)
section
variable {yd lf sgd f : Da} {row : List Int} {sg c : Int} {left t : List Nat}
theorem ot_init : (vPar [3, 4] (vPc (vList (vr [])) (vPc (vC .none) (vr [])))) [.d yd, .d lf, .d sgd, .un, .un, .un, .un, .un, .un] = .ok (.nx, [.d yd, .d lf, .d sgd, .own (.l []), .d .none, .un, .un, .un, .un]) := by
  have l0 : ([] : List Da).length ≤ 16777216 := Nat.zero_le _
  simp! only [l0]
theorem ot_iter {sv : SV} {e : Da} (hix : ∀ w ∈ left, ixD yd (intN w) = some (.d (.int (rN row w)))) (hl : left.length < 64) :
    (vItSeq (vCall sorted4 (vCons (vDc [8] (vItSeq (vVar 1)) (vSetD 8) (vr true) (vBin ixD (vVar 0) (vVar 8)) (vC (.bool true))) (vr [])))) [.d yd, .d (.list (left.map intN)), .d sgd, sv, .d e, .un, .un, .un, .un] = .ok (((clsF row left).map PyData.int, []), [.d yd, .d (.list (left.map intN)), .d sgd, sv, .d e, .un, .un, .un, .un]) := by
  have dc := dc_of (vd := .bool true) (enc := intN) (kk := rN row) (xs := left) (ix := [8]) (L := []) (fi := vItSeq (vVar 1)) (gt := vSetD 8) (tk := (vBin ixD (vVar 0) (vVar 8))) (te := (vC (.bool true)))
    (s := [.d yd, .d (.list (left.map intN)), .d sgd, sv, .d e, .un, .un, .un, .un]) (s1 := [.d yd, .d (.list (left.map intN)), .d sgd, sv, .d e, .un, .un, .un, .un]) (base := [.d yd, .d (.list (left.map intN)), .d sgd, sv, .d e, .un, .un, .un, .un])
    (by simp! only []) rfl rfl (fun w hw => ⟨[.d yd, .d (.list (left.map intN)), .d sgd, sv, .d e, .un, .un, .un, .d (intN w)], .d (.int (rN row w)), [.d yd, .d (.list (left.map intN)), .d sgd, sv, .d e, .un, .un, .un, .d (intN w)], .d (.bool true), [.d yd, .d (.list (left.map intN)), .d sgd, sv, .d e, .un, .un, .un, .d (intN w)], by simp! only [], by simp! only [hix w hw], rfl, rfl, rfl, rfl, rfl⟩) (by omega)
  have hs := ct_sorted (vd := .bool true) (acc := clsOf row left) (by have := (clsOf_ok row left).2.2; omega)
  have e0 : (left.map (rN row)).foldl addC [] = clsOf row left := rfl
  rw [e0] at dc
  have e1 : sortI (clsOf row left) = clsF row left := rfl
  rw [e1] at hs
  have hz : ((clsF row left).map PyData.int).length ≤ 16777216 := by rw [List.length_map]; have := clsF_len (row := row) (left := left); omega
  generalize (clsOf row left).map (ctD (.bool true)) = M at dc hs
  generalize (clsF row left).map PyData.int = Z at hs hz ⊢
  generalize left.map intN = R at dc ⊢
  simp! only [dc, hs, hz]
  all_goals rfl
theorem ot_some {sv : SV} {e : Da} (hix : ∀ w ∈ left, ixD yd (intN w) = some (.d (.int (rN row w)))) (hl : left.length < 64) :
    (vFrz [5] (vAsg (vLcF [8] (vItSeq (vVar 1)) (vSetD 8) (vBool (vBin eqF ((vBin ixD (vVar 0) (vVar 8))) (vVar 5))) (vVar 8)) (vSet 6))) [.d yd, .d (.list (left.map intN)), .d sgd, sv, .d e, .d (.int c), .un, .un, .un] = .ok (.nx, [.d yd, .d (.list (left.map intN)), .d sgd, sv, .d e, .d (.int c), .own (.l ((clsG row left c).map intN)), .un, .un]) := by
  have lc : (vLcF [8] (vItSeq (vVar 1)) (vSetD 8) (vBool (vBin eqF ((vBin ixD (vVar 0) (vVar 8))) (vVar 5))) (vVar 8)) [.d yd, .d (.list (left.map intN)), .d sgd, sv, .d e, .d (.int c), .un, .un, .un] = .ok (.own (.l ((clsG row left c).map intN)), [.d yd, .d (.list (left.map intN)), .d sgd, sv, .d e, .d (.int c), .un, .un, .un]) := by
    refine lc_of (ix := [8]) (fi := vItSeq (vVar 1)) (gt := vSetD 8) (te := vVar 8) (enc := intN) (xs := left) (L := []) (s := [.d yd, .d (.list (left.map intN)), .d sgd, sv, .d e, .d (.int c), .un, .un, .un]) (base := [.d yd, .d (.list (left.map intN)), .d sgd, sv, .d e, .d (.int c), .un, .un, .un]) (s1 := [.d yd, .d (.list (left.map intN)), .d sgd, sv, .d e, .d (.int c), .un, .un, .un]) (p := fun w => decide (rN row w = c)) (h := intN) (by simp! only []) rfl rfl
      (fun w hw => ⟨[.d yd, .d (.list (left.map intN)), .d sgd, sv, .d e, .d (.int c), .un, .un, .d (intN w)], [.d yd, .d (.list (left.map intN)), .d sgd, sv, .d e, .d (.int c), .un, .un, .d (intN w)], by simp! only [], ?_, fun _ => ⟨rfl, rfl⟩, fun _ => ⟨.d (intN w), [.d yd, .d (.list (left.map intN)), .d sgd, sv, .d e, .d (.int c), .un, .un, .d (intN w)], by simp! only [], rfl, rfl, rfl⟩⟩) (by omega)
    simp! only [hix w hw]
  generalize left.map intN = R at lc ⊢
  simp only [m_frzc, m_frzn, m_frz1, List.getElem?_cons_succ, List.getElem?_cons_zero, fz_d]
  exact asg_own lc rfl
theorem ot_good {S : List Nat} (hs : sg = 1 ∨ sg = -1) (hS : S.length < 64) (hwb : ∀ w ∈ S, w < 64) (ht : ∀ w ∈ t, w < 64) :
    (vFrz [4, 6] (vAsg (vLcF [8] (vItSeq (vVar 6)) (vSetD 8) (vOr ((vBool (vBin isE (vVar 4) (vC .none)))) ((vBool (vBin gtD ((vBin mulE (vVar 2) (vVar 8))) ((vBin mulE (vVar 2) (vVar 4))))))) (vVar 8)) (vSet 7))) [.d yd, .d lf, .d (.int sg), .own (.l (t.map intN)), .d (edD sg t), .d f, .own (.l (S.map intN)), .un, .un] = .ok (.nx, [.d yd, .d lf, .d (.int sg), .own (.l (t.map intN)), .d (edD sg t), .d f, .d (.list (S.map intN)), .own (.l ((S.filter (edgeOk sg t)).map intN)), .un]) := by
  have lc : (vLcF [8] (vItSeq (vVar 6)) (vSetD 8) (vOr ((vBool (vBin isE (vVar 4) (vC .none)))) ((vBool (vBin gtD ((vBin mulE (vVar 2) (vVar 8))) ((vBin mulE (vVar 2) (vVar 4))))))) (vVar 8)) [.d yd, .d lf, .d (.int sg), .own (.l (t.map intN)), .d (edD sg t), .d f, .d (.list (S.map intN)), .un, .un] = .ok (.own (.l ((S.filter (edgeOk sg t)).map intN)), [.d yd, .d lf, .d (.int sg), .own (.l (t.map intN)), .d (edD sg t), .d f, .d (.list (S.map intN)), .un, .un]) := by
    refine lc_of (ix := [8]) (fi := vItSeq (vVar 6)) (gt := vSetD 8) (te := vVar 8) (enc := intN) (xs := S) (L := []) (s := [.d yd, .d lf, .d (.int sg), .own (.l (t.map intN)), .d (edD sg t), .d f, .d (.list (S.map intN)), .un, .un]) (base := [.d yd, .d lf, .d (.int sg), .own (.l (t.map intN)), .d (edD sg t), .d f, .d (.list (S.map intN)), .un, .un]) (s1 := [.d yd, .d lf, .d (.int sg), .own (.l (t.map intN)), .d (edD sg t), .d f, .d (.list (S.map intN)), .un, .un]) (p := edgeOk sg t) (h := intN) (by simp! only []) rfl rfl
      (fun w hw => ⟨[.d yd, .d lf, .d (.int sg), .own (.l (t.map intN)), .d (edD sg t), .d f, .d (.list (S.map intN)), .un, .d (intN w)], [.d yd, .d lf, .d (.int sg), .own (.l (t.map intN)), .d (edD sg t), .d f, .d (.list (S.map intN)), .un, .d (intN w)], by simp! only [], ?_, fun _ => ⟨rfl, rfl⟩, fun _ => ⟨.d (intN w), [.d yd, .d lf, .d (.int sg), .own (.l (t.map intN)), .d (edD sg t), .d f, .d (.list (S.map intN)), .un, .d (intN w)], by simp! only [], rfl, rfl, rfl⟩⟩) (by omega)
    have hw' := hw
    have hwl : w ≤ 1000000 := by have := hwb w hw; omega
    by_cases h0 : t = []
    · subst h0
      have e0 : edD sg ([] : List Nat) = .none := if_pos rfl
      have e1 : edgeOk sg ([] : List Nat) w = true := by unfold edgeOk; split <;> rfl
      have e2 : isE .none .none = some (.d (.bool true)) := rfl
      rw [e0, e1]
      generalize intN w = wd
      simp! only [e2]
    · obtain ⟨m, hm, e0, e1⟩ := ed_nat hs h0
      have e2 : isE (intN m) .none = some (.d (.bool false)) := rfl
      have m1 := mul_sg hs hwl
      have m2 := mul_sg hs (show m ≤ 1000000 by have := ht m hm; omega)
      have h3 : gtD (.int (sg * (w : Int))) (.int (sg * (m : Int))) = some (.d (.bool (edgeOk sg t w))) := by rw [← e1 w]; rfl
      rw [e0]
      generalize intN m = md at m2 e2 ⊢
      generalize intN w = wd at m1 ⊢
      generalize PyData.int (sg * (w : Int)) = wi at m1 h3
      generalize PyData.int (sg * (m : Int)) = mi at m2 h3
      simp! only [e2, m1, m2, h3]
  generalize t.map intN = T at lc ⊢
  generalize S.map intN = R at lc ⊢
  generalize edD sg t = ed at lc ⊢
  simp only [m_frzc, m_frzn, m_frz1, List.getElem?_cons_succ, List.getElem?_cons_zero, fz_d, fz_o, oc_l, List.set_cons_succ, List.set_cons_zero]
  exact asg_own lc rfl
theorem ot_ext {T S G : List Da} {e : Da} (hn : T.length + G.length ≤ 16777216) :
    (vFrz [7] (vDrop ((vMutB extendD (vVar 3) ((vCons (vVar 7) (vr []))))))) [.d yd, .d lf, .d sgd, .own (.l T), .d e, .d f, .d (.list S), .own (.l G), .un] = .ok (.nx, [.d yd, .d lf, .d sgd, .own (.l (T ++ G)), .d e, .d f, .d (.list S), .d (.list G), .un]) := by
  simp! only [hn]
theorem ot_brk {T S G : List Da} {e : Da} :
    (vFrz [6, 7] one_take_s1) [.d yd, .d lf, .d sgd, .own (.l T), .d e, .d f, .d (.list S), .d (.list G), .un] = .ok (if G.length < S.length then .bk else .nx, [.d yd, .d lf, .d sgd, .own (.l T), .d e, .d f, .d (.list S), .d (.list G), .un]) := by
  unfold one_take_s1
  by_cases h : G.length < S.length
  · have h2 : decide ((G.length : Int) < (S.length : Int)) = true := decide_eq_true (by omega)
    rw [if_pos h]
    simp! only [h2]
  · have h2 : decide ((G.length : Int) < (S.length : Int)) = false := decide_eq_false (by omega)
    rw [if_neg h]
    simp! only [h2]
theorem seq_brk {f g : VM Ctl} {s s1 : VS} (h : f s = .ok (.bk, s1)) : vSeq f g s = .ok (.bk, s1) := by rw [m_seq, h]; rfl
theorem ot_edge {S G : List Da} {e : Da} (hs : sg = 1 ∨ sg = -1) (hne : t ≠ []) :
    (vAsg ((vIte ((vBool (vBin eqF (vVar 2) (vC (.int 1))))) ((vCall maxD ((vCons (vVar 3) (vr []))))) ((vCall minD ((vCons (vVar 3) (vr []))))))) (vSet 4)) [.d yd, .d lf, .d (.int sg), .own (.l (t.map intN)), .d e, .d f, .d (.list S), .d (.list G), .un] = .ok (.nx, [.d yd, .d lf, .d (.int sg), .own (.l (t.map intN)), .d (edD sg t), .d f, .d (.list S), .d (.list G), .un]) := by
  have h1 := maxD_nats hne
  have h2 := minD_nats hne
  unfold edD
  rw [if_neg hne]
  generalize t.map intN = TT at h1 h2 ⊢
  rcases hs with rfl | rfl
  · have hd : decide ((1 : Int) = 1) = true := rfl
    simp! only [decide_true, h1]
  · have hd : decide ((-1 : Int) = 1) = false := rfl
    have hi : (if (-1 : Int) = 1 then mxN t else mnN t) = mnN t := if_neg (by decide)
    rw [hi]
    simp! only [hd, h2, if_false, Bool.false_eq_true]
/-- a turn of one_take -/
theorem ot_turn (hs : sg = 1 ∨ sg = -1) (hix : ∀ w ∈ left, ixD yd (intN w) = some (.d (.int (rN row w)))) (hl : left.length < 64) (hwb : ∀ w ∈ left, w < 64) (ht : ∀ w ∈ t, w < 64) (htl : t.length ≤ 100000) (hc : ∃ w ∈ left, rN row w = c) :
    ∃ k s2, (vFgtE [5, 6, 7] (vSeq (vFrz [5] (vAsg (vLcF [8] (vItSeq (vVar 1)) (vSetD 8) (vBool (vBin eqF ((vBin ixD (vVar 0) (vVar 8))) (vVar 5))) (vVar 8)) (vSet 6))) (vSeq (vFrz [4, 6] (vAsg (vLcF [8] (vItSeq (vVar 6)) (vSetD 8) (vOr ((vBool (vBin isE (vVar 4) (vC .none)))) ((vBool (vBin gtD ((vBin mulE (vVar 2) (vVar 8))) ((vBin mulE (vVar 2) (vVar 4))))))) (vVar 8)) (vSet 7))) (vSeq (vFrz [7] (vDrop ((vMutB extendD (vVar 3) ((vCons (vVar 7) (vr []))))))) (vSeq (vFrz [6, 7] one_take_s1) (vAsg ((vIte ((vBool (vBin eqF (vVar 2) (vC (.int 1))))) ((vCall maxD ((vCons (vVar 3) (vr []))))) ((vCall minD ((vCons (vVar 3) (vr []))))))) (vSet 4))))))) [.d yd, .d (.list (left.map intN)), .d (.int sg), .own (.l (t.map intN)), .d (edD sg t), .d (.int c), .un, .un, .un] = .ok (k, s2) ∧
      (if ((clsG row left c).filter (edgeOk sg t)).length < (clsG row left c).length then k = .bk ∧ ∃ x4 x5 x6 x7, s2 = [.d yd, .d (.list (left.map intN)), .d (.int sg), .own (.l ((t ++ (clsG row left c).filter (edgeOk sg t)).map intN)), x4, x5, x6, x7, .un]
        else k = .nx ∧ s2 = [.d yd, .d (.list (left.map intN)), .d (.int sg), .own (.l ((t ++ (clsG row left c).filter (edgeOk sg t)).map intN)), .d (edD sg (t ++ (clsG row left c).filter (edgeOk sg t))), .un, .un, .un, .un]) := by
  have hS : (clsG row left c).length ≤ left.length := List.length_filter_le _ _
  have hG : ((clsG row left c).filter (edgeOk sg t)).length ≤ (clsG row left c).length := List.length_filter_le _ _
  have h1 := ot_some (sgd := .int sg) (sv := .own (.l (t.map intN))) (e := edD sg t) (c := c) hix hl
  have h2 := ot_good (yd := yd) (lf := .list (left.map intN)) (f := .int c) (S := clsG row left c) (t := t) hs (by omega) (fun w hw => hwb w (List.mem_filter.mp hw).1) ht
  have h3 := ot_ext (yd := yd) (lf := .list (left.map intN)) (sgd := .int sg) (f := .int c) (e := edD sg t) (T := t.map intN) (S := (clsG row left c).map intN) (G := ((clsG row left c).filter (edgeOk sg t)).map intN) (by rw [List.length_map, List.length_map]; omega)
  have h4 := ot_brk (yd := yd) (lf := .list (left.map intN)) (sgd := .int sg) (f := .int c) (e := edD sg t) (T := t.map intN ++ ((clsG row left c).filter (edgeOk sg t)).map intN) (S := (clsG row left c).map intN) (G := ((clsG row left c).filter (edgeOk sg t)).map intN)
  rw [List.length_map, List.length_map] at h4
  by_cases hp : ((clsG row left c).filter (edgeOk sg t)).length < (clsG row left c).length
  · rw [if_pos hp] at h4
    have hb := seq_then h1 (seq_then h2 (seq_then h3 (seq_brk (g := (vAsg ((vIte ((vBool (vBin eqF (vVar 2) (vC (.int 1))))) ((vCall maxD ((vCons (vVar 3) (vr []))))) ((vCall minD ((vCons (vVar 3) (vr []))))))) (vSet 4))) h4)))
    refine ⟨_, _, by rw [m_fgtE, hb, fgE_bk], ?_⟩
    rw [if_pos hp, List.map_append]
    exact ⟨rfl, _, _, _, _, rfl⟩
  · rw [if_neg hp] at h4
    have hne : t ++ (clsG row left c).filter (edgeOk sg t) ≠ [] := fun z => by
      have hz := (List.append_eq_nil_iff.mp z).2
      obtain ⟨w, hw, e⟩ := hc
      have hm : w ∈ clsG row left c := List.mem_filter.mpr ⟨hw, decide_eq_true e⟩
      have := List.length_pos_of_mem hm
      rw [hz] at hp
      exact hp this
    have h5 := ot_edge (yd := yd) (lf := .list (left.map intN)) (f := .int c) (e := edD sg t) (S := (clsG row left c).map intN) (G := ((clsG row left c).filter (edgeOk sg t)).map intN) hs hne
    rw [List.map_append] at h5
    have hb := seq_then h1 (seq_then h2 (seq_then h3 (seq_then h4 h5)))
    refine ⟨_, _, by rw [m_fgtE, hb, fgE_nx], ?_⟩
    rw [if_neg hp, List.map_append]
    refine ⟨rfl, ?_⟩
    simp only [fgts_c, fgts_n, m_fgt1, List.getElem?_cons_succ, List.getElem?_cons_zero, fg_d, List.set_cons_succ, List.set_cons_zero]
theorem clsG_sub {w : Nat} (h : w ∈ clsG row left c) : w ∈ left := (List.mem_filter.mp h).1
theorem ot_loop (hs : sg = 1 ∨ sg = -1) (hix : ∀ w ∈ left, ixD yd (intN w) = some (.d (.int (rN row w)))) (hl : left.length < 64) (hwb : ∀ w ∈ left, w < 64) :
    ∃ x4 x5 x6 x7, one_take_s2 [.d yd, .d (.list (left.map intN)), .d (.int sg), .own (.l []), .d .none, .un, .un, .un, .un] = .ok (.nx, [.d yd, .d (.list (left.map intN)), .d (.int sg), .own (.l ((takeG row sg left).map intN)), x4, x5, x6, x7, .un]) := by
  unfold one_take_s2
  have e0 : edD sg [] = .none := if_pos rfl
  have hin := ot_iter (row := row) (sgd := .int sg) (sv := .own (.l [])) (e := .none) hix hl
  obtain ⟨s', h1, x4, x5, x6, x7, rfl⟩ := for_brk (L := []) (gt := vSetD 5) (g := (vFgtE [5, 6, 7] (vSeq (vFrz [5] (vAsg (vLcF [8] (vItSeq (vVar 1)) (vSetD 8) (vBool (vBin eqF ((vBin ixD (vVar 0) (vVar 8))) (vVar 5))) (vVar 8)) (vSet 6))) (vSeq (vFrz [4, 6] (vAsg (vLcF [8] (vItSeq (vVar 6)) (vSetD 8) (vOr ((vBool (vBin isE (vVar 4) (vC .none)))) ((vBool (vBin gtD ((vBin mulE (vVar 2) (vVar 8))) ((vBin mulE (vVar 2) (vVar 4))))))) (vVar 8)) (vSet 7))) (vSeq (vFrz [7] (vDrop ((vMutB extendD (vVar 3) ((vCons (vVar 7) (vr []))))))) (vSeq (vFrz [6, 7] one_take_s1) (vAsg ((vIte ((vBool (vBin eqF (vVar 2) (vC (.int 1))))) ((vCall maxD ((vCons (vVar 3) (vr []))))) ((vCall minD ((vCons (vVar 3) (vr []))))))) (vSet 4)))))))) (xs := (clsF row left).map PyData.int)
    (fi := (vItSeq ((vCall sorted4 ((vCons ((vDc [8] (vItSeq (vVar 1)) (vSetD 8) (vr true) ((vBin ixD (vVar 0) (vVar 8))) (vC (.bool true)))) (vr []))))))) (s := [.d yd, .d (.list (left.map intN)), .d (.int sg), .own (.l []), .d .none, .un, .un, .un, .un]) (s1 := [.d yd, .d (.list (left.map intN)), .d (.int sg), .own (.l []), .d .none, .un, .un, .un, .un])
    (fun xs s => ∃ (cs : List Int) (t : List Nat), xs = cs.map PyData.int ∧ s = [.d yd, .d (.list (left.map intN)), .d (.int sg), .own (.l (t.map intN)), .d (edD sg t), .un, .un, .un, .un] ∧ progL row sg left cs t = takeG row sg left ∧ (∀ c ∈ cs, ∃ w ∈ left, rN row w = c) ∧ (∀ w ∈ t, w < 64) ∧ t.length + cs.length * left.length ≤ left.length * left.length)
    (fun s => ∃ x4 x5 x6 x7, s = [.d yd, .d (.list (left.map intN)), .d (.int sg), .own (.l ((takeG row sg left).map intN)), x4, x5, x6, x7, .un])
    (fun x xs s hR => by
      obtain ⟨cs, t, e1, rfl, ht, hcs, ht2, hl3⟩ := hR
      cases cs with
      | nil => cases e1
      | cons c cs =>
        rw [List.map_cons] at e1
        obtain ⟨rfl, rfl⟩ := List.cons.inj e1
        have hsq : left.length * left.length ≤ 64 * 64 := Nat.mul_le_mul (by omega) (by omega)
        obtain ⟨k, s2, h2, h3⟩ := ot_turn (t := t) (c := c) hs hix hl hwb ht2 (by omega) (hcs c List.mem_cons_self)
        refine ⟨[.d yd, .d (.list (left.map intN)), .d (.int sg), .own (.l (t.map intN)), .d (edD sg t), .d (.int c), .un, .un, .un], k, s2, by simp! only [], h2, ?_⟩
        unfold progL at ht
        by_cases hp : ((clsG row left c).filter (edgeOk sg t)).length < (clsG row left c).length
        · rw [if_pos hp] at h3 ht
          obtain ⟨rfl, x4, x5, x6, x7, rfl⟩ := h3
          exact .inr ⟨rfl, x4, x5, x6, x7, by rw [ht]⟩
        · rw [if_neg hp] at h3 ht
          obtain ⟨rfl, rfl⟩ := h3
          refine .inl ⟨.inl rfl, cs, _, rfl, rfl, ht, fun c' h' => hcs c' (List.mem_cons_of_mem _ h'), fun w hw => ?_, ?_⟩
          · rcases List.mem_append.mp hw with hw | hw
            · exact ht2 w hw
            · exact hwb w (clsG_sub (List.mem_filter.mp hw).1)
          · have hS : (clsG row left c).length ≤ left.length := List.length_filter_le _ _
            have hG : ((clsG row left c).filter (edgeOk sg t)).length ≤ (clsG row left c).length := List.length_filter_le _ _
            rw [List.length_cons, Nat.add_mul, Nat.one_mul] at hl3
            rw [List.length_append]; omega)
    (fun s hR => by
      obtain ⟨cs, t, e1, rfl, ht, _⟩ := hR
      have : cs = [] := List.map_eq_nil_iff.mp e1.symm
      subst this
      have ht : t = takeG row sg left := ht
      exact ⟨_, _, _, _, by rw [ht]⟩)
    hin ⟨clsF row left, [], rfl, by rw [e0]; rfl, prog_all, fun c hc => (clsF_mem c).mp hc, fun w hw => (by cases hw), by
      have := Nat.mul_le_mul (clsF_len (row := row) (left := left)) (Nat.le_refl left.length)
      show 0 + _ ≤ _
      omega⟩
  rw [unl_n] at h1
  exact ⟨x4, x5, x6, x7, h1⟩
theorem m_sortMul {i : Nat} {fe : VM EV} {s : VS} : vSortMul i fe s = bnd (fe s) fun r => vb (vRd r) fun xs => fun s => match (intSlot s[i]?).bind fun m => sortMulD m xs with
  | some z => .ok (z, s)
  | none => .error .stuck := rfl
theorem smD_nats {T : List Nat} (hs : sg = 1 ∨ sg = -1) (hT : ∀ w ∈ T, w < 64) : sortMulD sg (.list (T.map intN)) = some (.own (.l ((ordG sg T).map intN))) := by
  show ((ints? (T.map intN)).bind fun ns => if (ns.all fun n => decide (sg.natAbs.log2 + n.natAbs.log2 < 1000000)) = true then some (EV.own (.l ((mulSort sg ns).map PyData.int))) else none) = _
  rw [ints_nats, Option.bind_some, mul_sort hs, ← intN_ints, if_pos]
  refine List.all_eq_true.mpr fun n hn => decide_eq_true ?_
  obtain ⟨w, hw, rfl⟩ := List.mem_map.mp hn
  have h1 : sg.natAbs = 1 := by rcases hs with rfl | rfl <;> rfl
  have h2 := Nat.log2_le_self w
  have := hT w hw
  rw [h1]
  show Nat.log2 1 + w.log2 < 1000000
  have : Nat.log2 1 = 0 := by decide
  omega
theorem ot_end {T : List Nat} {x4 x5 x6 x7 : SV} (hs : sg = 1 ∨ sg = -1) (hT : ∀ w ∈ T, w < 64) :
    (vRet ((vCall tupleD ((vCons ((vSortMul 2 (vVar 3))) (vr [])))))) [.d yd, .d lf, .d (.int sg), .own (.l (T.map intN)), x4, x5, x6, x7, .un] = .ok (.rt (.d (tupN (ordG sg T))), [.d yd, .d lf, .d (.int sg), .own (.l (T.map intN)), x4, x5, x6, x7, .un]) := by
  have h := smD_nats hs hT
  unfold tupN
  generalize T.map intN = TT at h ⊢
  generalize (ordG sg T).map intN = R at h ⊢
  have hi : intSlot (some (SV.d (.int sg))) = some sg := rfl
  simp! only [m_sortMul, hi, h]
theorem one_take_ok (hs : sg = 1 ∨ sg = -1) (hix : ∀ w ∈ left, ixD yd (intN w) = some (.d (.int (rN row w)))) (hnd : left.Nodup) (hl : left.length < 64) (hwb : ∀ w ∈ left, w < 64) :
    F_one_take [.d yd, .d (.list (left.map intN)), .d (.int sg)] = .ok (.d (tupN (takeO row sg left)), [.d yd, .d (.list (left.map intN)), .d (.int sg)]) := by
  obtain ⟨x4, x5, x6, x7, h⟩ := ot_loop (row := row) hs hix hl hwb
  refine run_d (st := [.d yd, .d (.list (left.map intN)), .d (.int sg), .un, .un, .un, .un, .un, .un]) (s := [.d yd, .d (.list (left.map intN)), .d (.int sg), .own (.l ((takeG row sg left).map intN)), x4, x5, x6, x7, .un]) ?_
  unfold g_one_take
  exact seq_then ot_init (seq_then h (ot_end hs fun w hw => hwb w (((takeG_ok hnd).sub w hw).resolve_left fun z => (by cases z))))
end
end LB
set_option Elab.async false
set_option linter.all false
set_option maxRecDepth 100000
set_option maxHeartbeats 0
/-! the mirrors of takes_and_left, left_by, filling, signs_of, can_sort, runs_needed -/
namespace LB
open PySem PySem.Spec PyProof.Rows L2 VL
theorem ix_row {row : List Int} {w : Nat} (h : w < row.length) : ixD (tupI row) (intN w) = some (.d (.int (rN row w))) := by
  show ixD (.tuple (row.map PyData.int)) (.int (Int.ofNat w)) = _
  rw [ix_t, at_get h]; rfl
/-! signs -/
def sgsP (ks : List Int) (p : Nat) : List Int := (cdP ks p).map Cd.sign
section
variable {ks : List Int} {p : Nat}
end
/-! takes_and_left -/
def takD (l : List (List Nat)) : List Da := l.map tupN
section
variable {yd sd : Da} {row : List Int} {sg : Int} {left : List Nat}
theorem tl_frz {f : VM Ctl} {b : Bool} {L F : List Da} {sgd : Da} : (vFrz [3] f) [.d yd, .d sd, .own (.l F), lfS b L, .d sgd, .un] = f [.d yd, .d sd, .own (.l F), .d (.list L), .d sgd, .un] := by
  unfold lfS
  cases b
  · simp only [m_frzc, m_frzn, m_frz1, List.getElem?_cons_succ, List.getElem?_cons_zero, fz_o, oc_l, List.set_cons_succ, List.set_cons_zero, if_false, Bool.false_eq_true]
  · simp only [m_frzc, m_frzn, m_frz1, List.getElem?_cons_succ, List.getElem?_cons_zero, fz_d, if_true]
theorem tl_app {L F : List Da} {sgd T : Da} (hc : ∀ s, callF F_one_take [.d yd, .d (.list L), .d sgd] s = .ok (.d T, s)) (hF : F.length < 16777216) :
    (vFrz [3, 4] (vDrop ((vMut appendD (vVar 2) ((vCons ((vCallF F_one_take ((vCons (vVar 0) ((vCons (vVar 3) ((vCons (vVar 4) (vr []))))))))) (vr []))))))) [.d yd, .d sd, .own (.l F), .d (.list L), .d sgd, .un] = .ok (.nx, [.d yd, .d sd, .own (.l (F ++ [T])), .d (.list L), .d sgd, .un]) := by
  generalize F_one_take = m at hc ⊢
  generalize PyData.list L = Ld at hc ⊢
  simp! only [m_callF, hc, app_1, hF]
theorem notin_natsT {k : Nat} {l : List Nat} : notinF (intN k) (tupN l) = some (.d (.bool (!decide (k ∈ l)))) := by
  unfold tupN
  rw [intN_ints]
  unfold intN
  show (if shF 64 (.int (Int.ofNat k)) = true ∧ shFs 63 ((l.map fun (w : Nat) => (w : Int)).map PyData.int) = true then some (EV.d (.bool (if true = true then !inB _ _ else inB _ _))) else none) = _
  rw [if_pos ⟨rfl, shFs_intL 63 _⟩, if_pos rfl, inB_ints]
  congr 5
  exact propext ⟨fun h => by
    obtain ⟨j, h1, h2⟩ := List.mem_map.mp h
    have h2 : (j : Int) = (k : Int) := h2
    have : j = k := by omega
    exact this ▸ h1, fun h => List.mem_map_of_mem h⟩
theorem tl_left {F : List Da} {sgd : Da} {s : List Nat} (hl : left.length ≤ 1000) :
    (vFrz [3] (vAsg (vLcF [5] (vItSeq (vVar 3)) (vSetD 5) (vBool (vBin notinF (vVar 5) ((vBin ixD (vVar 2) ((vUn negD (vC (.int 1)))))))) (vVar 5)) (vSet 3))) [.d yd, .d sd, .own (.l (F ++ [tupN s])), .d (.list (left.map intN)), .d sgd, .un] = .ok (.nx, [.d yd, .d sd, .own (.l (F ++ [tupN s])), .own (.l ((outN left s).map intN)), .d sgd, .un]) := by
  have lc : (vLcF [5] (vItSeq (vVar 3)) (vSetD 5) (vBool (vBin notinF (vVar 5) ((vBin ixD (vVar 2) ((vUn negD (vC (.int 1)))))))) (vVar 5)) [.d yd, .d sd, .own (.l (F ++ [tupN s])), .d (.list (left.map intN)), .d sgd, .un] = .ok (.own (.l ((outN left s).map intN)), [.d yd, .d sd, .own (.l (F ++ [tupN s])), .d (.list (left.map intN)), .d sgd, .un]) := by
    refine lc_of (ix := [5]) (fi := vItSeq (vVar 3)) (gt := vSetD 5) (tt := (vBool (vBin notinF (vVar 5) ((vBin ixD (vVar 2) ((vUn negD (vC (.int 1))))))))) (te := vVar 5) (s := [.d yd, .d sd, .own (.l (F ++ [tupN s])), .d (.list (left.map intN)), .d sgd, .un]) (enc := intN) (xs := left) (L := []) (base := [.d yd, .d sd, .own (.l (F ++ [tupN s])), .d (.list (left.map intN)), .d sgd, .un]) (s1 := [.d yd, .d sd, .own (.l (F ++ [tupN s])), .d (.list (left.map intN)), .d sgd, .un]) (p := fun w => !decide (w ∈ s)) (h := intN) (by simp! only []) rfl rfl
      (fun w hw => ⟨[.d yd, .d sd, .own (.l (F ++ [tupN s])), .d (.list (left.map intN)), .d sgd, .d (intN w)], [.d yd, .d sd, .own (.l (F ++ [tupN s])), .d (.list (left.map intN)), .d sgd, .d (intN w)], by simp! only [], ?_, fun _ => ⟨rfl, rfl⟩, fun _ => ⟨.d (intN w), [.d yd, .d sd, .own (.l (F ++ [tupN s])), .d (.list (left.map intN)), .d sgd, .d (intN w)], by simp! only [], rfl, rfl, rfl⟩⟩) (by omega)
    have h := notin_natsT (k := w) (l := s)
    have e := at_lastD (F := F) (x := tupN s)
    generalize tupN s = Sd at h e ⊢
    generalize intN w = wd at h ⊢
    simp! only [e, h]
  generalize left.map intN = R at lc ⊢
  generalize F ++ [tupN s] = F' at lc ⊢
  simp only [m_frzc, m_frzn, m_frz1, List.getElem?_cons_succ, List.getElem?_cons_zero, fz_d]
  exact asg_own lc rfl
theorem tl_turn {F : List Da} {b : Bool} (hs : sg = 1 ∨ sg = -1) (hix : ∀ w ∈ left, ixD yd (intN w) = some (.d (.int (rN row w)))) (hnd : left.Nodup) (hl : left.length < 64) (hwb : ∀ w ∈ left, w < 64) (hF : F.length < 16777216) :
    ∃ b' left' F', (vFgtE [4] (vFrz [3] takes_and_left_s1)) [.d yd, .d sd, .own (.l F), lfS b (left.map intN), .d (.int sg), .un] = .ok (.nx, [.d yd, .d sd, .own (.l F'), lfS b' (left'.map intN), .un, .un]) ∧
      (if left = [] then left' = [] ∧ F' = F else left' = outN left (takeO row sg left) ∧ F' = F ++ [tupN (takeO row sg left)]) := by
  by_cases hne : left = []
  · subst hne
    refine ⟨true, [], F, ?_, by rw [if_pos rfl]; exact ⟨rfl, rfl⟩⟩
    rw [m_fgtE, tl_frz]
    unfold takes_and_left_s1
    simp! only [List.map_nil, List.isEmpty_nil, Bool.not_true, if_false, Bool.false_eq_true, fgE_nx, fgts_c, fgts_n, m_fgt1, fg_d]
    rfl
  · refine ⟨false, outN left (takeO row sg left), F ++ [tupN (takeO row sg left)], ?_, by rw [if_neg hne]; exact ⟨rfl, rfl⟩⟩
    have he : (left.map intN).isEmpty = false := by cases left with
      | nil => exact absurd rfl hne
      | cons _ _ => rfl
    have h1 := tl_app (yd := yd) (sd := sd) (sgd := .int sg) (L := left.map intN) (F := F) (fun s => callF_3 (one_take_ok hs hix hnd hl hwb) dl) hF
    have h2 := tl_left (yd := yd) (sd := sd) (sgd := .int sg) (F := F) (s := takeO row sg left) (show left.length ≤ 1000 by omega)
    have hb : takes_and_left_s1 [.d yd, .d sd, .own (.l F), .d (.list (left.map intN)), .d (.int sg), .un] = .ok (.nx, [.d yd, .d sd, .own (.l (F ++ [tupN (takeO row sg left)])), .own (.l ((outN left (takeO row sg left)).map intN)), .d (.int sg), .un]) := by
      unfold takes_and_left_s1
      have h3 := seq_then h1 h2
      have ht : (vTru (vVar 3)) [.d yd, .d sd, .own (.l F), .d (.list (left.map intN)), .d (.int sg), .un] = .ok (true, [.d yd, .d sd, .own (.l F), .d (.list (left.map intN)), .d (.int sg), .un]) := by
        generalize left.map intN = R at he ⊢
        simp! only [he, Bool.not_false]
      rw [m_if, ht, bI_t]
      exact h3
    rw [m_fgtE, tl_frz, hb, fgE_nx]
    simp only [fgts_c, fgts_n, m_fgt1, List.getElem?_cons_succ, List.getElem?_cons_zero, fg_d, List.set_cons_succ, List.set_cons_zero]
    rfl
theorem tl_start {S : Da} {k : Int} {R : List Da} (hlen : lenD [yd] = some (.d (.int k))) (hrg : lstRgD (.int 0) (.int k) = some (.own (.l R))) :
    (vPar [2, 3] (vPc ((vList (vr []))) ((vPc ((vListRg ((vCall lenD ((vCons (vVar 0) (vr []))))))) (vr []))))) [.d yd, .d S, .un, .un, .un, .un] = .ok (.nx, [.d yd, .d S, .own (.l []), .own (.l R), .un, .un]) := by
  have l0 : ([] : List Da).length ≤ 16777216 := Nat.zero_le _
  have hlc : (vCall lenD (vCons (vVar 0) (vr []))) [.d yd, .d S, .un, .un, .un, .un] = .ok (.d (.int k), [.d yd, .d S, .un, .un, .un, .un]) := by simp! only [hlen]
  have hl2 : (vListRg (vCall lenD (vCons (vVar 0) (vr [])))) [.d yd, .d S, .un, .un, .un, .un] = .ok (.own (.l R), [.d yd, .d S, .un, .un, .un, .un]) := by
    rw [m_listRg, hlc, bnd_ok, m_vb, rd_d, bnd_ok, hrg, m_opt]
  generalize vListRg (vCall lenD (vCons (vVar 0) (vr []))) = lf at hl2 ⊢
  simp! only [hl2, l0]
theorem tl_end {S : Da} {b : Bool} {F L : List Da} : (vFrz [2, 3] (vRet ((vTuple ((vCons (vVar 2) ((vCons (vVar 3) (vr []))))))))) [.d yd, .d S, .own (.l F), lfS b L, .un, .un] = .ok (.rt (.d (.tuple [.list F, .list L])), [.d yd, .d S, .d (.list F), .d (.list L), .un, .un]) := by
  have l2 : ([.list F, .list L] : List Da).length ≤ 16777216 := by show 2 ≤ _; decide
  unfold lfS
  cases b
  · simp! only [l2, if_false, Bool.false_eq_true]
  · simp! only [l2, if_true]
theorem rest_nil {row : List Int} : ∀ ss : List Int, restG row ss [] = []
  | [] => rfl
  | _ :: _ => if_pos rfl
theorem rest_cons {row : List Int} {sg : Int} {ss : List Int} {left : List Nat} : restG row (sg :: ss) left = if left = [] then [] else restG row ss (outN left (takeO row sg left)) := rfl
theorem tal_ok {signs : List Int} {n : Nat} (hs : ∀ s ∈ signs, s = 1 ∨ s = -1) (hix : ∀ w, w < n → ixD yd (intN w) = some (.d (.int (rN row w)))) (hn : n < 64) (hlen : lenD [yd] = some (.d (.int (n : Int)))) (hsl : signs.length ≤ 10000) :
    F_takes_and_left [.d yd, .d (tupI signs)] = .ok (.d (.tuple [.list (takD (fillG row signs (List.range n))), .list ((restG row signs (List.range n)).map intN)]), [.d yd, .d (tupI signs)]) := by
  have hrg := lstRg_nat (n := n) (by omega)
  have loop : ∃ b, takes_and_left_s2 [.d yd, .d (tupI signs), .own (.l []), .own (.l ((List.range n).map intN)), .un, .un] = .ok (.nx, [.d yd, .d (tupI signs), .own (.l (takD (fillG row signs (List.range n)))), lfS b ((restG row signs (List.range n)).map intN), .un, .un]) := by
    unfold takes_and_left_s2
    obtain ⟨s', h1, ss, left, F, b, e1, rfl, e2, e3, _⟩ := for_inv (L := []) (gt := vSetD 4) (g := (vFgtE [4] (vFrz [3] takes_and_left_s1))) (xs := signs.map PyData.int) (fi := (vItSeq (vVar 1)))
      (s := [.d yd, .d (tupI signs), .own (.l []), .own (.l ((List.range n).map intN)), .un, .un]) (s1 := [.d yd, .d (tupI signs), .own (.l []), .own (.l ((List.range n).map intN)), .un, .un])
      (fun xs s => ∃ (ss : List Int) (left : List Nat) (F : List Da) (b : Bool), xs = ss.map PyData.int ∧ s = [.d yd, .d (tupI signs), .own (.l F), lfS b (left.map intN), .un, .un] ∧ F ++ takD (fillG row ss left) = takD (fillG row signs (List.range n)) ∧ restG row ss left = restG row signs (List.range n) ∧ (∀ s ∈ ss, s = 1 ∨ s = -1) ∧ left.Nodup ∧ (∀ w ∈ left, w < n) ∧ left.length ≤ n ∧ F.length + ss.length ≤ 10000)
      (fun x xs s hR => by
        obtain ⟨ss, left, F, b, e1, rfl, e2, e3, hs2, hnd, h3, h4, h5⟩ := hR
        cases ss with
        | nil => cases e1
        | cons sg ss =>
          rw [List.map_cons] at e1
          obtain ⟨rfl, rfl⟩ := List.cons.inj e1
          rw [List.length_cons] at h5
          obtain ⟨b', left', F', h6, h7⟩ := tl_turn (yd := yd) (sd := tupI signs) (sg := sg) (F := F) (b := b) (left := left) (hs2 sg List.mem_cons_self) (fun w hw => hix w (h3 w hw)) hnd (by omega) (fun w hw => by have := h3 w hw; omega) (by omega)
          have hset : vSetD 4 (PyData.int sg) [.d yd, .d (tupI signs), .own (.l F), lfS b (left.map intN), .un, .un] = .ok ((), [.d yd, .d (tupI signs), .own (.l F), lfS b (left.map intN), .d (.int sg), .un]) := by
            generalize lfS b (left.map intN) = sv
            simp! only []
          refine ⟨[.d yd, .d (tupI signs), .own (.l F), lfS b (left.map intN), .d (.int sg), .un], .nx, _, hset, h6, .inl rfl, ss, left', F', b', rfl, rfl, ?_⟩
          have hs3 : ∀ s ∈ ss, s = 1 ∨ s = -1 := fun s hs => hs2 s (List.mem_cons_of_mem _ hs)
          rw [fill_cons] at e2
          rw [rest_cons] at e3
          by_cases hne : left = []
          · rw [if_pos hne] at h7 e2 e3
            obtain ⟨rfl, rfl⟩ := h7
            rw [fill_nil]
            have e4 : restG row ss [] = [] := rest_nil ss
            exact ⟨e2, by rw [e4, ← e3], hs3, List.nodup_nil, fun w hw => by (cases hw), Nat.zero_le _, by omega⟩
          · rw [if_neg hne] at h7 e2 e3
            obtain ⟨rfl, rfl⟩ := h7
            refine ⟨?_, e3, hs3, out_nodup hnd, fun w hw => h3 w (mem_out.mp hw).1, Nat.le_trans (List.length_filter_le _ _) h4, by rw [List.length_append]; show F.length + 1 + _ ≤ _; omega⟩
            rw [← e2, List.append_assoc]; rfl)
      (by unfold tupI; simp! only []) ⟨signs, List.range n, [], false, rfl, rfl, rfl, rfl, hs, List.nodup_range, fun w hw => List.mem_range.mp hw, by rw [List.length_range]; exact Nat.le_refl _, by simpa using hsl⟩
    have : ss = [] := List.map_eq_nil_iff.mp e1.symm
    subst this
    have e2 : F ++ [] = _ := e2
    have e3 : left = _ := e3
    rw [List.append_nil] at e2
    rw [unl_n, e2, e3] at h1
    exact ⟨_, h1⟩
  obtain ⟨b, loop⟩ := loop
  refine run_d (st := [.d yd, .d (tupI signs), .un, .un, .un, .un]) (s := [.d yd, .d (tupI signs), .d (.list (takD (fillG row signs (List.range n)))), .d (.list ((restG row signs (List.range n)).map intN)), .un, .un]) ?_
  unfold g_takes_and_left
  refine seq_then (tl_start hlen hrg) (seq_then loop ?_)
  exact tl_end
theorem fill_run {y s F L : Da} {L' : List Da} (h : ∀ st, callF F_takes_and_left [.d y, .d s] st = .ok (.d (.tuple [.list L', L]), st)) : F_filling [.d y, .d s] = .ok (.d (.tuple L'), [.d y, .d s]) := by
  refine run_d (st := [.d y, .d s]) (s := [.d y, .d s]) ?_
  unfold g_filling
  have e : atI [.list L', L] 0 = some (.list L') := rfl
  generalize F_takes_and_left = m at h ⊢
  simp! only [m_callF, h, e]
theorem pfill_ok {signs : List Int} {n : Nat} (hs : ∀ s ∈ signs, s = 1 ∨ s = -1) (hix : ∀ w, w < n → ixD yd (intN w) = some (.d (.int (rN row w)))) (hn : n < 64) (hlen : lenD [yd] = some (.d (.int (n : Int)))) (hsl : signs.length ≤ 10000) :
    F_filling [.d yd, .d (tupI signs)] = .ok (.d (.tuple (takD (fillG row signs (List.range n)))), [.d yd, .d (tupI signs)]) := fill_run (F := .none) (L := .list ((restG row signs (List.range n)).map intN)) fun st => callF_2 (tal_ok hs hix hn hlen hsl) dl
/-- so many codes as wagons leave none -/
theorem rest_few {row : List Int} : ∀ {ss : List Int} {left : List Nat}, left.Nodup → left.length ≤ ss.length → restG row ss left = []
  | [], left, _, h => by
    show left = []
    exact List.eq_nil_of_length_eq_zero (Nat.le_zero.mp h)
  | sg :: ss, left, hnd, h => by
    unfold restG
    by_cases hl : left = []
    · rw [if_pos hl]
    · rw [if_neg hl]
      refine rest_few (out_nodup hnd) ?_
      have O := takeG_ok (row := row) (sg := sg) hnd
      have hne := O.ne (.inr hl)
      obtain ⟨w, hw⟩ := List.exists_mem_of_ne_nil _ hne
      have hw1 : w ∈ takeO row sg left := (ordG_perm _ _).mem_iff.mpr hw
      have hw2 : w ∈ left := (O.sub w hw).resolve_left fun z => (by cases z)
      have : (outN left (takeO row sg left)).length < left.length := by
        apply Classical.byContradiction
        intro z
        have := filter_all z w hw2
        simp at this
        exact this hw1
      rw [List.length_cons] at h
      omega
end
end LB
set_option Elab.async false
set_option linter.all false
set_option maxRecDepth 100000
set_option maxHeartbeats 0
/-! are_integers of anything; numbers with their places -/
namespace LB
open PySem PySem.Spec PyProof.Rows L2 VL
def enI : Nat → List Int → List (Nat × Int)
  | _, [] => []
  | t, e :: l => (t, e) :: enI (t + 1) l
def eiD (x : Nat × Int) : Da := .tuple [intN x.1, .int x.2]
theorem tup_len {ns : List Int} : lenD [tupI ns] = some (.d (.int (ns.length : Int))) := by unfold tupI; rw [len_t, List.length_map]
/-- which are out of bounds -/
def badP (p : Int → Bool) (ns : List Int) : List Nat := ((enI 0 ns).filter fun z => !p z.2).map (·.1)
theorem nodes_intE : ∀ c : List Int, nodesL (c.map PyData.int) = c.length
  | [] => rfl
  | x :: c => by simp only [List.map_cons, nodesL, nodesD, nodes_intE c, List.length_cons]; omega
theorem nodes_tupI (c : List Int) : nodesD (tupI c) = 1 + c.length := by unfold tupI; simp only [nodesD, nodes_intE]
theorem good_tupI (c : List Int) : GoodD (tupI c) := ⟨64, shF_tupI 63 c⟩
end LB
set_option Elab.async false
set_option linter.all false
set_option maxRecDepth 100000
set_option maxHeartbeats 0
namespace Yk49
open PySem PySem.Spec PyProof.Rows L2 LamX NdefX He VL LB
def top (i : Nat) : Stmt := PySem.Challenge.pw_yardpasses_k49_cuts_of_rows.main.body.getD i (.Pass ⟨0, 0, 0, 0⟩)
structure Zs (mg : Str → Option Value) : Prop where
  z_abs : mg "abs" = none
  z_bool : mg "bool" = none
  z_int : mg "int" = none
  z_isinstance : mg "isinstance" = none
  z_len : mg "len" = none
  z_list : mg "list" = none
  z_max : mg "max" = none
  z_min : mg "min" = none
  z_range : mg "range" = none
  z_sorted : mg "sorted" = none
  z_str : mg "str" = none
  z_sum : mg "sum" = none
  z_tuple : mg "tuple" = none
  z_zip : mg "zip" = none
abbrev s__law_alike : Stmt := top 18
theorem sc__law_alike : FnScope ["found", "due", "pairs", "at", "one", "other"] ["found", "due"] (defScope s__law_alike) := ⟨rfl, rfl, rfl, by decide +kernel, rfl, by decide +kernel, by decide +kernel⟩
abbrev s__law_bag : Stmt := top 16
theorem sc__law_bag : FnScope ["script", "cell"] ["script"] (defScope s__law_bag) := ⟨rfl, rfl, rfl, by decide +kernel, rfl, by decide +kernel, by decide +kernel⟩
abbrev s__law_one_take : Stmt := top 19
theorem sc__law_one_take : FnScope ["row", "left", "sign", "taken", "rest", "turn", "here", "some", "wagon", "one"] ["row", "left", "sign"] (defScope s__law_one_take) := ⟨rfl, rfl, rfl, by decide +kernel, rfl, by decide +kernel, by decide +kernel⟩
abbrev s__law_filling : Stmt := top 20
theorem sc__law_filling : FnScope ["row", "signs", "left", "found", "sign", "wagon"] ["row", "signs"] (defScope s__law_filling) := ⟨rfl, rfl, rfl, by decide +kernel, rfl, by decide +kernel, by decide +kernel⟩
abbrev s__law_needed : Stmt := top 21
theorem sc__law_needed : FnScope ["row", "signs", "found", "take"] ["row", "signs"] (defScope s__law_needed) := ⟨rfl, rfl, rfl, by decide +kernel, rfl, by decide +kernel, by decide +kernel⟩
abbrev s__law_runs : Stmt := top 23
theorem sc__law_runs : FnScope ["row"] ["row"] (defScope s__law_runs) := ⟨rfl, rfl, rfl, by decide +kernel, rfl, by decide +kernel, by decide +kernel⟩
abbrev s__law_fewest : Stmt := top 26
theorem sc__law_fewest : FnScope ["row", "codes", "found", "end", "first"] ["row", "codes"] (defScope s__law_fewest) := ⟨rfl, rfl, rfl, by decide +kernel, rfl, by decide +kernel, by decide +kernel⟩
abbrev s_one_take : Stmt := top 5
theorem sc_one_take : FnScope ["row", "left", "sign", "found", "edge", "its", "some", "good", "wagon"] ["row", "left", "sign"] (defScope s_one_take) := ⟨rfl, rfl, rfl, by decide +kernel, rfl, by decide +kernel, by decide +kernel⟩
abbrev s_takes_and_left : Stmt := top 6
theorem sc_takes_and_left : FnScope ["row", "signs", "found", "left", "sign", "wagon"] ["row", "signs"] (defScope s_takes_and_left) := ⟨rfl, rfl, rfl, by decide +kernel, rfl, by decide +kernel, by decide +kernel⟩
abbrev s_filling : Stmt := top 7
theorem sc_filling : FnScope ["row", "signs"] ["row", "signs"] (defScope s_filling) := ⟨rfl, rfl, rfl, by decide +kernel, rfl, by decide +kernel, by decide +kernel⟩
abbrev s_runs_needed : Stmt := top 9
theorem sc_runs_needed : FnScope ["row"] ["row"] (defScope s_runs_needed) := ⟨rfl, rfl, rfl, by decide +kernel, rfl, by decide +kernel, by decide +kernel⟩
abbrev s_best_cut : Stmt := top 11
theorem sc_best_cut : FnScope ["row", "place"] ["row"] (defScope s_best_cut) := ⟨rfl, rfl, rfl, by decide +kernel, rfl, by decide +kernel, by decide +kernel⟩
abbrev s__law_heard : Stmt := top 24
theorem sc__law_heard : FnScope ["row"] ["row"] (defScope s__law_heard) := ⟨rfl, rfl, rfl, by decide +kernel, rfl, by decide +kernel, by decide +kernel⟩
abbrev s__law_places : Stmt := top 25
theorem sc__law_places : FnScope ["row", "codes", "found", "first", "end"] ["row", "codes"] (defScope s__law_places) := ⟨rfl, rfl, rfl, by decide +kernel, rfl, by decide +kernel, by decide +kernel⟩
abbrev s__law_take : Stmt := top 17
theorem sc__law_take : FnScope ["bag", "many", "cell", "stirred", "value", "begin", "second"] ["bag", "many"] (defScope s__law_take) := ⟨rfl, rfl, rfl, by decide +kernel, rfl, by decide +kernel, by decide +kernel⟩
abbrev s__law_row : Stmt := top 22
theorem sc__law_row : FnScope ["bag", "most", "classes", "wagon"] ["bag", "most", "classes"] (defScope s__law_row) := ⟨rfl, rfl, rfl, by decide +kernel, rfl, by decide +kernel, by decide +kernel⟩
abbrev s_longest_part : Stmt := top 12
theorem sc_longest_part : FnScope ["row", "first", "codes", "last"] ["row", "first", "codes"] (defScope s_longest_part) := ⟨rfl, rfl, rfl, by decide +kernel, rfl, by decide +kernel, by decide +kernel⟩
abbrev s_cut_places : Stmt := top 13
theorem sc_cut_places : FnScope ["row", "codes", "found", "last"] ["row", "codes"] (defScope s_cut_places) := ⟨rfl, rfl, rfl, by decide +kernel, rfl, by decide +kernel, by decide +kernel⟩
abbrev s_cuts_needed : Stmt := top 14
theorem sc_cuts_needed : FnScope ["row", "codes"] ["row", "codes"] (defScope s_cuts_needed) := ⟨rfl, rfl, rfl, by decide +kernel, rfl, by decide +kernel, by decide +kernel⟩
abbrev s_law : Stmt := top 27
theorem sc_law : FnScope ["script", "bag", "turn", "row", "marks", "codes", "places", "place"] ["script"] (defScope s_law) := ⟨rfl, rfl, rfl, by decide +kernel, rfl, by decide +kernel, by decide +kernel⟩
def g__law_runs : VM Ctl :=
  (vRet ((vCallF F__law_needed ((vCons (vVar 0) ((vCons ((vBin mulE ((vTuple ((vCons (vC (.int 1)) (vr []))))) ((vCall lenD ((vCons (vVar 0) (vr []))))))) (vr []))))))))
def F__law_runs : FM := runF 1 g__law_runs
def law_fewest_s1 : VM Ctl :=
  (vFor (vItRng ((vCons (vC (.int 1)) ((vCons ((vBin addD ((vCall lenD ((vCons (vVar 0) (vr []))))) (vC (.int 1)))) (vr [])))))) (vSetD 3) (vFgtE [3] (vFrz [3] (vDrop ((vMut appendD (vVar 2) ((vCons ((vCall minD ((vCons ((vLcF [4] (vItRng ((vCons (vVar 3) (vr [])))) (vSetD 4) (vBool (vBin leD ((vCallF F__law_runs ((vCons ((vSl (vVar 0) (vPart (some (vVar 4))) (vPart (some (vVar 3))))) (vr []))))) (vVar 1))) ((vBin addD ((vBin ixD (vVar 2) (vVar 4))) (vC (.int 1)))))) (vr []))))) (vr [])))))))))
def g__law_fewest : VM Ctl :=
  (vSeq (vAsg ((vList ((vCons (vC (.int 0)) (vr []))))) (vSet 2))
      (vSeq law_fewest_s1
      (vRet ((vBin subD ((vBin ixD (vVar 2) ((vUn negD (vC (.int 1)))))) (vC (.int 1)))))))
def F__law_fewest : FM := runF 5 g__law_fewest
def best_cut_s1 : VM Ctl :=
  (vIf ((vBool (vBin ltD ((vCall lenD ((vCons (vVar 0) (vr []))))) (vC (.int 2))))) (vRaise "Nothing" [] (vr [])) vNx)
def g_best_cut : VM Ctl :=
  (vSeq best_cut_s1
      (vRet ((vCall minE ((vCons ((vLcF [1] (vItRng ((vCons (vC (.int 1)) ((vCons ((vCall lenD ((vCons (vVar 0) (vr []))))) (vr [])))))) (vSetD 1) (vr true) ((vTuple ((vCons ((vBin addD ((vCallF F_runs_needed ((vCons ((vSl (vVar 0) (vPart none) (vPart (some (vVar 1))))) (vr []))))) ((vCallF F_runs_needed ((vCons ((vSl (vVar 0) (vPart (some (vVar 1))) (vPart none))) (vr []))))))) ((vCons (vVar 1) (vr []))))))))) (vr [])))))))
def F_best_cut : FM := runF 2 g_best_cut
def g__law_heard : VM Ctl :=
  (vTryR [("Nothing", "nothing", [])] (vRet ((vTuple ((vCons (vC (.str "told")) ((vCons ((vCallF F_best_cut ((vCons (vVar 0) (vr []))))) (vr [])))))))))
def F__law_heard : FM := runF 1 g__law_heard
def law_places_s1 : VM Ctl :=
  (vIf ((vBool (vBin gtD ((vCallF F__law_runs ((vCons ((vSl (vVar 0) (vPart (some (vVar 3))) (vPart (some (vVar 4))))) (vr []))))) (vVar 1)))) (vSeq (vFrz [4] (vDrop ((vMut appendD (vVar 2) ((vCons ((vBin subD (vVar 4) (vC (.int 1)))) (vr [])))))))
      (vFrz [4] (vAsg ((vBin subD (vVar 4) (vC (.int 1)))) (vSet 3)))) vNx)
def law_places_s2 : VM Ctl :=
  (vFor (vItRng ((vCons (vC (.int 1)) ((vCons ((vBin addD ((vCall lenD ((vCons (vVar 0) (vr []))))) (vC (.int 1)))) (vr [])))))) (vSetD 4) (vFgtE [4] (vFrz [3, 4] law_places_s1)))
def g__law_places : VM Ctl :=
  (vSeq (vPar [2, 3] (vPc ((vList (vr []))) ((vPc (vC (.int 0)) (vr [])))))
      (vSeq law_places_s2
      (vRet ((vCall tupleD ((vCons (vVar 2) (vr []))))))))
def F__law_places : FM := runF 5 g__law_places
def longest_part_s1 : VM Ctl :=
  (vWhile ((vAnd ((vBool (vBin ltD (vVar 3) ((vCall lenD ((vCons (vVar 0) (vr [])))))))) ((vBool (vBin leD ((vCallF F_runs_needed ((vCons ((vSl (vVar 0) (vPart (some (vVar 1))) (vPart (some ((vBin addD (vVar 3) (vC (.int 1)))))))) (vr []))))) (vVar 2)))))) (vAug 3 iaddD (vC (.int 1))))
def g_longest_part : VM Ctl :=
  (vSeq (vAsg ((vBin addD (vVar 1) (vC (.int 1)))) (vSet 3))
      (vSeq (vFrz [3] longest_part_s1)
      (vFrz [3] (vRet (vVar 3)))))
def F_longest_part : FM := runF 4 g_longest_part
def cut_places_s1 : VM Ctl :=
  (vWhile ((vBool (vBin ltD (vVar 3) ((vCall lenD ((vCons (vVar 0) (vr [])))))))) (vSeq (vFrz [3] (vDrop ((vMut appendD (vVar 2) ((vCons (vVar 3) (vr [])))))))
      (vFrz [3] (vAsg ((vCallF F_longest_part ((vCons (vVar 0) ((vCons (vVar 3) ((vCons (vVar 1) (vr []))))))))) (vSet 3)))))
def g_cut_places : VM Ctl :=
  (vSeq (vPar [2, 3] (vPc ((vList (vr []))) ((vPc ((vCallF F_longest_part ((vCons (vVar 0) ((vCons (vC (.int 0)) ((vCons (vVar 1) (vr []))))))))) (vr [])))))
      (vSeq (vFrz [3] cut_places_s1)
      (vRet ((vCall tupleD ((vCons (vVar 2) (vr []))))))))
def F_cut_places : FM := runF 4 g_cut_places
def g_cuts_needed : VM Ctl :=
  (vRet ((vCall lenD ((vCons ((vCallF F_cut_places ((vCons (vVar 0) ((vCons (vVar 1) (vr []))))))) (vr []))))))
def F_cuts_needed : FM := runF 2 g_cuts_needed
def r1 : VM Ctl :=
  (vRet (vC (.bool true)))
def law_s1 : VM Ctl :=
  (vIf ((vOr ((vNot ((vTru ((vCallF F__law_alike ((vCons ((vList ((vCons ((vCallF F_cut_places ((vCons (vVar 3) ((vCons (vVar 5) (vr []))))))) ((vCons ((vCallF F_cuts_needed ((vCons (vVar 3) ((vCons (vVar 5) (vr []))))))) (vr []))))))) ((vCons ((vList ((vCons (vVar 6) ((vCons ((vCallF F__law_fewest ((vCons (vVar 3) ((vCons (vVar 5) (vr []))))))) (vr []))))))) (vr []))))))))))) ((vBool (vBin neF ((vCall lenD ((vCons (vVar 6) (vr []))))) ((vCallF F__law_fewest ((vCons (vVar 3) ((vCons (vVar 5) (vr [])))))))))))) (vRet (vC (.bool false))) vNx)
def r2 : VM Ctl :=
  (vFrz [3, 5, 6] law_s1)
def r3 : VM Ctl :=
  (vFgtE [5, 6] (vSeq (vFrz [3, 5] (vAsg ((vCallF F__law_places ((vCons (vVar 3) ((vCons (vVar 5) (vr []))))))) (vSet 6)))
      r2))
def law_s2 : VM Ctl :=
  (vFor (vItSeq ((vList ((vCons (vC (.int 1)) ((vCons (vC (.int 2)) ((vCons ((vBin addD (vC (.int 1)) ((vCallF F__law_take ((vCons (vVar 1) ((vCons (vC (.int 5)) (vr []))))))))) (vr [])))))))))) (vSetD 5) r3)
def r4 : VM Ctl :=
  law_s2
def law_s3 : VM Ctl :=
  (vIf ((vNot ((vTru ((vCallF F__law_alike ((vCons ((vCallF F__law_heard ((vCons (vVar 3) (vr []))))) ((vCons ((vIte ((vBool (vBin neF (vVar 4) ((vList (vr [])))))) ((vTuple ((vCons (vC (.str "told")) ((vCons ((vCall minE ((vCons (vVar 4) (vr []))))) (vr []))))))) ((vTuple ((vCons (vC (.str "nothing")) (vr []))))))) (vr []))))))))))) (vRet (vC (.bool false))) vNx)
def r5 : VM Ctl :=
  (vSeq (vFrz [3, 4] law_s3)
      r4)
def r6 : VM Ctl :=
  (vSeq (vFrz [3] (vAsg (vLcF [7] (vItRng ((vCons (vC (.int 1)) ((vCons ((vCall lenD ((vCons (vVar 3) (vr []))))) (vr [])))))) (vSetD 7) (vr true) ((vTuple ((vCons ((vBin addD ((vCallF F__law_runs ((vCons ((vSl (vVar 3) (vPart none) (vPart (some (vVar 7))))) (vr []))))) ((vCallF F__law_runs ((vCons ((vSl (vVar 3) (vPart (some (vVar 7))) (vPart none))) (vr []))))))) ((vCons (vVar 7) (vr [])))))))) (vSet 4)))
      r5)
def r7 : VM Ctl :=
  (vFgtE [2, 3, 4, 5, 6] (vSeq (vAsg ((vCallF F__law_row ((vCons (vVar 1) ((vCons (vC (.int 8)) ((vCons (vC (.int 6)) (vr []))))))))) (vSet 3))
      r6))
def law_s4 : VM Ctl :=
  (vFor (vItRng ((vCons (vC (.int 6)) (vr [])))) (vSetD 2) r7)
def r8 : VM Ctl :=
  (vSeq law_s4
      r1)
def g_law : VM Ctl :=
  (vSeq (vAsg ((vCallF F__law_bag ((vCons (vVar 0) (vr []))))) (vSet 1))
      r8)
def F_law : FM := runF 8 g_law
section
variable {P : Program} {w : World} {K : PySem.W.Frag} {mg : Str → Option Value} {base : Heap} {Tb : List (Addr × Str)}
theorem ok__law_alike (Z : Zs mg) {f__law_alike : Addr} {fd__law_alike : FuncData} (x__law_alike : Fx K mg "_law_alike" s__law_alike ["found", "due"] f__law_alike fd__law_alike) : FnOk P w K mg base (L2.CX P w) 1 f__law_alike fd__law_alike ["found", "due"] (spV Tb K mg 2 F__law_alike) := by
  exact fn_v (N := ["found", "due", "pairs", "at", "one", "other"]) (ps := ["found", "due"]) (k := 0) (g := g__law_alike) x__law_alike.F sc__law_alike fun cdv A outer s H E c =>
    (vs_cons (vs_par2 c.calm c.nd (i := 2) (j := 3) rfl rfl (by decide) rfl rfl (vp_cons (ve_lst (va_cons (ve_tup (va_cons (vv 0) (va_cons (vv 1) va_nil))) va_nil)) (vp_cons ve_int vp_nil)) (by with_unfolding_all rfl))
      (vs_cons (vs_frz [3] (vs_while (vt_cmp (o_lt c.hu0) (vv 3) (ve_callB c_len Z.z_len (va_cons (vv 2) va_nil))) (vs_cons (vs_frz [3] (vs_asgD (ix := [4, 5]) (ve_ix (vv 2) (vv 3)) (vgd_tup c.calm (vgds_cons (vgd_name (i := 4) c.nd rfl (by first | exact .inl rfl | exact .inr rfl)) (vgds_cons (vgd_name (i := 5) c.nd rfl (by first | exact .inl rfl | exact .inr rfl)) vgds_nil)))))
      (vs_cons (vs_aug c.nd (i := 3) rfl (by first | exact .inl rfl | exact .inr rfl) ve_int i_add)
      (vs_cons (vs_frz [4, 5] (vs_if (vt_w (vw_or (vt_cmp (o_neF c.hu) (ve_isi1 (k := .bool) (vv 4) Z.z_isinstance Z.z_bool) (ve_isi1 (k := .bool) (vv 5) Z.z_isinstance Z.z_bool)) (vw_or1 (vt_cmp (o_neF c.hu) (ve_isi1 (k := .str) (vv 4) Z.z_isinstance Z.z_str) (ve_isi1 (k := .str) (vv 5) Z.z_isinstance Z.z_str))))) (vs_one (vs_ret ve_bl)) vs_nil))
      (vs_cons (vs_frz [4, 5] (vs_if (vt_cmp (o_neF c.hu) (ve_isiT (vv 4) Z.z_isinstance (.cons (k := .tuple) Z.z_tuple (by rfl) (by decide +kernel) (by decide) (by decide) (by rfl) (.cons (k := .list) Z.z_list (by rfl) (by decide +kernel) (by decide) (by decide) (by rfl) .nil))) (ve_isiT (vv 5) Z.z_isinstance (.cons (k := .tuple) Z.z_tuple (by rfl) (by decide +kernel) (by decide) (by decide) (by rfl) (.cons (k := .list) Z.z_list (by rfl) (by decide +kernel) (by decide) (by decide) (by rfl) .nil)))) (vs_one (vs_ret ve_bl)) vs_nil))
      (vs_one (vs_frz [4] (vs_if (vt_tru (ve_isiT (vv 4) Z.z_isinstance (.cons (k := .tuple) Z.z_tuple (by rfl) (by decide +kernel) (by decide) (by decide) (by rfl) (.cons (k := .list) Z.z_list (by rfl) (by decide +kernel) (by decide) (by decide) (by rfl) .nil)))) (vs_cons (vs_frz [4, 5] (vs_if (vt_w (vw_or (vt_cmp (o_neF c.hu) (ve_isi1 (k := .tuple) (vv 4) Z.z_isinstance Z.z_tuple) (ve_isi1 (k := .tuple) (vv 5) Z.z_isinstance Z.z_tuple)) (vw_or1 (vt_cmp (o_neF c.hu) (ve_callB c_len Z.z_len (va_cons (vv 4) va_nil)) (ve_callB c_len Z.z_len (va_cons (vv 5) va_nil)))))) (vs_one (vs_ret ve_bl)) vs_nil))
      (vs_one (vs_frz [4, 5] (vs_expr (ve_mutB PySem.F.plainAttrs_list PySem.F.slot_list_extend PySem.F.type_list_extend m_extend (vv 2) (va_cons (ve_listZip c Z.z_zip Z.z_list (va_cons (vv 4) (va_cons (vv 5) va_nil))) va_nil)))))) (vs_one (vs_frz [4, 5] (vs_if (vt_cmp (o_neF c.hu) (vv 4) (vv 5)) (vs_one (vs_ret ve_bl)) vs_nil)))))))))) (passes_of rfl)))
      (vs_one (vs_ret ve_bl))))
theorem ok__law_bag (Z : Zs mg) {f__law_bag : Addr} {fd__law_bag : FuncData} (x__law_bag : Fx K mg "_law_bag" s__law_bag ["script"] f__law_bag fd__law_bag) : FnOk P w K mg base (L2.CX P w) 1 f__law_bag fd__law_bag ["script"] (spV Tb K mg 1 F__law_bag) := by
  exact fn_v (N := ["script", "cell"]) (ps := ["script"]) (k := 0) (g := g__law_bag) x__law_bag.F sc__law_bag fun cdv A outer s H E c =>
    (vs_one (vs_ret (ve_lst (va_cons ve_int (va_cons ve_int (va_cons ve_int (va_cons (ve_lcF (ve_lc c (vi_seq (ve_slice (vv 0) vo_none (vo_some ve_int))) (blkOk_by (own := [("cell", 1)]) (by kernel_rfl)) (fun _ _ _ _ _ => (vgd_name (i := 1) c.nd rfl (by first | exact .inl rfl | exact .inr rfl))) (fun _ _ _ _ _ c => vts_nil) (fun _ _ _ _ _ c => (ve_callB c_abs Z.z_abs (va_cons (vv 1) va_nil))))) va_nil)))))))
theorem ok__law_one_take (Z : Zs mg) {f__law_one_take : Addr} {fd__law_one_take : FuncData} (x__law_one_take : Fx K mg "_law_one_take" s__law_one_take ["row", "left", "sign"] f__law_one_take fd__law_one_take) : FnOk P w K mg base (L2.CX P w) 1 f__law_one_take fd__law_one_take ["row", "left", "sign"] (spV Tb K mg 3 F__law_one_take) := by
  exact fn_v (N := ["row", "left", "sign", "taken", "rest", "turn", "here", "some", "wagon", "one"]) (ps := ["row", "left", "sign"]) (k := 0) (g := g__law_one_take) x__law_one_take.F sc__law_one_take fun cdv A outer s H E c =>
    (vs_cons (vs_parT c.calm (is := [3, 4]) (gn_cons (i := 3) c.nd rfl (by first | exact .inl rfl | exact .inr rfl) (gn_cons (i := 4) c.nd rfl (by first | exact .inl rfl | exact .inr rfl) gn_nil)) (vp_cons (ve_lst va_nil) (vp_cons (ve_callT c_list Z.z_list (va_cons (vv 1) va_nil)) vp_nil)))
      (vs_cons (vs_for c.calm (ix := [5]) (vi_range1 Z.z_range (va_cons (ve_callB c_len Z.z_len (va_cons (vv 1) va_nil)) va_nil) (hl := (vcons_len vnil_len))) (vgd_name (i := 5) c.nd rfl (by first | exact .inl rfl | exact .inr rfl)) (vs_fgtE [5, 6, 7] (vs_cons (vs_frz [4] (vs_set c.nd (i := 6) rfl (by first | exact .inl rfl | exact .inr rfl) (ve_ite (vt_cmp (o_neF c.hu) (vv 4) (ve_lst va_nil)) (ve_lcF (ve_lc c (vi_seq (vv 4)) (blkOk_by (own := [("wagon", 8)]) (by kernel_rfl)) (fun _ _ _ _ _ => (vgd_name (i := 8) c.nd rfl (by first | exact .inl rfl | exact .inr rfl))) (fun _ _ _ _ _ c => (vts_one (vt_cmp (o_eqF c.hu) (ve_ix (vv 0) (vv 8)) (ve_callB (c_min c.calm) Z.z_min (va_cons (ve_lcF (ve_lc c (vi_seq (vv 4)) (blkOk_by (own := [("one", 9)]) (by kernel_rfl)) (fun _ _ _ _ _ => (vgd_name (i := 9) c.nd rfl (by first | exact .inl rfl | exact .inr rfl))) (fun _ _ _ _ _ c => vts_nil) (fun _ _ _ _ _ c => (ve_ix (vv 0) (vv 9))))) va_nil))))) (fun _ _ _ _ _ c => (vv 8)))) (ve_lst va_nil))))
      (vs_cons (vs_frz [6] (vs_setM c.nd (i := 7) rfl (by first | exact .inl rfl | exact .inr rfl) (vv 6)))
      (vs_cons (vs_frz [3] (vs_if (vt_cmp (o_neF c.hu) (vv 3) (ve_lst va_nil)) (vs_one (vs_frz [3, 6] (vs_set c.nd (i := 7) rfl (by first | exact .inl rfl | exact .inr rfl) (ve_lcF (ve_lc c (vi_seq (vv 6)) (blkOk_by (own := [("wagon", 8)]) (by kernel_rfl)) (fun _ _ _ _ _ => (vgd_name (i := 8) c.nd rfl (by first | exact .inl rfl | exact .inr rfl))) (fun _ _ _ _ _ c => (vts_one (vt_ite (vt_cmp (o_eqF c.hu) (vv 2) ve_int) (vt_cmp o_gt (vv 8) (ve_callB (c_max c.calm) Z.z_max (va_cons (vv 3) va_nil))) (vt_cmp (o_lt c.hu0) (vv 8) (ve_callB (c_min c.calm) Z.z_min (va_cons (vv 3) va_nil)))))) (fun _ _ _ _ _ c => (vv 8))))))) vs_nil))
      (vs_cons (vs_frz [3, 7] (vs_set c.nd (i := 3) rfl (by first | exact .inl rfl | exact .inr rfl) (ve_bin o_add (vv 3) (vv 7))))
      (vs_cons (vs_frz [4, 7] (vs_set c.nd (i := 4) rfl (by first | exact .inl rfl | exact .inr rfl) (ve_lcF (ve_lc c (vi_seq (vv 4)) (blkOk_by (own := [("wagon", 8)]) (by kernel_rfl)) (fun _ _ _ _ _ => (vgd_name (i := 8) c.nd rfl (by first | exact .inl rfl | exact .inr rfl))) (fun _ _ _ _ _ c => (vts_one (vt_cmp (o_notinF c) (vv 8) (vv 7)))) (fun _ _ _ _ _ c => (vv 8))))))
      (vs_one (vs_frz [6, 7] (vs_if (vt_cmp (o_lt c.hu0) (ve_callB c_len Z.z_len (va_cons (vv 7) va_nil)) (ve_callB c_len Z.z_len (va_cons (vv 6) va_nil))) (vs_one vs_break) vs_nil))))))))) (hp := passes_of rfl))
      (vs_one (vs_frz [3] (vs_ret (ve_ite (vt_cmp (o_eqF c.hu) (vv 2) ve_int) (ve_callB (c_sorted3 c.hu) Z.z_sorted (va_cons (vv 3) va_nil)) (ve_rev (ve_callB (c_sorted3 c.hu) Z.z_sorted (va_cons (vv 3) va_nil)))))))))
theorem ok__law_filling (Z : Zs mg) {f__law_filling : Addr} {fd__law_filling : FuncData} {f__law_one_take : Addr} {fd__law_one_take : FuncData} (x__law_filling : Fx K mg "_law_filling" s__law_filling ["row", "signs"] f__law_filling fd__law_filling) (x__law_one_take : Fx K mg "_law_one_take" s__law_one_take ["row", "left", "sign"] f__law_one_take fd__law_one_take) : FnOk P w K mg base (L2.CX P w) 2 f__law_filling fd__law_filling ["row", "signs"] (spV Tb K mg 2 F__law_filling) := by
  have k__law_one_take : FnOk P w K mg base (L2.CX P w) 1 f__law_one_take fd__law_one_take ["row", "left", "sign"] (spV Tb K mg 3 F__law_one_take) := ok__law_one_take Z x__law_one_take      
  exact fn_v (N := ["row", "signs", "left", "found", "sign", "wagon"]) (ps := ["row", "signs"]) (k := 1) (g := g__law_filling) x__law_filling.F sc__law_filling fun cdv A outer s H E c =>
    (vs_cons (vs_parT c.calm (is := [2, 3]) (gn_cons (i := 2) c.nd rfl (by first | exact .inl rfl | exact .inr rfl) (gn_cons (i := 3) c.nd rfl (by first | exact .inl rfl | exact .inr rfl) gn_nil)) (vp_cons (ve_listRg1 c Z.z_range Z.z_list (ve_callB c_len Z.z_len (va_cons (vv 0) va_nil))) (vp_cons (ve_lst va_nil) vp_nil)))
      (vs_cons (vs_for c.calm (ix := [4]) (vi_seq (vv 1)) (vgd_name (i := 4) c.nd rfl (by first | exact .inl rfl | exact .inr rfl)) (vs_fgtE [4] (vs_one (vs_frz [2] (vs_if (vt_cmp (o_neF c.hu) (vv 2) (ve_lst va_nil)) (vs_cons (vs_frz [2, 4] (vs_expr (ve_mut PySem.F.plainAttrs_list PySem.F.slot_list_append PySem.F.type_list_append m_append (vv 3) (va_cons (ve_call c k__law_one_take (by decide) x__law_one_take.m x__law_one_take.F.kp x__law_one_take.b (va_cons (vv 0) (va_cons (vv 2) (va_cons (vv 4) va_nil))) (vcons_len (vcons_len (vcons_len vnil_len)))) va_nil))))
      (vs_one (vs_frz [2] (vs_lcF (vs_setLc c (i := 2) rfl rfl (sw_true rfl rfl rfl (by decide)) (vi_seq (vv 2)) (blkOk_by (own := [("wagon", 5)]) (by kernel_rfl)) (fun _ _ _ _ _ => (vgd_name (i := 5) c.nd rfl (by first | exact .inl rfl | exact .inr rfl))) (fun _ _ _ _ _ c => (vts_one (vt_cmp (o_notinF c) (vv 5) (ve_ix (vv 3) (ve_un o_neg ve_int))))) (fun _ _ _ _ _ c => (vv 5))))))) vs_nil)))) (hp := passes_of rfl))
      (vs_one (vs_ret (vv 3)))))
theorem ok__law_needed (Z : Zs mg) {f__law_needed : Addr} {fd__law_needed : FuncData} {f__law_one_take : Addr} {fd__law_one_take : FuncData} {f__law_filling : Addr} {fd__law_filling : FuncData} (x__law_needed : Fx K mg "_law_needed" s__law_needed ["row", "signs"] f__law_needed fd__law_needed) (x__law_one_take : Fx K mg "_law_one_take" s__law_one_take ["row", "left", "sign"] f__law_one_take fd__law_one_take) (x__law_filling : Fx K mg "_law_filling" s__law_filling ["row", "signs"] f__law_filling fd__law_filling) : FnOk P w K mg base (L2.CX P w) 3 f__law_needed fd__law_needed ["row", "signs"] (spV Tb K mg 2 F__law_needed) := by
  have k__law_filling : FnOk P w K mg base (L2.CX P w) 2 f__law_filling fd__law_filling ["row", "signs"] (spV Tb K mg 2 F__law_filling) := ok__law_filling Z x__law_filling x__law_one_take     
  exact fn_v (N := ["row", "signs", "found", "take"]) (ps := ["row", "signs"]) (k := 2) (g := g__law_needed) x__law_needed.F sc__law_needed fun cdv A outer s H E c =>
    (vs_cons (vs_set c.nd (i := 2) rfl (by first | exact .inl rfl | exact .inr rfl) (ve_call c k__law_filling (by decide) x__law_filling.m x__law_filling.F.kp x__law_filling.b (va_cons (vv 0) (va_cons (vv 1) va_nil)) (vcons_len (vcons_len vnil_len))))
      (vs_one (vs_frz [2] (vs_ret (ve_ite (vt_cmp (o_eqF c.hu) (ve_callB (c_sum c.calm) Z.z_sum (va_cons (ve_lcF (ve_lc c (vi_seq (vv 2)) (blkOk_by (own := [("take", 3)]) (by kernel_rfl)) (fun _ _ _ _ _ => (vgd_name (i := 3) c.nd rfl (by first | exact .inl rfl | exact .inr rfl))) (fun _ _ _ _ _ c => vts_nil) (fun _ _ _ _ _ c => (ve_callB c_len Z.z_len (va_cons (vv 3) va_nil))))) va_nil)) (ve_callB c_len Z.z_len (va_cons (vv 0) va_nil))) (ve_callB c_len Z.z_len (va_cons (vv 2) va_nil)) ve_non)))))
theorem ok__law_runs (Z : Zs mg) {f__law_runs : Addr} {fd__law_runs : FuncData} {f__law_one_take : Addr} {fd__law_one_take : FuncData} {f__law_filling : Addr} {fd__law_filling : FuncData} {f__law_needed : Addr} {fd__law_needed : FuncData} (x__law_runs : Fx K mg "_law_runs" s__law_runs ["row"] f__law_runs fd__law_runs) (x__law_one_take : Fx K mg "_law_one_take" s__law_one_take ["row", "left", "sign"] f__law_one_take fd__law_one_take) (x__law_filling : Fx K mg "_law_filling" s__law_filling ["row", "signs"] f__law_filling fd__law_filling) (x__law_needed : Fx K mg "_law_needed" s__law_needed ["row", "signs"] f__law_needed fd__law_needed) : FnOk P w K mg base (L2.CX P w) 4 f__law_runs fd__law_runs ["row"] (spV Tb K mg 1 F__law_runs) := by
  have k__law_needed : FnOk P w K mg base (L2.CX P w) 3 f__law_needed fd__law_needed ["row", "signs"] (spV Tb K mg 2 F__law_needed) := ok__law_needed Z x__law_needed x__law_one_take x__law_filling     
  exact fn_v (N := ["row"]) (ps := ["row"]) (k := 3) (g := g__law_runs) x__law_runs.F sc__law_runs fun cdv A outer s H E c =>
    (vs_one (vs_ret (ve_call c k__law_needed (by decide) x__law_needed.m x__law_needed.F.kp x__law_needed.b (va_cons (vv 0) (va_cons (ve_bin o_mulE (ve_tup (va_cons ve_int va_nil)) (ve_callB c_len Z.z_len (va_cons (vv 0) va_nil))) va_nil)) (vcons_len (vcons_len vnil_len)))))
theorem ok__law_fewest (Z : Zs mg) {f__law_fewest : Addr} {fd__law_fewest : FuncData} {f__law_one_take : Addr} {fd__law_one_take : FuncData} {f__law_filling : Addr} {fd__law_filling : FuncData} {f__law_needed : Addr} {fd__law_needed : FuncData} {f__law_runs : Addr} {fd__law_runs : FuncData} (x__law_fewest : Fx K mg "_law_fewest" s__law_fewest ["row", "codes"] f__law_fewest fd__law_fewest) (x__law_one_take : Fx K mg "_law_one_take" s__law_one_take ["row", "left", "sign"] f__law_one_take fd__law_one_take) (x__law_filling : Fx K mg "_law_filling" s__law_filling ["row", "signs"] f__law_filling fd__law_filling) (x__law_needed : Fx K mg "_law_needed" s__law_needed ["row", "signs"] f__law_needed fd__law_needed) (x__law_runs : Fx K mg "_law_runs" s__law_runs ["row"] f__law_runs fd__law_runs) : FnOk P w K mg base (L2.CX P w) 5 f__law_fewest fd__law_fewest ["row", "codes"] (spV Tb K mg 2 F__law_fewest) := by
  have k__law_runs : FnOk P w K mg base (L2.CX P w) 4 f__law_runs fd__law_runs ["row"] (spV Tb K mg 1 F__law_runs) := ok__law_runs Z x__law_runs x__law_one_take x__law_filling x__law_needed     
  exact fn_v (N := ["row", "codes", "found", "end", "first"]) (ps := ["row", "codes"]) (k := 4) (g := g__law_fewest) x__law_fewest.F sc__law_fewest fun cdv A outer s H E c =>
    (vs_cons (vs_set c.nd (i := 2) rfl (by first | exact .inl rfl | exact .inr rfl) (ve_lst (va_cons ve_int va_nil)))
      (vs_cons (vs_for c.calm (ix := [3]) (vi_range2 Z.z_range (va_cons ve_int (va_cons (ve_bin o_add (ve_callB c_len Z.z_len (va_cons (vv 0) va_nil)) ve_int) va_nil)) (hl := (vcons_len (vcons_len vnil_len)))) (vgd_name (i := 3) c.nd rfl (by first | exact .inl rfl | exact .inr rfl)) (vs_fgtE [3] (vs_one (vs_frz [3] (vs_expr (ve_mut PySem.F.plainAttrs_list PySem.F.slot_list_append PySem.F.type_list_append m_append (vv 2) (va_cons (ve_callB (c_min c.calm) Z.z_min (va_cons (ve_lcF (ve_lc c (vi_range1 Z.z_range (va_cons (vv 3) va_nil) (hl := (vcons_len vnil_len))) (blkOk_by (own := [("first", 4)]) (by kernel_rfl)) (fun _ _ _ _ _ => (vgd_name (i := 4) c.nd rfl (by first | exact .inl rfl | exact .inr rfl))) (fun _ _ _ _ _ c => (vts_one (vt_cmp o_le (ve_call c k__law_runs (by decide) x__law_runs.m x__law_runs.F.kp x__law_runs.b (va_cons (ve_slice (vv 0) (vo_some (vv 4)) (vo_some (vv 3))) va_nil) (vcons_len vnil_len)) (vv 1)))) (fun _ _ _ _ _ c => (ve_bin o_add (ve_ix (vv 2) (vv 4)) ve_int)))) va_nil)) va_nil)))))) (hp := passes_of rfl))
      (vs_one (vs_ret (ve_bin o_sub (ve_ix (vv 2) (ve_un o_neg ve_int)) ve_int)))))
theorem ok_one_take (Z : Zs mg) {f_one_take : Addr} {fd_one_take : FuncData} {cc_one_take PT_one_take : Addr} (x_one_take : Fx K mg "one_take" s_one_take ["row", "left", "sign"] f_one_take fd_one_take) (hc_one_take : fd_one_take.code = .ref cc_one_take) (TB_one_take : TabB base mg cc_one_take PT_one_take) (mT_one_take : (PT_one_take, ("one_take.<locals>.<lambda>" : Str)) ∈ Tb) (uT_one_take : ∀ p ∈ Tb, p.1 = PT_one_take → p.2 = ("one_take.<locals>.<lambda>" : Str)) : FnOk P w K mg base (L2.CX P w) 3 f_one_take fd_one_take ["row", "left", "sign"] (spV Tb K mg 3 F_one_take) := by
  refine fn_vC (N := ["row", "left", "sign", "found", "edge", "its", "some", "good", "wagon"]) (ps := ["row", "left", "sign"]) (k := 2) (g := g_one_take) x_one_take.F hc_one_take sc_one_take fun A outer s H E c => ?_
  have LA : LamAt Tb (cxOf (L2.CX P w) P w K mg base ["row", "left", "sign", "found", "edge", "its", "some", "good", "wagon"] "one_take" (defScope s_one_take) f_one_take (.ref cc_one_take) A outer s H E) PT_one_take cc_one_take := lamAt_of (by rfl) mT_one_take uT_one_take TB_one_take rfl
  exact
    (vs_cons (vs_parT c.calm (is := [3, 4]) (gn_cons (i := 3) c.nd rfl (by first | exact .inl rfl | exact .inr rfl) (gn_cons (i := 4) c.nd rfl (by first | exact .inl rfl | exact .inr rfl) gn_nil)) (vp_cons (ve_lst va_nil) (vp_cons ve_non vp_nil)))
      (vs_cons (vs_for c.calm (ix := [5]) (vi_seq (ve_callB (c_sorted4 c.calm) Z.z_sorted (va_cons (ve_dc c (vi_seq (vv 1)) (blkOk_by (own := [("wagon", 8)]) (by kernel_rfl)) (fun _ _ _ _ _ => (vgd_name (i := 8) c.nd rfl (by first | exact .inl rfl | exact .inr rfl))) (fun _ _ _ _ _ c => vts_nil) (fun _ _ _ _ _ c => (ve_ix (vv 0) (vv 8))) (fun _ _ _ _ _ c => ve_bl)) va_nil))) (vgd_name (i := 5) c.nd rfl (by first | exact .inl rfl | exact .inr rfl)) (vs_fgtE [5, 6, 7] (vs_cons (vs_frz [5] (vs_lcF (vs_setLc c (i := 6) rfl rfl (sw_true rfl rfl rfl (by decide)) (vi_seq (vv 1)) (blkOk_by (own := [("wagon", 8)]) (by kernel_rfl)) (fun _ _ _ _ _ => (vgd_name (i := 8) c.nd rfl (by first | exact .inl rfl | exact .inr rfl))) (fun _ _ _ _ _ c => (vts_one (vt_cmp (o_eqF c.hu) (ve_ix (vv 0) (vv 8)) (vv 5)))) (fun _ _ _ _ _ c => (vv 8)))))
      (vs_cons (vs_frz [4, 6] (vs_lcF (vs_setLc c (i := 7) rfl rfl (sw_true rfl rfl rfl (by decide)) (vi_seq (vv 6)) (blkOk_by (own := [("wagon", 8)]) (by kernel_rfl)) (fun _ _ _ _ _ => (vgd_name (i := 8) c.nd rfl (by first | exact .inl rfl | exact .inr rfl))) (fun _ _ _ _ _ c => (vts_one (vt_w (vw_or (vt_cmp o_isE (vv 4) ve_non) (vw_or1 (vt_cmp o_gt (ve_bin o_mulE (vv 2) (vv 8)) (ve_bin o_mulE (vv 2) (vv 4)))))))) (fun _ _ _ _ _ c => (vv 8)))))
      (vs_cons (vs_frz [7] (vs_expr (ve_mutB PySem.F.plainAttrs_list PySem.F.slot_list_extend PySem.F.type_list_extend m_extend (vv 3) (va_cons (vv 7) va_nil))))
      (vs_cons (vs_frz [6, 7] (vs_if (vt_cmp (o_lt c.hu0) (ve_callB c_len Z.z_len (va_cons (vv 7) va_nil)) (ve_callB c_len Z.z_len (va_cons (vv 6) va_nil))) (vs_one vs_break) vs_nil))
      (vs_one (vs_set c.nd (i := 4) rfl (by first | exact .inl rfl | exact .inr rfl) (ve_ite (vt_cmp (o_eqF c.hu) (vv 2) ve_int) (ve_callB (c_max c.calm) Z.z_max (va_cons (vv 3) va_nil)) (ve_callB (c_min c.calm) Z.z_min (va_cons (vv 3) va_nil)))))))))) (hp := passes_of rfl))
      (vs_one (vs_ret (ve_callT c_tuple Z.z_tuple (va_cons (ve_sortMul (i := 2) LA c Z.z_sorted (vv 3) (lamM_by (by rfl))) va_nil))))))
theorem ok_takes_and_left (Z : Zs mg) {f_takes_and_left : Addr} {fd_takes_and_left : FuncData} {f_one_take : Addr} {fd_one_take : FuncData} {cc_one_take PT_one_take : Addr} (x_takes_and_left : Fx K mg "takes_and_left" s_takes_and_left ["row", "signs"] f_takes_and_left fd_takes_and_left) (x_one_take : Fx K mg "one_take" s_one_take ["row", "left", "sign"] f_one_take fd_one_take) (hc_one_take : fd_one_take.code = .ref cc_one_take) (TB_one_take : TabB base mg cc_one_take PT_one_take) (mT_one_take : (PT_one_take, ("one_take.<locals>.<lambda>" : Str)) ∈ Tb) (uT_one_take : ∀ p ∈ Tb, p.1 = PT_one_take → p.2 = ("one_take.<locals>.<lambda>" : Str)) : FnOk P w K mg base (L2.CX P w) 4 f_takes_and_left fd_takes_and_left ["row", "signs"] (spV Tb K mg 2 F_takes_and_left) := by
  have k_one_take : FnOk P w K mg base (L2.CX P w) 3 f_one_take fd_one_take ["row", "left", "sign"] (spV Tb K mg 3 F_one_take) := ok_one_take Z x_one_take      hc_one_take TB_one_take mT_one_take uT_one_take
  exact fn_v (N := ["row", "signs", "found", "left", "sign", "wagon"]) (ps := ["row", "signs"]) (k := 3) (g := g_takes_and_left) x_takes_and_left.F sc_takes_and_left fun cdv A outer s H E c =>
    (vs_cons (vs_parT c.calm (is := [2, 3]) (gn_cons (i := 2) c.nd rfl (by first | exact .inl rfl | exact .inr rfl) (gn_cons (i := 3) c.nd rfl (by first | exact .inl rfl | exact .inr rfl) gn_nil)) (vp_cons (ve_lst va_nil) (vp_cons (ve_listRg1 c Z.z_range Z.z_list (ve_callB c_len Z.z_len (va_cons (vv 0) va_nil))) vp_nil)))
      (vs_cons (vs_for c.calm (ix := [4]) (vi_seq (vv 1)) (vgd_name (i := 4) c.nd rfl (by first | exact .inl rfl | exact .inr rfl)) (vs_fgtE [4] (vs_one (vs_frz [3] (vs_if (vt_tru (vv 3)) (vs_cons (vs_frz [3, 4] (vs_expr (ve_mut PySem.F.plainAttrs_list PySem.F.slot_list_append PySem.F.type_list_append m_append (vv 2) (va_cons (ve_call c k_one_take (by decide) x_one_take.m x_one_take.F.kp x_one_take.b (va_cons (vv 0) (va_cons (vv 3) (va_cons (vv 4) va_nil))) (vcons_len (vcons_len (vcons_len vnil_len)))) va_nil))))
      (vs_one (vs_frz [3] (vs_lcF (vs_setLc c (i := 3) rfl rfl (sw_true rfl rfl rfl (by decide)) (vi_seq (vv 3)) (blkOk_by (own := [("wagon", 5)]) (by kernel_rfl)) (fun _ _ _ _ _ => (vgd_name (i := 5) c.nd rfl (by first | exact .inl rfl | exact .inr rfl))) (fun _ _ _ _ _ c => (vts_one (vt_cmp (o_notinF c) (vv 5) (ve_ix (vv 2) (ve_un o_neg ve_int))))) (fun _ _ _ _ _ c => (vv 5))))))) vs_nil)))) (hp := passes_of rfl))
      (vs_one (vs_frz [2, 3] (vs_ret (ve_tup (va_cons (vv 2) (va_cons (vv 3) va_nil))))))))
theorem ok_filling (Z : Zs mg) {f_filling : Addr} {fd_filling : FuncData} {f_one_take : Addr} {fd_one_take : FuncData} {f_takes_and_left : Addr} {fd_takes_and_left : FuncData} {cc_one_take PT_one_take : Addr} (x_filling : Fx K mg "filling" s_filling ["row", "signs"] f_filling fd_filling) (x_one_take : Fx K mg "one_take" s_one_take ["row", "left", "sign"] f_one_take fd_one_take) (x_takes_and_left : Fx K mg "takes_and_left" s_takes_and_left ["row", "signs"] f_takes_and_left fd_takes_and_left) (hc_one_take : fd_one_take.code = .ref cc_one_take) (TB_one_take : TabB base mg cc_one_take PT_one_take) (mT_one_take : (PT_one_take, ("one_take.<locals>.<lambda>" : Str)) ∈ Tb) (uT_one_take : ∀ p ∈ Tb, p.1 = PT_one_take → p.2 = ("one_take.<locals>.<lambda>" : Str)) : FnOk P w K mg base (L2.CX P w) 5 f_filling fd_filling ["row", "signs"] (spV Tb K mg 2 F_filling) := by
  have k_takes_and_left : FnOk P w K mg base (L2.CX P w) 4 f_takes_and_left fd_takes_and_left ["row", "signs"] (spV Tb K mg 2 F_takes_and_left) := ok_takes_and_left Z x_takes_and_left x_one_take     hc_one_take TB_one_take mT_one_take uT_one_take
  exact fn_v (N := ["row", "signs"]) (ps := ["row", "signs"]) (k := 4) (g := g_filling) x_filling.F sc_filling fun cdv A outer s H E c =>
    (vs_one (vs_ret (ve_callT c_tuple Z.z_tuple (va_cons (ve_ix (ve_call c k_takes_and_left (by decide) x_takes_and_left.m x_takes_and_left.F.kp x_takes_and_left.b (va_cons (vv 0) (va_cons (vv 1) va_nil)) (vcons_len (vcons_len vnil_len))) ve_int) va_nil))))
theorem ok_runs_needed (Z : Zs mg) {f_runs_needed : Addr} {fd_runs_needed : FuncData} {f_one_take : Addr} {fd_one_take : FuncData} {f_takes_and_left : Addr} {fd_takes_and_left : FuncData} {f_filling : Addr} {fd_filling : FuncData} {cc_one_take PT_one_take : Addr} (x_runs_needed : Fx K mg "runs_needed" s_runs_needed ["row"] f_runs_needed fd_runs_needed) (x_one_take : Fx K mg "one_take" s_one_take ["row", "left", "sign"] f_one_take fd_one_take) (x_takes_and_left : Fx K mg "takes_and_left" s_takes_and_left ["row", "signs"] f_takes_and_left fd_takes_and_left) (x_filling : Fx K mg "filling" s_filling ["row", "signs"] f_filling fd_filling) (hc_one_take : fd_one_take.code = .ref cc_one_take) (TB_one_take : TabB base mg cc_one_take PT_one_take) (mT_one_take : (PT_one_take, ("one_take.<locals>.<lambda>" : Str)) ∈ Tb) (uT_one_take : ∀ p ∈ Tb, p.1 = PT_one_take → p.2 = ("one_take.<locals>.<lambda>" : Str)) : FnOk P w K mg base (L2.CX P w) 6 f_runs_needed fd_runs_needed ["row"] (spV Tb K mg 1 F_runs_needed) := by
  have k_filling : FnOk P w K mg base (L2.CX P w) 5 f_filling fd_filling ["row", "signs"] (spV Tb K mg 2 F_filling) := ok_filling Z x_filling x_one_take x_takes_and_left     hc_one_take TB_one_take mT_one_take uT_one_take
  exact fn_v (N := ["row"]) (ps := ["row"]) (k := 5) (g := g_runs_needed) x_runs_needed.F sc_runs_needed fun cdv A outer s H E c =>
    (vs_one (vs_ret (ve_callB c_len Z.z_len (va_cons (ve_call c k_filling (by decide) x_filling.m x_filling.F.kp x_filling.b (va_cons (vv 0) (va_cons (ve_bin o_mulE (ve_tup (va_cons ve_int va_nil)) (ve_callB c_len Z.z_len (va_cons (vv 0) va_nil))) va_nil)) (vcons_len (vcons_len vnil_len))) va_nil))))
theorem ok_best_cut (Z : Zs mg) {f_best_cut : Addr} {fd_best_cut : FuncData} {f_one_take : Addr} {fd_one_take : FuncData} {f_takes_and_left : Addr} {fd_takes_and_left : FuncData} {f_filling : Addr} {fd_filling : FuncData} {f_runs_needed : Addr} {fd_runs_needed : FuncData} {cc_one_take PT_one_take : Addr} (x_best_cut : Fx K mg "best_cut" s_best_cut ["row"] f_best_cut fd_best_cut) (x_one_take : Fx K mg "one_take" s_one_take ["row", "left", "sign"] f_one_take fd_one_take) (x_takes_and_left : Fx K mg "takes_and_left" s_takes_and_left ["row", "signs"] f_takes_and_left fd_takes_and_left) (x_filling : Fx K mg "filling" s_filling ["row", "signs"] f_filling fd_filling) (x_runs_needed : Fx K mg "runs_needed" s_runs_needed ["row"] f_runs_needed fd_runs_needed) (n_Nothing : ExN K mg "Nothing") (hc_one_take : fd_one_take.code = .ref cc_one_take) (TB_one_take : TabB base mg cc_one_take PT_one_take) (mT_one_take : (PT_one_take, ("one_take.<locals>.<lambda>" : Str)) ∈ Tb) (uT_one_take : ∀ p ∈ Tb, p.1 = PT_one_take → p.2 = ("one_take.<locals>.<lambda>" : Str)) : FnOk P w K mg base (L2.CX P w) 7 f_best_cut fd_best_cut ["row"] (spV Tb K mg 1 F_best_cut) := by
  have k_runs_needed : FnOk P w K mg base (L2.CX P w) 6 f_runs_needed fd_runs_needed ["row"] (spV Tb K mg 1 F_runs_needed) := ok_runs_needed Z x_runs_needed x_one_take x_takes_and_left x_filling     hc_one_take TB_one_take mT_one_take uT_one_take
  exact fn_v (N := ["row", "place"]) (ps := ["row"]) (k := 6) (g := g_best_cut) x_best_cut.F sc_best_cut fun cdv A outer s H E c =>
    (vs_cons (vs_if (vt_cmp (o_lt c.hu0) (ve_callB c_len Z.z_len (va_cons (vv 0) va_nil)) ve_int) (vs_one (vs_raise0 c n_Nothing)) vs_nil)
      (vs_one (vs_ret (ve_callB (c_minE c.calm c.hu) Z.z_min (va_cons (ve_lcF (ve_lc c (vi_range2 Z.z_range (va_cons ve_int (va_cons (ve_callB c_len Z.z_len (va_cons (vv 0) va_nil)) va_nil)) (hl := (vcons_len (vcons_len vnil_len)))) (blkOk_by (own := [("place", 1)]) (by kernel_rfl)) (fun _ _ _ _ _ => (vgd_name (i := 1) c.nd rfl (by first | exact .inl rfl | exact .inr rfl))) (fun _ _ _ _ _ c => vts_nil) (fun _ _ _ _ _ c => (ve_tup (va_cons (ve_bin o_add (ve_call c k_runs_needed (by decide) x_runs_needed.m x_runs_needed.F.kp x_runs_needed.b (va_cons (ve_slice (vv 0) vo_none (vo_some (vv 1))) va_nil) (vcons_len vnil_len)) (ve_call c k_runs_needed (by decide) x_runs_needed.m x_runs_needed.F.kp x_runs_needed.b (va_cons (ve_slice (vv 0) (vo_some (vv 1)) vo_none) va_nil) (vcons_len vnil_len))) (va_cons (vv 1) va_nil)))))) va_nil)))))
theorem ok__law_heard (Z : Zs mg) {f__law_heard : Addr} {fd__law_heard : FuncData} {f_one_take : Addr} {fd_one_take : FuncData} {f_takes_and_left : Addr} {fd_takes_and_left : FuncData} {f_filling : Addr} {fd_filling : FuncData} {f_runs_needed : Addr} {fd_runs_needed : FuncData} {f_best_cut : Addr} {fd_best_cut : FuncData} {cc_one_take PT_one_take : Addr} (x__law_heard : Fx K mg "_law_heard" s__law_heard ["row"] f__law_heard fd__law_heard) (x_one_take : Fx K mg "one_take" s_one_take ["row", "left", "sign"] f_one_take fd_one_take) (x_takes_and_left : Fx K mg "takes_and_left" s_takes_and_left ["row", "signs"] f_takes_and_left fd_takes_and_left) (x_filling : Fx K mg "filling" s_filling ["row", "signs"] f_filling fd_filling) (x_runs_needed : Fx K mg "runs_needed" s_runs_needed ["row"] f_runs_needed fd_runs_needed) (x_best_cut : Fx K mg "best_cut" s_best_cut ["row"] f_best_cut fd_best_cut) (n_Nothing : ExN K mg "Nothing") (h_Nothing : HearOk K mg "Nothing" []) (ap__law_heard : ExApart K [(He.ga K "Nothing", "nothing", [])]) (hc_one_take : fd_one_take.code = .ref cc_one_take) (TB_one_take : TabB base mg cc_one_take PT_one_take) (mT_one_take : (PT_one_take, ("one_take.<locals>.<lambda>" : Str)) ∈ Tb) (uT_one_take : ∀ p ∈ Tb, p.1 = PT_one_take → p.2 = ("one_take.<locals>.<lambda>" : Str)) : FnOk P w K mg base (L2.CX P w) 8 f__law_heard fd__law_heard ["row"] (spV Tb K mg 1 F__law_heard) := by
  have k_best_cut : FnOk P w K mg base (L2.CX P w) 7 f_best_cut fd_best_cut ["row"] (spV Tb K mg 1 F_best_cut) := ok_best_cut Z x_best_cut x_one_take x_takes_and_left x_filling x_runs_needed  n_Nothing   hc_one_take TB_one_take mT_one_take uT_one_take
  exact fn_v (N := ["row"]) (ps := ["row"]) (k := 7) (g := g__law_heard) x__law_heard.F sc__law_heard fun cdv A outer s H E c =>
    (vs_one (vs_try c (.cons (clp0 rfl rfl h_Nothing.mg) .nil) ap__law_heard (.cons h_Nothing.mg .nil) (fun _ _ _ c => (vs_one (vs_ret (ve_tup (va_cons ve_str (va_cons (ve_call c k_best_cut (by decide) x_best_cut.m x_best_cut.F.kp x_best_cut.b (va_cons (vv 0) va_nil) (vcons_len vnil_len)) va_nil))))))))
theorem ok__law_places (Z : Zs mg) {f__law_places : Addr} {fd__law_places : FuncData} {f__law_one_take : Addr} {fd__law_one_take : FuncData} {f__law_filling : Addr} {fd__law_filling : FuncData} {f__law_needed : Addr} {fd__law_needed : FuncData} {f__law_runs : Addr} {fd__law_runs : FuncData} (x__law_places : Fx K mg "_law_places" s__law_places ["row", "codes"] f__law_places fd__law_places) (x__law_one_take : Fx K mg "_law_one_take" s__law_one_take ["row", "left", "sign"] f__law_one_take fd__law_one_take) (x__law_filling : Fx K mg "_law_filling" s__law_filling ["row", "signs"] f__law_filling fd__law_filling) (x__law_needed : Fx K mg "_law_needed" s__law_needed ["row", "signs"] f__law_needed fd__law_needed) (x__law_runs : Fx K mg "_law_runs" s__law_runs ["row"] f__law_runs fd__law_runs) : FnOk P w K mg base (L2.CX P w) 5 f__law_places fd__law_places ["row", "codes"] (spV Tb K mg 2 F__law_places) := by
  have k__law_runs : FnOk P w K mg base (L2.CX P w) 4 f__law_runs fd__law_runs ["row"] (spV Tb K mg 1 F__law_runs) := ok__law_runs Z x__law_runs x__law_one_take x__law_filling x__law_needed     
  exact fn_v (N := ["row", "codes", "found", "first", "end"]) (ps := ["row", "codes"]) (k := 4) (g := g__law_places) x__law_places.F sc__law_places fun cdv A outer s H E c =>
    (vs_cons (vs_par2 c.calm c.nd (i := 2) (j := 3) rfl rfl (by decide) rfl rfl (vp_cons (ve_lst va_nil) (vp_cons ve_int vp_nil)) (by with_unfolding_all rfl))
      (vs_cons (vs_for c.calm (ix := [4]) (vi_range2 Z.z_range (va_cons ve_int (va_cons (ve_bin o_add (ve_callB c_len Z.z_len (va_cons (vv 0) va_nil)) ve_int) va_nil)) (hl := (vcons_len (vcons_len vnil_len)))) (vgd_name (i := 4) c.nd rfl (by first | exact .inl rfl | exact .inr rfl)) (vs_fgtE [4] (vs_one (vs_frz [3, 4] (vs_if (vt_cmp o_gt (ve_call c k__law_runs (by decide) x__law_runs.m x__law_runs.F.kp x__law_runs.b (va_cons (ve_slice (vv 0) (vo_some (vv 3)) (vo_some (vv 4))) va_nil) (vcons_len vnil_len)) (vv 1)) (vs_cons (vs_frz [4] (vs_expr (ve_mut PySem.F.plainAttrs_list PySem.F.slot_list_append PySem.F.type_list_append m_append (vv 2) (va_cons (ve_bin o_sub (vv 4) ve_int) va_nil))))
      (vs_one (vs_frz [4] (vs_set c.nd (i := 3) rfl (by first | exact .inl rfl | exact .inr rfl) (ve_bin o_sub (vv 4) ve_int))))) vs_nil)))) (hp := passes_of rfl))
      (vs_one (vs_ret (ve_callT c_tuple Z.z_tuple (va_cons (vv 2) va_nil))))))
theorem ok__law_take (Z : Zs mg) {f__law_take : Addr} {fd__law_take : FuncData} (x__law_take : Fx K mg "_law_take" s__law_take ["bag", "many"] f__law_take fd__law_take) : FnOk P w K mg base (L2.CX P w) 1 f__law_take fd__law_take ["bag", "many"] (spV Tb K mg 2 F__law_take) := by
  exact fn_v (N := ["bag", "many", "cell", "stirred", "value", "begin", "second"]) (ps := ["bag", "many"]) (k := 0) (g := g__law_take) x__law_take.F sc__law_take fun cdv A outer s H E c =>
    (vs_cons (vs_if (vt_cmp (o_eqF c.hu) (ve_ix (vv 0) ve_int) ve_int) (vs_cons (vs_set c.nd (i := 2) rfl (by first | exact .inl rfl | exact .inr rfl) (ve_ix (ve_bin o_add (ve_slice (ve_ix (vv 0) ve_int) (vo_some (ve_ix (vv 0) ve_int)) vo_none) (ve_lst (va_cons ve_int va_nil))) ve_int))
      (vs_cons (vs_augS (vv 0) ve_int ve_int i_add)
      (vs_cons (vs_frz [2] (vs_if (vt_cmp o_ge (vv 2) (ve_bin o_pow ve_int ve_int)) (vs_one (vs_frz [2] (vs_asgD (ix := []) (vv 2) (vgd_sub (W := W0) (vv 0) ve_int (by intro _; rfl))))) vs_nil))
      (vs_cons (vs_frz [2] (vs_set c.nd (i := 3) rfl (by first | exact .inl rfl | exact .inr rfl) (ve_bin o_add (ve_bin o_add (ve_bin o_mulE (ve_ix (vv 0) ve_int) ve_int) (ve_bin o_mod (ve_callT c_int Z.z_int (va_cons (vv 2) va_nil)) ve_int)) (ve_bin o_mulE ve_int (ve_ix (vv 0) ve_int)))))
      (vs_one (vs_frz [3] (vs_asgD (ix := []) (ve_bin o_mod (ve_callT c_int Z.z_int (va_cons (vv 3) va_nil)) ve_int) (vgd_sub (W := W0) (vv 0) ve_int (by intro _; rfl))))))))) vs_nil)
      (vs_cons (vs_if (vt_cmp o_gt (ve_ix (vv 0) ve_int) ve_int) (vs_cons (vs_set c.nd (i := 4) rfl (by first | exact .inl rfl | exact .inr rfl) (ve_bin o_mod (ve_callT c_int Z.z_int (va_cons (ve_ix (vv 0) ve_int) va_nil)) (vv 1)))
      (vs_cons (vs_asgD (ix := []) (ve_bin o_fdiv (ve_callT c_int Z.z_int (va_cons (ve_ix (vv 0) ve_int) va_nil)) (vv 1)) (vgd_sub (W := W0) (vv 0) ve_int (by intro _; rfl)))
      (vs_one (vs_frz [4] (vs_ret (vv 4)))))) vs_nil)
      (vs_cons (vs_set c.nd (i := 5) rfl (by first | exact .inl rfl | exact .inr rfl) (ve_bin o_mod (ve_callT c_int Z.z_int (va_cons (ve_bin o_mulE (ve_bin o_add (ve_ix (vv 0) ve_int) ve_int) ve_int) va_nil)) ve_int))
      (vs_cons (vs_frz [5] (vs_set c.nd (i := 6) rfl (by first | exact .inl rfl | exact .inr rfl) (ve_bin o_mod (ve_callT c_int Z.z_int (va_cons (ve_bin o_mulE (ve_bin o_mod (ve_callT c_int Z.z_int (va_cons (ve_bin o_mulE (vv 5) (vv 5)) va_nil)) ve_int) ve_int) va_nil)) ve_int)))
      (vs_one (vs_frz [6] (vs_ret (ve_bin o_mod (ve_callT c_int Z.z_int (va_cons (ve_bin o_fdiv (vv 6) ve_int) va_nil)) (vv 1)))))))))
theorem ok__law_row (Z : Zs mg) {f__law_row : Addr} {fd__law_row : FuncData} {f__law_take : Addr} {fd__law_take : FuncData} (x__law_row : Fx K mg "_law_row" s__law_row ["bag", "most", "classes"] f__law_row fd__law_row) (x__law_take : Fx K mg "_law_take" s__law_take ["bag", "many"] f__law_take fd__law_take) : FnOk P w K mg base (L2.CX P w) 2 f__law_row fd__law_row ["bag", "most", "classes"] (spV Tb K mg 3 F__law_row) := by
  have k__law_take : FnOk P w K mg base (L2.CX P w) 1 f__law_take fd__law_take ["bag", "many"] (spV Tb K mg 2 F__law_take) := ok__law_take Z x__law_take      
  exact fn_v (N := ["bag", "most", "classes", "wagon"]) (ps := ["bag", "most", "classes"]) (k := 1) (g := g__law_row) x__law_row.F sc__law_row fun cdv A outer s H E c =>
    (vs_one (vs_ret (ve_callT c_tuple Z.z_tuple (va_cons (ve_lcF (ve_lc c (vi_range1 Z.z_range (va_cons (ve_bin o_add ve_int (ve_call c k__law_take (by decide) x__law_take.m x__law_take.F.kp x__law_take.b (va_cons (vv 0) (va_cons (vv 1) va_nil)) (vcons_len (vcons_len vnil_len)))) va_nil) (hl := (vcons_len vnil_len))) (blkOk_by (own := [("wagon", 3)]) (by kernel_rfl)) (fun _ _ _ _ _ => (vgd_name (i := 3) c.nd rfl (by first | exact .inl rfl | exact .inr rfl))) (fun _ _ _ _ _ c => vts_nil) (fun _ _ _ _ _ c => (ve_call c k__law_take (by decide) x__law_take.m x__law_take.F.kp x__law_take.b (va_cons (vv 0) (va_cons (vv 2) va_nil)) (vcons_len (vcons_len vnil_len)))))) va_nil))))
theorem ok_longest_part (Z : Zs mg) {f_longest_part : Addr} {fd_longest_part : FuncData} {f_one_take : Addr} {fd_one_take : FuncData} {f_takes_and_left : Addr} {fd_takes_and_left : FuncData} {f_filling : Addr} {fd_filling : FuncData} {f_runs_needed : Addr} {fd_runs_needed : FuncData} {cc_one_take PT_one_take : Addr} (x_longest_part : Fx K mg "longest_part" s_longest_part ["row", "first", "codes"] f_longest_part fd_longest_part) (x_one_take : Fx K mg "one_take" s_one_take ["row", "left", "sign"] f_one_take fd_one_take) (x_takes_and_left : Fx K mg "takes_and_left" s_takes_and_left ["row", "signs"] f_takes_and_left fd_takes_and_left) (x_filling : Fx K mg "filling" s_filling ["row", "signs"] f_filling fd_filling) (x_runs_needed : Fx K mg "runs_needed" s_runs_needed ["row"] f_runs_needed fd_runs_needed) (hc_one_take : fd_one_take.code = .ref cc_one_take) (TB_one_take : TabB base mg cc_one_take PT_one_take) (mT_one_take : (PT_one_take, ("one_take.<locals>.<lambda>" : Str)) ∈ Tb) (uT_one_take : ∀ p ∈ Tb, p.1 = PT_one_take → p.2 = ("one_take.<locals>.<lambda>" : Str)) : FnOk P w K mg base (L2.CX P w) 7 f_longest_part fd_longest_part ["row", "first", "codes"] (spV Tb K mg 3 F_longest_part) := by
  have k_runs_needed : FnOk P w K mg base (L2.CX P w) 6 f_runs_needed fd_runs_needed ["row"] (spV Tb K mg 1 F_runs_needed) := ok_runs_needed Z x_runs_needed x_one_take x_takes_and_left x_filling     hc_one_take TB_one_take mT_one_take uT_one_take
  exact fn_v (N := ["row", "first", "codes", "last"]) (ps := ["row", "first", "codes"]) (k := 6) (g := g_longest_part) x_longest_part.F sc_longest_part fun cdv A outer s H E c =>
    (vs_cons (vs_set c.nd (i := 3) rfl (by first | exact .inl rfl | exact .inr rfl) (ve_bin o_add (vv 1) ve_int))
      (vs_cons (vs_frz [3] (vs_while (vt_w (vw_and (vt_cmp (o_lt c.hu0) (vv 3) (ve_callB c_len Z.z_len (va_cons (vv 0) va_nil))) (vw_and1 (vt_cmp o_le (ve_call c k_runs_needed (by decide) x_runs_needed.m x_runs_needed.F.kp x_runs_needed.b (va_cons (ve_slice (vv 0) (vo_some (vv 1)) (vo_some (ve_bin o_add (vv 3) ve_int))) va_nil) (vcons_len vnil_len)) (vv 2))))) (vs_one (vs_aug c.nd (i := 3) rfl (by first | exact .inl rfl | exact .inr rfl) ve_int i_add)) (passes_of rfl)))
      (vs_one (vs_frz [3] (vs_ret (vv 3))))))
theorem ok_cut_places (Z : Zs mg) {f_cut_places : Addr} {fd_cut_places : FuncData} {f_one_take : Addr} {fd_one_take : FuncData} {f_takes_and_left : Addr} {fd_takes_and_left : FuncData} {f_filling : Addr} {fd_filling : FuncData} {f_runs_needed : Addr} {fd_runs_needed : FuncData} {f_longest_part : Addr} {fd_longest_part : FuncData} {cc_one_take PT_one_take : Addr} (x_cut_places : Fx K mg "cut_places" s_cut_places ["row", "codes"] f_cut_places fd_cut_places) (x_one_take : Fx K mg "one_take" s_one_take ["row", "left", "sign"] f_one_take fd_one_take) (x_takes_and_left : Fx K mg "takes_and_left" s_takes_and_left ["row", "signs"] f_takes_and_left fd_takes_and_left) (x_filling : Fx K mg "filling" s_filling ["row", "signs"] f_filling fd_filling) (x_runs_needed : Fx K mg "runs_needed" s_runs_needed ["row"] f_runs_needed fd_runs_needed) (x_longest_part : Fx K mg "longest_part" s_longest_part ["row", "first", "codes"] f_longest_part fd_longest_part) (hc_one_take : fd_one_take.code = .ref cc_one_take) (TB_one_take : TabB base mg cc_one_take PT_one_take) (mT_one_take : (PT_one_take, ("one_take.<locals>.<lambda>" : Str)) ∈ Tb) (uT_one_take : ∀ p ∈ Tb, p.1 = PT_one_take → p.2 = ("one_take.<locals>.<lambda>" : Str)) : FnOk P w K mg base (L2.CX P w) 8 f_cut_places fd_cut_places ["row", "codes"] (spV Tb K mg 2 F_cut_places) := by
  have k_longest_part : FnOk P w K mg base (L2.CX P w) 7 f_longest_part fd_longest_part ["row", "first", "codes"] (spV Tb K mg 3 F_longest_part) := ok_longest_part Z x_longest_part x_one_take x_takes_and_left x_filling x_runs_needed     hc_one_take TB_one_take mT_one_take uT_one_take
  exact fn_v (N := ["row", "codes", "found", "last"]) (ps := ["row", "codes"]) (k := 7) (g := g_cut_places) x_cut_places.F sc_cut_places fun cdv A outer s H E c =>
    (vs_cons (vs_par2 c.calm c.nd (i := 2) (j := 3) rfl rfl (by decide) rfl rfl (vp_cons (ve_lst va_nil) (vp_cons (ve_call c k_longest_part (by decide) x_longest_part.m x_longest_part.F.kp x_longest_part.b (va_cons (vv 0) (va_cons ve_int (va_cons (vv 1) va_nil))) (vcons_len (vcons_len (vcons_len vnil_len)))) vp_nil)) (by with_unfolding_all rfl))
      (vs_cons (vs_frz [3] (vs_while (vt_cmp (o_lt c.hu0) (vv 3) (ve_callB c_len Z.z_len (va_cons (vv 0) va_nil))) (vs_cons (vs_frz [3] (vs_expr (ve_mut PySem.F.plainAttrs_list PySem.F.slot_list_append PySem.F.type_list_append m_append (vv 2) (va_cons (vv 3) va_nil))))
      (vs_one (vs_frz [3] (vs_set c.nd (i := 3) rfl (by first | exact .inl rfl | exact .inr rfl) (ve_call c k_longest_part (by decide) x_longest_part.m x_longest_part.F.kp x_longest_part.b (va_cons (vv 0) (va_cons (vv 3) (va_cons (vv 1) va_nil))) (vcons_len (vcons_len (vcons_len vnil_len)))))))) (passes_of rfl)))
      (vs_one (vs_ret (ve_callT c_tuple Z.z_tuple (va_cons (vv 2) va_nil))))))
theorem ok_cuts_needed (Z : Zs mg) {f_cuts_needed : Addr} {fd_cuts_needed : FuncData} {f_one_take : Addr} {fd_one_take : FuncData} {f_takes_and_left : Addr} {fd_takes_and_left : FuncData} {f_filling : Addr} {fd_filling : FuncData} {f_runs_needed : Addr} {fd_runs_needed : FuncData} {f_longest_part : Addr} {fd_longest_part : FuncData} {f_cut_places : Addr} {fd_cut_places : FuncData} {cc_one_take PT_one_take : Addr} (x_cuts_needed : Fx K mg "cuts_needed" s_cuts_needed ["row", "codes"] f_cuts_needed fd_cuts_needed) (x_one_take : Fx K mg "one_take" s_one_take ["row", "left", "sign"] f_one_take fd_one_take) (x_takes_and_left : Fx K mg "takes_and_left" s_takes_and_left ["row", "signs"] f_takes_and_left fd_takes_and_left) (x_filling : Fx K mg "filling" s_filling ["row", "signs"] f_filling fd_filling) (x_runs_needed : Fx K mg "runs_needed" s_runs_needed ["row"] f_runs_needed fd_runs_needed) (x_longest_part : Fx K mg "longest_part" s_longest_part ["row", "first", "codes"] f_longest_part fd_longest_part) (x_cut_places : Fx K mg "cut_places" s_cut_places ["row", "codes"] f_cut_places fd_cut_places) (hc_one_take : fd_one_take.code = .ref cc_one_take) (TB_one_take : TabB base mg cc_one_take PT_one_take) (mT_one_take : (PT_one_take, ("one_take.<locals>.<lambda>" : Str)) ∈ Tb) (uT_one_take : ∀ p ∈ Tb, p.1 = PT_one_take → p.2 = ("one_take.<locals>.<lambda>" : Str)) : FnOk P w K mg base (L2.CX P w) 9 f_cuts_needed fd_cuts_needed ["row", "codes"] (spV Tb K mg 2 F_cuts_needed) := by
  have k_cut_places : FnOk P w K mg base (L2.CX P w) 8 f_cut_places fd_cut_places ["row", "codes"] (spV Tb K mg 2 F_cut_places) := ok_cut_places Z x_cut_places x_one_take x_takes_and_left x_filling x_runs_needed x_longest_part     hc_one_take TB_one_take mT_one_take uT_one_take
  exact fn_v (N := ["row", "codes"]) (ps := ["row", "codes"]) (k := 8) (g := g_cuts_needed) x_cuts_needed.F sc_cuts_needed fun cdv A outer s H E c =>
    (vs_one (vs_ret (ve_callB c_len Z.z_len (va_cons (ve_call c k_cut_places (by decide) x_cut_places.m x_cut_places.F.kp x_cut_places.b (va_cons (vv 0) (va_cons (vv 1) va_nil)) (vcons_len (vcons_len vnil_len))) va_nil))))
theorem ok_law (Z : Zs mg) {f_law : Addr} {fd_law : FuncData} {f__law_alike : Addr} {fd__law_alike : FuncData} {f__law_bag : Addr} {fd__law_bag : FuncData} {f__law_one_take : Addr} {fd__law_one_take : FuncData} {f__law_filling : Addr} {fd__law_filling : FuncData} {f__law_needed : Addr} {fd__law_needed : FuncData} {f__law_runs : Addr} {fd__law_runs : FuncData} {f__law_fewest : Addr} {fd__law_fewest : FuncData} {f_one_take : Addr} {fd_one_take : FuncData} {f_takes_and_left : Addr} {fd_takes_and_left : FuncData} {f_filling : Addr} {fd_filling : FuncData} {f_runs_needed : Addr} {fd_runs_needed : FuncData} {f_best_cut : Addr} {fd_best_cut : FuncData} {f__law_heard : Addr} {fd__law_heard : FuncData} {f__law_places : Addr} {fd__law_places : FuncData} {f__law_take : Addr} {fd__law_take : FuncData} {f__law_row : Addr} {fd__law_row : FuncData} {f_longest_part : Addr} {fd_longest_part : FuncData} {f_cut_places : Addr} {fd_cut_places : FuncData} {f_cuts_needed : Addr} {fd_cuts_needed : FuncData} {cc_one_take PT_one_take : Addr} (x_law : Fx K mg "law" s_law ["script"] f_law fd_law) (x__law_alike : Fx K mg "_law_alike" s__law_alike ["found", "due"] f__law_alike fd__law_alike) (x__law_bag : Fx K mg "_law_bag" s__law_bag ["script"] f__law_bag fd__law_bag) (x__law_one_take : Fx K mg "_law_one_take" s__law_one_take ["row", "left", "sign"] f__law_one_take fd__law_one_take) (x__law_filling : Fx K mg "_law_filling" s__law_filling ["row", "signs"] f__law_filling fd__law_filling) (x__law_needed : Fx K mg "_law_needed" s__law_needed ["row", "signs"] f__law_needed fd__law_needed) (x__law_runs : Fx K mg "_law_runs" s__law_runs ["row"] f__law_runs fd__law_runs) (x__law_fewest : Fx K mg "_law_fewest" s__law_fewest ["row", "codes"] f__law_fewest fd__law_fewest) (x_one_take : Fx K mg "one_take" s_one_take ["row", "left", "sign"] f_one_take fd_one_take) (x_takes_and_left : Fx K mg "takes_and_left" s_takes_and_left ["row", "signs"] f_takes_and_left fd_takes_and_left) (x_filling : Fx K mg "filling" s_filling ["row", "signs"] f_filling fd_filling) (x_runs_needed : Fx K mg "runs_needed" s_runs_needed ["row"] f_runs_needed fd_runs_needed) (x_best_cut : Fx K mg "best_cut" s_best_cut ["row"] f_best_cut fd_best_cut) (x__law_heard : Fx K mg "_law_heard" s__law_heard ["row"] f__law_heard fd__law_heard) (x__law_places : Fx K mg "_law_places" s__law_places ["row", "codes"] f__law_places fd__law_places) (x__law_take : Fx K mg "_law_take" s__law_take ["bag", "many"] f__law_take fd__law_take) (x__law_row : Fx K mg "_law_row" s__law_row ["bag", "most", "classes"] f__law_row fd__law_row) (x_longest_part : Fx K mg "longest_part" s_longest_part ["row", "first", "codes"] f_longest_part fd_longest_part) (x_cut_places : Fx K mg "cut_places" s_cut_places ["row", "codes"] f_cut_places fd_cut_places) (x_cuts_needed : Fx K mg "cuts_needed" s_cuts_needed ["row", "codes"] f_cuts_needed fd_cuts_needed) (n_Nothing : ExN K mg "Nothing") (h_Nothing : HearOk K mg "Nothing" []) (ap__law_heard : ExApart K [(He.ga K "Nothing", "nothing", [])]) (hc_one_take : fd_one_take.code = .ref cc_one_take) (TB_one_take : TabB base mg cc_one_take PT_one_take) (mT_one_take : (PT_one_take, ("one_take.<locals>.<lambda>" : Str)) ∈ Tb) (uT_one_take : ∀ p ∈ Tb, p.1 = PT_one_take → p.2 = ("one_take.<locals>.<lambda>" : Str)) : FnOk P w K mg base (L2.CX P w) 10 f_law fd_law ["script"] (spV Tb K mg 1 F_law) := by
  have k__law_alike : FnOk P w K mg base (L2.CX P w) 1 f__law_alike fd__law_alike ["found", "due"] (spV Tb K mg 2 F__law_alike) := ok__law_alike Z x__law_alike      
  have k__law_bag : FnOk P w K mg base (L2.CX P w) 1 f__law_bag fd__law_bag ["script"] (spV Tb K mg 1 F__law_bag) := ok__law_bag Z x__law_bag      
  have k__law_fewest : FnOk P w K mg base (L2.CX P w) 5 f__law_fewest fd__law_fewest ["row", "codes"] (spV Tb K mg 2 F__law_fewest) := ok__law_fewest Z x__law_fewest x__law_one_take x__law_filling x__law_needed x__law_runs     
  have k__law_heard : FnOk P w K mg base (L2.CX P w) 8 f__law_heard fd__law_heard ["row"] (spV Tb K mg 1 F__law_heard) := ok__law_heard Z x__law_heard x_one_take x_takes_and_left x_filling x_runs_needed x_best_cut  n_Nothing h_Nothing ap__law_heard hc_one_take TB_one_take mT_one_take uT_one_take
  have k__law_places : FnOk P w K mg base (L2.CX P w) 5 f__law_places fd__law_places ["row", "codes"] (spV Tb K mg 2 F__law_places) := ok__law_places Z x__law_places x__law_one_take x__law_filling x__law_needed x__law_runs     
  have k__law_row : FnOk P w K mg base (L2.CX P w) 2 f__law_row fd__law_row ["bag", "most", "classes"] (spV Tb K mg 3 F__law_row) := ok__law_row Z x__law_row x__law_take     
  have k__law_runs : FnOk P w K mg base (L2.CX P w) 4 f__law_runs fd__law_runs ["row"] (spV Tb K mg 1 F__law_runs) := ok__law_runs Z x__law_runs x__law_one_take x__law_filling x__law_needed     
  have k__law_take : FnOk P w K mg base (L2.CX P w) 1 f__law_take fd__law_take ["bag", "many"] (spV Tb K mg 2 F__law_take) := ok__law_take Z x__law_take      
  have k_cut_places : FnOk P w K mg base (L2.CX P w) 8 f_cut_places fd_cut_places ["row", "codes"] (spV Tb K mg 2 F_cut_places) := ok_cut_places Z x_cut_places x_one_take x_takes_and_left x_filling x_runs_needed x_longest_part     hc_one_take TB_one_take mT_one_take uT_one_take
  have k_cuts_needed : FnOk P w K mg base (L2.CX P w) 9 f_cuts_needed fd_cuts_needed ["row", "codes"] (spV Tb K mg 2 F_cuts_needed) := ok_cuts_needed Z x_cuts_needed x_one_take x_takes_and_left x_filling x_runs_needed x_longest_part x_cut_places     hc_one_take TB_one_take mT_one_take uT_one_take
  exact fn_v (N := ["script", "bag", "turn", "row", "marks", "codes", "places", "place"]) (ps := ["script"]) (k := 9) (g := g_law) x_law.F sc_law fun cdv A outer s H E c =>
    (vs_cons (vs_set c.nd (i := 1) rfl (by first | exact .inl rfl | exact .inr rfl) (ve_call c k__law_bag (by decide) x__law_bag.m x__law_bag.F.kp x__law_bag.b (va_cons (vv 0) va_nil) (vcons_len vnil_len)))
      (vs_cons (vs_for c.calm (ix := [2]) (vi_range1 Z.z_range (va_cons ve_int va_nil) (hl := (vcons_len vnil_len))) (vgd_name (i := 2) c.nd rfl (by first | exact .inl rfl | exact .inr rfl)) (vs_fgtE [2, 3, 4, 5, 6] (vs_cons (vs_set c.nd (i := 3) rfl (by first | exact .inl rfl | exact .inr rfl) (ve_call c k__law_row (by decide) x__law_row.m x__law_row.F.kp x__law_row.b (va_cons (vv 1) (va_cons ve_int (va_cons ve_int va_nil))) (vcons_len (vcons_len (vcons_len vnil_len)))))
      (vs_cons (vs_frz [3] (vs_lcF (vs_setLc c (i := 4) rfl rfl (sw_true rfl rfl rfl (by decide)) (vi_range2 Z.z_range (va_cons ve_int (va_cons (ve_callB c_len Z.z_len (va_cons (vv 3) va_nil)) va_nil)) (hl := (vcons_len (vcons_len vnil_len)))) (blkOk_by (own := [("place", 7)]) (by kernel_rfl)) (fun _ _ _ _ _ => (vgd_name (i := 7) c.nd rfl (by first | exact .inl rfl | exact .inr rfl))) (fun _ _ _ _ _ c => vts_nil) (fun _ _ _ _ _ c => (ve_tup (va_cons (ve_bin o_add (ve_call c k__law_runs (by decide) x__law_runs.m x__law_runs.F.kp x__law_runs.b (va_cons (ve_slice (vv 3) vo_none (vo_some (vv 7))) va_nil) (vcons_len vnil_len)) (ve_call c k__law_runs (by decide) x__law_runs.m x__law_runs.F.kp x__law_runs.b (va_cons (ve_slice (vv 3) (vo_some (vv 7)) vo_none) va_nil) (vcons_len vnil_len))) (va_cons (vv 7) va_nil)))))))
      (vs_cons (vs_frz [3, 4] (vs_if (vt_not (vt_tru (ve_call c k__law_alike (by decide) x__law_alike.m x__law_alike.F.kp x__law_alike.b (va_cons (ve_call c k__law_heard (by decide) x__law_heard.m x__law_heard.F.kp x__law_heard.b (va_cons (vv 3) va_nil) (vcons_len vnil_len)) (va_cons (ve_ite (vt_cmp (o_neF c.hu) (vv 4) (ve_lst va_nil)) (ve_tup (va_cons ve_str (va_cons (ve_callB (c_minE c.calm c.hu) Z.z_min (va_cons (vv 4) va_nil)) va_nil))) (ve_tup (va_cons ve_str va_nil))) va_nil)) (vcons_len (vcons_len vnil_len))))) (vs_one (vs_ret ve_bl)) vs_nil))
      (vs_one (vs_for c.calm (ix := [5]) (vi_seq (ve_lst (va_cons ve_int (va_cons ve_int (va_cons (ve_bin o_add ve_int (ve_call c k__law_take (by decide) x__law_take.m x__law_take.F.kp x__law_take.b (va_cons (vv 1) (va_cons ve_int va_nil)) (vcons_len (vcons_len vnil_len)))) va_nil))))) (vgd_name (i := 5) c.nd rfl (by first | exact .inl rfl | exact .inr rfl)) (vs_fgtE [5, 6] (vs_cons (vs_frz [3, 5] (vs_set c.nd (i := 6) rfl (by first | exact .inl rfl | exact .inr rfl) (ve_call c k__law_places (by decide) x__law_places.m x__law_places.F.kp x__law_places.b (va_cons (vv 3) (va_cons (vv 5) va_nil)) (vcons_len (vcons_len vnil_len)))))
      (vs_one (vs_frz [3, 5, 6] (vs_if (vt_w (vw_or (vt_not (vt_tru (ve_call c k__law_alike (by decide) x__law_alike.m x__law_alike.F.kp x__law_alike.b (va_cons (ve_lst (va_cons (ve_call c k_cut_places (by decide) x_cut_places.m x_cut_places.F.kp x_cut_places.b (va_cons (vv 3) (va_cons (vv 5) va_nil)) (vcons_len (vcons_len vnil_len))) (va_cons (ve_call c k_cuts_needed (by decide) x_cuts_needed.m x_cuts_needed.F.kp x_cuts_needed.b (va_cons (vv 3) (va_cons (vv 5) va_nil)) (vcons_len (vcons_len vnil_len))) va_nil))) (va_cons (ve_lst (va_cons (vv 6) (va_cons (ve_call c k__law_fewest (by decide) x__law_fewest.m x__law_fewest.F.kp x__law_fewest.b (va_cons (vv 3) (va_cons (vv 5) va_nil)) (vcons_len (vcons_len vnil_len))) va_nil))) va_nil)) (vcons_len (vcons_len vnil_len))))) (vw_or1 (vt_cmp (o_neF c.hu) (ve_callB c_len Z.z_len (va_cons (vv 6) va_nil)) (ve_call c k__law_fewest (by decide) x__law_fewest.m x__law_fewest.F.kp x__law_fewest.b (va_cons (vv 3) (va_cons (vv 5) va_nil)) (vcons_len (vcons_len vnil_len))))))) (vs_one (vs_ret ve_bl)) vs_nil))))) (hp := passes_of rfl))))))) (hp := passes_of rfl))
      (vs_one (vs_ret ve_bl))))
end
/-! the head -/
def d__law_alike : He.DefD := ⟨("_law_alike", none), "_law_alike", "_law_alike", defArgs s__law_alike, defBody s__law_alike, defScope s__law_alike, [], []⟩
def d__law_bag : He.DefD := ⟨("_law_bag", none), "_law_bag", "_law_bag", defArgs s__law_bag, defBody s__law_bag, defScope s__law_bag, [], []⟩
def d__law_one_take : He.DefD := ⟨("_law_one_take", none), "_law_one_take", "_law_one_take", defArgs s__law_one_take, defBody s__law_one_take, defScope s__law_one_take, [], []⟩
def d__law_filling : He.DefD := ⟨("_law_filling", none), "_law_filling", "_law_filling", defArgs s__law_filling, defBody s__law_filling, defScope s__law_filling, [], []⟩
def d__law_needed : He.DefD := ⟨("_law_needed", none), "_law_needed", "_law_needed", defArgs s__law_needed, defBody s__law_needed, defScope s__law_needed, [], []⟩
def d__law_runs : He.DefD := ⟨("_law_runs", none), "_law_runs", "_law_runs", defArgs s__law_runs, defBody s__law_runs, defScope s__law_runs, [], []⟩
def d__law_fewest : He.DefD := ⟨("_law_fewest", none), "_law_fewest", "_law_fewest", defArgs s__law_fewest, defBody s__law_fewest, defScope s__law_fewest, [], []⟩
def d_one_take : He.DefD := ⟨("one_take", none), "one_take", "one_take", defArgs s_one_take, defBody s_one_take, defScope s_one_take, [], []⟩
def d_takes_and_left : He.DefD := ⟨("takes_and_left", none), "takes_and_left", "takes_and_left", defArgs s_takes_and_left, defBody s_takes_and_left, defScope s_takes_and_left, [], []⟩
def d_filling : He.DefD := ⟨("filling", none), "filling", "filling", defArgs s_filling, defBody s_filling, defScope s_filling, [], []⟩
def d_runs_needed : He.DefD := ⟨("runs_needed", none), "runs_needed", "runs_needed", defArgs s_runs_needed, defBody s_runs_needed, defScope s_runs_needed, [], []⟩
def d_best_cut : He.DefD := ⟨("best_cut", none), "best_cut", "best_cut", defArgs s_best_cut, defBody s_best_cut, defScope s_best_cut, [], []⟩
def d__law_heard : He.DefD := ⟨("_law_heard", none), "_law_heard", "_law_heard", defArgs s__law_heard, defBody s__law_heard, defScope s__law_heard, [], []⟩
def d__law_places : He.DefD := ⟨("_law_places", none), "_law_places", "_law_places", defArgs s__law_places, defBody s__law_places, defScope s__law_places, [], []⟩
def d__law_take : He.DefD := ⟨("_law_take", none), "_law_take", "_law_take", defArgs s__law_take, defBody s__law_take, defScope s__law_take, [], []⟩
def d__law_row : He.DefD := ⟨("_law_row", none), "_law_row", "_law_row", defArgs s__law_row, defBody s__law_row, defScope s__law_row, [], []⟩
def d_longest_part : He.DefD := ⟨("longest_part", none), "longest_part", "longest_part", defArgs s_longest_part, defBody s_longest_part, defScope s_longest_part, [], []⟩
def d_cut_places : He.DefD := ⟨("cut_places", none), "cut_places", "cut_places", defArgs s_cut_places, defBody s_cut_places, defScope s_cut_places, [], []⟩
def d_cuts_needed : He.DefD := ⟨("cuts_needed", none), "cuts_needed", "cuts_needed", defArgs s_cuts_needed, defBody s_cuts_needed, defScope s_cuts_needed, [], []⟩
def d_law : He.DefD := ⟨("law", none), "law", "law", defArgs s_law, defBody s_law, defScope s_law, [], []⟩
def fn : List He.DefD := [d__law_alike, d__law_bag, d__law_one_take, d__law_filling, d__law_needed, d__law_runs, d__law_fewest, d_one_take, d_takes_and_left, d_filling, d_runs_needed, d_best_cut, d__law_heard, d__law_places, d__law_take, d__law_row, d_longest_part, d_cut_places, d_cuts_needed, d_law]
def fa : List He.Fa := [.glo "_law_alike", .glo "_law_bag", .glo "_law_one_take", .glo "_law_filling", .glo "_law_needed", .glo "_law_runs", .glo "_law_fewest", .glo "one_take", .glo "takes_and_left", .glo "filling", .glo "runs_needed", .glo "best_cut", .glo "_law_heard", .glo "_law_places", .glo "_law_take", .glo "_law_row", .glo "longest_part", .glo "cut_places", .glo "cuts_needed", .glo "law", .free "abs", .free "bool", .free "int", .free "isinstance", .free "len", .free "list", .free "max", .free "min", .free "range", .free "sorted", .free "str", .free "sum", .free "tuple", .free "zip"]
abbrev R : PySem.W.OpenRow := PySem.W.OpenLaw.row PySem.Challenge.rw_yardpasses_k49_cuts_of_rows
abbrev PR : Program := (PySem.Challenge.rw_yardpasses_k49_cuts_of_rows).prog
def sd : List SupD := []
def tq : List (He.Defn × Str) := [(("one_take", none), "one_take.<locals>.<lambda>")]
def tf : List He.Defn := tq.map (·.1)
def exq (K : PySem.W.Frag) : Bool := exnB K "Nothing" && hearB K "Nothing" [] && apartB K ["Nothing"] && true
abbrev hk : PySem.W.Hook := VL.hookV PR.main.file 4 fa fn sd tf exq
def ob (s : PySem.W.SharedT) : VL.AlV := VL.obsVG PR.main.file 4 fa fn sd tf exq (HandSHeadRun.getT s)
theorem ob_eq (s : PySem.W.SharedT) : ob s = hk.obs s.abs := VL.obsVG_eq (HandSHeadRun.getT_eq s)
theorem run (w : World) : HandSHeadRun.RunEq R (PySem.W.view R.prog [27]) hk ob 4000 ("_wall" :: "YardError" :: "Nothing" :: "one_take" :: "takes_and_left" :: "filling" :: "runs_needed" :: "best_cut" :: "longest_part" :: "cut_places" :: "cuts_needed" :: "_law_bag" :: "_law_take" :: "_law_alike" :: "_law_one_take" :: "_law_filling" :: "_law_needed" :: "_law_row" :: "_law_runs" :: "_law_heard" :: "_law_places" :: "_law_fewest" :: []) w := by
  intro os
  kernel_rfl
theorem facts {w : World} {K : PySem.W.Frag} {h : Heap} {mg : Str → Option Value} {f : Addr} (X : K.In h) (G : h.Ns mainGlobals mg) (hfa : mg ("law" : Str) = some (.ref f)) (c : VL.SaysV PR.main.file fa fn sd tf exq h K) :
    ∃ (fd : FuncData) (cs : List (Addr × Addr)) (Tb : List (Addr × Str)), (∀ p ∈ cs, h.get? p.2 = some { cls := .none, data := .fields #[] }) ∧ (∀ p ∈ cs, K.lookup p.2 = none) ∧ (∀ p ∈ cs, PySem.W.CodeHd h p.1 p.2) ∧ (∀ p ∈ Tb, ∃ c ∈ cs, c.2 = p.1) ∧ (∀ (s : Shared) (v : Value), BindsTo s fd ⟨[v], []⟩ [("script", v)]) ∧ ∀ base : Heap, K.In base → base.Ns mainGlobals mg → (∀ p ∈ cs, LamX.TabB base mg p.1 p.2) → FnOk PR w K mg base (L2.CX PR w) 10 f fd ["script"] (spV Tb K mg 1 F_law) := by
  obtain ⟨fd__law_alike, H__law_alike⟩ := c.d.def_ 0 (d := d__law_alike) rfl
  obtain ⟨fd__law_bag, H__law_bag⟩ := c.d.def_ 1 (d := d__law_bag) rfl
  obtain ⟨fd__law_one_take, H__law_one_take⟩ := c.d.def_ 2 (d := d__law_one_take) rfl
  obtain ⟨fd__law_filling, H__law_filling⟩ := c.d.def_ 3 (d := d__law_filling) rfl
  obtain ⟨fd__law_needed, H__law_needed⟩ := c.d.def_ 4 (d := d__law_needed) rfl
  obtain ⟨fd__law_runs, H__law_runs⟩ := c.d.def_ 5 (d := d__law_runs) rfl
  obtain ⟨fd__law_fewest, H__law_fewest⟩ := c.d.def_ 6 (d := d__law_fewest) rfl
  obtain ⟨fd_one_take, H_one_take⟩ := c.d.def_ 7 (d := d_one_take) rfl
  obtain ⟨fd_takes_and_left, H_takes_and_left⟩ := c.d.def_ 8 (d := d_takes_and_left) rfl
  obtain ⟨fd_filling, H_filling⟩ := c.d.def_ 9 (d := d_filling) rfl
  obtain ⟨fd_runs_needed, H_runs_needed⟩ := c.d.def_ 10 (d := d_runs_needed) rfl
  obtain ⟨fd_best_cut, H_best_cut⟩ := c.d.def_ 11 (d := d_best_cut) rfl
  obtain ⟨fd__law_heard, H__law_heard⟩ := c.d.def_ 12 (d := d__law_heard) rfl
  obtain ⟨fd__law_places, H__law_places⟩ := c.d.def_ 13 (d := d__law_places) rfl
  obtain ⟨fd__law_take, H__law_take⟩ := c.d.def_ 14 (d := d__law_take) rfl
  obtain ⟨fd__law_row, H__law_row⟩ := c.d.def_ 15 (d := d__law_row) rfl
  obtain ⟨fd_longest_part, H_longest_part⟩ := c.d.def_ 16 (d := d_longest_part) rfl
  obtain ⟨fd_cut_places, H_cut_places⟩ := c.d.def_ 17 (d := d_cut_places) rfl
  obtain ⟨fd_cuts_needed, H_cuts_needed⟩ := c.d.def_ 18 (d := d_cuts_needed) rfl
  obtain ⟨fd_law, H_law⟩ := c.d.def_ 19 (d := d_law) rfl
  have x__law_alike : Fx K mg "_law_alike" s__law_alike ["found", "due"] _ fd__law_alike := ⟨He5.fun_of H__law_alike, H__law_alike.bindsN (fun _ _ _ _ _ _ us hl => match us, hl with | [_, _], _ => rfl), He.glo_ok X G (c.d.fact 0 (f := .glo "_law_alike") rfl)⟩
  have x__law_bag : Fx K mg "_law_bag" s__law_bag ["script"] _ fd__law_bag := ⟨He5.fun_of H__law_bag, H__law_bag.bindsN (fun _ _ _ _ _ _ us hl => match us, hl with | [_], _ => rfl), He.glo_ok X G (c.d.fact 1 (f := .glo "_law_bag") rfl)⟩
  have x__law_one_take : Fx K mg "_law_one_take" s__law_one_take ["row", "left", "sign"] _ fd__law_one_take := ⟨He5.fun_of H__law_one_take, H__law_one_take.bindsN (fun _ _ _ _ _ _ us hl => match us, hl with | [_, _, _], _ => rfl), He.glo_ok X G (c.d.fact 2 (f := .glo "_law_one_take") rfl)⟩
  have x__law_filling : Fx K mg "_law_filling" s__law_filling ["row", "signs"] _ fd__law_filling := ⟨He5.fun_of H__law_filling, H__law_filling.bindsN (fun _ _ _ _ _ _ us hl => match us, hl with | [_, _], _ => rfl), He.glo_ok X G (c.d.fact 3 (f := .glo "_law_filling") rfl)⟩
  have x__law_needed : Fx K mg "_law_needed" s__law_needed ["row", "signs"] _ fd__law_needed := ⟨He5.fun_of H__law_needed, H__law_needed.bindsN (fun _ _ _ _ _ _ us hl => match us, hl with | [_, _], _ => rfl), He.glo_ok X G (c.d.fact 4 (f := .glo "_law_needed") rfl)⟩
  have x__law_runs : Fx K mg "_law_runs" s__law_runs ["row"] _ fd__law_runs := ⟨He5.fun_of H__law_runs, H__law_runs.bindsN (fun _ _ _ _ _ _ us hl => match us, hl with | [_], _ => rfl), He.glo_ok X G (c.d.fact 5 (f := .glo "_law_runs") rfl)⟩
  have x__law_fewest : Fx K mg "_law_fewest" s__law_fewest ["row", "codes"] _ fd__law_fewest := ⟨He5.fun_of H__law_fewest, H__law_fewest.bindsN (fun _ _ _ _ _ _ us hl => match us, hl with | [_, _], _ => rfl), He.glo_ok X G (c.d.fact 6 (f := .glo "_law_fewest") rfl)⟩
  have x_one_take : Fx K mg "one_take" s_one_take ["row", "left", "sign"] _ fd_one_take := ⟨He5.fun_of H_one_take, H_one_take.bindsN (fun _ _ _ _ _ _ us hl => match us, hl with | [_, _, _], _ => rfl), He.glo_ok X G (c.d.fact 7 (f := .glo "one_take") rfl)⟩
  have x_takes_and_left : Fx K mg "takes_and_left" s_takes_and_left ["row", "signs"] _ fd_takes_and_left := ⟨He5.fun_of H_takes_and_left, H_takes_and_left.bindsN (fun _ _ _ _ _ _ us hl => match us, hl with | [_, _], _ => rfl), He.glo_ok X G (c.d.fact 8 (f := .glo "takes_and_left") rfl)⟩
  have x_filling : Fx K mg "filling" s_filling ["row", "signs"] _ fd_filling := ⟨He5.fun_of H_filling, H_filling.bindsN (fun _ _ _ _ _ _ us hl => match us, hl with | [_, _], _ => rfl), He.glo_ok X G (c.d.fact 9 (f := .glo "filling") rfl)⟩
  have x_runs_needed : Fx K mg "runs_needed" s_runs_needed ["row"] _ fd_runs_needed := ⟨He5.fun_of H_runs_needed, H_runs_needed.bindsN (fun _ _ _ _ _ _ us hl => match us, hl with | [_], _ => rfl), He.glo_ok X G (c.d.fact 10 (f := .glo "runs_needed") rfl)⟩
  have x_best_cut : Fx K mg "best_cut" s_best_cut ["row"] _ fd_best_cut := ⟨He5.fun_of H_best_cut, H_best_cut.bindsN (fun _ _ _ _ _ _ us hl => match us, hl with | [_], _ => rfl), He.glo_ok X G (c.d.fact 11 (f := .glo "best_cut") rfl)⟩
  have x__law_heard : Fx K mg "_law_heard" s__law_heard ["row"] _ fd__law_heard := ⟨He5.fun_of H__law_heard, H__law_heard.bindsN (fun _ _ _ _ _ _ us hl => match us, hl with | [_], _ => rfl), He.glo_ok X G (c.d.fact 12 (f := .glo "_law_heard") rfl)⟩
  have x__law_places : Fx K mg "_law_places" s__law_places ["row", "codes"] _ fd__law_places := ⟨He5.fun_of H__law_places, H__law_places.bindsN (fun _ _ _ _ _ _ us hl => match us, hl with | [_, _], _ => rfl), He.glo_ok X G (c.d.fact 13 (f := .glo "_law_places") rfl)⟩
  have x__law_take : Fx K mg "_law_take" s__law_take ["bag", "many"] _ fd__law_take := ⟨He5.fun_of H__law_take, H__law_take.bindsN (fun _ _ _ _ _ _ us hl => match us, hl with | [_, _], _ => rfl), He.glo_ok X G (c.d.fact 14 (f := .glo "_law_take") rfl)⟩
  have x__law_row : Fx K mg "_law_row" s__law_row ["bag", "most", "classes"] _ fd__law_row := ⟨He5.fun_of H__law_row, H__law_row.bindsN (fun _ _ _ _ _ _ us hl => match us, hl with | [_, _, _], _ => rfl), He.glo_ok X G (c.d.fact 15 (f := .glo "_law_row") rfl)⟩
  have x_longest_part : Fx K mg "longest_part" s_longest_part ["row", "first", "codes"] _ fd_longest_part := ⟨He5.fun_of H_longest_part, H_longest_part.bindsN (fun _ _ _ _ _ _ us hl => match us, hl with | [_, _, _], _ => rfl), He.glo_ok X G (c.d.fact 16 (f := .glo "longest_part") rfl)⟩
  have x_cut_places : Fx K mg "cut_places" s_cut_places ["row", "codes"] _ fd_cut_places := ⟨He5.fun_of H_cut_places, H_cut_places.bindsN (fun _ _ _ _ _ _ us hl => match us, hl with | [_, _], _ => rfl), He.glo_ok X G (c.d.fact 17 (f := .glo "cut_places") rfl)⟩
  have x_cuts_needed : Fx K mg "cuts_needed" s_cuts_needed ["row", "codes"] _ fd_cuts_needed := ⟨He5.fun_of H_cuts_needed, H_cuts_needed.bindsN (fun _ _ _ _ _ _ us hl => match us, hl with | [_, _], _ => rfl), He.glo_ok X G (c.d.fact 18 (f := .glo "cuts_needed") rfl)⟩
  have x_law : Fx K mg "law" s_law ["script"] _ fd_law := ⟨He5.fun_of H_law, H_law.bindsN (fun _ _ _ _ _ _ us hl => match us, hl with | [_], _ => rfl), He.glo_ok X G (c.d.fact 19 (f := .glo "law") rfl)⟩
  have e := hfa.symm.trans x_law.m
  cases e
  have Z : Zs mg := ⟨He.free_ok X G (c.d.fact 20 (f := .free "abs") rfl), He.free_ok X G (c.d.fact 21 (f := .free "bool") rfl), He.free_ok X G (c.d.fact 22 (f := .free "int") rfl), He.free_ok X G (c.d.fact 23 (f := .free "isinstance") rfl), He.free_ok X G (c.d.fact 24 (f := .free "len") rfl), He.free_ok X G (c.d.fact 25 (f := .free "list") rfl), He.free_ok X G (c.d.fact 26 (f := .free "max") rfl), He.free_ok X G (c.d.fact 27 (f := .free "min") rfl), He.free_ok X G (c.d.fact 28 (f := .free "range") rfl), He.free_ok X G (c.d.fact 29 (f := .free "sorted") rfl), He.free_ok X G (c.d.fact 30 (f := .free "str") rfl), He.free_ok X G (c.d.fact 31 (f := .free "sum") rfl), He.free_ok X G (c.d.fact 32 (f := .free "tuple") rfl), He.free_ok X G (c.d.fact 33 (f := .free "zip") rfl)⟩
  have b := FunD.bindsA (ps := ["script"]) H_law fun _ _ _ _ _ _ us hl => match us, hl with | [_], _ => rfl
  obtain ⟨t1, t2, t3⟩ := c.tabs X
  have q0 := c.exq
  unfold exq at q0
  simp only [Bool.and_eq_true] at q0
  obtain ⟨⟨⟨q1, q2⟩, q3⟩, q4⟩ := q0
  have n_Nothing : ExN K mg "Nothing" := exnB_ok X G q1
  have h_Nothing : HearOk K mg "Nothing" [] := hearB_ok X G q2
  have ap__law_heard : ExApart K [(He.ga K "Nothing", "nothing", [])] := apartB_ok (by decide +kernel) q3 (fun x => if x = "Nothing" then ("nothing", []) else ("", []))
  have r_one_take : ((("one_take", none), "one_take.<locals>.<lambda>") : He.Defn × Str) ∈ tq := (List.mem_cons_self)
  exact ⟨fd_law, tf.map (He.cT K), tabsQ K tq, t1, t2, t3, tq_in, fun s v => b s [v] rfl, fun base _ _ T => ok_law Z x_law x__law_alike x__law_bag x__law_one_take x__law_filling x__law_needed x__law_runs x__law_fewest x_one_take x_takes_and_left x_filling x_runs_needed x_best_cut x__law_heard x__law_places x__law_take x__law_row x_longest_part x_cut_places x_cuts_needed  n_Nothing h_Nothing ap__law_heard (codeOf_fd H_one_take) (T _ (tq_cs r_one_take)) (tq_mem r_one_take) (tq_uni c.nd r_one_take)⟩
end Yk49
set_option Elab.async false
set_option linter.all false
set_option maxRecDepth 100000
set_option maxHeartbeats 0
/-! rows joined, plain: how many codes are needed if all signs are 1 -/
namespace Yk48
open PySem PySem.Spec PyProof.Rows L2 VL LB
structure P1 (row : List Int) (k : Nat) (left : List Nat) (th : List (List Nat)) : Prop where
  len : th.length ≤ k
  perm : th.flatten.Perm left
  cls : (th.flatten.map (rN row)).Pairwise (· ≤ ·)
  asc : ∀ t ∈ th, t.Pairwise (· < ·)
abbrev ones (k : Nat) : List Int := List.replicate k (1 : Int)
theorem P1.part {row : List Int} {k : Nat} {left : List Nat} {th : List (List Nat)} (P : P1 row k left th) : PartG row (ones k) left th := by
  refine ⟨by rw [List.length_replicate]; exact P.len, P.perm, P.cls, fun p hp => ?_⟩
  obtain ⟨h1, h2⟩ := List.of_mem_zip (a := p.1) (b := p.2) hp
  rw [List.eq_of_mem_replicate h1]
  unfold dirOk
  rw [if_pos rfl]
  exact P.asc _ h2
theorem P1.of {row : List Int} {k : Nat} {left : List Nat} {th : List (List Nat)} (P : PartG row (ones k) left th) : P1 row k left th := by
  have hl := P.len
  rw [List.length_replicate] at hl
  refine ⟨hl, P.perm, P.cls, fun t ht => ?_⟩
  obtain ⟨i, hi, rfl⟩ := List.mem_iff_getElem.mp ht
  have hz : i < ((ones k).zip th).length := by rw [List.length_zip, List.length_replicate]; omega
  have h := P.dir (((ones k).zip th)[i]) (List.getElem_mem hz)
  rw [List.getElem_zip] at h
  unfold dirOk at h
  dsimp only at h
  rw [List.getElem_replicate, if_pos rfl] at h
  exact h
section
variable {row other : List Int}
theorem few_le : ∀ {ss : List Int} {left : List Nat} {j : Nat}, restG row (ss.take j) left = [] → (fillG row ss left).length ≤ j
  | [], left, j, _ => Nat.zero_le _
  | sg :: ss, left, 0, h => by
    have h : left = [] := h
    subst h
    rw [fill_nil]; exact Nat.le_refl _
  | sg :: ss, left, j + 1, h => by
    rw [List.take_succ_cons, rest_cons] at h
    rw [fill_cons]
    by_cases hl : left = []
    · rw [if_pos hl]; exact Nat.zero_le _
    · rw [if_neg hl] at h ⊢
      exact Nat.succ_le_succ (few_le h)
theorem take_fill : ∀ {ss : List Int} {left : List Nat}, restG row ss left = [] → restG row (ss.take (fillG row ss left).length) left = []
  | [], left, h => h
  | sg :: ss, left, h => by
    rw [rest_cons] at h
    rw [fill_cons]
    by_cases hl : left = []
    · rw [if_pos hl, hl]; exact rest_nil _
    · rw [if_neg hl] at h ⊢
      rw [List.length_cons, List.take_succ_cons, rest_cons, if_neg hl]
      exact take_fill h
theorem fill_len : ∀ {ss : List Int} {left : List Nat}, (fillG row ss left).length ≤ ss.length
  | [], left => Nat.le_refl _
  | sg :: ss, left => by
    rw [fill_cons]
    split
    · exact Nat.zero_le _
    · exact Nat.succ_le_succ fill_len
/-- the codes that a row needs -/
def runR (row : List Int) : Nat := (fillG row (ones row.length) (List.range row.length)).length
theorem all_ones (row : List Int) : restG row (ones row.length) (List.range row.length) = [] := rest_few List.nodup_range (by rw [List.length_range, List.length_replicate]; exact Nat.le_refl _)
theorem run_le {k : Nat} {th : List (List Nat)} (P : P1 row k (List.range row.length) th) : runR row ≤ k := by
  have h := part_fill List.nodup_range P.part
  by_cases hk : k ≤ row.length
  · refine few_le (ss := ones row.length) ?_
    rw [List.take_replicate, Nat.min_eq_left hk]; exact h
  · have := fill_len (row := row) (ss := ones row.length) (left := List.range row.length)
    rw [List.length_replicate] at this
    unfold runR
    omega
theorem run_part (row : List Int) : ∃ th, P1 row (runR row) (List.range row.length) th ∧ th.length = runR row := by
  have h := take_fill (all_ones row)
  have hl := fill_len (row := row) (ss := ones row.length) (left := List.range row.length)
  rw [List.length_replicate] at hl
  rw [List.take_replicate, Nat.min_eq_left hl] at h
  refine ⟨fillG row (ones row.length) (List.range row.length), ?_, rfl⟩
  have P := P1.of (fill_part List.nodup_range (all_ones row))
  exact ⟨Nat.le_refl _, P.perm, P.cls, P.asc⟩
theorem rN_left {w : Nat} (h : w < row.length) : rN (row ++ other) w = rN row w := by
  unfold rN
  rw [List.getD_eq_getElem?_getD, List.getD_eq_getElem?_getD, List.getElem?_append_left h]
theorem rN_right {w : Nat} : rN (row ++ other) (row.length + w) = rN other w := by
  unfold rN
  rw [List.getD_eq_getElem?_getD, List.getD_eq_getElem?_getD, List.getElem?_append_right (by omega), Nat.add_sub_cancel_left]
theorem range_lt (n m : Nat) : (List.range (n + m)).filter (fun w => decide (w < n)) = List.range n := by
  rw [List.range_add, List.filter_append]
  have h1 : (List.range n).filter (fun w => decide (w < n)) = List.range n := List.filter_eq_self.mpr fun w hw => decide_eq_true (List.mem_range.mp hw)
  have h2 : ((List.range m).map (n + ·)).filter (fun w => decide (w < n)) = [] := List.filter_eq_nil_iff.mpr fun w hw => by
    obtain ⟨v, _, rfl⟩ := List.mem_map.mp hw
    simp
  rw [h1, h2, List.append_nil]
theorem range_ge (n m : Nat) : (List.range (n + m)).filter (fun w => !decide (w < n)) = (List.range m).map (n + ·) := by
  rw [List.range_add, List.filter_append]
  have h1 : (List.range n).filter (fun w => !decide (w < n)) = [] := List.filter_eq_nil_iff.mpr fun w hw => by
    have := List.mem_range.mp hw
    simp [this]
  have h2 : ((List.range m).map (n + ·)).filter (fun w => !decide (w < n)) = (List.range m).map (n + ·) := List.filter_eq_self.mpr fun w hw => by
    obtain ⟨v, _, rfl⟩ := List.mem_map.mp hw
    simp
  rw [h1, h2, List.nil_append]
theorem map_sub (n : Nat) (l : List Nat) : (l.map (n + ·)).map (· - n) = l := by
  rw [List.map_map]
  have : ∀ x ∈ l, ((· - n) ∘ (n + ·)) x = id x := fun x _ => Nat.add_sub_cancel_left n x
  rw [List.map_congr_left this, List.map_id]
/-- a beginning needs no more -/
theorem run_left : runR row ≤ runR (row ++ other) := by
  obtain ⟨th, P, _⟩ := run_part (row ++ other)
  refine run_le (th := th.map (List.filter fun w => decide (w < row.length))) ⟨by rw [List.length_map]; exact P.len, ?_, ?_, fun t ht => ?_⟩
  · rw [flatten_filter]
    have h := P.perm.filter fun w => decide (w < row.length)
    rw [List.length_append, range_lt] at h
    exact h
  · rw [flatten_filter]
    have h := List.Pairwise.sublist (List.Sublist.map (rN (row ++ other)) (List.filter_sublist (l := th.flatten) (p := fun w => decide (w < row.length)))) P.cls
    rw [List.map_congr_left (g := rN row) fun w hw => rN_left (of_decide_eq_true (List.mem_filter.mp hw).2)] at h
    exact h
  · obtain ⟨u, hu, rfl⟩ := List.mem_map.mp ht
    exact List.Pairwise.filter _ (P.asc u hu)
/-- an end needs no more -/
theorem run_right : runR other ≤ runR (row ++ other) := by
  obtain ⟨th, P, _⟩ := run_part (row ++ other)
  have hfl : ((th.map (List.filter fun w => !decide (w < row.length))).map (List.map (· - row.length))).flatten = (th.flatten.filter fun w => !decide (w < row.length)).map (· - row.length) := by
    rw [← flatten_filter, List.map_flatten]
  refine run_le (th := (th.map (List.filter fun w => !decide (w < row.length))).map (List.map (· - row.length))) ⟨by rw [List.length_map, List.length_map]; exact P.len, ?_, ?_, fun t ht => ?_⟩
  · rw [hfl]
    have h := (P.perm.filter fun w => !decide (w < row.length)).map (· - row.length)
    rw [List.length_append, range_ge, map_sub] at h
    exact h
  · rw [hfl, List.map_map]
    have h := List.Pairwise.sublist (List.Sublist.map (rN (row ++ other)) (List.filter_sublist (l := th.flatten) (p := fun w => !decide (w < row.length)))) P.cls
    rw [List.map_congr_left (g := rN other ∘ (· - row.length)) fun w hw => by
      have h2 := (List.mem_filter.mp hw).2
      have h3 : ¬ w < row.length := by simpa using h2
      have e : w = row.length + (w - row.length) := by omega
      show rN (row ++ other) w = rN other (w - row.length)
      conv => lhs; rw [e]
      exact rN_right] at h
    exact h
  · obtain ⟨u, hu, rfl⟩ := List.mem_map.mp ht
    obtain ⟨v, hv, rfl⟩ := List.mem_map.mp hu
    refine List.pairwise_map.mpr ((List.Pairwise.filter _ (P.asc v hv)).imp_of_mem fun {a b} ha hb q => ?_)
    have h2 := (List.mem_filter.mp ha).2
    have h3 : ¬ a < row.length := by simpa using h2
    omega
end
end Yk48
set_option Elab.async false
set_option linter.all false
set_option maxRecDepth 100000
set_option maxHeartbeats 0
/-! cuts of rows, plain: as long as they can be, and the fewest -/
namespace Yk49
/-- a part's need, growing with the part -/
structure Gr (f : Nat → Nat → Nat) (c n : Nat) : Prop where
  mono : ∀ {i' i j j'}, i' ≤ i → i ≤ j → j ≤ j' → f i j ≤ f i' j'
  one : ∀ i, f i (i + 1) ≤ c
section
variable {f : Nat → Nat → Nat} {c n : Nat}
def lngW (f : Nat → Nat → Nat) (c n i : Nat) : Nat → Nat → Nat
  | 0, l => l
  | k + 1, l => if l < n ∧ f i (l + 1) ≤ c then lngW f c n i k (l + 1) else l
/-- the place behind the longest part from a place on -/
def long (f : Nat → Nat → Nat) (c n i : Nat) : Nat := lngW f c n i n (i + 1)
theorem lngW_ok {i : Nat} : ∀ (k l : Nat), i + 1 ≤ l → f i l ≤ c → n ≤ l + k → i + 1 ≤ lngW f c n i k l ∧ f i (lngW f c n i k l) ≤ c ∧ (lngW f c n i k l < n → c < f i (lngW f c n i k l + 1)) ∧ (l ≤ n → lngW f c n i k l ≤ n)
  | 0, l, h1, h2, h3 => ⟨h1, h2, fun h => absurd h (by unfold lngW; omega), fun h => h⟩
  | k + 1, l, h1, h2, h3 => by
    unfold lngW
    by_cases h : l < n ∧ f i (l + 1) ≤ c
    · rw [if_pos h]
      obtain ⟨a, b, d, e⟩ := lngW_ok k (l + 1) (by omega) h.2 (by omega)
      exact ⟨a, b, d, fun _ => e (by omega)⟩
    · rw [if_neg h]
      exact ⟨h1, h2, fun hl => Nat.lt_of_not_le fun z => h ⟨hl, z⟩, fun h => h⟩
theorem long_ok (G : Gr f c n) (i : Nat) : i + 1 ≤ long f c n i ∧ f i (long f c n i) ≤ c ∧ (long f c n i < n → c < f i (long f c n i + 1)) ∧ (i < n → long f c n i ≤ n) := by
  obtain ⟨a, b, d, e⟩ := lngW_ok (f := f) (c := c) (n := n) (i := i) n (i + 1) (Nat.le_refl _) (G.one i) (by omega)
  exact ⟨a, b, d, fun h => e (by omega)⟩
/-- where the parts begin -/
def gs (f : Nat → Nat → Nat) (c n : Nat) : Nat → Nat
  | 0 => 0
  | k + 1 => long f c n (gs f c n k)
theorem gs_lt (G : Gr f c n) (k : Nat) : gs f c n k < gs f c n (k + 1) := (long_ok G _).1
theorem gs_mono (G : Gr f c n) : ∀ {k m : Nat}, k < m → gs f c n k < gs f c n m
  | k, 0, h => absurd h (by omega)
  | k, m + 1, h => by
    by_cases e : k = m
    · subst e; exact gs_lt G k
    · exact Nat.lt_trans (gs_mono G (show k < m by omega)) (gs_lt G m)
theorem gs_ge (G : Gr f c n) : ∀ k, k ≤ gs f c n k
  | 0 => Nat.zero_le _
  | k + 1 => by have := gs_ge G k; have := gs_lt G k; omega
def dlF (f : Nat → Nat → Nat) (c n j : Nat) : Nat → Nat → Nat
  | 0, k => k
  | t + 1, k => if j ≤ gs f c n k then k else dlF f c n j t (k + 1)
/-- how many parts a beginning has -/
def D (f : Nat → Nat → Nat) (c n j : Nat) : Nat := dlF f c n j j 0
theorem dlF_ok (G : Gr f c n) {j : Nat} : ∀ (t k : Nat), (∀ k' < k, gs f c n k' < j) → j ≤ k + t → j ≤ gs f c n (dlF f c n j t k) ∧ ∀ k' < dlF f c n j t k, gs f c n k' < j
  | 0, k, h1, h2 => ⟨Nat.le_trans h2 (gs_ge G k), h1⟩
  | t + 1, k, h1, h2 => by
    unfold dlF
    by_cases h : j ≤ gs f c n k
    · rw [if_pos h]; exact ⟨h, h1⟩
    · rw [if_neg h]
      refine dlF_ok G t (k + 1) (fun k' hk => ?_) (by omega)
      by_cases e : k' = k
      · subst e; omega
      · exact h1 k' (by omega)
theorem D_ok (G : Gr f c n) (j : Nat) : j ≤ gs f c n (D f c n j) ∧ ∀ k' < D f c n j, gs f c n k' < j := dlF_ok G j 0 (fun k' h => absurd h (Nat.not_lt_zero _)) (by omega)
theorem D_eq (G : Gr f c n) {j k : Nat} (h1 : j ≤ gs f c n k) (h2 : ∀ k' < k, gs f c n k' < j) : D f c n j = k := by
  obtain ⟨a, b⟩ := D_ok G j
  rcases Nat.lt_trichotomy (D f c n j) k with h | h | h
  · have := h2 _ h; omega
  · exact h
  · have := b _ h; omega
theorem D_gs (G : Gr f c n) (k : Nat) : D f c n (gs f c n k) = k := D_eq G (Nat.le_refl _) fun k' h => gs_mono G h
/-- the part that a place lies in -/
theorem D_pos (G : Gr f c n) {j : Nat} (h : 0 < j) : ∃ r, D f c n j = r + 1 ∧ gs f c n r < j ∧ j ≤ gs f c n (r + 1) := by
  obtain ⟨a, b⟩ := D_ok G j
  cases e : D f c n j with
  | zero =>
    rw [e] at a
    have a : j ≤ 0 := a
    omega
  | succ r =>
    rw [e] at a b
    exact ⟨r, rfl, b r (Nat.lt_succ_self r), a⟩
theorem D_in (G : Gr f c n) {r j : Nat} (h1 : gs f c n r < j) (h2 : j ≤ gs f c n (r + 1)) : D f c n j = r + 1 := D_eq G h2 fun k' h => by
  by_cases e : k' = r
  · subst e; exact h1
  · exact Nat.lt_trans (gs_mono G (show k' < r by omega)) h1
/-- any part ends at the next place at the most -/
theorem D_step (G : Gr f c n) {i j : Nat} (hi : i < j) (hj : j ≤ n) (h : f i j ≤ c) : D f c n j ≤ D f c n i + 1 := by
  obtain ⟨a, _⟩ := D_ok G i
  apply Classical.byContradiction
  intro hn
  obtain ⟨_, b⟩ := D_ok G j
  have h1 := b (D f c n i + 1) (by omega)
  have h1 : long f c n (gs f c n (D f c n i)) < j := h1
  obtain ⟨l1, l2, l3, _⟩ := long_ok G (gs f c n (D f c n i))
  have h2 := l3 (by omega)
  have h3 := G.mono (i' := i) (i := gs f c n (D f c n i)) (j := long f c n (gs f c n (D f c n i)) + 1) (j' := j) a (by omega) (by omega)
  omega
theorem D_best (G : Gr f c n) {j : Nat} (h : 0 < j) (hj : j ≤ n) : ∃ i < j, f i j ≤ c ∧ D f c n i + 1 = D f c n j := by
  obtain ⟨r, e, h1, h2⟩ := D_pos G h
  refine ⟨gs f c n r, h1, ?_, by rw [D_gs G, e]⟩
  obtain ⟨l1, l2, _⟩ := long_ok G (gs f c n r)
  exact Nat.le_trans (G.mono (Nat.le_refl _) (Nat.le_of_lt h1) h2) l2
/-- the cuts up to a place -/
def cutsT (f : Nat → Nat → Nat) (c n e : Nat) : List Nat := (List.range (D f c n e - 1)).map fun k => gs f c n (k + 1)
def frst (f : Nat → Nat → Nat) (c n e : Nat) : Nat := gs f c n (D f c n e - 1)
/-- a place more -/
theorem cut_step (G : Gr f c n) {e : Nat} (he : e < n) : (cutsT f c n (e + 1), frst f c n (e + 1)) = if c < f (frst f c n e) (e + 1) then (cutsT f c n e ++ [e], e) else (cutsT f c n e, frst f c n e) := by
  cases e with
  | zero =>
    have h0 : frst f c n 0 = 0 := rfl
    have h1 : D f c n (0 + 1) = 0 + 1 := D_in G (show gs f c n 0 < 0 + 1 from Nat.zero_lt_succ _) (gs_ge G 1)
    rw [h0, if_neg (by have := G.one 0; omega)]
    unfold cutsT frst
    rw [h1]; rfl
  | succ e =>
    obtain ⟨r, e1, h1, h2⟩ := D_pos G (show 0 < e + 1 by omega)
    have hf : frst f c n (e + 1) = gs f c n r := by unfold frst; rw [e1]; rfl
    have hc : cutsT f c n (e + 1) = (List.range r).map fun k => gs f c n (k + 1) := by unfold cutsT; rw [e1]; rfl
    obtain ⟨l1, l2, l3, _⟩ := long_ok G (gs f c n r)
    by_cases hle : e + 1 + 1 ≤ gs f c n (r + 1)
    · have e2 := D_in G (show gs f c n r < e + 1 + 1 by omega) hle
      have hno : ¬ c < f (frst f c n (e + 1)) (e + 1 + 1) := by
        rw [hf]
        have := G.mono (i' := gs f c n r) (i := gs f c n r) (j := e + 1 + 1) (j' := gs f c n (r + 1)) (Nat.le_refl _) (by omega) hle
        have h4 : f (gs f c n r) (gs f c n (r + 1)) ≤ c := l2
        omega
      rw [if_neg hno, hf, hc]
      unfold cutsT frst
      rw [e2]; rfl
    · have heq : gs f c n (r + 1) = e + 1 := by omega
      have e2 := D_in G (r := r + 1) (j := e + 1 + 1) (by omega) (by have := gs_lt G (r + 1); omega)
      have hyes : c < f (frst f c n (e + 1)) (e + 1 + 1) := by
        rw [hf]
        have h5 : long f c n (gs f c n r) = e + 1 := heq
        rw [h5] at l3
        exact l3 he
      rw [if_pos hyes, hc]
      unfold cutsT frst
      rw [e2]
      show ((List.range (r + 1)).map _, gs f c n (r + 1)) = _
      rw [heq, List.range_succ, List.map_append]
      show ((List.range r).map _ ++ [gs f c n (r + 1)], _) = _
      rw [heq]
/-- all cuts, the program's way -/
theorem cut_all (G : Gr f c n) {k : Nat} (h1 : ∀ k' < k, gs f c n k' < n) (h2 : n ≤ gs f c n k) : D f c n n = k := D_eq G h2 h1
theorem cuts_len {e : Nat} : (cutsT f c n e).length = D f c n e - 1 := by unfold cutsT; rw [List.length_map, List.length_range]
end
/-! of a row -/
open PySem PySem.Spec PyProof.Rows L2 VL LB Yk48
def seg (row : List Int) (i j : Nat) : List Int := (row.drop i).take (j - i)
theorem seg_app {row : List Int} {i j k : Nat} (h1 : i ≤ j) (h2 : j ≤ k) : seg row i k = seg row i j ++ seg row j k := by
  unfold seg
  have e : k - i = (j - i) + (k - j) := by omega
  rw [e, List.take_add, List.drop_drop, show i + (j - i) = j by omega]
theorem seg_len {row : List Int} {i j : Nat} : (seg row i j).length ≤ j - i := by
  unfold seg
  rw [List.length_take]; exact Nat.min_le_left _ _
theorem run_len {row : List Int} : runR row ≤ row.length := by
  have h := fill_len (row := row) (ss := ones row.length) (left := List.range row.length)
  rw [List.length_replicate] at h
  exact h
theorem seg_gr (row : List Int) {c n : Nat} (hc : 1 ≤ c) : Gr (fun i j => runR (seg row i j)) c n where
  mono := fun {i' i j j'} h1 h2 h3 => by
    show runR (seg row i j) ≤ runR (seg row i' j')
    rw [seg_app (row := row) h1 (Nat.le_trans h2 h3), seg_app (row := row) h2 h3]
    exact Nat.le_trans run_left run_right
  one := fun i => by
    show runR (seg row i (i + 1)) ≤ c
    have h1 := run_len (row := seg row i (i + 1))
    have h2 := seg_len (row := row) (i := i) (j := i + 1)
    omega
end Yk49
set_option Elab.async false
set_option linter.all false
set_option maxRecDepth 100000
set_option maxHeartbeats 0
-- %W k49_walk.lean
namespace Yk49
open PySem PySem.Spec PyProof.Rows L2 VL LB Yk48
/-! runs, as long as can be, the cuts: the mirrors -/
section
variable {r row : List Int}
theorem ones_mul {n : Nat} (h : n ≤ 1000) : mulE (.tuple [.int 1]) (.int (n : Int)) = some (.d (tupI (ones n))) := by
  have e : (List.replicate n [PyData.int 1]).flatten = (ones n).map PyData.int := by
    induction n with
    | zero => rfl
    | succ n ih => rw [List.replicate_succ, List.flatten_cons, ih (by omega)]; unfold ones; rw [List.replicate_succ, List.map_cons]; rfl
  rw [mulE_t, if_pos ⟨by simp, by omega, by omega, by show 1 ≤ 1000; decide⟩, Int.toNat_natCast, e]; rfl
theorem ones_1 (n : Nat) : ∀ s ∈ ones n, s = 1 ∨ s = -1 := fun s hs => .inl (List.eq_of_mem_replicate hs)
theorem rn_run {y S : Da} {T : List Da} {n : Int} (hl : lenD [y] = some (.d (.int n))) (hm : mulE (.tuple [.int 1]) (.int n) = some (.d S)) (hf : ∀ s, callF F_filling [.d y, .d S] s = .ok (.d (.tuple T), s)) : F_runs_needed [.d y] = .ok (.d (.int (T.length : Int)), [.d y]) := by
  have l1 : ([.int 1] : List Da).length ≤ 16777216 := by show 1 ≤ _; decide
  refine run_d (st := [.d y]) (s := [.d y]) ?_
  unfold g_runs_needed
  generalize F_filling = m at hf ⊢
  simp! only [m_callF, hl, hm, hf, l1]
theorem runs_at (hl : r.length < 64) (s : VS) : callF F_runs_needed [.d (tupI r)] s = .ok (.d (.int (runR r : Int)), s) := by
  have h := rn_run (y := tupI r) tup_len (ones_mul (by omega)) fun s => callF_2 (pfill_ok (row := r) (n := r.length) (ones_1 _) (fun w hw => ix_row hw) hl tup_len (by rw [List.length_replicate]; omega)) dl
  unfold takD at h
  rw [List.length_map] at h
  exact callF_1 h dl
theorem needed_1 (hl : r.length ≤ 1000) (s : VS) : callF F__law_needed [.d (tupI r), .d (tupI (ones r.length))] s = .ok (.d (.int (runR r : Int)), s) := by
  have h := needed_ok (row := r) (signs := ones r.length) (n := r.length) (fun w hw => ix_row hw) hl tup_len (by rw [List.length_replicate]; exact hl)
  rw [if_pos (all_ones r)] at h
  exact callF_2 h dl
theorem lr_run {y S v : Da} {n : Int} (hl : lenD [y] = some (.d (.int n))) (hm : mulE (.tuple [.int 1]) (.int n) = some (.d S)) (hf : ∀ s, callF F__law_needed [.d y, .d S] s = .ok (.d v, s)) : F__law_runs [.d y] = .ok (.d v, [.d y]) := by
  have l1 : ([.int 1] : List Da).length ≤ 16777216 := by show 1 ≤ _; decide
  refine run_d (st := [.d y]) (s := [.d y]) ?_
  unfold g__law_runs
  generalize F__law_needed = m at hf ⊢
  simp! only [m_callF, hl, hm, hf, l1]
theorem lruns_at (hl : r.length ≤ 1000) (s : VS) : callF F__law_runs [.d (tupI r)] s = .ok (.d (.int (runR r : Int)), s) :=
  callF_1 (lr_run tup_len (ones_mul hl) (needed_1 hl)) dl
/-- row[i:j] -/
theorem sl_seg {i j : Nat} (hi : i ≤ row.length) (hj : j ≤ row.length) : slD (tupI row) (some (i : Int)) (some (j : Int)) = some (.d (tupI (seg row i j))) := by
  unfold tupI seg
  rw [sl_t]
  unfold VL.cutD
  rw [show HT.sIx (row.map PyData.int).length 0 (some (i : Int)) = min i (row.map PyData.int).length from HT.sIx_nat _ 0 i, show HT.sIx (row.map PyData.int).length (row.map PyData.int).length (some (j : Int)) = min j (row.map PyData.int).length from HT.sIx_nat _ _ j, List.length_map, Nat.min_eq_left hi, Nat.min_eq_left hj, List.map_take, List.map_drop]
theorem seg_le {i j : Nat} : (seg row i j).length ≤ row.length := by
  unfold seg
  rw [List.length_take, List.length_drop]
  omega
abbrev fR (row : List Int) : Nat → Nat → Nat := fun i j => runR (seg row i j)
/-! longest_part -/
theorem lp_len {y : Da} {n l : Int} {s : VS} (h0 : s[0]? = some (.d y)) (h3 : s[3]? = some (.d (.int l))) (hl : lenD [y] = some (.d (.int n))) : (VL.vBool (vBin ltD (vVar 3) (vCall lenD (vCons (vVar 0) (vr []))))) s = .ok (decide (l < n), s) := by
  simp! only [h0, h3, hl]
theorem lp_runs {y z : Da} {i l c v : Int} (hs : slD y (some i) (some (l + 1)) = some (.d z)) (hc : ∀ s, callF F_runs_needed [.d z] s = .ok (.d (.int v), s)) : (vBool (vBin leD ((vCallF F_runs_needed ((vCons ((vSl (vVar 0) (vPart (some (vVar 1))) (vPart (some ((vBin addD (vVar 3) (vC (.int 1)))))))) (vr []))))) (vVar 2))) [.d y, .d (.int i), .d (.int c), .d (.int l)] = .ok (decide (v ≤ c), [.d y, .d (.int i), .d (.int c), .d (.int l)]) := by
  generalize F_runs_needed = m at hc ⊢
  simp! only [m_callF, hs, hc]
theorem longest_ok {i c : Nat} (hi : i ≤ row.length) (hr : row.length < 60) : F_longest_part [.d (tupI row), .d (.int (i : Int)), .d (.int (c : Int))] = .ok (.d (.int (long (fR row) c row.length i : Int)), [.d (tupI row), .d (.int (i : Int)), .d (.int (c : Int))]) := by
  have hlen := tup_len (ns := row)
  have loop : ∃ s', longest_part_s1 [.d (tupI row), .d (.int (i : Int)), .d (.int (c : Int)), .d (.int ((i + 1 : Nat) : Int))] = .ok (.nx, s') ∧ s' = [.d (tupI row), .d (.int (i : Int)), .d (.int (c : Int)), .d (.int (long (fR row) c row.length i : Int))] := by
    unfold longest_part_s1 vWhile
    refine while_inv (fun m s => ∃ (l k : Nat), s = [.d (tupI row), .d (.int (i : Int)), .d (.int (c : Int)), .d (.int (l : Int))] ∧ lngW (fR row) c row.length i k l = long (fR row) c row.length i ∧ row.length ≤ l + k ∧ k = m) (fun s' => s' = [.d (tupI row), .d (.int (i : Int)), .d (.int (c : Int)), .d (.int (long (fR row) c row.length i : Int))]) (fun m s hR => ?_) fuel row.length _ (by show _ < 1000000000; omega) ⟨i + 1, row.length, rfl, rfl, by omega, rfl⟩
    obtain ⟨l, k, rfl, h1, h2, rfl⟩ := hR
    have c1 := lp_len (s := [.d (tupI row), .d (.int (i : Int)), .d (.int (c : Int)), .d (.int (l : Int))]) (l := (l : Int)) rfl rfl hlen
    by_cases hl : l < row.length
    · have hs := sl_seg (row := row) (i := i) (j := l + 1) hi (by omega)
      have c2 := lp_runs (y := tupI row) (z := tupI (seg row i (l + 1))) (i := (i : Int)) (l := (l : Int)) (c := (c : Int)) hs (runs_at (by have := seg_le (row := row) (i := i) (j := l + 1); omega))
      have d1 : decide ((l : Int) < (row.length : Int)) = true := decide_eq_true (by omega)
      rw [d1] at c1
      refine ⟨decide ((runR (seg row i (l + 1)) : Int) ≤ (c : Int)), [.d (tupI row), .d (.int (i : Int)), .d (.int (c : Int)), .d (.int (l : Int))], ?_, fun hb => ?_, fun hb => ?_⟩
      · generalize VL.vBool (vBin ltD (vVar 3) (vCall lenD (vCons (vVar 0) (vr [])))) = f1 at c1 ⊢
        generalize (vBool (vBin leD ((vCallF F_runs_needed ((vCons ((vSl (vVar 0) (vPart (some (vVar 1))) (vPart (some ((vBin addD (vVar 3) (vC (.int 1)))))))) (vr []))))) (vVar 2))) = f2 at c2 ⊢
        simp! only [c1, c2]
      · have hb := of_decide_eq_false hb
        cases k with
        | zero => omega
        | succ k =>
          unfold lngW at h1
          rw [if_neg (fun z => hb (by have : runR (seg row i (l + 1)) ≤ c := z.2; omega))] at h1
          rw [← h1]
      · have hb := of_decide_eq_true hb
        cases k with
        | zero => omega
        | succ k =>
          unfold lngW at h1
          rw [if_pos ⟨hl, show runR (seg row i (l + 1)) ≤ c by omega⟩] at h1
          refine ⟨.nx, [.d (tupI row), .d (.int (i : Int)), .d (.int (c : Int)), .d (.int ((l + 1 : Nat) : Int))], k, ?_, .inl rfl, Nat.lt_succ_self k, l + 1, k, rfl, h1, by omega, rfl⟩
          have e : ((l + 1 : Nat) : Int) = (l : Int) + 1 := by omega
          rw [e]
          generalize tupI row = y
          simp! only []
    · have d1 : decide ((l : Int) < (row.length : Int)) = false := decide_eq_false (by omega)
      rw [d1] at c1
      refine ⟨false, [.d (tupI row), .d (.int (i : Int)), .d (.int (c : Int)), .d (.int (l : Int))], ?_, fun _ => ?_, fun hb => by cases hb⟩
      · generalize VL.vBool (vBin ltD (vVar 3) (vCall lenD (vCons (vVar 0) (vr [])))) = f1 at c1 ⊢
        generalize (vBool (vBin leD ((vCallF F_runs_needed ((vCons ((vSl (vVar 0) (vPart (some (vVar 1))) (vPart (some ((vBin addD (vVar 3) (vC (.int 1)))))))) (vr []))))) (vVar 2))) = f2
        simp! only [c1, if_false, Bool.false_eq_true]
      · cases k with
        | zero => rw [← h1]; rfl
        | succ k =>
          unfold lngW at h1
          rw [if_neg fun z => hl z.1] at h1
          rw [← h1]
  obtain ⟨s', h1, rfl⟩ := loop
  refine run_d (st := [.d (tupI row), .d (.int (i : Int)), .d (.int (c : Int)), .un]) (s := [.d (tupI row), .d (.int (i : Int)), .d (.int (c : Int)), .d (.int (long (fR row) c row.length i : Int))]) ?_
  unfold g_longest_part
  refine seq_then (s1 := [.d (tupI row), .d (.int (i : Int)), .d (.int (c : Int)), .d (.int ((i + 1 : Nat) : Int))]) ?_ (seq_then (s1 := [.d (tupI row), .d (.int (i : Int)), .d (.int (c : Int)), .d (.int (long (fR row) c row.length i : Int))]) ?_ ?_)
  · have e : ((i + 1 : Nat) : Int) = (i : Int) + 1 := by omega
    rw [e]
    generalize tupI row = y
    simp! only []
  · simp only [m_frzc, m_frzn, m_frz1, List.getElem?_cons_succ, List.getElem?_cons_zero, fz_d]
    exact h1
  · generalize tupI row = y
    simp! only []
theorem longest_at {i c : Nat} (hi : i ≤ row.length) (hr : row.length < 60) (s : VS) : callF F_longest_part [.d (tupI row), .d (.int (i : Int)), .d (.int (c : Int))] s = .ok (.d (.int (long (fR row) c row.length i : Int)), s) := callF_3 (longest_ok hi hr) dl
/-! cut_places -/
theorem cp_start {y c l : Da} (h : ∀ s, callF F_longest_part [.d y, .d (.int 0), .d c] s = .ok (.d l, s)) : (vPar [2, 3] (vPc ((vList (vr []))) ((vPc ((vCallF F_longest_part ((vCons (vVar 0) ((vCons (vC (.int 0)) ((vCons (vVar 1) (vr []))))))))) (vr []))))) [.d y, .d c, .un, .un] = .ok (.nx, [.d y, .d c, .own (.l []), .d l]) := by
  have l0 : ([] : List Da).length ≤ 16777216 := Nat.zero_le _
  generalize F_longest_part = m at h ⊢
  simp! only [m_callF, h, l0]
theorem cp_turn {y c l l2 : Da} {F : List Da} (h : ∀ s, callF F_longest_part [.d y, .d l, .d c] s = .ok (.d l2, s)) (hF : F.length < 16777216) : (vSeq (vFrz [3] (vDrop ((vMut appendD (vVar 2) ((vCons (vVar 3) (vr []))))))) (vFrz [3] (vAsg ((vCallF F_longest_part ((vCons (vVar 0) ((vCons (vVar 3) ((vCons (vVar 1) (vr []))))))))) (vSet 3)))) [.d y, .d c, .own (.l F), .d l] = .ok (.nx, [.d y, .d c, .own (.l (F ++ [l])), .d l2]) := by
  generalize F_longest_part = m at h ⊢
  simp! only [m_callF, h, app_1, hF]
theorem cuts_ok {c : Nat} (hc : 1 ≤ c) (h0 : 0 < row.length) (hr : row.length < 60) : F_cut_places [.d (tupI row), .d (.int (c : Int))] = .ok (.d (tupN (cutsT (fR row) c row.length row.length)), [.d (tupI row), .d (.int (c : Int))]) := by
  have G : Gr (fR row) c row.length := seg_gr row hc
  have hlen := tup_len (ns := row)
  have gle : ∀ k, (∀ k' < k, gs (fR row) c row.length k' < row.length) → gs (fR row) c row.length k ≤ row.length := fun k h => by
    cases k with
    | zero => exact Nat.zero_le _
    | succ k => exact (long_ok G _).2.2.2 (h k (Nat.lt_succ_self k))
  have loop : ∃ s', cut_places_s1 [.d (tupI row), .d (.int (c : Int)), .own (.l []), .d (.int (gs (fR row) c row.length 1 : Int))] = .ok (.nx, s') ∧ ∃ l, s' = [.d (tupI row), .d (.int (c : Int)), .own (.l ((cutsT (fR row) c row.length row.length).map intN)), .d l] := by
    unfold cut_places_s1 vWhile
    refine while_inv (fun m s => ∃ k, s = [.d (tupI row), .d (.int (c : Int)), .own (.l (((List.range k).map fun k => gs (fR row) c row.length (k + 1)).map intN)), .d (.int (gs (fR row) c row.length (k + 1) : Int))] ∧ (∀ k' < k + 1, gs (fR row) c row.length k' < row.length) ∧ m = row.length + 1 - gs (fR row) c row.length (k + 1)) (fun s' => ∃ l, s' = [.d (tupI row), .d (.int (c : Int)), .own (.l ((cutsT (fR row) c row.length row.length).map intN)), .d l]) (fun m s hR => ?_) fuel (row.length + 1 - gs (fR row) c row.length 1) _ (by show _ < 1000000000; omega) ⟨0, rfl, fun k' h => (show k' = 0 by omega) ▸ h0, rfl⟩
    obtain ⟨k, rfl, h1, rfl⟩ := hR
    have hk : k ≤ gs (fR row) c row.length k := gs_ge G k
    have hkl := h1 k (Nat.lt_succ_self k)
    have c1 := lp_len (s := [.d (tupI row), .d (.int (c : Int)), .own (.l (((List.range k).map fun k => gs (fR row) c row.length (k + 1)).map intN)), .d (.int (gs (fR row) c row.length (k + 1) : Int))]) (l := (gs (fR row) c row.length (k + 1) : Int)) rfl rfl hlen
    refine ⟨_, _, c1, fun hb => ?_, fun hb => ?_⟩
    · have hb := of_decide_eq_false hb
      have e := cut_all G h1 (show row.length ≤ gs (fR row) c row.length (k + 1) by omega)
      refine ⟨.int (gs (fR row) c row.length (k + 1) : Int), ?_⟩
      unfold cutsT
      rw [e]; rfl
    · have hb := of_decide_eq_true hb
      have hlt : gs (fR row) c row.length (k + 1) < row.length := by omega
      have ht := cp_turn (y := tupI row) (c := .int (c : Int)) (l := .int (gs (fR row) c row.length (k + 1) : Int)) (F := ((List.range k).map fun k => gs (fR row) c row.length (k + 1)).map intN) (longest_at (row := row) (i := gs (fR row) c row.length (k + 1)) (c := c) (by omega) hr) (by rw [List.length_map, List.length_map, List.length_range]; omega)
      have hg := gs_lt G (k + 1)
      refine ⟨.nx, _, row.length + 1 - gs (fR row) c row.length (k + 1 + 1), ht, .inl rfl, by omega, k + 1, ?_, fun k' hk' => ?_, rfl⟩
      · rw [List.range_succ, List.map_append, List.map_append]; rfl
      · by_cases e : k' = k + 1
        · subst e; exact hlt
        · exact h1 k' (by omega)
  obtain ⟨s', h1, l, rfl⟩ := loop
  refine run_d (st := [.d (tupI row), .d (.int (c : Int)), .un, .un]) (s := [.d (tupI row), .d (.int (c : Int)), .own (.l ((cutsT (fR row) c row.length row.length).map intN)), .d l]) ?_
  unfold g_cut_places
  refine seq_then (cp_start (longest_at (row := row) (i := 0) (c := c) (by omega) hr)) (seq_then (s1 := [.d (tupI row), .d (.int (c : Int)), .own (.l ((cutsT (fR row) c row.length row.length).map intN)), .d l]) ?_ ?_)
  · simp only [m_frzc, m_frzn, m_frz1, List.getElem?_cons_succ, List.getElem?_cons_zero, fz_d]
    exact h1
  · unfold tupN
    generalize (cutsT (fR row) c row.length row.length).map intN = Z
    generalize tupI row = y
    simp! only []
theorem cn_run {y c : Da} {T : List Nat} (h : ∀ s, callF F_cut_places [.d y, .d c] s = .ok (.d (tupN T), s)) : F_cuts_needed [.d y, .d c] = .ok (.d (.int (T.length : Int)), [.d y, .d c]) := by
  have hl : lenD [tupN T] = some (.d (.int (T.length : Int))) := by unfold tupN; rw [len_t, List.length_map]
  refine run_d (st := [.d y, .d c]) (s := [.d y, .d c]) ?_
  unfold g_cuts_needed
  generalize F_cut_places = m at h ⊢
  generalize tupN T = TT at h hl
  simp! only [m_callF, h, hl]
end
end Yk49
set_option Elab.async false
set_option linter.all false
set_option maxRecDepth 100000
set_option maxHeartbeats 0
-- %W k49_walk.lean
namespace Yk49
open PySem PySem.Spec PyProof.Rows L2 VL LB Yk48
/-! the law's places and fewest -/
theorem rng1_e {k : Nat} : ((k : Int) + 1 - 1).toNat = k := by omega
theorem rng1_2 {k : Nat} (hr : (-1000000000 : Int) ≤ 1 ∧ (1 : Int) ≤ 1000000000 ∧ (-1000000000 : Int) ≤ (k : Int) + 1 ∧ (k : Int) + 1 ≤ 1000000000) : rangeD [.int 1, .int ((k : Int) + 1)] = some (rngD 1 ((k : Int) + 1 - 1).toNat 1) := by rw [range_2, if_pos hr]
theorem rng1_hi {k : Nat} (hk : k ≤ 1000) : (-1000000000 : Int) ≤ 1 ∧ (1 : Int) ≤ 1000000000 ∧ (-1000000000 : Int) ≤ (k : Int) + 1 ∧ (k : Int) + 1 ≤ 1000000000 := by omega
theorem rngD_1 (n : Nat) : rngD 1 n 1 = (List.range n).map fun (i : Nat) => intN (i + 1) := by
  unfold rngD
  refine List.map_congr_left fun i _ => ?_
  show PyData.int _ = PyData.int ((i + 1 : Nat) : Int)
  congr 1
  first | omega | (show (1 : Int) + (i : Int) * 1 = _; omega) | (show (1 : Int) + Int.ofNat i * 1 = _; have : Int.ofNat i = (i : Int) := rfl; rw [this]; omega)
theorem rng1_3 {k : Nat} (hk : k ≤ 1000) : rangeD [.int 1, .int ((k : Int) + 1)] = some ((List.range k).map fun (i : Nat) => intN (i + 1)) := by rw [rng1_2 (rng1_hi hk), rng1_e, rngD_1]
theorem rng0_e {k : Nat} : ((k : Int) - 1).toNat = k - 1 := by omega
theorem rng0_2 {k : Nat} (hr : (-1000000000 : Int) ≤ 1 ∧ (1 : Int) ≤ 1000000000 ∧ (-1000000000 : Int) ≤ (k : Int) ∧ (k : Int) ≤ 1000000000) : rangeD [.int 1, .int (k : Int)] = some (rngD 1 ((k : Int) - 1).toNat 1) := by rw [range_2, if_pos hr]
theorem rng0_hi {k : Nat} (hk : k ≤ 1000) : (-1000000000 : Int) ≤ 1 ∧ (1 : Int) ≤ 1000000000 ∧ (-1000000000 : Int) ≤ (k : Int) ∧ (k : Int) ≤ 1000000000 := by omega
theorem rng0_3 {k : Nat} (hk : k ≤ 1000) : rangeD [.int 1, .int (k : Int)] = some ((List.range (k - 1)).map fun (i : Nat) => intN (i + 1)) := by rw [rng0_2 (rng0_hi hk), rng0_e, rngD_1]
theorem it1_run {f : VM EV} {s : VS} {k1 : Int} {R : List Da} (e2 : rangeD [.int 1, .int k1] = some R) (hF : f s = .ok (.d (.int k1), s)) : (vItRng (vCons (vC (.int 1)) (vCons f (vr [])))) s = .ok ((R, []), s) := by
  have hA : (vCons (vC (.int 1)) (vCons f (vr []))) s = .ok ([.d (.int 1), .d (.int k1)], s) := by simp only [m_cons, m_c, hF, bnd_ok, m_vb, m_vr, st_d]
  generalize vCons (vC (.int 1)) (vCons f (vr [])) = fs at hA ⊢
  rw [i_rng, hA, bnd_ok]
  simp only [m_vb, m_rdc, rd_d, m_rdn, m_vr, bnd_ok, e2, m_opt]
theorem len1_run {s : VS} {y : Da} {k : Int} (h0 : s[0]? = some (.d y)) (hl : lenD [y] = some (.d (.int k))) : (vBin addD (vCall lenD (vCons (vVar 0) (vr []))) (vC (.int 1))) s = .ok (.d (.int (k + 1)), s) := by
  simp! only [h0, hl]
section
variable {row : List Int} {c : Nat}
theorem pl_start {y c : Da} : (vPar [2, 3] (vPc ((vList (vr []))) ((vPc (vC (.int 0)) (vr []))))) [.d y, .d c, .un, .un, .un] = .ok (.nx, [.d y, .d c, .own (.l []), .d (.int 0), .un]) := by
  have l0 : ([] : List Da).length ≤ 16777216 := Nat.zero_le _
  simp! only [l0]
theorem pl_turn {y z : Da} {F : List Da} {fs c v e1 : Int} (hs : slD y (some fs) (some e1) = some (.d z)) (hc : ∀ s, callF F__law_runs [.d z] s = .ok (.d (.int v), s)) (hF : F.length < 16777216) :
    (vFgtE [4] (vFrz [3, 4] law_places_s1)) [.d y, .d (.int c), .own (.l F), .d (.int fs), .d (.int e1)] = .ok (.nx, [.d y, .d (.int c), .own (.l (if c < v then F ++ [.int (e1 - 1)] else F)), .d (.int (if c < v then e1 - 1 else fs)), .un]) := by
  unfold law_places_s1
  generalize F__law_runs = m at hc ⊢
  by_cases h : c < v
  · have d : decide (c < v) = true := decide_eq_true h
    rw [if_pos h, if_pos h]
    simp! only [m_callF, hs, hc, d, app_1, hF]
  · have d : decide (c < v) = false := decide_eq_false h
    rw [if_neg h, if_neg h]
    simp! only [m_callF, hs, hc, d, if_false, Bool.false_eq_true]
theorem places_ok (hc : 1 ≤ c) (hr : row.length < 60) : F__law_places [.d (tupI row), .d (.int (c : Int))] = .ok (.d (tupN (cutsT (fR row) c row.length row.length)), [.d (tupI row), .d (.int (c : Int))]) := by
  have G : Gr (fR row) c row.length := seg_gr row hc
  have hlen := tup_len (ns := row)
  have hfold : (List.range row.length).foldl (fun (_ x : Nat) => x + 1) 0 = row.length := by
    cases row.length with
    | zero => rfl
    | succ q => rw [List.range_succ, List.foldl_append]; rfl
  have fle : ∀ e, e ≤ row.length → frst (fR row) c row.length e ≤ row.length := fun e he => by
    unfold frst
    cases e with
    | zero => exact Nat.zero_le _
    | succ e =>
      obtain ⟨r, e1, h1, _⟩ := D_pos G (show 0 < e + 1 by omega)
      rw [e1]
      show gs (fR row) c row.length r ≤ _
      omega
  have cle : ∀ e, (cutsT (fR row) c row.length e).length ≤ e := fun e => by
    rw [cuts_len]
    cases e with
    | zero => exact Nat.zero_le _
    | succ e =>
      obtain ⟨r, e1, h1, _⟩ := D_pos G (show 0 < e + 1 by omega)
      have := gs_ge G r
      omega
  have loop : law_places_s2 [.d (tupI row), .d (.int (c : Int)), .own (.l []), .d (.int 0), .un] = .ok (.nx, [.d (tupI row), .d (.int (c : Int)), .own (.l ((cutsT (fR row) c row.length row.length).map intN)), .d (.int (frst (fR row) c row.length row.length : Int)), .un]) := by
    unfold law_places_s2
    have h := for_fold (enc := fun (i : Nat) => intN (i + 1)) (L := []) (St := fun (e : Nat) => [.d (tupI row), .d (.int (c : Int)), .own (.l ((cutsT (fR row) c row.length e).map intN)), .d (.int (frst (fR row) c row.length e : Int)), .un]) (f := fun (_ x : Nat) => x + 1)
      (gt := vSetD 4) (g := (vFgtE [4] (vFrz [3, 4] law_places_s1))) (fi := (vItRng ((vCons (vC (.int 1)) ((vCons ((vBin addD ((vCall lenD ((vCons (vVar 0) (vr []))))) (vC (.int 1)))) (vr []))))))) (s := [.d (tupI row), .d (.int (c : Int)), .own (.l []), .d (.int 0), .un])
      (fun xs e => xs = List.range' e (row.length - e)) (fun x xs e he => by
        have hk0 : 0 < row.length - e := by
          have := congrArg List.length he
          rw [List.length_cons, List.length_range'] at this; omega
        obtain ⟨m, hm⟩ : ∃ m, row.length - e = m + 1 := ⟨row.length - e - 1, by omega⟩
        rw [hm, List.range'_succ] at he
        obtain ⟨rfl, rfl⟩ := List.cons.inj he
        refine ⟨[.d (tupI row), .d (.int (c : Int)), .own (.l ((cutsT (fR row) c row.length x).map intN)), .d (.int (frst (fR row) c row.length x : Int)), .d (intN (x + 1))], .nx, ?_, ?_, .inl rfl, ?_⟩
        · generalize tupI row = y
          generalize intN (x + 1) = z
          simp! only []
        · have hs := sl_seg (row := row) (i := frst (fR row) c row.length x) (j := x + 1) (fle x (by omega)) (by omega)
          have ht := pl_turn (y := tupI row) (F := (cutsT (fR row) c row.length x).map intN) (c := (c : Int)) hs (lruns_at (by have := seg_le (row := row) (i := frst (fR row) c row.length x) (j := x + 1); omega)) (by rw [List.length_map]; have := cle x; omega)
          have hst := cut_step G (e := x) (by omega)
          refine Eq.trans ht ?_
          have hd : ((c : Int) < (runR (seg row (frst (fR row) c row.length x) (x + 1)) : Int)) ↔ c < fR row (frst (fR row) c row.length x) (x + 1) := by
            show _ ↔ c < runR _
            omega
          by_cases hcc : c < fR row (frst (fR row) c row.length x) (x + 1)
          · rw [if_pos hcc] at hst
            rw [if_pos (hd.mpr hcc), if_pos (hd.mpr hcc), (Prod.mk.inj hst).1, (Prod.mk.inj hst).2, List.map_append, show (((x + 1 : Nat) : Int) - 1) = (x : Int) by omega]
            rfl
          · rw [if_neg hcc] at hst
            rw [if_neg (fun z => hcc (hd.mp z)), if_neg (fun z => hcc (hd.mp z)), (Prod.mk.inj hst).1, (Prod.mk.inj hst).2]
        · have : m = row.length - (x + 1) := by omega
          rw [this]) (xs := List.range row.length) (a := 0) (it1_run (rng1_3 (by omega)) (len1_run rfl hlen)) (by rw [Nat.sub_zero, List.range_eq_range'])
    rw [unl_n, hfold] at h
    exact h
  refine run_d (st := [.d (tupI row), .d (.int (c : Int)), .un, .un, .un]) (s := [.d (tupI row), .d (.int (c : Int)), .own (.l ((cutsT (fR row) c row.length row.length).map intN)), .d (.int (frst (fR row) c row.length row.length : Int)), .un]) ?_
  unfold g__law_places
  refine seq_then pl_start (seq_then loop ?_)
  unfold tupN
  generalize (cutsT (fR row) c row.length row.length).map intN = Z
  generalize tupI row = y
  simp! only []
/-! fewest -/
theorem rng_n {k : Nat} (hk : k ≤ 1000) : rangeD [intN k] = some ((List.range k).map intN) := by
  have hr : (-1000000000 : Int) ≤ (k : Int) ∧ (k : Int) ≤ 1000000000 := by omega
  show rangeD [.int (k : Int)] = _
  rw [range_1, if_pos hr, Int.toNat_natCast, rngD_map]; rfl
theorem itn_run {s : VS} {z : Da} {R : List Da} (e2 : rangeD [z] = some R) (h3 : s[3]? = some (.d z)) : (vItRng (vCons (vVar 3) (vr []))) s = .ok ((R, []), s) := by
  have hA : (vCons (vVar 3) (vr [])) s = .ok ([.d z], s) := by simp only [m_cons, m_var, h3, var_d, bnd_ok, m_vb, m_vr, st_d]
  generalize vCons (vVar 3) (vr []) = fs at hA ⊢
  rw [i_rng, hA, bnd_ok]
  simp only [m_vb, m_rdc, rd_d, m_rdn, m_vr, bnd_ok, e2, m_opt]
def fwT (row : List Int) (c e : Nat) : List Da := (List.range (e + 1)).map fun i => .int (D (fR row) c row.length i : Int)
theorem fw_lc {e : Nat} (he : e < row.length) (hr : row.length < 60) :
    (vLcF [4] (vItRng ((vCons (vVar 3) (vr [])))) (vSetD 4) (vBool (vBin leD ((vCallF F__law_runs ((vCons ((vSl (vVar 0) (vPart (some (vVar 4))) (vPart (some (vVar 3))))) (vr []))))) (vVar 1))) ((vBin addD ((vBin ixD (vVar 2) (vVar 4))) (vC (.int 1))))) [.d (tupI row), .d (.int (c : Int)), .own (.l (fwT row c e)), .d (intN (e + 1)), .un] = .ok (.own (.l (((List.range (e + 1)).filter fun i => decide (fR row i (e + 1) ≤ c)).map fun i => .int ((D (fR row) c row.length i : Int) + 1))), [.d (tupI row), .d (.int (c : Int)), .own (.l (fwT row c e)), .d (intN (e + 1)), .un]) := by
  refine lc_of (ix := [4]) (fi := (vItRng ((vCons (vVar 3) (vr []))))) (gt := vSetD 4) (tt := (vBool (vBin leD ((vCallF F__law_runs ((vCons ((vSl (vVar 0) (vPart (some (vVar 4))) (vPart (some (vVar 3))))) (vr []))))) (vVar 1)))) (te := (vBin addD (vBin ixD (vVar 2) (vVar 4)) (vC (.int 1)))) (s := [.d (tupI row), .d (.int (c : Int)), .own (.l (fwT row c e)), .d (intN (e + 1)), .un]) (enc := intN) (xs := List.range (e + 1)) (L := []) (base := [.d (tupI row), .d (.int (c : Int)), .own (.l (fwT row c e)), .d (intN (e + 1)), .un]) (s1 := [.d (tupI row), .d (.int (c : Int)), .own (.l (fwT row c e)), .d (intN (e + 1)), .un]) (p := fun i => decide (fR row i (e + 1) ≤ c)) (h := fun i => .int ((D (fR row) c row.length i : Int) + 1)) ?_ rfl rfl
    (fun i hi => ⟨[.d (tupI row), .d (.int (c : Int)), .own (.l (fwT row c e)), .d (intN (e + 1)), .d (intN i)], [.d (tupI row), .d (.int (c : Int)), .own (.l (fwT row c e)), .d (intN (e + 1)), .d (intN i)], ?_, ?_, fun _ => ⟨rfl, rfl⟩, fun _ => ⟨.d (.int ((D (fR row) c row.length i : Int) + 1)), [.d (tupI row), .d (.int (c : Int)), .own (.l (fwT row c e)), .d (intN (e + 1)), .d (intN i)], ?_, rfl, rfl, rfl⟩⟩) (by rw [List.length_range]; omega)
  · exact itn_run (rng_n (by omega)) rfl
  · generalize tupI row = y
    generalize intN (e + 1) = z
    simp! only []
  · have hi2 := List.mem_range.mp hi
    have hs : slD (tupI row) (some (Int.ofNat i)) (some (Int.ofNat (e + 1))) = some (.d (tupI (seg row i (e + 1)))) := sl_seg (by omega) (by omega)
    have hc := lruns_at (r := seg row i (e + 1)) (by have := seg_le (row := row) (i := i) (j := e + 1); omega)
    have d : decide (((runR (seg row i (e + 1)) : Nat) : Int) ≤ (c : Int)) = decide (fR row i (e + 1) ≤ c) := decide_eq_decide.mpr (by show _ ↔ runR _ ≤ c; omega)
    rw [← d]
    unfold intN
    generalize F__law_runs = m at hc ⊢
    generalize tupI (seg row i (e + 1)) = z at hs hc
    generalize tupI row = y at hs ⊢
    generalize fwT row c e = T
    simp! only [m_callF, hs, hc]
  · have hi2 := List.mem_range.mp hi
    have e1 := at_getE (enc := fun i => PyData.int (D (fR row) c row.length i : Int)) (xs := List.range (e + 1)) (w := i) (dflt := 0) (by rw [List.length_range]; exact hi2)
    have e2 : (List.range (e + 1)).getD i 0 = i := by rw [List.getD_eq_getElem?_getD, List.getElem?_range hi2]; rfl
    rw [e2] at e1
    have e1 : atI (fwT row c e) (Int.ofNat i) = some (.int (D (fR row) c row.length i : Int)) := e1
    unfold intN
    generalize tupI row = y
    generalize fwT row c e = T at e1 ⊢
    simp! only [e1]
theorem min_D (hc : 1 ≤ c) {e : Nat} (he : e < row.length) : minD [.list (((List.range (e + 1)).filter fun i => decide (fR row i (e + 1) ≤ c)).map fun i => PyData.int ((D (fR row) c row.length i : Int) + 1))] = some (.d (.int (D (fR row) c row.length (e + 1) : Int))) := by
  have G : Gr (fR row) c row.length := seg_gr row hc
  have hm : (((List.range (e + 1)).filter fun i => decide (fR row i (e + 1) ≤ c)).map fun i => PyData.int ((D (fR row) c row.length i : Int) + 1)) = (((List.range (e + 1)).filter fun i => decide (fR row i (e + 1) ≤ c)).map fun i => ((D (fR row) c row.length i : Int) + 1)).map PyData.int := by rw [List.map_map]; rfl
  have hle : ∀ z ∈ ((List.range (e + 1)).filter fun i => decide (fR row i (e + 1) ≤ c)).map fun i => ((D (fR row) c row.length i : Int) + 1), (D (fR row) c row.length (e + 1) : Int) ≤ z := fun z hz => by
    obtain ⟨i, hi, rfl⟩ := List.mem_map.mp hz
    obtain ⟨h1, h2⟩ := List.mem_filter.mp hi
    have := D_step G (List.mem_range.mp h1) (by omega) (of_decide_eq_true h2)
    omega
  have hin : (D (fR row) c row.length (e + 1) : Int) ∈ ((List.range (e + 1)).filter fun i => decide (fR row i (e + 1) ≤ c)).map fun i => ((D (fR row) c row.length i : Int) + 1) := by
    obtain ⟨i, h1, h2, h3⟩ := D_best G (j := e + 1) (by omega) (by omega)
    exact List.mem_map.mpr ⟨i, List.mem_filter.mpr ⟨List.mem_range.mpr h1, decide_eq_true h2⟩, by omega⟩
  rw [hm]
  generalize ((List.range (e + 1)).filter fun i => decide (fR row i (e + 1) ≤ c)).map (fun i => ((D (fR row) c row.length i : Int) + 1)) = Z at hle hin
  cases Z with
  | nil => cases hin
  | cons z Z =>
    obtain ⟨k1, k2, k3⟩ := minI_ok Z z
    show (ints? ((z :: Z).map PyData.int)).bind _ = _
    rw [ints_ok]
    show some (EV.d (.int (minI z Z))) = _
    have a1 : minI z Z ∈ z :: Z := by
      rcases k1 with k1 | k1
      · rw [k1]; exact List.mem_cons_self
      · exact List.mem_cons_of_mem _ k1
    have a2 := hle _ a1
    have a3 : minI z Z ≤ (D (fR row) c row.length (e + 1) : Int) := by
      rcases List.mem_cons.mp hin with h | h
      · rw [h]; exact k2
      · exact k3 _ h
    rw [show minI z Z = (D (fR row) c row.length (e + 1) : Int) by omega]
theorem fw_turn {y cd ed : Da} {F Z : List Da} {v : Da} (lc : (vLcF [4] (vItRng ((vCons (vVar 3) (vr [])))) (vSetD 4) (vBool (vBin leD ((vCallF F__law_runs ((vCons ((vSl (vVar 0) (vPart (some (vVar 4))) (vPart (some (vVar 3))))) (vr []))))) (vVar 1))) ((vBin addD ((vBin ixD (vVar 2) (vVar 4))) (vC (.int 1))))) [.d y, .d cd, .own (.l F), .d ed, .un] = .ok (.own (.l Z), [.d y, .d cd, .own (.l F), .d ed, .un])) (hm : minD [.list Z] = some (.d v)) (hF : F.length < 16777216) :
    (vFgtE [3] (vFrz [3] (vDrop ((vMut appendD (vVar 2) ((vCons ((vCall minD ((vCons ((vLcF [4] (vItRng ((vCons (vVar 3) (vr [])))) (vSetD 4) (vBool (vBin leD ((vCallF F__law_runs ((vCons ((vSl (vVar 0) (vPart (some (vVar 4))) (vPart (some (vVar 3))))) (vr []))))) (vVar 1))) ((vBin addD ((vBin ixD (vVar 2) (vVar 4))) (vC (.int 1)))))) (vr []))))) (vr [])))))))) [.d y, .d cd, .own (.l F), .d ed, .un] = .ok (.nx, [.d y, .d cd, .own (.l (F ++ [v])), .un, .un]) := by
  generalize (vLcF [4] (vItRng ((vCons (vVar 3) (vr [])))) (vSetD 4) (vBool (vBin leD ((vCallF F__law_runs ((vCons ((vSl (vVar 0) (vPart (some (vVar 4))) (vPart (some (vVar 3))))) (vr []))))) (vVar 1))) ((vBin addD ((vBin ixD (vVar 2) (vVar 4))) (vC (.int 1))))) = f at lc ⊢
  simp! only [lc, hm, app_1, hF]
theorem fewest_ok (hc : 1 ≤ c) (hr : row.length < 60) : F__law_fewest [.d (tupI row), .d (.int (c : Int))] = .ok (.d (.int ((D (fR row) c row.length row.length : Int) - 1)), [.d (tupI row), .d (.int (c : Int))]) := by
  have hlen := tup_len (ns := row)
  have hfold : (List.range row.length).foldl (fun (_ x : Nat) => x + 1) 0 = row.length := by
    cases row.length with
    | zero => rfl
    | succ q => rw [List.range_succ, List.foldl_append]; rfl
  have hsucc : ∀ e, fwT row c (e + 1) = fwT row c e ++ [.int (D (fR row) c row.length (e + 1) : Int)] := fun e => by
    unfold fwT
    rw [List.range_succ (n := e + 1), List.map_append]; rfl
  have loop : law_fewest_s1 [.d (tupI row), .d (.int (c : Int)), .own (.l (fwT row c 0)), .un, .un] = .ok (.nx, [.d (tupI row), .d (.int (c : Int)), .own (.l (fwT row c row.length)), .un, .un]) := by
    unfold law_fewest_s1
    have h := for_fold (enc := fun (i : Nat) => intN (i + 1)) (L := []) (St := fun (e : Nat) => [.d (tupI row), .d (.int (c : Int)), .own (.l (fwT row c e)), .un, .un]) (f := fun (_ x : Nat) => x + 1)
      (gt := vSetD 3) (g := (vFgtE [3] (vFrz [3] (vDrop ((vMut appendD (vVar 2) ((vCons ((vCall minD ((vCons ((vLcF [4] (vItRng ((vCons (vVar 3) (vr [])))) (vSetD 4) (vBool (vBin leD ((vCallF F__law_runs ((vCons ((vSl (vVar 0) (vPart (some (vVar 4))) (vPart (some (vVar 3))))) (vr []))))) (vVar 1))) ((vBin addD ((vBin ixD (vVar 2) (vVar 4))) (vC (.int 1)))))) (vr []))))) (vr []))))))))) (fi := (vItRng ((vCons (vC (.int 1)) ((vCons ((vBin addD ((vCall lenD ((vCons (vVar 0) (vr []))))) (vC (.int 1)))) (vr []))))))) (s := [.d (tupI row), .d (.int (c : Int)), .own (.l (fwT row c 0)), .un, .un])
      (fun xs e => xs = List.range' e (row.length - e)) (fun x xs e he => by
        have hk0 : 0 < row.length - e := by
          have := congrArg List.length he
          rw [List.length_cons, List.length_range'] at this; omega
        obtain ⟨m, hm⟩ : ∃ m, row.length - e = m + 1 := ⟨row.length - e - 1, by omega⟩
        rw [hm, List.range'_succ] at he
        obtain ⟨rfl, rfl⟩ := List.cons.inj he
        refine ⟨[.d (tupI row), .d (.int (c : Int)), .own (.l (fwT row c x)), .d (intN (x + 1)), .un], .nx, ?_, ?_, .inl rfl, ?_⟩
        · generalize tupI row = y
          generalize intN (x + 1) = z
          simp! only []
        · rw [hsucc]
          exact fw_turn (fw_lc (c := c) (by omega) hr) (min_D hc (by omega)) (by unfold fwT; rw [List.length_map, List.length_range]; omega)
        · have : m = row.length - (x + 1) := by omega
          rw [this]) (xs := List.range row.length) (a := 0) (it1_run (rng1_3 (by omega)) (len1_run rfl hlen)) (by rw [Nat.sub_zero, List.range_eq_range'])
    rw [unl_n, hfold] at h
    exact h
  have hlast : atI (fwT row c row.length) (-1) = some (.int (D (fR row) c row.length row.length : Int)) := by
    unfold fwT
    rw [List.range_succ]
    exact at_lastE (enc := fun i => PyData.int (D (fR row) c row.length i : Int)) (xs := List.range row.length) (x := row.length)
  refine run_d (st := [.d (tupI row), .d (.int (c : Int)), .un, .un, .un]) (s := [.d (tupI row), .d (.int (c : Int)), .own (.l (fwT row c row.length)), .un, .un]) ?_
  unfold g__law_fewest
  refine seq_then (s1 := [.d (tupI row), .d (.int (c : Int)), .own (.l (fwT row c 0)), .un, .un]) ?_ (seq_then loop ?_)
  · have l1 : ([.int 0] : List Da).length ≤ 16777216 := by show 1 ≤ _; decide
    show _ = Except.ok (Ctl.nx, [SV.d (tupI row), .d (.int (c : Int)), .own (.l [.int 0]), .un, .un])
    generalize tupI row = y
    simp! only [l1]
  · have e : negD (.int 1) = some (.d (.int (-1))) := rfl
    generalize fwT row c row.length = T at hlast ⊢
    generalize tupI row = y
    simp! only [e, hlast]
end
end Yk49
set_option Elab.async false
set_option linter.all false
set_option maxRecDepth 100000
set_option maxHeartbeats 0
-- %N 8
-- %W k49_walk.lean
namespace Yk49
open PySem PySem.Spec PyProof.Rows L2 VL LB Yk48
/-! the best cut -/
/-- the least of a list -/
def lstMin : List (List Int) → Da
  | [] => .none
  | l :: ls => tupI (minT l ls)
theorem tis_tups : ∀ {L : List (List Int)}, (∀ l ∈ L, l ≠ []) → tis? (L.map tupI) = some L
  | [], _ => rfl
  | [] :: L, h => absurd rfl (h [] List.mem_cons_self)
  | (x :: l) :: L, h => by
    have ih := tis_tups (L := L) fun l hl => h l (List.mem_cons_of_mem _ hl)
    rw [List.map_cons]
    unfold tupI tis?
    rw [ints_ok]
    dsimp only
    have : L.map (fun ns => PyData.tuple (ns.map PyData.int)) = L.map tupI := rfl
    first | rw [this, ih]; rfl | (show (tis? (L.map tupI)).map _ = _; rw [ih]; rfl)
theorem min_tups {L : List (List Int)} (h : ∀ l ∈ L, l ≠ []) (h0 : L ≠ []) : minE [.list (L.map tupI)] = some (.d (lstMin L)) := by
  have e := tis_tups h
  cases L with
  | nil => exact absurd rfl h0
  | cons l ls =>
    have h1 : minD [.list ((l :: ls).map tupI)] = none := by
      cases l with
      | nil => exact absurd rfl (h [] List.mem_cons_self)
      | cons x l => rfl
    unfold minE
    rw [h1]
    show (tis? ((l :: ls).map tupI)).bind _ = _
    rw [e]; rfl
theorem minT_ok : ∀ (ls : List (List Int)) (l : List Int), minT l ls ∈ l :: ls ∧ ∀ x ∈ l :: ls, HT.lexLt x (minT l ls) = false
  | [], l => ⟨List.mem_cons_self, fun x hx => by
    rcases List.mem_cons.mp hx with rfl | hx
    · exact lex_irr _
    · cases hx⟩
  | y :: ls, l => by
    unfold minT
    rw [List.foldl_cons]
    by_cases h : HT.lexLt y l = true
    · rw [if_pos h]
      obtain ⟨i1, i2⟩ := minT_ok ls y
      refine ⟨List.mem_cons_of_mem _ i1, fun x hx => ?_⟩
      rcases List.mem_cons.mp hx with rfl | hx
      · exact NtL.lex_tr _ _ _ (i2 y List.mem_cons_self) (NtL.lex_asym _ _ h)
      · exact i2 x hx
    · rw [if_neg h]
      have h' : HT.lexLt y l = false := by cases q : HT.lexLt y l with
        | true => exact absurd q h
        | false => rfl
      obtain ⟨i1, i2⟩ := minT_ok ls l
      refine ⟨?_, fun x hx => ?_⟩
      · rcases List.mem_cons.mp i1 with e | e
        · unfold minT at e; rw [e]; exact List.mem_cons_self
        · exact List.mem_cons_of_mem _ (List.mem_cons_of_mem _ e)
      · rcases List.mem_cons.mp hx with rfl | hx
        · exact i2 _ List.mem_cons_self
        · rcases List.mem_cons.mp hx with rfl | hx
          · exact NtL.lex_tr _ _ _ (i2 l List.mem_cons_self) h'
          · exact i2 x (List.mem_cons_of_mem _ hx)
theorem lst_good {k : Nat} {L : List (List Int)} (h : ∀ l ∈ L, l.length ≤ k) (hk : k ≤ 1000) : GoodD (lstMin L) ∧ nodesD (lstMin L) ≤ 2000 := by
  cases L with
  | nil => exact ⟨⟨1, rfl⟩, by show 1 ≤ _; decide⟩
  | cons l ls =>
    refine ⟨good_tupI _, ?_⟩
    show nodesD (tupI (minT l ls)) ≤ _
    rw [nodes_tupI]
    have := h _ (minT_ok ls l).1
    omega
section
variable {row : List Int}
def mkP (row : List Int) (i : Nat) : List Int := [(runR (row.take (i + 1)) : Int) + (runR (row.drop (i + 1)) : Int), ((i + 1 : Nat) : Int)]
def mkI (row : List Int) : List (List Int) := (List.range (row.length - 1)).map (mkP row)
theorem mk_ne : ∀ l ∈ mkI row, l ≠ [] := fun l hl => by
  obtain ⟨i, _, rfl⟩ := List.mem_map.mp hl
  exact List.cons_ne_nil _ _
theorem mk_2 : ∀ l ∈ mkI row, l.length ≤ 2 := fun l hl => by
  obtain ⟨i, _, rfl⟩ := List.mem_map.mp hl
  exact Nat.le_refl _
theorem sl_to {k : Nat} : slD (tupI row) none (some (Int.ofNat k)) = some (.d (tupI (row.take k))) := by
  unfold tupI
  rw [sl_t, cut_to (by show (0 : Int) ≤ (k : Int); omega), List.map_take]; rfl
theorem sl_from {k : Nat} : slD (tupI row) (some (Int.ofNat k)) none = some (.d (tupI (row.drop k))) := by
  unfold tupI
  rw [sl_t, cut_from (by show (0 : Int) ≤ (k : Int); omega), List.map_drop]; rfl
theorem len0_run {s : VS} {k : Nat} {y : Da} {n : Int} (h0 : s[k]? = some (.d y)) (hl : lenD [y] = some (.d (.int n))) : (vCall lenD (vCons (vVar k) (vr []))) s = .ok (.d (.int n), s) := by
  simp! only [h0, hl]
theorem bc_te {y p q : Da} {k a b : Int} (h1 : slD y none (some k) = some (.d p)) (h2 : slD y (some k) none = some (.d q)) (c1 : ∀ s, callF F_runs_needed [.d p] s = .ok (.d (.int a), s)) (c2 : ∀ s, callF F_runs_needed [.d q] s = .ok (.d (.int b), s)) :
    (vTuple ((vCons ((vBin addD ((vCallF F_runs_needed ((vCons ((vSl (vVar 0) (vPart none) (vPart (some (vVar 1))))) (vr []))))) ((vCallF F_runs_needed ((vCons ((vSl (vVar 0) (vPart (some (vVar 1))) (vPart none))) (vr []))))))) ((vCons (vVar 1) (vr [])))))) [.d y, .d (.int k)] = .ok (.d (.tuple [.int (a + b), .int k]), [.d y, .d (.int k)]) := by
  have l2 : ∀ x y : Da, ([x, y] : List Da).length ≤ 16777216 := fun _ _ => by show 2 ≤ _; decide
  generalize F_runs_needed = m at c1 c2 ⊢
  simp! only [m_callF, h1, h2, c1, c2, l2]
theorem bc_lc (hr : row.length < 60) : (vLcF [1] (vItRng ((vCons (vC (.int 1)) ((vCons ((vCall lenD ((vCons (vVar 0) (vr []))))) (vr [])))))) (vSetD 1) (vr true) ((vTuple ((vCons ((vBin addD ((vCallF F_runs_needed ((vCons ((vSl (vVar 0) (vPart none) (vPart (some (vVar 1))))) (vr []))))) ((vCallF F_runs_needed ((vCons ((vSl (vVar 0) (vPart (some (vVar 1))) (vPart none))) (vr []))))))) ((vCons (vVar 1) (vr [])))))))) [.d (tupI row), .un] = .ok (.own (.l ((mkI row).map tupI)), [.d (tupI row), .un]) := by
  unfold mkI
  rw [List.map_map]
  refine lc_map (ix := [1]) (fi := (vItRng ((vCons (vC (.int 1)) ((vCons ((vCall lenD ((vCons (vVar 0) (vr []))))) (vr []))))))) (gt := vSetD 1) (te := (vTuple ((vCons ((vBin addD ((vCallF F_runs_needed ((vCons ((vSl (vVar 0) (vPart none) (vPart (some (vVar 1))))) (vr []))))) ((vCallF F_runs_needed ((vCons ((vSl (vVar 0) (vPart (some (vVar 1))) (vPart none))) (vr []))))))) ((vCons (vVar 1) (vr []))))))) (s := [.d (tupI row), .un]) (enc := fun (i : Nat) => intN (i + 1)) (xs := List.range (row.length - 1)) (L := []) (base := [.d (tupI row), .un]) (s1 := [.d (tupI row), .un]) (h := fun i => tupI (mkP row i)) (it1_run (rng0_3 (by omega)) (len0_run rfl tup_len)) rfl rfl
    (fun i hi => ⟨[.d (tupI row), .d (intN (i + 1))], .d (tupI (mkP row i)), [.d (tupI row), .d (intN (i + 1))], ?_, ?_, rfl, rfl, rfl⟩) (by rw [List.length_range]; omega)
  · generalize tupI row = y
    generalize intN (i + 1) = z
    simp! only []
  · exact bc_te sl_to sl_from (runs_at (by rw [List.length_take]; omega)) (runs_at (by rw [List.length_drop]; omega))
theorem bc_yes {y v : Da} {n : Int} {Z : List Da} (hl : lenD [y] = some (.d (.int n))) (hn : decide (n < 2) = false) (lc : (vLcF [1] (vItRng ((vCons (vC (.int 1)) ((vCons ((vCall lenD ((vCons (vVar 0) (vr []))))) (vr [])))))) (vSetD 1) (vr true) ((vTuple ((vCons ((vBin addD ((vCallF F_runs_needed ((vCons ((vSl (vVar 0) (vPart none) (vPart (some (vVar 1))))) (vr []))))) ((vCallF F_runs_needed ((vCons ((vSl (vVar 0) (vPart (some (vVar 1))) (vPart none))) (vr []))))))) ((vCons (vVar 1) (vr [])))))))) [.d y, .un] = .ok (.own (.l Z), [.d y, .un])) (hm : minE [.list Z] = some (.d v)) : F_best_cut [.d y] = .ok (.d v, [.d y]) := by
  refine run_d (st := [.d y, .un]) (s := [.d y, .un]) ?_
  unfold g_best_cut best_cut_s1
  generalize (vLcF [1] (vItRng ((vCons (vC (.int 1)) ((vCons ((vCall lenD ((vCons (vVar 0) (vr []))))) (vr [])))))) (vSetD 1) (vr true) ((vTuple ((vCons ((vBin addD ((vCallF F_runs_needed ((vCons ((vSl (vVar 0) (vPart none) (vPart (some (vVar 1))))) (vr []))))) ((vCallF F_runs_needed ((vCons ((vSl (vVar 0) (vPart (some (vVar 1))) (vPart none))) (vr []))))))) ((vCons (vVar 1) (vr [])))))))) = f at lc ⊢
  simp! only [hl, hn, lc, hm, if_false, Bool.false_eq_true]
theorem bc_no {y : Da} {n : Int} (hl : lenD [y] = some (.d (.int n))) (hn : decide (n < 2) = true) : F_best_cut [.d y] = .error (.exc "Nothing" [] [.d y]) := by
  refine run_e (st := [.d y, .un]) (s := [.d y, .un]) ?_
  unfold g_best_cut
  have h1 : best_cut_s1 [.d y, .un] = .error (.exc "Nothing" [] [.d y, .un]) := by
    unfold best_cut_s1
    simp! only [hl, hn]
    rfl
  rw [m_seq, h1]; rfl
/-- what is heard -/
def hdR (row : List Int) : Da := if mkI row = [] then .tuple [.str "nothing"] else .tuple [.str "told", lstMin (mkI row)]
theorem hd_ok {y v : Da} (h : F_best_cut [.d y] = .ok (.d v, [.d y])) : F__law_heard [.d y] = .ok (.d (.tuple [.str "told", v]), [.d y]) := by
  have l2 : ([.str "told", v] : List Da).length ≤ 16777216 := by show 2 ≤ _; decide
  have hc : ∀ s, callF F_best_cut [.d y] s = .ok (.d v, s) := fun s => callF_1 h VL.dl
  refine run_d (st := [.d y]) (s := [.d y]) ?_
  unfold g__law_heard vTryR
  have hr : (vRet ((vTuple ((vCons (vC (.str "told")) ((vCons ((vCallF F_best_cut ((vCons (vVar 0) (vr []))))) (vr [])))))))) [.d y] = .ok (.rt (.d (.tuple [.str "told", v])), [.d y]) := by
    generalize F_best_cut = m at hc ⊢
    simp! only [m_callF, hc, l2]
  rw [hr]
theorem hd_no {y : Da} (h : F_best_cut [.d y] = .error (.exc "Nothing" [] [.d y])) : F__law_heard [.d y] = .ok (.d (.tuple [.str "nothing"]), [.d y]) := by
  have hc : callF F_best_cut [.d y] [.d y] = .error (.exc "Nothing" [] [.d y]) := by
    have e := callF_e (m := F_best_cut) (rs := [.d y]) (s := [.d y]) (by simp [loans]) (by rfl) h
    rw [put_d, put_n] at e
    exact e
  refine run_d (st := [.d y]) (s := [.d y]) ?_
  unfold g__law_heard vTryR
  have hr : (vRet ((vTuple ((vCons (vC (.str "told")) ((vCons ((vCallF F_best_cut ((vCons (vVar 0) (vr []))))) (vr [])))))))) [.d y] = .error (.exc "Nothing" [] [.d y]) := by
    generalize F_best_cut = m at hc ⊢
    simp! only [m_callF, hc]
  rw [hr]; rfl
theorem heard_at (hr : row.length < 60) (s : VS) : callF F__law_heard [.d (tupI row)] s = .ok (.d (hdR row), s) := by
  have hlen := tup_len (ns := row)
  unfold hdR
  by_cases h : row.length < 2
  · have e : mkI row = [] := by
      unfold mkI
      rw [show row.length - 1 = 0 by omega]; rfl
    rw [if_pos e]
    exact callF_1 (hd_no (bc_no hlen (decide_eq_true (by omega)))) VL.dl
  · have e : mkI row ≠ [] := fun z => by
      have := congrArg List.length z
      unfold mkI at this
      rw [List.length_map, List.length_range] at this
      have this : row.length - 1 = 0 := this
      omega
    rw [if_neg e]
    exact callF_1 (hd_ok (bc_yes hlen (decide_eq_false (by omega)) (bc_lc hr) (min_tups mk_ne e))) VL.dl
theorem hd_good (row : List Int) : GoodD (hdR row) ∧ nodesD (hdR row) ≤ 900000 := by
  have hs : PyData.canLay0 (.str "nothing") = true ∧ PyData.canLay0 (.str "told") = true := ⟨by decide +kernel, by decide +kernel⟩
  obtain ⟨⟨k, g1⟩, g2⟩ := lst_good (k := 2) (mk_2 (row := row)) (by decide)
  unfold hdR
  split
  · refine ⟨⟨64, ?_⟩, ?_⟩
    · simp only [shF, shFs, hs, Bool.and_self]
    · simp only [nodesD, nodesL]; omega
  · rename_i h0
    obtain ⟨l, e⟩ : ∃ l, lstMin (mkI row) = tupI l := by
      cases q : mkI row with
      | nil => exact absurd q h0
      | cons a b => exact ⟨_, rfl⟩
    rw [e] at g2 ⊢
    have h2 := shF_tupI 63 l
    refine ⟨⟨65, ?_⟩, ?_⟩
    · simp only [shF, shFs, hs, h2, Bool.and_self]
    · simp only [nodesD, nodesL]; omega
end
/-! the law's statements -/
section
variable {a0 a1 a2 : SV} {row : List Int} {mk : Da}
theorem mk_te {y p q : Da} {k a b : Int} (h1 : slD y none (some k) = some (.d p)) (h2 : slD y (some k) none = some (.d q)) (c1 : ∀ s, callF F__law_runs [.d p] s = .ok (.d (.int a), s)) (c2 : ∀ s, callF F__law_runs [.d q] s = .ok (.d (.int b), s)) :
    (vTuple ((vCons ((vBin addD ((vCallF F__law_runs ((vCons ((vSl (vVar 3) (vPart none) (vPart (some (vVar 7))))) (vr []))))) ((vCallF F__law_runs ((vCons ((vSl (vVar 3) (vPart (some (vVar 7))) (vPart none))) (vr []))))))) ((vCons (vVar 7) (vr [])))))) [a0, a1, a2, .d y, .un, .un, .un, .d (.int k)] = .ok (.d (.tuple [.int (a + b), .int k]), [a0, a1, a2, .d y, .un, .un, .un, .d (.int k)]) := by
  have l2 : ∀ x y : Da, ([x, y] : List Da).length ≤ 16777216 := fun _ _ => by show 2 ≤ _; decide
  generalize F__law_runs = m at c1 c2 ⊢
  simp! only [m_callF, h1, h2, c1, c2, l2]
theorem st_marks (hr : row.length < 60) : (vFrz [3] (vAsg (vLcF [7] (vItRng ((vCons (vC (.int 1)) ((vCons ((vCall lenD ((vCons (vVar 3) (vr []))))) (vr [])))))) (vSetD 7) (vr true) ((vTuple ((vCons ((vBin addD ((vCallF F__law_runs ((vCons ((vSl (vVar 3) (vPart none) (vPart (some (vVar 7))))) (vr []))))) ((vCallF F__law_runs ((vCons ((vSl (vVar 3) (vPart (some (vVar 7))) (vPart none))) (vr []))))))) ((vCons (vVar 7) (vr [])))))))) (vSet 4))) [a0, a1, a2, .d (tupI row), .un, .un, .un, .un] = .ok (.nx, [a0, a1, a2, .d (tupI row), .own (.l ((mkI row).map tupI)), .un, .un, .un]) := by
  have lc : (vLcF [7] (vItRng ((vCons (vC (.int 1)) ((vCons ((vCall lenD ((vCons (vVar 3) (vr []))))) (vr [])))))) (vSetD 7) (vr true) ((vTuple ((vCons ((vBin addD ((vCallF F__law_runs ((vCons ((vSl (vVar 3) (vPart none) (vPart (some (vVar 7))))) (vr []))))) ((vCallF F__law_runs ((vCons ((vSl (vVar 3) (vPart (some (vVar 7))) (vPart none))) (vr []))))))) ((vCons (vVar 7) (vr [])))))))) [a0, a1, a2, .d (tupI row), .un, .un, .un, .un] = .ok (.own (.l ((mkI row).map tupI)), [a0, a1, a2, .d (tupI row), .un, .un, .un, .un]) := by
    unfold mkI
    rw [List.map_map]
    refine lc_map (ix := [7]) (fi := (vItRng ((vCons (vC (.int 1)) ((vCons ((vCall lenD ((vCons (vVar 3) (vr []))))) (vr []))))))) (gt := vSetD 7) (te := (vTuple ((vCons ((vBin addD ((vCallF F__law_runs ((vCons ((vSl (vVar 3) (vPart none) (vPart (some (vVar 7))))) (vr []))))) ((vCallF F__law_runs ((vCons ((vSl (vVar 3) (vPart (some (vVar 7))) (vPart none))) (vr []))))))) ((vCons (vVar 7) (vr []))))))) (s := [a0, a1, a2, .d (tupI row), .un, .un, .un, .un]) (enc := fun (i : Nat) => intN (i + 1)) (xs := List.range (row.length - 1)) (L := []) (base := [a0, a1, a2, .d (tupI row), .un, .un, .un, .un]) (s1 := [a0, a1, a2, .d (tupI row), .un, .un, .un, .un]) (h := fun i => tupI (mkP row i)) (it1_run (rng0_3 (by omega)) (len0_run rfl tup_len)) rfl rfl
      (fun i hi => ⟨[a0, a1, a2, .d (tupI row), .un, .un, .un, .d (intN (i + 1))], .d (tupI (mkP row i)), [a0, a1, a2, .d (tupI row), .un, .un, .un, .d (intN (i + 1))], ?_, ?_, rfl, rfl, rfl⟩) (by rw [List.length_range]; omega)
    · generalize tupI row = y
      generalize intN (i + 1) = z
      simp! only []
    · exact mk_te sl_to sl_from (lruns_at (by rw [List.length_take]; omega)) (lruns_at (by rw [List.length_drop]; omega))
  simp only [m_frzc, m_frzn, m_frz1, List.getElem?_cons_succ, List.getElem?_cons_zero, fz_d]
  exact asg_own lc rfl
theorem ite_R : (vIte ((vBool (vBin neF (vVar 4) ((vList (vr [])))))) ((vTuple ((vCons (vC (.str "told")) ((vCons ((vCall minE ((vCons (vVar 4) (vr []))))) (vr []))))))) ((vTuple ((vCons (vC (.str "nothing")) (vr [])))))) [a0, a1, a2, .d (tupI row), .d (.list ((mkI row).map tupI)), .un, .un, .un] = .ok (.d (hdR row), [a0, a1, a2, .d (tupI row), .d (.list ((mkI row).map tupI)), .un, .un, .un]) := by
  have l0 : ([] : List Da).length ≤ 16777216 := Nat.zero_le _
  have l1 : ∀ x : Da, ([x] : List Da).length ≤ 16777216 := fun _ => by show 1 ≤ _; decide
  have l2 : ∀ x y : Da, ([x, y] : List Da).length ≤ 16777216 := fun _ _ => by show 2 ≤ _; decide
  have hn := neF_nil (l := (mkI row).map tupI) fun x hx => by
    obtain ⟨l, _, rfl⟩ := List.mem_map.mp hx
    exact shF_tupI 62 l
  unfold hdR
  by_cases h0 : mkI row = []
  · rw [if_pos h0]
    rw [h0] at hn ⊢
    have hn : neF (.list []) (.list []) = some (.d (.bool false)) := hn
    generalize tupI row = y
    simp! only [List.map_nil, hn, l0, l1, if_false, Bool.false_eq_true]
  · rw [if_neg h0]
    have he : ((mkI row).map tupI).isEmpty = false := by cases q : mkI row with
      | nil => exact absurd q h0
      | cons _ _ => rfl
    rw [he] at hn
    have hm := min_tups (mk_ne (row := row)) h0
    generalize (mkI row).map tupI = M at hn hm ⊢
    generalize lstMin (mkI row) = R at hm ⊢
    generalize tupI row = y
    simp! only [hn, l0, l2, hm, Bool.not_false]
theorem st_heard (hr : row.length < 60) : (vFrz [3, 4] law_s3) [a0, a1, a2, .d (tupI row), .own (.l ((mkI row).map tupI)), .un, .un, .un] = .ok (.nx, [a0, a1, a2, .d (tupI row), .d (.list ((mkI row).map tupI)), .un, .un, .un]) := by
  simp only [m_frzc, m_frzn, m_frz1, List.getElem?_cons_succ, List.getElem?_cons_zero, fz_d, fz_o, oc_l, List.set_cons_succ, List.set_cons_zero]
  unfold law_s3
  refine tests_ok ?_
  have h1 := heard_at (row := row) hr
  have ha := fun s => alike_at (s := s) (hd_good row).1 (hd_good row).2
  have hi := ite_R (a0 := a0) (a1 := a1) (a2 := a2) (row := row)
  generalize (vIte ((vBool (vBin neF (vVar 4) ((vList (vr [])))))) ((vTuple ((vCons (vC (.str "told")) ((vCons ((vCall minE ((vCons (vVar 4) (vr []))))) (vr []))))))) ((vTuple ((vCons (vC (.str "nothing")) (vr [])))))) = ite at hi ⊢
  generalize F__law_heard = m1 at h1 ⊢
  generalize F__law_alike = m3 at ha ⊢
  generalize hdR row = R at h1 ha hi
  generalize PyData.list ((mkI row).map tupI) = LL at hi ⊢
  generalize tupI row = y at h1 hi ⊢
  simp! only [m_callF, h1, hi, ha]
theorem cut_test {y cd P : Da} {k : Int} (h1 : ∀ s, callF F_cut_places [.d y, .d cd] s = .ok (.d P, s)) (h2 : ∀ s, callF F_cuts_needed [.d y, .d cd] s = .ok (.d (.int k), s)) (h3 : ∀ s, callF F__law_places [.d y, .d cd] s = .ok (.d P, s)) (h4 : ∀ s, callF F__law_fewest [.d y, .d cd] s = .ok (.d (.int k), s)) (hl : lenD [P] = some (.d (.int k)))
    (ha : ∀ s, callF F__law_alike [.d (.list [P, .int k]), .d (.list [P, .int k])] s = .ok (.d (.bool true), s)) :
    r3 [a0, a1, a2, .d y, .d mk, .d cd, .un, .un] = .ok (.nx, [a0, a1, a2, .d y, .d mk, .un, .un, .un]) := by
  have l2 : ([P, .int k] : List Da).length ≤ 16777216 := by show 2 ≤ _; decide
  have e : neF (.int k) (.int k) = some (.d (.bool false)) := by
    show some (EV.d (.bool (!decide (k = k)))) = _
    rw [decide_eq_true rfl]; rfl
  have s1 : (vFrz [3, 5] (vAsg ((vCallF F__law_places ((vCons (vVar 3) ((vCons (vVar 5) (vr []))))))) (vSet 6))) [a0, a1, a2, .d y, .d mk, .d cd, .un, .un] = .ok (.nx, [a0, a1, a2, .d y, .d mk, .d cd, .d P, .un]) := by
    generalize F__law_places = m at h3 ⊢
    simp! only [m_callF, h3]
  have s2 : r2 [a0, a1, a2, .d y, .d mk, .d cd, .d P, .un] = .ok (.nx, [a0, a1, a2, .d y, .d mk, .d cd, .d P, .un]) := by
    unfold r2
    simp only [m_frzc, m_frzn, m_frz1, List.getElem?_cons_succ, List.getElem?_cons_zero, fz_d]
    unfold law_s1
    refine fall_ok ?_
    generalize F_cut_places = m1 at h1 ⊢
    generalize F_cuts_needed = m2 at h2 ⊢
    generalize F__law_fewest = m4 at h4 ⊢
    generalize F__law_alike = m5 at ha ⊢
    simp! only [m_callF, h1, h2, h4, hl, ha, l2, e, Bool.not_true]
  have hb := seq_then s1 s2
  unfold r3
  rw [m_fgtE]
  refine Eq.trans (congrArg (fgE [5, 6]) hb) ?_
  rw [fgE_nx]
  simp only [fgts_c, fgts_n, m_fgt1, List.getElem?_cons_succ, List.getElem?_cons_zero, fg_d, List.set_cons_succ, List.set_cons_zero]
theorem nodes_nats (l : List Nat) : nodesD (tupN l) = 1 + l.length := by unfold tupN; simp only [nodesD, nodes_intN]
theorem st_codes {c : Nat} (hc : 1 ≤ c) (h0 : 0 < row.length) (hr : row.length < 60) : r3 [a0, a1, a2, .d (tupI row), .d mk, .d (intN c), .un, .un] = .ok (.nx, [a0, a1, a2, .d (tupI row), .d mk, .un, .un, .un]) := by
  have G : Gr (fR row) c row.length := seg_gr row hc
  obtain ⟨r, e1, _, _⟩ := D_pos G h0
  have hk : ((cutsT (fR row) c row.length row.length).length : Int) = (D (fR row) c row.length row.length : Int) - 1 := by rw [cuts_len, e1]; omega
  have h1 : ∀ s, callF F_cut_places [.d (tupI row), .d (intN c)] s = .ok (.d (tupN (cutsT (fR row) c row.length row.length)), s) := fun s => callF_2 (cuts_ok hc h0 hr) VL.dl
  have h2 : ∀ s, callF F_cuts_needed [.d (tupI row), .d (intN c)] s = .ok (.d (.int ((D (fR row) c row.length row.length : Int) - 1)), s) := fun s => by
    have := callF_2 (s := s) (cn_run h1) VL.dl
    rw [hk] at this
    exact this
  have hl : lenD [tupN (cutsT (fR row) c row.length row.length)] = some (.d (.int ((D (fR row) c row.length row.length : Int) - 1))) := by
    rw [← hk]; unfold tupN; rw [len_t, List.length_map]
  have hcl : (cutsT (fR row) c row.length row.length).length ≤ 60 := by
    have := gs_ge G r
    obtain ⟨_, _, h3, _⟩ := D_pos G h0
    rw [cuts_len, e1]
    have h4 := (D_ok G row.length).2 r (by rw [e1]; exact Nat.lt_succ_self r)
    omega
  refine cut_test h1 h2 (fun s => callF_2 (places_ok hc hr) VL.dl) (fun s => callF_2 (fewest_ok hc hr) VL.dl) hl fun s => alike_at ?_ ?_
  · refine ⟨65, ?_⟩
    have h2 : shF 64 (tupN (cutsT (fR row) c row.length row.length)) = true := shFs_intN 63 _
    simp only [shF, shFs, h2, Bool.and_self]
  · simp only [nodesD, nodesL, nodes_nats]; omega
theorem it_codes {bag b1 : List Da} {v : Int} {rd : Da} (h1 : callF F__law_take [.loan 1, .d (.int 5)] [a0, .own (.l bag), a2, .d rd, .d mk, .un, .un, .un] = .ok (.d (.int v), [a0, .own (.l b1), a2, .d rd, .d mk, .un, .un, .un])) :
    (vItSeq ((vList ((vCons (vC (.int 1)) ((vCons (vC (.int 2)) ((vCons ((vBin addD (vC (.int 1)) ((vCallF F__law_take ((vCons (vVar 1) ((vCons (vC (.int 5)) (vr []))))))))) (vr [])))))))))) [a0, .own (.l bag), a2, .d rd, .d mk, .un, .un, .un] = .ok (([.int 1, .int 2, .int (1 + v)], []), [a0, .own (.l b1), a2, .d rd, .d mk, .un, .un, .un]) := by
  have l3 : ∀ a b c : Da, ([a, b, c] : List Da).length ≤ 16777216 := fun _ _ _ => by show 3 ≤ _; decide
  generalize F__law_take = m at h1 ⊢
  simp! only [m_callF, h1, l3]
theorem st_all {bag : List Da} {m : Nat} (hb : BagOk (m + 1) bag) (h0 : 0 < row.length) (hr : row.length < 60) : ∃ b1, r4 [a0, .own (.l bag), a2, .d (tupI row), .d mk, .un, .un, .un] = .ok (.nx, [a0, .own (.l b1), a2, .d (tupI row), .d mk, .un, .un, .un]) ∧ BagOk m b1 := by
  obtain ⟨v, b1, e1, v0, v1, hb1⟩ := take_at (n := m) (k := 1) (s := [a0, .own (.l bag), a2, .d (tupI row), .d mk, .un, .un, .un]) (b := false) (m := 5) rfl hb (by decide) (by decide)
  obtain ⟨w, rfl⟩ := Int.eq_ofNat_of_zero_le v0
  have hit := it_codes e1
  refine ⟨b1, ?_, hb1⟩
  unfold r4 law_s2
  have e : ([.int 1, .int 2, .int (1 + (w : Int))] : List Da) = ([1, 2, 1 + w] : List Nat).map intN := by
    show _ = [PyData.int 1, .int 2, .int ((1 + w : Nat) : Int)]
    rw [show ((1 + w : Nat) : Int) = 1 + (w : Int) by omega]
  rw [e] at hit
  refine for_fold (enc := intN) (L := []) (St := fun (_ : Unit) => [a0, .own (.l b1), a2, .d (tupI row), .d mk, .un, .un, .un]) (f := fun a _ => a) (gt := vSetD 5) (g := r3) (fun xs _ => ∀ x ∈ xs, 1 ≤ x) (fun z zs _ hz => ⟨[a0, .own (.l b1), a2, .d (tupI row), .d mk, .d (intN z), .un, .un], .nx, ?_, st_codes (hz z List.mem_cons_self) h0 hr, .inl rfl, fun y hy => hz y (List.mem_cons_of_mem _ hy)⟩) (xs := [1, 2, 1 + w]) (a := ()) hit (fun x hx => ?_)
  · generalize tupI row = y
    generalize intN z = zd
    simp! only []
  · simp only [List.mem_cons, List.not_mem_nil, or_false] at hx
    omega
end
theorem turn_ok {a0 : SV} {x2 : Da} {bag : List Da} {m : Nat} (hb : BagOk (m + 10) bag) :
    ∃ bag', r7 [a0, .own (.l bag), .d x2, .un, .un, .un, .un, .un] = .ok (.nx, [a0, .own (.l bag'), .un, .un, .un, .un, .un, .un]) ∧ BagOk m bag' := by
  obtain ⟨row, b1, e1, q0, q1, rb, hb1⟩ := row_at (n := m + 1) (m := 8) (c := 6) (k := 1) (s := [a0, .own (.l bag), .d x2, .un, .un, .un, .un, .un]) (b := false) rfl (hb.mono (by omega)) (by decide) (by decide) (by decide) (by decide)
  obtain ⟨b2, e2, hb2⟩ := st_all (a0 := a0) (a2 := .d x2) (row := row) (mk := .list ((mkI row).map tupI)) hb1 (by omega) (by omega)
  have e1 : callF F__law_row [.loan 1, .d (.int 8), .d (.int 6)] [a0, .own (.l bag), .d x2, .un, .un, .un, .un, .un] = .ok (.d (tupI row), [a0, .own (.l b1), .d x2, .un, .un, .un, .un, .un]) := e1
  refine ⟨b2, ?_, hb2⟩
  have turn : (vSeq (vAsg ((vCallF F__law_row ((vCons (vVar 1) ((vCons (vC (.int 8)) ((vCons (vC (.int 6)) (vr []))))))))) (vSet 3)) r6) [a0, .own (.l bag), .d x2, .un, .un, .un, .un, .un] = .ok (.nx, [a0, .own (.l b2), .d x2, .d (tupI row), .d (.list ((mkI row).map tupI)), .un, .un, .un]) := by
    refine seq_then (s1 := [a0, .own (.l b1), .d x2, .d (tupI row), .un, .un, .un, .un]) ?_ ?_
    · generalize F__law_row = f at e1 ⊢
      generalize tupI row = y at e1 ⊢
      simp! only [m_callF, e1]
    unfold r6
    refine seq_then (st_marks (by omega)) ?_
    unfold r5
    exact seq_then (st_heard (by omega)) e2
  unfold r7
  generalize (vSeq (vAsg ((vCallF F__law_row ((vCons (vVar 1) ((vCons (vC (.int 8)) ((vCons (vC (.int 6)) (vr []))))))))) (vSet 3)) r6) = B at turn ⊢
  simp only [m_fgtE, turn, fgE_nx, fgts_c, fgts_n, m_fgt1, List.getElem?_cons_succ, List.getElem?_cons_zero, fg_d, fg_un, List.set_cons_succ, List.set_cons_zero]
theorem plain (ns : List Int) (hn : ns.length ≤ 63) : ∃ st', F_law [.rd (ns.map PyData.int)] = .ok (.d (.bool true), st') := by
  obtain ⟨cs, hbag, hc, hl⟩ := bag_ok ns
  have ca : callF F__law_bag [.loan 0] [.rd (ns.map PyData.int), .un, .un, .un, .un, .un, .un, .un] = .ok (.own (.l (bagL 0 1234567891 0 cs)), [.rd (ns.map PyData.int), .un, .un, .un, .un, .un, .un, .un]) := by
    rw [callF_ok (by simp [loans]) (by rfl) hbag (fun i => by intro z; cases z)]
    rfl
  have loop : ∃ s', law_s4 [.rd (ns.map PyData.int), .own (.l (bagL 0 1234567891 0 cs)), .un, .un, .un, .un, .un, .un] = .ok (.nx, unlock [] s') ∧ ∃ bag, s' = [.rd (ns.map PyData.int), .own (.l bag), .un, .un, .un, .un, .un, .un] ∧ BagOk 0 bag := by
    unfold law_s4
    obtain ⟨s', h1, h2⟩ := for_inv (L := []) (fi := (vItRng ((vCons (vC (.int 6)) (vr []))))) (gt := vSetD 2) (g := r7) (xs := rngD 0 6 1)
      (s := [.rd (ns.map PyData.int), .own (.l (bagL 0 1234567891 0 cs)), .un, .un, .un, .un, .un, .un])
      (s1 := [.rd (ns.map PyData.int), .own (.l (bagL 0 1234567891 0 cs)), .un, .un, .un, .un, .un, .un])
      (fun xs s => ∃ bag, s = [.rd (ns.map PyData.int), .own (.l bag), .un, .un, .un, .un, .un, .un] ∧ BagOk (10 * xs.length) bag)
      (fun x xs s hR => by
        obtain ⟨bag, rfl, hb⟩ := hR
        rw [List.length_cons, Nat.mul_add] at hb
        obtain ⟨bag', h2, hb'⟩ := turn_ok (a0 := .rd (ns.map PyData.int)) (x2 := x) hb
        exact ⟨_, .nx, _, by simp! only [], h2, .inl rfl, bag', rfl, hb'⟩)
      (by rfl) ⟨_, rfl, ⟨0, 1234567891, 0, cs, rfl, by decide, by decide, by decide, by decide, by rw [rngD_len]; decide, hc, by omega⟩⟩
    obtain ⟨bag, rfl, hb⟩ := h2
    exact ⟨_, h1, bag, rfl, hb⟩
  obtain ⟨s', hs, bag, rfl, _⟩ := loop
  rw [unl_n] at hs
  refine ⟨[.rd (ns.map PyData.int)], run_d (st := [.rd (ns.map PyData.int), .un, .un, .un, .un, .un, .un, .un]) (s := [.rd (ns.map PyData.int), .own (.l bag), .un, .un, .un, .un, .un, .un]) ?_⟩
  unfold g_law
  refine seq_then (s1 := [.rd (ns.map PyData.int), .own (.l (bagL 0 1234567891 0 cs)), .un, .un, .un, .un, .un, .un]) ?_ ?_
  · simp! only [m_callF, ca]
  unfold r8
  refine seq_then hs ?_
  unfold Yk49.r1
  simp! only []
end Yk49
open PySem PySem.W PySem.Calls PyProof.Rows
theorem PySem.Challenge.cw_yardpasses_k49_cuts_of_rows_holds : PySem.Challenge.rw_yardpasses_k49_cuts_of_rows.Holds := by
  w_on; o_law
  refine HandSHeadRun.head_any (r := OpenLaw.row PySem.Challenge.rw_yardpasses_k49_cuts_of_rows) (q := view (OpenLaw.row PySem.Challenge.rw_yardpasses_k49_cuts_of_rows).prog [27]) (H := Yk49.hk) (ob := Yk49.ob) (M := 4000) (loose := ("_wall" :: "YardError" :: "Nothing" :: "one_take" :: "takes_and_left" :: "filling" :: "runs_needed" :: "best_cut" :: "longest_part" :: "cut_places" :: "cuts_needed" :: "_law_bag" :: "_law_take" :: "_law_alike" :: "_law_one_take" :: "_law_filling" :: "_law_needed" :: "_law_row" :: "_law_runs" :: "_law_heard" :: "_law_places" :: "_law_fewest" :: [])) (d := HandSHeadRun.topDef (OpenLaw.row PySem.Challenge.rw_yardpasses_k49_cuts_of_rows).prog 27) (kwd := []) Yk49.ob_eq
    (by kernel_rfl) (fun s => by kernel_rfl) Yk49.run (by kernel_rfl) (by kernel_rfl) (by kernel_rfl) (by rfl) (by first | assumption | decide +kernel) (by decide +kernel) ⟨rfl, rfl, rfl, rfl, rfl, by decide +kernel⟩ ?hw ?hc
  case hw => w_witness2
  case hc =>
    refine VL.walk_vT (l := PySem.Challenge.rw_yardpasses_k49_cuts_of_rows) (n := 63) (k := 10) (x := "script") (m := Yk49.F_law) rfl (by decide) (by kernel_rfl) ⟨rfl, by decide, by decide⟩ ?F Yk49.plain
    intro w mg fa h Y G hmg0
    obtain ⟨K, KX, c⟩ := Y
    have hmg : mg ("law" : PySem.Str) = some (.ref fa) := by
      have e : (HandSHeadRun.topDef (OpenLaw.row PySem.Challenge.rw_yardpasses_k49_cuts_of_rows).prog 27).name = ("law" : PySem.Str) := by kernel_rfl
      rw [← e]
      exact hmg0
    obtain ⟨fd, cs, Tb, t1, t2, t3, t4, hb, hF⟩ := Yk49.facts (w := w) KX G hmg c
    exact ⟨K, fd, cs, Tb, KX, t1, t2, t3, t4, hb, hF⟩
