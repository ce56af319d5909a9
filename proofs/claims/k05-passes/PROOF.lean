import PyProof.Rows.All
import Wide.All
import OpenK.AllK
import Wide.FinOn
import HandS.ForMost
import HandS.ForExc
import HandS.Lambda
import HandS.TupAny
import HandS.TupLe
import HandS.TupMul
import HandS.Wide
import HandS.Deep
import HandS.Flow
import HandS.Star
import HandS.Style
import HandS.More
import HandS.SetFor
import HandS.Comp
import KE.GoesZip
import KE.GoesEnum
import KE.GoesMore
import HandS.Rev
import HandS.Zip
import HandS.IsInst
import HandS.WordsDict
import HandS.SortInts
import PyProof.P3In
import KE.KDictZip
import PyProof.ListNew
import HandS.HeadEnd
import HandS.HeadNt
import HandS.HeadHook2
import HandS.ExcInit
import HandS.Nested
import KE.KExcSuper
import HandS.ExcField
import HandS.HeadHook4
import HandS.HeadWalk
import HandS.Conv
import PyProof.TupleOfSeq
import HandS.Head0
import HandS.Head1
import HandS.Head2
import PySem.Challenge.RW_yardpasses_k05_passes_by_rolling
set_option Elab.async false
set_option linter.all false
set_option maxRecDepth 100000
namespace VL
open PySem PySem.Spec PyProof.Rows L2
abbrev Da := PyData
/-- no table of code objects -/
abbrev NTb (o : HO) : Prop := ∀ ps, o ≠ .tbl ps
abbrev AS := Addr → Prop
/-- one address more -/
def AS.with (O : AS) (p : Addr) : AS := fun a => O a ∨ a = p
/-- a tuple of the written part -/
def KTup (K : PySem.W.Frag) (a : Addr) (xs : List V) : Prop :=
  ∃ (o : Obj) (its : Array Value) (n : Nat), K.lookup a = some o ∧ o.cls = .type "tuple" ∧ o.data = .seq its n ∧ its.size ≤ sizeLine ∧ Vals xs its.toList
def keyD : Key → Da
  | .inl i => .int i
  | .inr s => .str s
mutual
/-- the value v stands for the datum, apart from the addresses O -/
def Rp (K : PySem.W.Frag) (O : AS) (H : Hp) : Da → V → Prop
  | .none, v => v = .non
  | .bool b, v => v = .bl b
  | .int i, v => v = .int i
  | .str s, v => v = .str s
  | .list ds, v => ∃ a xs, v = .ref a ∧ H a = some (.lst xs) ∧ ¬ O a ∧ RpL K O H ds xs
  | .tuple ds, v => ∃ a xs, v = .ref a ∧ ((H a = some (.tup xs) ∧ ¬ O a) ∨ KTup K a xs) ∧ RpL K O H ds xs
  | .dict kvs, v => ∃ a ks, v = .ref a ∧ H a = some (.dK ks) ∧ ¬ O a ∧ RpD K O H kvs ks
def RpL (K : PySem.W.Frag) (O : AS) (H : Hp) : List Da → List V → Prop
  | [], vs => vs = []
  | d :: ds, vs => ∃ w ws, vs = w :: ws ∧ Rp K O H d w ∧ RpL K O H ds ws
def RpD (K : PySem.W.Frag) (O : AS) (H : Hp) : List (Da × Da) → List (Key × V) → Prop
  | [], ks => ks = []
  | (k, d) :: r, ks => ∃ key w ws, ks = (key, w) :: ws ∧ k = keyD key ∧ Rp K O H d w ∧ RpD K O H r ws
end
theorem Rd.mono {H H' : Hp} {O : AS} {a : Addr} {u : HO} (h : Rd H a u) (hu : NTb u) (hH : ∀ a o, H a = some o → NTb o → ¬ O a → H' a = some o) (n : ¬ O a) : Rd H' a u := by
  rcases h with h | ⟨o, h⟩
  · exact .inl (hH _ _ h hu n)
  · exact .inr ⟨o, hH _ _ h (fun _ z => nomatch z) n⟩
theorem Rd.there {H : Hp} {a : Addr} {u : HO} (h : Rd H a u) : H a ≠ none := by
  rcases h with h | ⟨o, h⟩ <;> (rw [h]; exact fun z => nomatch z)
section
variable {K : PySem.W.Frag} {O O' : AS} {H H' : Hp}
mutual
theorem Rp.mono (hO : ∀ a, O' a → O a ∨ H a = none) (hH : ∀ a o, H a = some o → NTb o → ¬ O a → H' a = some o) : ∀ (d : Da) (v : V), Rp K O H d v → Rp K O' H' d v
  | .none, v, h => by simpa only [Rp] using h
  | .bool b, v, h => by simpa only [Rp] using h
  | .int i, v, h => by simpa only [Rp] using h
  | .str s, v, h => by simpa only [Rp] using h
  | .list ds, v, h => by
    simp only [Rp] at h ⊢
    obtain ⟨a, xs, e, r, n, q⟩ := h
    exact ⟨a, xs, e, hH _ _ r (fun _ z => nomatch z) n, fun z => (hO a z).elim n (fun q => by rw [r] at q; cases q), RpL.mono hO hH ds xs q⟩
  | .tuple ds, v, h => by
    simp only [Rp] at h ⊢
    obtain ⟨a, xs, e, r, q⟩ := h
    refine ⟨a, xs, e, ?_, RpL.mono hO hH ds xs q⟩
    rcases r with ⟨r, n⟩ | r
    · exact .inl ⟨hH _ _ r (fun _ z => nomatch z) n, fun z => (hO a z).elim n (fun q => by rw [r] at q; cases q)⟩
    · exact .inr r
  | .dict kvs, v, h => by
    simp only [Rp] at h ⊢
    obtain ⟨a, xs, e, r, n, q⟩ := h
    exact ⟨a, xs, e, hH _ _ r (fun _ z => nomatch z) n, fun z => (hO a z).elim n (fun q => by rw [r] at q; cases q), RpD.mono hO hH kvs xs q⟩
theorem RpL.mono (hO : ∀ a, O' a → O a ∨ H a = none) (hH : ∀ a o, H a = some o → NTb o → ¬ O a → H' a = some o) : ∀ (ds : List Da) (vs : List V), RpL K O H ds vs → RpL K O' H' ds vs
  | [], vs, h => by simpa only [RpL] using h
  | d :: ds, vs, h => by
    simp only [RpL] at h ⊢
    obtain ⟨w, ws, e, r, q⟩ := h
    exact ⟨w, ws, e, Rp.mono hO hH d w r, RpL.mono hO hH ds ws q⟩
theorem RpD.mono (hO : ∀ a, O' a → O a ∨ H a = none) (hH : ∀ a o, H a = some o → NTb o → ¬ O a → H' a = some o) : ∀ (ds : List (Da × Da)) (ks : List (Key × V)), RpD K O H ds ks → RpD K O' H' ds ks
  | [], vs, h => by simpa only [RpD] using h
  | (k, d) :: ds, vs, h => by
    simp only [RpD] at h ⊢
    obtain ⟨key, w, ws, e, ek, r, q⟩ := h
    exact ⟨key, w, ws, e, ek, Rp.mono hO hH d w r, RpD.mono hO hH ds ws q⟩
end
mutual
/-- no dict within -/
theorem Rp.dp : ∀ (d : Da) (v : V), d.canLay0 = true → Rp K O H d v → Dp K H v d
  | .none, v, _, h => by simp only [Rp] at h; subst h; exact .non
  | .bool b, v, _, h => by simp only [Rp] at h; subst h; exact .bl b
  | .int i, v, _, h => by simp only [Rp] at h; subst h; exact .int i
  | .str s, v, _, h => by simp only [Rp] at h; subst h; exact .str s
  | .list ds, v, c, h => by
    simp only [Rp] at h
    obtain ⟨a, xs, rfl, r, n, q⟩ := h
    simp only [PyData.canLay0] at c
    exact .lst (.of r) (RpL.dp ds xs c q)
  | .tuple ds, v, c, h => by
    simp only [Rp] at h
    obtain ⟨a, xs, rfl, r, q⟩ := h
    simp only [PyData.canLay0] at c
    refine .tup ?_ (RpL.dp ds xs c q)
    rcases r with ⟨r, _⟩ | r
    · exact .of r
    · exact .inr r
  | .dict kvs, v, c, h => by simp only [PyData.canLay0] at c; cases c
theorem RpL.dp : ∀ (ds : List Da) (vs : List V), PyData.canLayAll0 ds = true → RpL K O H ds vs → DpAll K H vs ds
  | [], vs, _, h => by simp only [RpL] at h; subst h; exact .nil
  | d :: ds, vs, c, h => by
    simp only [RpL] at h
    obtain ⟨w, ws, rfl, r, q⟩ := h
    simp only [PyData.canLayAll0, Bool.and_eq_true] at c
    exact .cons (Rp.dp d w c.1 r) (RpL.dp ds ws c.2 q)
end
theorem RpL.length : ∀ {ds : List Da} {vs : List V}, RpL K O H ds vs → ds.length = vs.length
  | [], vs, h => by simp only [RpL] at h; subst h; rfl
  | d :: ds, vs, h => by
    simp only [RpL] at h
    obtain ⟨w, ws, rfl, r, q⟩ := h
    rw [List.length_cons, List.length_cons, RpL.length q]
theorem RpL.get : ∀ {ds : List Da} {vs : List V} {i : Nat} {d : Da}, RpL K O H ds vs → ds[i]? = some d → ∃ w, vs[i]? = some w ∧ Rp K O H d w
  | [], vs, i, d, h, e => by simp at e
  | d :: ds, vs, 0, x, h, e => by
    simp only [RpL] at h
    obtain ⟨w, ws, rfl, r, q⟩ := h
    simp at e; subst e
    exact ⟨w, rfl, r⟩
  | d :: ds, vs, i + 1, x, h, e => by
    simp only [RpL] at h
    obtain ⟨w, ws, rfl, r, q⟩ := h
    obtain ⟨u, a, b⟩ := RpL.get q (show ds[i]? = some x by simpa using e)
    exact ⟨u, by simpa using a, b⟩
theorem RpL.append : ∀ {ds es : List Da} {vs ws : List V}, RpL K O H ds vs → RpL K O H es ws → RpL K O H (ds ++ es) (vs ++ ws)
  | [], es, vs, ws, h, g => by simp only [RpL] at h; subst h; exact g
  | d :: ds, es, vs, ws, h, g => by
    simp only [RpL] at h
    obtain ⟨w, r, rfl, a, b⟩ := h
    simp only [List.cons_append, RpL]
    exact ⟨w, r ++ ws, rfl, a, RpL.append b g⟩
theorem RpL.one {d : Da} {v : V} (h : Rp K O H d v) : RpL K O H [d] [v] := by
  simp only [RpL]; exact ⟨v, [], rfl, h, rfl⟩
theorem RpL.nil : RpL K O H [] [] := by simp only [RpL]
theorem RpL.cons {d : Da} {v : V} {ds : List Da} {vs : List V} (h : Rp K O H d v) (t : RpL K O H ds vs) : RpL K O H (d :: ds) (v :: vs) := by
  simp only [RpL]; exact ⟨v, vs, rfl, h, t⟩
theorem RpL.take (n : Nat) : ∀ {ds : List Da} {vs : List V}, RpL K O H ds vs → RpL K O H (ds.take n) (vs.take n) := by
  induction n with
  | zero => intro ds vs h; simp only [List.take_zero]; exact .nil
  | succ n ih =>
    intro ds vs h
    cases ds with
    | nil => simp only [RpL] at h; subst h; exact .nil
    | cons d ds =>
      simp only [RpL] at h
      obtain ⟨w, r, rfl, a, b⟩ := h
      exact .cons a (ih b)
theorem RpL.drop (n : Nat) : ∀ {ds : List Da} {vs : List V}, RpL K O H ds vs → RpL K O H (ds.drop n) (vs.drop n) := by
  induction n with
  | zero => intro ds vs h; simpa only [List.drop_zero] using h
  | succ n ih =>
    intro ds vs h
    cases ds with
    | nil => simp only [RpL] at h; subst h; exact .nil
    | cons d ds =>
      simp only [RpL] at h
      obtain ⟨w, r, rfl, a, b⟩ := h
      exact ih b
theorem RpL.reverse : ∀ {ds : List Da} {vs : List V}, RpL K O H ds vs → RpL K O H ds.reverse vs.reverse
  | [], vs, h => by simp only [RpL] at h; subst h; exact .nil
  | d :: ds, vs, h => by
    simp only [RpL] at h
    obtain ⟨w, r, rfl, a, b⟩ := h
    rw [List.reverse_cons, List.reverse_cons]
    exact (RpL.reverse b).append (.one a)
theorem RpL.set {d : Da} {v : V} (i : Nat) (x : Rp K O H d v) : ∀ {ds : List Da} {vs : List V}, RpL K O H ds vs → RpL K O H (ds.set i d) (vs.set i v) := by
  induction i with
  | zero =>
    intro ds vs h
    cases ds with
    | nil => simp only [RpL] at h; subst h; exact .nil
    | cons e ds =>
      simp only [RpL] at h
      obtain ⟨w, r, rfl, a, b⟩ := h
      exact .cons x b
  | succ n ih =>
    intro ds vs h
    cases ds with
    | nil => simp only [RpL] at h; subst h; exact .nil
    | cons e ds =>
      simp only [RpL] at h
      obtain ⟨w, r, rfl, a, b⟩ := h
      exact .cons a (ih b)
theorem RpL.ints : ∀ {ns : List Int} {vs : List V}, RpL K O H (ns.map PyData.int) vs → vs = ns.map V.int
  | [], vs, h => by simpa only [List.map_nil, RpL] using h
  | n :: ns, vs, h => by
    simp only [List.map_cons, RpL, Rp] at h
    obtain ⟨w, ws, rfl, rfl, q⟩ := h
    rw [RpL.ints q]; rfl
theorem RpL.ofInts : ∀ (ns : List Int), RpL K O H (ns.map PyData.int) (ns.map V.int)
  | [] => .nil
  | n :: ns => by
    rw [List.map_cons, List.map_cons]
    exact .cons (by simp only [Rp]) (RpL.ofInts ns)
end
/-! ### frames -/
/-- what a list or dict that stands by itself holds -/
inductive OC where
  | l (xs : List Da)
  | m (kvs : List (Da × Da))
def OC.data : OC → Da
  | .l xs => .list xs
  | .m kvs => .dict kvs
/-- what a name holds: nothing; a datum; a list of its own; one of its own that is a parameter's, to be given back; one that is locked -/
inductive SV where
  | un
  | d (x : Da)
  | own (c : OC)
  | io (c : OC)
  | lk (c : OC)
  | rd (xs : List Da)
abbrev VS := List SV
def Cont (K : PySem.W.Frag) (O : AS) (H : Hp) (p : Addr) : OC → Prop
  | .l xs => ∃ vs, H p = some (.lst vs) ∧ RpL K O H xs vs
  | .m kvs => ∃ ks, H p = some (.dK ks) ∧ RpD K O H kvs ks
/-- a list that one reads: of the heap, of the written part -/
def RdK (K : PySem.W.Frag) (O : AS) (H : Hp) (a : Addr) (vs : List V) : Prop := (Rd H a (.lst vs) ∧ ¬ O a) ∨
  ∃ (o : Obj) (its : Array Value) (n : Nat), K.lookup a = some o ∧ o.cls = .type "list" ∧ o.dict = none ∧ o.data = .seq its n ∧ its.size ≤ sizeLine ∧ Vals vs its.toList
theorem RdK.sq {K : PySem.W.Frag} {O : AS} {H : Hp} {a : Addr} {vs : List V} (h : RdK K O H a vs) : SqL K H a vs := h.imp And.left id
theorem RdK.mono {K : PySem.W.Frag} {O O' : AS} {H H' : Hp} {a : Addr} {vs : List V} (h : RdK K O H a vs) (hO : ∀ a, O' a → O a ∨ H a = none) (hH : ∀ a o, H a = some o → NTb o → ¬ O a → H' a = some o) : RdK K O' H' a vs :=
  h.imp (fun ⟨r, n⟩ => ⟨Rd.mono r (fun _ z => nomatch z) hH n, fun z => (hO a z).elim n (Rd.there r)⟩) id
def SlotOk (K : PySem.W.Frag) (O : AS) (H : Hp) : SV → Option V → Prop
  | .un, _ => True
  | .d x, v => ∃ w, v = some w ∧ Rp K O H x w
  | .own c, v => ∃ p, v = some (.ref p) ∧ Cont K O H p c
  | .io c, v => ∃ p, v = some (.ref p) ∧ Cont K O H p c
  | .lk c, v => ∃ p, v = some (.ref p) ∧ Cont K O H p c
  | .rd xs, v => ∃ a vs, v = some (.ref a) ∧ RdK K O H a vs ∧ RpL K O H xs vs
/-- the slot i holds an object of its own, at p -/
def OwnAt (st : VS) (σ : L2.St) (i : Nat) (p : Addr) : Prop := σ[i]? = some (some (.ref p)) ∧ ∃ c, st[i]? = some (.own c) ∨ st[i]? = some (.io c) ∨ st[i]? = some (.lk c)
def Own (st : VS) (σ : L2.St) : AS := fun p => ∃ i, OwnAt st σ i p
/-- .. one that may change -/
def MutAt (st : VS) (σ : L2.St) (i : Nat) (p : Addr) : Prop := σ[i]? = some (some (.ref p)) ∧ ∃ c, st[i]? = some (.own c) ∨ st[i]? = some (.io c)
def MutO (st : VS) (σ : L2.St) : AS := fun p => ∃ i, MutAt st σ i p
theorem MutO.own {st : VS} {σ : L2.St} {p : Addr} : MutO st σ p → Own st σ p := fun ⟨i, e, c, h⟩ => ⟨i, e, c, h.elim .inl fun h => .inr (.inl h)⟩
/-- the addresses that data keep away from -/
def Av (O : AS) (st : VS) (σ : L2.St) : AS := fun a => O a ∨ Own st σ a
structure FR (Tb : List (Addr × Str)) (K : PySem.W.Frag) (O : AS) (st : VS) (σ : L2.St) (H : Hp) : Prop where
  len : st.length = σ.length
  slot : ∀ (i : Nat) (sv : SV), st[i]? = some sv → ∃ v, σ[i]? = some v ∧ SlotOk K (Av O st σ) H sv v
  inj : ∀ (i j : Nat) (p : Addr), OwnAt st σ i p → OwnAt st σ j p → i = j
  avoid : ∀ (p : Addr), Own st σ p → ¬ O p
  odom : ∀ (p : Addr), O p → H p ≠ none
  tabs : LamX.Tabs Tb H
theorem Cont.there {K : PySem.W.Frag} {O : AS} {H : Hp} {p : Addr} {c : OC} (h : Cont K O H p c) : H p ≠ none := by
  cases c with
  | l xs => obtain ⟨_, e, _⟩ := h; rw [e]; exact fun z => nomatch z
  | m xs => obtain ⟨_, e, _⟩ := h; rw [e]; exact fun z => nomatch z
theorem Cont.mono {K : PySem.W.Frag} {O O' : AS} {H H' : Hp} {p : Addr} (hO : ∀ a, O' a → O a ∨ H a = none) (hH : ∀ a o, H a = some o → NTb o → ¬ O a → H' a = some o) (hp : H' p = H p) {c : OC} (h : Cont K O H p c) : Cont K O' H' p c := by
  cases c with
  | l xs => obtain ⟨vs, e, r⟩ := h; exact ⟨vs, hp.trans e, RpL.mono hO hH _ _ r⟩
  | m xs => obtain ⟨vs, e, r⟩ := h; exact ⟨vs, hp.trans e, RpD.mono hO hH _ _ r⟩
theorem tabs_upd {T : List (Addr × Str)} {H : Hp} {p : Addr} {o : HO} (t : LamX.Tabs T H) (hp : ∀ u, H p = some u → (∃ xs, u = .lst xs) ∨ ∃ ks, u = .dK ks) : LamX.Tabs T (L2.upd H p o) := by
  have ne1 : ∀ (a : Addr) (u : HO), H a = some u → (∀ xs, u ≠ .lst xs) → (∀ ks, u ≠ .dK ks) → L2.upd H p o a = some u := fun a u e h1 h2 => by
    rw [upd_ne fun z => ?_]
    · exact e
    · rcases hp u (z ▸ e) with ⟨xs, q⟩ | ⟨ks, q⟩
      · exact h1 xs q
      · exact h2 ks q
  intro q hq
  obtain ⟨ps, h1, h2, h3⟩ := t q hq
  refine ⟨ps, ne1 _ _ h1 (fun _ z => nomatch z) (fun _ z => nomatch z), h2, fun pos cv hc => ?_⟩
  obtain ⟨c, e1, e2⟩ := h3 pos cv hc
  exact ⟨c, e1, ne1 _ _ e2 (fun _ z => by unfold LamX.CodeO at z; cases z) (fun _ z => by unfold LamX.CodeO at z; cases z)⟩
theorem Cont.kind {K : PySem.W.Frag} {O : AS} {H : Hp} {p : Addr} {c : OC} (h : Cont K O H p c) : ∀ u, H p = some u → (∃ xs, u = .lst xs) ∨ ∃ ks, u = .dK ks := fun u e => by
  cases c with
  | l xs => obtain ⟨vs, e1, _⟩ := h; rw [e1] at e; cases e; exact .inl ⟨_, rfl⟩
  | m xs => obtain ⟨vs, e1, _⟩ := h; rw [e1] at e; cases e; exact .inr ⟨_, rfl⟩
theorem Cont.ntb {K : PySem.W.Frag} {O : AS} {H : Hp} {p : Addr} {c : OC} (h : Cont K O H p c) {u : HO} (e : H p = some u) : NTb u := fun ps z => by
  rcases h.kind u e with ⟨xs, q⟩ | ⟨ks, q⟩ <;> (rw [q] at z; cases z)
theorem FR.ownc {K : PySem.W.Frag} {O : AS} {st : VS} {σ : L2.St} {H : Hp} (F : FR Tb K O st σ H) {i : Nat} {p : Addr} (h : OwnAt st σ i p) : ∃ c, (st[i]? = some (.own c) ∨ st[i]? = some (.io c) ∨ st[i]? = some (.lk c)) ∧ Cont K (Av O st σ) H p c := by
  obtain ⟨e, c, h⟩ := h
  refine ⟨c, h, ?_⟩
  rcases h with h | h | h
  all_goals
    obtain ⟨v, ev, q, eq, r⟩ := F.slot i _ h
    rw [e] at ev; cases ev; cases eq
    exact r
theorem FR.ownSome {K : PySem.W.Frag} {O : AS} {st : VS} {σ : L2.St} {H : Hp} (F : FR Tb K O st σ H) {p : Addr} (h : Own st σ p) : H p ≠ none := by
  obtain ⟨i, h⟩ := h
  obtain ⟨c, _, r⟩ := F.ownc h
  exact r.there
/-- from one state of a frame to a later one -/
structure Step (Tb : List (Addr × Str)) (K : PySem.W.Frag) (O : AS) (st : VS) (σ : L2.St) (H : Hp) (st' : VS) (σ' : L2.St) (H' : Hp) : Prop where
  fr : FR Tb K O st' σ' H'
  keep : ∀ (a : Addr) (o : HO), H a = some o → NTb o → ¬ MutO st σ a → H' a = some o
  new : ∀ (a : Addr), Own st' σ' a → Own st σ a ∨ H a = none
  mnew : ∀ (a : Addr), MutO st' σ' a → MutO st σ a ∨ H a = none
  dom : ∀ (a : Addr), H' a = none → H a = none
  len : σ'.length = σ.length
  io : ∀ (i : Nat) (c : OC), st[i]? = some (.io c) → (∃ c', st'[i]? = some (.io c')) ∧ σ'[i]? = σ[i]?
  lk : ∀ (i : Nat) (c : OC), st[i]? = some (.lk c) → st'[i]? = some (.lk c) ∧ σ'[i]? = σ[i]?
section
variable {K : PySem.W.Frag} {O : AS} {st st1 st2 : VS} {σ σ1 σ2 : L2.St} {H H1 H2 : Hp}
theorem Step.refl (F : FR Tb K O st σ H) : Step Tb K O st σ H st σ H := ⟨F, fun _ _ h _ _ => h, fun _ h => .inl h, fun _ h => .inl h, fun _ h => h, rfl, fun _ c h => ⟨⟨c, h⟩, rfl⟩, fun _ _ h => ⟨h, rfl⟩⟩
theorem Step.trans (a : Step Tb K O st σ H st1 σ1 H1) (b : Step Tb K O st1 σ1 H1 st2 σ2 H2) : Step Tb K O st σ H st2 σ2 H2 where
  fr := b.fr
  keep := fun x o h t n => b.keep x o (a.keep x o h t n) t fun z => (a.mnew x z).elim n fun q => by rw [h] at q; cases q
  new := fun x h => (b.new x h).elim (a.new x) fun q => .inr (a.dom x q)
  mnew := fun x h => (b.mnew x h).elim (a.mnew x) fun q => .inr (a.dom x q)
  dom := fun x h => a.dom x (b.dom x h)
  len := b.len.trans a.len
  io := fun i c h => by
    obtain ⟨⟨c', h'⟩, e⟩ := a.io i c h
    obtain ⟨q, e'⟩ := b.io i c' h'
    exact ⟨q, e'.trans e⟩
  lk := fun i c h => by
    obtain ⟨h', e⟩ := a.lk i c h
    obtain ⟨q, e'⟩ := b.lk i c h'
    exact ⟨q, e'.trans e⟩
/-- data stay -/
theorem Step.rp (a : Step Tb K O st σ H st1 σ1 H1) {d : Da} {v : V} (h : Rp K (Av O st σ) H d v) : Rp K (Av O st1 σ1) H1 d v :=
  Rp.mono (fun x hx => hx.elim (fun q => .inl (.inl q)) fun q => (a.new x q).elim (fun q => .inl (.inr q)) .inr) (fun x o e t n => a.keep x o e t fun z => n (.inr z.own)) _ _ h
theorem Step.rpl (a : Step Tb K O st σ H st1 σ1 H1) {d : List Da} {v : List V} (h : RpL K (Av O st σ) H d v) : RpL K (Av O st1 σ1) H1 d v :=
  RpL.mono (fun x hx => hx.elim (fun q => .inl (.inl q)) fun q => (a.new x q).elim (fun q => .inl (.inr q)) .inr) (fun x o e t n => a.keep x o e t fun z => n (.inr z.own)) _ _ h
/-- new objects alone -/
theorem FR.ext (F : FR Tb K O st σ H) (k : Same H H1) : FR Tb K O st σ H1 := by
  refine ⟨F.len, fun i sv h => ?_, F.inj, F.avoid, fun p h z => F.odom p h (k.free z), F.tabs.ext k⟩
  obtain ⟨v, e, r⟩ := F.slot i sv h
  refine ⟨v, e, ?_⟩
  have hp : ∀ p c, Cont K (Av O st σ) H p c → Cont K (Av O st σ) H1 p c := fun p c q => by
    refine q.mono (fun _ h => .inl h) (fun a o e _ _ => k a o e) ?_
    cases e : H p with
    | none => exact absurd e q.there
    | some o => exact k _ _ e
  cases sv with
  | un => trivial
  | d x => obtain ⟨w, e, r⟩ := r; exact ⟨w, e, Rp.mono (fun _ h => .inl h) (fun a o e _ _ => k a o e) _ _ r⟩
  | own c => obtain ⟨p, e, r⟩ := r; exact ⟨p, e, hp p c r⟩
  | io c => obtain ⟨p, e, r⟩ := r; exact ⟨p, e, hp p c r⟩
  | lk c => obtain ⟨p, e, r⟩ := r; exact ⟨p, e, hp p c r⟩
  | rd xs =>
    obtain ⟨a, vs, e, r, q⟩ := r
    exact ⟨a, vs, e, r.mono (fun _ h => .inl h) (fun a o e _ _ => k a o e), RpL.mono (fun _ h => .inl h) (fun a o e _ _ => k a o e) _ _ q⟩
theorem Step.ext (F : FR Tb K O st σ H) (k : Same H H1) : Step Tb K O st σ H st σ H1 :=
  ⟨F.ext k, fun a o h _ _ => k a o h, fun _ h => .inl h, fun _ h => .inl h, fun a h => k.free h, rfl, fun _ c h => ⟨⟨c, h⟩, rfl⟩, fun _ _ h => ⟨h, rfl⟩⟩
/-- a new address is kept away from -/
theorem FR.away (F : FR Tb K O st σ H) {p : Addr} (hp : H p = none) (k : Same H H1) (hp1 : H1 p ≠ none) : FR Tb K (O.with p) st σ H1 := by
  have F1 := F.ext k
  have no : ¬ Own st σ p := fun z => F.ownSome z hp
  have mo : ∀ a, Av (O.with p) st σ a → Av O st σ a ∨ H a = none := fun a h => by
    rcases h with (h | h) | h
    · exact .inl (.inl h)
    · exact .inr (by rw [h]; exact hp)
    · exact .inl (.inr h)
  refine ⟨F.len, fun i sv h => ?_, F.inj, fun q h z => z.elim (F.avoid q h) fun e => no (e ▸ h), fun q h z => h.elim (fun h => F.odom q h (k.free z)) fun e => hp1 (e ▸ z), F.tabs.ext k⟩
  obtain ⟨v, e, r⟩ := F.slot i sv h
  refine ⟨v, e, ?_⟩
  have hpc : ∀ q c, Cont K (Av O st σ) H q c → Cont K (Av (O.with p) st σ) H1 q c := fun q c r => by
    refine r.mono mo (fun a o e _ _ => k a o e) ?_
    cases e : H q with
    | none => exact absurd e r.there
    | some o => exact k _ _ e
  cases sv with
  | un => trivial
  | d x => obtain ⟨w, e, r⟩ := r; exact ⟨w, e, Rp.mono mo (fun a o e _ _ => k a o e) _ _ r⟩
  | own c => obtain ⟨p, e, r⟩ := r; exact ⟨p, e, hpc p c r⟩
  | io c => obtain ⟨p, e, r⟩ := r; exact ⟨p, e, hpc p c r⟩
  | lk c => obtain ⟨p, e, r⟩ := r; exact ⟨p, e, hpc p c r⟩
  | rd xs =>
    obtain ⟨a, vs, e, r, q⟩ := r
    exact ⟨a, vs, e, r.mono mo (fun a o e _ _ => k a o e), RpL.mono mo (fun a o e _ _ => k a o e) _ _ q⟩
end
/-! ### results -/
inductive Err where
  | exc (C : Str) (fs : List (Str × Da)) (st : VS)
  | stuck
abbrev Res := Except Err
/-- what an expression gives: a datum; a new list or dict; the one that the slot i holds -/
inductive EV where
  | d (x : Da)
  | own (c : OC)
  | loan (i : Nat)
abbrev VM (α : Type) := VS → Res (α × VS)
/-- H0: the heap ahead -/
def ER (Tb : List (Addr × Str)) (K : PySem.W.Frag) (O : AS) (H0 : Hp) (st : VS) (σ : L2.St) (H : Hp) (v : V) : EV → Prop
  | .d x => Rp K (Av O st σ) H x v
  | .own c => ∃ p, v = .ref p ∧ H0 p = none ∧ ¬ O p ∧ FR Tb K (O.with p) st σ H ∧ Cont K (Av (O.with p) st σ) H p c
  | .loan i => σ[i]? = some (some v)
/-- the own dict of an exception: its fields; none where it has none -/
def ExD (H : Hp) (d : Option Addr) (ws : List (Str × V)) : Prop := match d with
  | some d => H d = some (.xd ws)
  | none => ws = []
/-- what is wanted of an exception that leaves: the class by its name, its fields in its own dict -/
def XW (Tb : List (Addr × Str)) (K : PySem.W.Frag) (mg : Str → Option Value) (W : WX) (O : AS) (st : VS) (σ : L2.St) (H : Hp) (C : Str) (fs : List (Str × Da)) (st' : VS) : Prop :=
  ∀ (Ca : Addr) (d : Option Addr) (σ' : L2.St) (H' : Hp) (ws : List (Str × V)), mg C = some (.ref Ca) → Step Tb K O st σ H st' σ' H' → ExD H' d ws →
    RpL K (Av O st' σ') H' (fs.map (·.2)) (ws.map (·.2)) → fs.map (·.1) = ws.map (·.1) → W (.ref Ca) d σ' H'
/-- what a run comes to -/
def VRun (Tb : List (Addr × Str)) {α : Type} (K : PySem.W.Frag) (mg : Str → Option Value) (W : WX) (O : AS) (st : VS) (σ : L2.St) (H : Hp) (r : Res (α × VS)) (k : α → VS → Prop) : Prop :=
  match r with
  | .ok (a, st') => k a st'
  | .error (.exc C fs st') => XW Tb K mg W O st σ H C fs st'
  | .error .stuck => False
theorem VRun.step {α : Type} {K : PySem.W.Frag} {mg : Str → Option Value} {W : WX} {O : AS} {st st1 : VS} {σ σ1 : L2.St} {H H1 : Hp} {r : Res (α × VS)} {k : α → VS → Prop} (S : Step Tb K O st σ H st1 σ1 H1) (h : VRun Tb K mg W O st σ H r k) : VRun Tb K mg W O st1 σ1 H1 r k := by
  match r, h with
  | .ok (a, st'), h => exact h
  | .error (.exc C fs st'), h => exact fun Ca d σ' H' ws e S' => h Ca d σ' H' ws e (S.trans S')
  | .error .stuck, h => exact h.elim
/-- the reading of an expression -/
def tV (Tb : List (Addr × Str)) (K : PySem.W.Frag) (mg : Str → Option Value) (W : WX) (f : VM EV) : TE := fun σ H Q =>
  ∃ O st, FR Tb K O st σ H ∧ VRun Tb K mg W O st σ H (f st) fun r st' => ∀ v H', Step Tb K O st σ H st' σ H' → ER Tb K O H st' σ H' v r → Q v H'
/-- of a test -/
def tVT (Tb : List (Addr × Str)) (K : PySem.W.Frag) (mg : Str → Option Value) (W : WX) (f : VM Bool) : TT := fun σ H Q =>
  ∃ O st, FR Tb K O st σ H ∧ VRun Tb K mg W O st σ H (f st) fun b st' => ∀ H', Step Tb K O st σ H st' σ H' → Q b H'
end VL
set_option Elab.async false
set_option linter.all false
set_option maxRecDepth 100000
namespace VL
open PySem PySem.Spec PyProof.Rows L2
/-! ### running one behind the other -/
def vb {α β : Type} (f : VM α) (g : α → VM β) : VM β := fun s =>
  match f s with
  | .ok (a, s1) => g a s1
  | .error e => .error e
def vr {α : Type} (a : α) : VM α := fun s => .ok (a, s)
def vStuck {α : Type} : VM α := fun _ => .error .stuck
def vOpt {α : Type} : Option α → VM α
  | some a => vr a
  | none => vStuck
/-- .. read as a datum or as what a slot owns -/
def Ro (K : PySem.W.Frag) (O : AS) (H : Hp) (x : Da) (v : V) : Prop := Rp K O H x v ∨ ∃ p c, v = .ref p ∧ x = OC.data c ∧ Cont K O H p c
def RoL (K : PySem.W.Frag) (O : AS) (H : Hp) : List Da → List V → Prop
  | [], vs => vs = []
  | d :: ds, vs => ∃ w ws, vs = w :: ws ∧ Ro K O H d w ∧ RoL K O H ds ws
/-- a new result -/
def NR (K : PySem.W.Frag) (O : AS) (H H' : Hp) (u : V) : EV → Prop
  | .d x => Rp K O H' x u
  | .own c => ∃ p, u = .ref p ∧ H p = none ∧ Cont K (O.with p) H' p c
  | .loan _ => False
def settle : EV → EV
  | .own c => .d c.data
  | r => r
def vRd (r : EV) : VM Da := fun s =>
  match r with
  | .d x => .ok (x, s)
  | .own c => .ok (c.data, s)
  | .loan i =>
    match s[i]? with
    | some (.own c) => .ok (c.data, s)
    | some (.io c) => .ok (c.data, s)
    | some (.lk c) => .ok (c.data, s)
    | _ => .error .stuck
section
variable {K : PySem.W.Frag} {mg : Str → Option Value} {W : WX} {O : AS} {st st1 st2 : VS} {σ σ1 σ2 : L2.St} {H H0 H1 H2 : Hp} {v : V} {r : EV}
theorem Cont.sub {O' : AS} {p : Addr} {c : OC} (hO : ∀ a, O' a → O a) (h : Cont K O H p c) : Cont K O' H p c := h.mono (fun a z => .inl (hO a z)) (fun _ _ e _ _ => e) rfl
theorem Rp.sub {O' : AS} {d : Da} (hO : ∀ a, O' a → O a) (h : Rp K O H d v) : Rp K O' H d v := Rp.mono (fun a z => .inl (hO a z)) (fun _ _ e _ _ => e) _ _ h
theorem RpL.sub {O' : AS} {ds : List Da} {vs : List V} (hO : ∀ a, O' a → O a) (h : RpL K O H ds vs) : RpL K O' H ds vs := RpL.mono (fun a z => .inl (hO a z)) (fun _ _ e _ _ => e) _ _ h
theorem Cont.rp {p : Addr} {c : OC} (h : Cont K O H p c) (n : ¬ O p) : Rp K O H c.data (.ref p) := by
  cases c with
  | l xs => obtain ⟨vs, e, r⟩ := h; simp only [OC.data, Rp]; exact ⟨p, vs, rfl, e, n, r⟩
  | m kvs => obtain ⟨vs, e, r⟩ := h; simp only [OC.data, Rp]; exact ⟨p, vs, rfl, e, n, r⟩
theorem Av.with_sub {p : Addr} : ∀ a, Av O st σ a → Av (O.with p) st σ a := fun a h => h.elim (fun h => .inl (.inl h)) .inr
theorem ER.settle (h : ER Tb K O H0 st σ H v r) : ER Tb K O H1 st σ H v (settle r) := by
  cases r with
  | d x => exact h
  | loan i => exact h
  | own c =>
    obtain ⟨p, rfl, _, n, F, C⟩ := h
    exact (C.sub Av.with_sub).rp fun z => z.elim n fun z => F.avoid p z (.inr rfl)
/-- a settled result at a later state -/
theorem ER.later (h : ER Tb K O H0 st σ H v (VL.settle r)) (S : Step Tb K O st σ H st1 σ H1) : ER Tb K O H2 st1 σ H1 v (VL.settle r) := by
  cases r with
  | d x => exact S.rp h
  | loan i => exact h
  | own c => exact S.rp (d := c.data) h
theorem ER.back (h : ER Tb K O H1 st σ H v r) (d : ∀ a, H1 a = none → H0 a = none) : ER Tb K O H0 st σ H v r := by
  cases r with
  | d x => exact h
  | loan i => exact h
  | own c =>
    obtain ⟨p, e, n, r⟩ := h
    exact ⟨p, e, d p n, r⟩
theorem vRd_ok {x : Da} (F : FR Tb K O st σ H) (h : ER Tb K O H0 st σ H v r) (e : vRd r st = .ok (x, st1)) : st1 = st ∧ Ro K (Av O st σ) H x v := by
  cases r with
  | d y => cases e; exact ⟨rfl, .inl h⟩
  | own c =>
    cases e
    obtain ⟨p, ev, _, n, F', C⟩ := h
    exact ⟨rfl, .inr ⟨p, c, ev, rfl, C.sub Av.with_sub⟩⟩
  | loan i =>
    have h : σ[i]? = some (some v) := h
    unfold vRd at e
    dsimp only at e
    cases q : st[i]? with
    | none => rw [q] at e; cases e
    | some sv =>
      rw [q] at e
      obtain ⟨w, ew, sl⟩ := F.slot i sv q
      rw [h] at ew; cases ew
      cases sv with
      | un => cases e
      | d x => cases e
      | rd x => cases e
      | own c => cases e; obtain ⟨p, e, C⟩ := sl; cases e; exact ⟨rfl, .inr ⟨p, c, rfl, rfl, C⟩⟩
      | io c => cases e; obtain ⟨p, e, C⟩ := sl; cases e; exact ⟨rfl, .inr ⟨p, c, rfl, rfl, C⟩⟩
      | lk c => cases e; obtain ⟨p, e, C⟩ := sl; cases e; exact ⟨rfl, .inr ⟨p, c, rfl, rfl, C⟩⟩
theorem NR.er {z : EV} (F : FR Tb K O st σ H) (k : Same H H1) (h : NR K (Av O st σ) H H1 v z) : ER Tb K O H st σ H1 v z := by
  cases z with
  | d x => exact h
  | loan i => exact h.elim
  | own c =>
    obtain ⟨p, e, n, C⟩ := h
    refine ⟨p, e, n, fun z => F.odom p z n, F.away n k C.there, C.sub fun a h => ?_⟩
    rcases h with (h | h) | h
    · exact .inl (.inl h)
    · exact .inr h
    · exact .inl (.inr h)
theorem FR.avdom (F : FR Tb K O st σ H) : ∀ a, Av O st σ a → H a ≠ none := fun a h => h.elim (F.odom a) F.ownSome
/-- one expression, then the rest -/
theorem tV.bind {α : Type} {fa : VM EV} {g : EV → VM α} {k : α → VS → Prop} {Q : VK} (F : FR Tb K O st σ H) (h : VRun Tb K mg W O st σ H (vb fa g st) k)
    (cont : ∀ r s1 v H1, Step Tb K O st σ H s1 σ H1 → ER Tb K O H s1 σ H1 v r → VRun Tb K mg W O s1 σ H1 (g r s1) k → Q v H1) : tV Tb K mg W fa σ H Q := by
  refine ⟨O, st, F, ?_⟩
  unfold vb at h
  cases e : fa st with
  | ok p =>
    obtain ⟨r, s1⟩ := p
    rw [e] at h
    exact fun v H1 S E => cont r s1 v H1 S E (h.step S)
  | error er =>
    rw [e] at h
    cases er with
    | exc C fs s1 => exact h
    | stuck => exact h
theorem tVT.bind {α : Type} {fa : VM Bool} {g : Bool → VM α} {k : α → VS → Prop} {Q : Bool → Hp → Prop} (F : FR Tb K O st σ H) (h : VRun Tb K mg W O st σ H (vb fa g st) k)
    (cont : ∀ b s1 H1, Step Tb K O st σ H s1 σ H1 → VRun Tb K mg W O s1 σ H1 (g b s1) k → Q b H1) : tVT Tb K mg W fa σ H Q := by
  refine ⟨O, st, F, ?_⟩
  unfold vb at h
  cases e : fa st with
  | ok p =>
    obtain ⟨r, s1⟩ := p
    rw [e] at h
    exact fun H1 S => cont r s1 H1 S (h.step S)
  | error er =>
    rw [e] at h
    cases er with
    | exc C fs s1 => exact h
    | stuck => exact h
/-- a pure step -/
theorem VRun.rd {α : Type} {g : Da → VM α} {k : α → VS → Prop} (F : FR Tb K O st σ H) (E : ER Tb K O H0 st σ H v r) (h : VRun Tb K mg W O st σ H (vb (vRd r) g st) k) :
    ∃ x, Ro K (Av O st σ) H x v ∧ VRun Tb K mg W O st σ H (g x st) k := by
  unfold vb at h
  cases e : vRd r st with
  | ok p =>
    obtain ⟨x, s1⟩ := p
    rw [e] at h
    obtain ⟨rfl, R⟩ := vRd_ok F E e
    exact ⟨x, R, h⟩
  | error er =>
    rw [e] at h
    have : er = .stuck := by
      cases r with
      | d x => cases e
      | own c => cases e
      | loan i =>
        unfold vRd at e
        dsimp only at e
        split at e <;> cases e
        rfl
    subst this
    exact h.elim
theorem VRun.opt {α β : Type} {o : Option α} {g : α → VM β} {k : β → VS → Prop} (h : VRun Tb K mg W O st σ H (vb (vOpt o) g st) k) : ∃ a, o = some a ∧ VRun Tb K mg W O st σ H (g a st) k := by
  cases o with
  | none => exact h.elim
  | some a => exact ⟨a, rfl, h⟩
theorem VRun.opt1 {α : Type} {o : Option α} {k : α → VS → Prop} (h : VRun Tb K mg W O st σ H (vOpt o st) k) : ∃ a, o = some a ∧ k a st := by
  cases o with
  | none => exact h.elim
  | some a => exact ⟨a, rfl, h⟩
end
theorem PE.wk {X : Cx} {e : Expr} {t t' : TE} (h : PE X e t) (w : ∀ σ H Q, t' σ H Q → t σ H Q) : PE X e t' := ⟨fun pins s σ H Q I q => h.run pins s σ H Q I (w σ H Q q)⟩
theorem PT.wk {X : Cx} {e : Expr} {t t' : TT} (h : PT X e t) (w : ∀ σ H Q, t' σ H Q → t σ H Q) : PT X e t' := ⟨fun pins s σ H Q I q => h.run pins s σ H Q I (w σ H Q q)⟩
theorem PW.wk {X : Cx} {e : Expr} {t t' : TT} (h : PW X e t) (w : ∀ σ H Q, t' σ H Q → t σ H Q) : PW X e t' := ⟨fun wh pins s σ H Q I q => h.run wh pins s σ H Q I (w σ H Q q)⟩
theorem PA.wk {X : Cx} {es : List Expr} {t t' : TA} (h : PA X es t) (w : ∀ σ H Q, t' σ H Q → t σ H Q) : PA X es t' := ⟨fun pos pins s σ H Q I q => h.run pos pins s σ H Q I (w σ H Q q)⟩
/-! ### judgements -/
abbrev VE (Tb : List (Addr × Str)) (X : Cx) (W : WX) (e : Expr) (f : VM EV) : Prop := PE X e (tV Tb X.K X.mg W f)
abbrev VT (Tb : List (Addr × Str)) (X : Cx) (W : WX) (e : Expr) (f : VM Bool) : Prop := PT X e (tVT Tb X.K X.mg W f)
abbrev VW (Tb : List (Addr × Str)) (X : Cx) (W : WX) (e : Expr) (f : VM Bool) : Prop := PW X e (tVT Tb X.K X.mg W f)
section
variable {X : Cx} {W : WX} {a b c : Expr} {pos : Pos} {fa fb fc : VM EV} {ga gb : VM Bool}
/-! names and constants -/
def vVar (i : Nat) : VM EV := fun s =>
  match s[i]? with
  | some (.d x) => .ok (.d x, s)
  | some (.own _) => .ok (.loan i, s)
  | some (.io _) => .ok (.loan i, s)
  | some (.lk _) => .ok (.loan i, s)
  | some (.rd _) => .ok (.loan i, s)
  | _ => .error .stuck
def vC (x : Da) : VM EV := vr (.d x)
theorem ve_wkVar {e : Expr} {i : Nat} (h : PE X e (tVar i)) : VE Tb X W e (vVar i) := by
  refine PE.wk h fun σ H Q h => ?_
  obtain ⟨O, st, F, h⟩ := h
  unfold vVar at h
  cases q : st[i]? with
  | none => rw [q] at h; exact h.elim
  | some sv =>
    rw [q] at h
    obtain ⟨w, ew, sl⟩ := F.slot i sv q
    cases sv with
    | un => exact h.elim
    | d x => obtain ⟨u, rfl, r⟩ := sl; exact ⟨u, ew, h u H (Step.refl F) r⟩
    | own c => obtain ⟨p, rfl, r⟩ := sl; exact ⟨_, ew, h _ H (Step.refl F) ew⟩
    | io c => obtain ⟨p, rfl, r⟩ := sl; exact ⟨_, ew, h _ H (Step.refl F) ew⟩
    | lk c => obtain ⟨p, rfl, r⟩ := sl; exact ⟨_, ew, h _ H (Step.refl F) ew⟩
    | rd xs => obtain ⟨a, vs, rfl, r⟩ := sl; exact ⟨_, ew, h _ H (Step.refl F) ew⟩
theorem vv (i : Nat) {x : Str} {pos : Pos} (hN : X.N[i]? = some x := by rfl) (hv : Vis X.env.scope x := by first | exact Or.inl rfl | exact Or.inr (Or.inl rfl) | exact Or.inr (Or.inr rfl)) (hd : (x == ("__debug__" : Str)) = false := by decide)
    (hcd : (x == ("__classdict__" : Str)) = false := by decide) : VE Tb X W (.Name x pos) (vVar i) := ve_wkVar (pe_var hN hv hd hcd)
theorem ve_c {e : Expr} {v : V} {x : Da} (h : PE X e (tC v)) (r : ∀ O H, Rp X.K O H x v) : VE Tb X W e (vC x) := by
  refine PE.wk h fun σ H Q h => ?_
  obtain ⟨O, st, F, h⟩ := h
  exact h v H (Step.refl F) (r _ _)
theorem ve_int {i j pos} : VE Tb X W (.Constant (.int i) j pos) (vC (.int i)) := ve_c pe_int fun _ _ => by simp only [Rp]
theorem ve_bl {b j pos} : VE Tb X W (.Constant (.bool b) j pos) (vC (.bool b)) := ve_c pe_bl fun _ _ => by simp only [Rp]
theorem ve_non {j pos} : VE Tb X W (.Constant .none j pos) (vC .none) := ve_c pe_non fun _ _ => by simp only [Rp]
theorem ve_str {x j pos} : VE Tb X W (.Constant (.str x) j pos) (vC (.str x)) := ve_c pe_str fun _ _ => by simp only [Rp]
/-! operators -/
/-- f gives what g says of the data -/
def Op2 (X : Cx) (f : Value → Value → Sem Value) (g : Da → Da → Option EV) : Prop :=
  ∃ r, OpR X f r ∧ ∀ O H x y v w z (Q : VK), (∀ a, O a → H a ≠ none) → Ro X.K O H x v → Ro X.K O H y w → g x y = some z → (∀ u H', Same H H' → NR X.K O H H' u z → Q u H') → r v w H Q
def vBin (g : Da → Da → Option EV) (fa fb : VM EV) : VM EV := vb fa fun ra => vb fb fun rb => vb (vRd (settle ra)) fun x => vb (vRd rb) fun y => vOpt (g x y)
theorem bin_wk {r : R2} {g : Da → Da → Option EV} {σ : L2.St} {H : Hp} {Q : VK} (hg : ∀ O H x y v w z (Q : VK), (∀ a, O a → H a ≠ none) → Ro X.K O H x v → Ro X.K O H y w → g x y = some z → (∀ u H', Same H H' → NR X.K O H H' u z → Q u H') → r v w H Q)
    (h : tV Tb X.K X.mg W (vBin g fa fb) σ H Q) : tOp r (tV Tb X.K X.mg W fa) (tV Tb X.K X.mg W fb) σ H Q := by
  obtain ⟨O, st, F, h⟩ := h
  refine tV.bind F h fun ra s1 v H1 S1 E1 h => ?_
  refine tV.bind S1.fr h fun rb s2 w H2 S2 E2 h => ?_
  obtain ⟨x, Rx, h⟩ := h.rd S2.fr ((E1.settle (H1 := H)).later S2 (H2 := H))
  obtain ⟨y, Ry, h⟩ := h.rd S2.fr E2
  obtain ⟨z, ez, h⟩ := h.opt1
  refine hg (Av O s2 σ) H2 x y v w z Q S2.fr.avdom Rx Ry ez fun u H' k n => ?_
  have S := S1.trans S2
  exact h u H' (S.trans (Step.ext S.fr k)) ((NR.er S.fr k n).back S.dom)
theorem ve_bin {op : Operator} {g : Da → Da → Option EV} (ho : Op2 X (binaryOp op) g) (ha : VE Tb X W a fa) (hb : VE Tb X W b fb) : VE Tb X W (.BinOp a op b pos) (vBin g fa fb) := by
  obtain ⟨r, hr, hg⟩ := ho
  exact PE.wk (pe_op hr ha hb) fun σ H Q h => bin_wk hg h
theorem ve_cmp {op : CmpOp} {g : Da → Da → Option EV} (ho : Op2 X (compareOp op) g) (ha : VE Tb X W a fa) (hb : VE Tb X W b fb) (hm : behindInMarks op b = false := by first | exact nomark _ | rfl | with_unfolding_all rfl) : VE Tb X W (.Compare a [op] [b] pos) (vBin g fa fb) := by
  obtain ⟨r, hr, hg⟩ := ho
  exact PE.wk (pe_cmpR hr ha hb hm) fun σ H Q h => bin_wk hg h
/-- a bool that an expression gives -/
def evB : EV → Option Bool
  | .d (.bool b) => some b
  | _ => none
def vBool (f : VM EV) : VM Bool := vb f fun r => vOpt (evB r)
theorem bool_wk {fe : VM EV} {σ : L2.St} {H : Hp} {Q : Bool → Hp → Prop} (h : tVT Tb X.K X.mg W (vBool fe) σ H Q) : tV Tb X.K X.mg W fe σ H (fun x H' => ∃ k, x = .bl k ∧ Q k H') := by
  obtain ⟨O, st, F, h⟩ := h
  refine tV.bind F h fun r s1 v H1 S1 E1 h => ?_
  obtain ⟨k, e, h⟩ := h.opt1
  cases r with
  | d x =>
    cases x with
    | bool b' =>
      cases e
      have E1 : Rp X.K (Av O s1 σ) H1 (.bool k) v := E1
      simp only [Rp] at E1
      exact ⟨k, E1, h H1 S1⟩
    | _ => cases e
  | _ => cases e
theorem vt_cmp {op : CmpOp} {g : Da → Da → Option EV} (ho : Op2 X (compareOp op) g) (ha : VE Tb X W a fa) (hb : VE Tb X W b fb) (hm : behindInMarks op b = false := by first | exact nomark _ | rfl | with_unfolding_all rfl) : VT Tb X W (.Compare a [op] [b] pos) (vBool (vBin g fa fb)) := by
  obtain ⟨r, hr, hg⟩ := ho
  exact PT.wk (pt_cmpR hr ha hb hm) fun σ H Q h => bin_wk hg (bool_wk h)
def Op1 (X : Cx) (f : Value → Sem Value) (g : Da → Option EV) : Prop :=
  ∃ r, UnR X f r ∧ ∀ O H x v z (Q : VK), (∀ a, O a → H a ≠ none) → Ro X.K O H x v → g x = some z → (∀ u H', Same H H' → NR X.K O H H' u z → Q u H') → r v H Q
def vUn (g : Da → Option EV) (fa : VM EV) : VM EV := vb fa fun ra => vb (vRd ra) fun x => vOpt (g x)
theorem ve_un {op : UnaryOp} {g : Da → Option EV} (ho : Op1 X (unaryOp op) g) (ha : VE Tb X W a fa) : VE Tb X W (.UnaryOp op a pos) (vUn g fa) := by
  obtain ⟨r, hr, hg⟩ := ho
  refine PE.wk (pe_un hr ha) fun σ H Q h => ?_
  obtain ⟨O, st, F, h⟩ := h
  refine tV.bind F h fun ra s1 v H1 S1 E1 h => ?_
  obtain ⟨x, Rx, h⟩ := h.rd S1.fr E1
  obtain ⟨z, ez, h⟩ := h.opt1
  refine hg (Av O s1 σ) H1 x v z Q S1.fr.avdom Rx ez fun u H' k n => ?_
  exact h u H' (S1.trans (Step.ext S1.fr k)) ((NR.er S1.fr k n).back S1.dom)
/-- a op1 b op2 c -/
def vChain (g g' : Da → Da → Option EV) (fa fb fc : VM EV) : VM EV := vb fa fun ra => vb fb fun rb => vb (vRd (settle ra)) fun x => vb (vRd (settle rb)) fun y => vb (vOpt ((g x y).bind evB)) fun k =>
  if k = true then vb fc fun rc => vb (vRd (settle rb)) fun y => vb (vRd rc) fun z => vOpt (g' y z) else vC (.bool false)
theorem chain_wk {r r' : R2} {g g' : Da → Da → Option EV} {σ : L2.St} {H : Hp} {Q : VK}
    (hg : ∀ O H x y v w z (Q : VK), (∀ a, O a → H a ≠ none) → Ro X.K O H x v → Ro X.K O H y w → g x y = some z → (∀ u H', Same H H' → NR X.K O H H' u z → Q u H') → r v w H Q)
    (hg' : ∀ O H x y v w z (Q : VK), (∀ a, O a → H a ≠ none) → Ro X.K O H x v → Ro X.K O H y w → g' x y = some z → (∀ u H', Same H H' → NR X.K O H H' u z → Q u H') → r' v w H Q)
    (h : tV Tb X.K X.mg W (vChain g g' fa fb fc) σ H Q) : tChain r r' (tV Tb X.K X.mg W fa) (tV Tb X.K X.mg W fb) (tV Tb X.K X.mg W fc) σ H Q := by
  obtain ⟨O, st, F, h⟩ := h
  refine tV.bind F h fun ra s1 v H1 S1 E1 h => ?_
  refine tV.bind S1.fr h fun rb s2 w H2 S2 E2 h => ?_
  obtain ⟨x, Rx, h⟩ := h.rd S2.fr ((E1.settle (H1 := H)).later S2 (H2 := H))
  obtain ⟨y, Ry, h⟩ := h.rd S2.fr (E2.settle (H1 := H))
  obtain ⟨k, ek, h⟩ := h.opt
  obtain ⟨z, ez, ek⟩ := Option.bind_eq_some_iff.mp ek
  have S := S1.trans S2
  refine hg (Av O s2 σ) H2 x y v w z _ S2.fr.avdom Rx Ry ez fun u H' kp n => ?_
  have S3 := Step.ext S.fr kp
  have S' := S.trans S3
  cases z with
  | d q =>
    cases q with
    | bool b' =>
      cases ek
      have n : Rp X.K (Av O s2 σ) H' (.bool k) u := n
      simp only [Rp] at n
      refine ⟨k, n, ?_⟩
      cases k with
      | false =>
        rw [if_neg Bool.false_ne_true] at h
        exact iteF (h _ H' S' (by show Rp _ _ _ _ _; simp only [Rp]))
      | true =>
        rw [if_pos rfl] at h
        refine iteT (tV.bind S3.fr (h.step S3) fun rc s3 w' H3 S4 E3 h => ?_)
        obtain ⟨y, Ry, h⟩ := h.rd S4.fr (((E2.settle (H1 := H)).later S3 (H2 := H)).later S4 (H2 := H))
        obtain ⟨z, Rz, h⟩ := h.rd S4.fr E3
        obtain ⟨t, et, h⟩ := h.opt1
        refine hg' (Av O s3 σ) H3 y z w w' t Q S4.fr.avdom Ry Rz et fun u2 H4 k4 n4 => ?_
        have T := S'.trans S4
        exact h u2 H4 (T.trans (Step.ext T.fr k4)) ((NR.er T.fr k4 n4).back T.dom)
    | _ => cases ek
  | _ => cases ek
theorem ve_chain {op op' : CmpOp} {g g' : Da → Da → Option EV} (ho : Op2 X (compareOp op) g) (ho' : Op2 X (compareOp op') g') (ha : VE Tb X W a fa) (hb : VE Tb X W b fb) (hc : VE Tb X W c fc)
    (hm : lastMarks [op, op'] [b, c] = false := by with_unfolding_all rfl) : VE Tb X W (.Compare a [op, op'] [b, c] pos) (vChain g g' fa fb fc) := by
  obtain ⟨r, hr, hg⟩ := ho
  obtain ⟨r', hr', hg'⟩ := ho'
  exact PE.wk (pe_chain hr hr' ha hb hc hm) fun σ H Q h => chain_wk hg hg' h
theorem vt_chain {op op' : CmpOp} {g g' : Da → Da → Option EV} (ho : Op2 X (compareOp op) g) (ho' : Op2 X (compareOp op') g') (ha : VE Tb X W a fa) (hb : VE Tb X W b fb) (hc : VE Tb X W c fc)
    (hm : lastMarks [op, op'] [b, c] = false := by with_unfolding_all rfl) : VT Tb X W (.Compare a [op, op'] [b, c] pos) (vBool (vChain g g' fa fb fc)) := by
  obtain ⟨r, hr, hg⟩ := ho
  obtain ⟨r', hr', hg'⟩ := ho'
  exact PT.wk (pt_chain hr hr' ha hb hc hm) fun σ H Q h => chain_wk hg hg' (bool_wk h)
/-! tests -/
/-- the truth of a datum -/
def truD : Da → Option Bool
  | .none => some false
  | .bool b => some b
  | .int i => some (i != 0)
  | .str y => if y.length ≤ 16777216 then some ((y.length : Int) != 0) else none
  | .list xs => some (!xs.isEmpty)
  | .tuple xs => some (!xs.isEmpty)
  | .dict kvs => some (!kvs.isEmpty)
def vTru (f : VM EV) : VM Bool := vb f fun r => vb (vRd r) fun x => vOpt (truD x)
theorem RpD.isEmpty {K : PySem.W.Frag} {O : AS} {H : Hp} : ∀ {ds : List (Da × Da)} {ks : List (Key × V)}, RpD K O H ds ks → ds.isEmpty = ks.isEmpty
  | [], ks, h => by simp only [RpD] at h; subst h; rfl
  | (k, d) :: r, ks, h => by simp only [RpD] at h; obtain ⟨_, _, _, rfl, _⟩ := h; rfl
theorem RpL.isEmpty {K : PySem.W.Frag} {O : AS} {H : Hp} : ∀ {ds : List Da} {ks : List V}, RpL K O H ds ks → ds.isEmpty = ks.isEmpty
  | [], ks, h => by simp only [RpL] at h; subst h; rfl
  | d :: r, ks, h => by simp only [RpL] at h; obtain ⟨_, _, rfl, _⟩ := h; rfl
theorem truV_of {K : PySem.W.Frag} {O : AS} {H : Hp} {x : Da} {v : V} {k : Bool} (R : Ro K O H x v) (e : truD x = some k) : TruV K v H k := by
  rcases R with R | ⟨p, c, rfl, rfl, C⟩
  · cases x with
    | none => simp only [Rp] at R; subst R; cases e; exact rfl
    | bool b => simp only [Rp] at R; subst R; cases e; exact rfl
    | int i => simp only [Rp] at R; subst R; cases e; exact rfl
    | str s =>
      simp only [Rp] at R; subst R
      unfold truD at e
      dsimp only at e
      split at e
      · rename_i hl; cases e; exact ⟨by rw [sizeLine_eq]; exact hl, rfl⟩
      · cases e
    | list xs => simp only [Rp] at R; obtain ⟨a, vs, rfl, r, n, q⟩ := R; cases e; exact .inl ⟨vs, .of r, by rw [q.isEmpty]⟩
    | tuple xs =>
      simp only [Rp] at R; obtain ⟨a, vs, rfl, r, q⟩ := R; cases e
      exact .inr (.inl ⟨vs, r.elim (fun r => .of r.1) .inr, by rw [q.isEmpty]⟩)
    | dict xs => simp only [Rp] at R; obtain ⟨a, vs, rfl, r, n, q⟩ := R; cases e; exact .inr (.inr ⟨vs, r, by rw [q.isEmpty]⟩)
  · cases c with
    | l xs => obtain ⟨vs, r, q⟩ := C; cases e; exact .inl ⟨vs, .of r, by rw [q.isEmpty]⟩
    | m xs => obtain ⟨vs, r, q⟩ := C; cases e; exact .inr (.inr ⟨vs, r, by rw [q.isEmpty]⟩)
theorem vt_tru {e : Expr} {fe : VM EV} (h : VE Tb X W e fe) (he : ∀ whole, isTrue e X.env whole = (do let v ← whole; standAt e.pos; holding [v] (truthy v)) := by intro _; rfl) : VT Tb X W e (vTru fe) := by
  refine PT.wk (pt_truth h he) fun σ H Q h => ?_
  obtain ⟨O, st, F, h⟩ := h
  refine tV.bind F h fun r s1 v H1 S1 E1 h => ?_
  obtain ⟨x, Rx, h⟩ := h.rd S1.fr E1
  obtain ⟨k, ek, h⟩ := h.opt1
  exact ⟨k, truV_of Rx ek, h H1 S1⟩
def vAnd (ga gb : VM Bool) : VM Bool := vb ga fun c => if c = true then gb else vr false
def vOr (ga gb : VM Bool) : VM Bool := vb ga fun c => if c = true then vr true else gb
def vNot (ga : VM Bool) : VM Bool := vb ga fun c => vr (!c)
theorem vt_not (ha : VT Tb X W a ga) : VT Tb X W (.UnaryOp .Not a pos) (vNot ga) := by
  refine PT.wk (pt_not ha) fun σ H Q h => ?_
  obtain ⟨O, st, F, h⟩ := h
  exact tVT.bind F h fun b s1 H1 S1 h => h H1 S1
theorem vw_and1 (ha : VT Tb X W a ga) : VW Tb X W (.BoolOp .And [a] pos) ga := pw_and1 ha
theorem vw_or1 (ha : VT Tb X W a ga) : VW Tb X W (.BoolOp .Or [a] pos) ga := pw_or1 ha
theorem vw_and {rest : List Expr} (ha : VT Tb X W a ga) (hb : VW Tb X W (.BoolOp .And (b :: rest) pos) gb) : VW Tb X W (.BoolOp .And (a :: b :: rest) pos) (vAnd ga gb) := by
  refine PW.wk (pw_and ha hb) fun σ H Q h => ?_
  obtain ⟨O, st, F, h⟩ := h
  refine tVT.bind F h fun b s1 H1 S1 h => ?_
  cases b with
  | true => exact iteT ⟨O, s1, S1.fr, by
      rw [if_pos rfl] at h
      revert h
      cases gb s1 with
      | ok p => exact fun h H' S' => h H' (S1.trans S')
      | error er => cases er <;> exact fun h => h⟩
  | false => exact iteF (h H1 S1)
theorem vw_or {rest : List Expr} (ha : VT Tb X W a ga) (hb : VW Tb X W (.BoolOp .Or (b :: rest) pos) gb) : VW Tb X W (.BoolOp .Or (a :: b :: rest) pos) (vOr ga gb) := by
  refine PW.wk (pw_or ha hb) fun σ H Q h => ?_
  obtain ⟨O, st, F, h⟩ := h
  refine tVT.bind F h fun b s1 H1 S1 h => ?_
  cases b with
  | false => exact iteF ⟨O, s1, S1.fr, by
      rw [if_neg Bool.false_ne_true] at h
      revert h
      cases gb s1 with
      | ok p => exact fun h H' S' => h H' (S1.trans S')
      | error er => cases er <;> exact fun h => h⟩
  | true => exact iteT (h H1 S1)
theorem vt_w {e : Expr} (h : VW Tb X W e ga) : VT Tb X W e ga := PW.pt h
/-- the same as values, of bools -/
def vOfB (g : VM Bool) : VM EV := vb g fun b => vC (.bool b)
end
end VL
set_option Elab.async false
set_option linter.all false
set_option maxRecDepth 100000
namespace VL
open PySem PySem.Spec PyProof.Rows L2
section
variable {K : PySem.W.Frag} {O : AS} {H : Hp} {v w : V}
theorem Ro.none (h : Ro K O H .none v) : v = .non := by
  rcases h with h | ⟨p, c, _, e, _⟩
  · simpa only [Rp] using h
  · cases c <;> cases e
theorem Ro.bool {b : Bool} (h : Ro K O H (.bool b) v) : v = .bl b := by
  rcases h with h | ⟨p, c, _, e, _⟩
  · simpa only [Rp] using h
  · cases c <;> cases e
theorem Ro.int {i : Int} (h : Ro K O H (.int i) v) : v = .int i := by
  rcases h with h | ⟨p, c, _, e, _⟩
  · simpa only [Rp] using h
  · cases c <;> cases e
theorem Ro.str {s : Str} (h : Ro K O H (.str s) v) : v = .str s := by
  rcases h with h | ⟨p, c, _, e, _⟩
  · simpa only [Rp] using h
  · cases c <;> cases e
theorem Ro.list {xs : List Da} (h : Ro K O H (.list xs) v) : ∃ a vs, v = .ref a ∧ H a = some (.lst vs) ∧ RpL K O H xs vs := by
  rcases h with h | ⟨p, c, e1, e, C⟩
  · simp only [Rp] at h
    obtain ⟨a, vs, e, r, n, q⟩ := h
    exact ⟨a, vs, e, r, q⟩
  · cases c with
    | l ys => cases e; obtain ⟨vs, r, q⟩ := C; exact ⟨p, vs, e1, r, q⟩
    | m _ => cases e
theorem Ro.tup {xs : List Da} (h : Ro K O H (.tuple xs) v) : Rp K O H (.tuple xs) v := by
  rcases h with h | ⟨p, c, _, e, _⟩
  · exact h
  · cases c <;> cases e
theorem Rp.tupT {xs : List Da} (h : Rp K O H (.tuple xs) v) : ∃ a vs, v = .ref a ∧ SqT K H a vs ∧ RpL K O H xs vs := by
  simp only [Rp] at h
  obtain ⟨a, vs, e, r, q⟩ := h
  exact ⟨a, vs, e, r.elim (fun r => .of r.1) .inr, q⟩
theorem Ro.tupT {xs : List Da} (h : Ro K O H (.tuple xs) v) : ∃ a vs, v = .ref a ∧ SqT K H a vs ∧ RpL K O H xs vs := h.tup.tupT
theorem Ro.dict {kvs : List (Da × Da)} (h : Ro K O H (.dict kvs) v) : ∃ a ks, v = .ref a ∧ H a = some (.dK ks) ∧ RpD K O H kvs ks := by
  rcases h with h | ⟨p, c, e1, e, C⟩
  · simp only [Rp] at h
    obtain ⟨a, vs, e, r, n, q⟩ := h
    exact ⟨a, vs, e, r, q⟩
  · cases c with
    | m ys => cases e; obtain ⟨vs, r, q⟩ := C; exact ⟨p, vs, e1, r, q⟩
    | l _ => cases e
/-- a list or a tuple -/
def seqD : Da → Option (List Da)
  | .list xs => some xs
  | .tuple xs => some xs
  | _ => .none
theorem Ro.seq {x : Da} {xs : List Da} (h : Ro K O H x v) (e : seqD x = some xs) : ∃ a vs, v = .ref a ∧ (SqL K H a vs ∨ SqT K H a vs) ∧ RpL K O H xs vs := by
  cases x with
  | list ys => cases e; obtain ⟨a, vs, e, r, q⟩ := h.list; exact ⟨a, vs, e, .inl (.of r), q⟩
  | tuple ys => cases e; obtain ⟨a, vs, e, r, q⟩ := h.tupT; exact ⟨a, vs, e, .inr r, q⟩
  | _ => cases e
theorem Ro.dp {x : Da} (c : x.canLay0 = true) (h : Ro K O H x v) : Dp K H v x := by
  rcases h with h | ⟨p, o, rfl, rfl, C⟩
  · exact h.dp x v c
  · cases o with
    | l xs => obtain ⟨vs, r, q⟩ := C; simp only [OC.data, PyData.canLay0] at c; exact .lst (.of r) (q.dp _ _ c)
    | m xs => simp only [OC.data, PyData.canLay0] at c; cases c
/-- the items' addresses are old -/
theorem Same.upd {p : Addr} {o : HO} (hp : H p = Option.none) : Same H (upd H p o) := fun b u e => by rw [upd_ne (ne_of_none e hp)]; exact e
theorem RpL.new {p : Addr} {o : HO} {xs : List Da} {vs : List V} (h : RpL K O H xs vs) (hp : H p = Option.none) : RpL K (O.with p) (L2.upd H p o) xs vs :=
  RpL.mono (fun a z => z.elim .inl fun z => .inr (by rw [z]; exact hp)) (fun a o e _ _ => Same.upd hp a o e) _ _ h
theorem RpL.same {H' : Hp} {xs : List Da} {vs : List V} (h : RpL K O H xs vs) (k : Same H H') : RpL K O H' xs vs :=
  RpL.mono (fun a z => .inl z) (fun a o e _ _ => k a o e) _ _ h
theorem Rp.same {H' : Hp} {x : Da} (h : Rp K O H x v) (k : Same H H') : Rp K O H' x v :=
  Rp.mono (fun a z => .inl z) (fun a o e _ _ => k a o e) _ _ h
theorem NR.lst {p : Addr} {xs : List Da} {vs : List V} (h : RpL K O H xs vs) (hp : H p = Option.none) : NR K O H (L2.upd H p (.lst vs)) (.ref p) (.own (.l xs)) :=
  ⟨p, rfl, hp, vs, upd_same, h.new hp⟩
theorem NR.tup {p : Addr} {xs : List Da} {vs : List V} (hd : ∀ a, O a → H a ≠ Option.none) (h : RpL K O H xs vs) (hp : H p = Option.none) : NR K O H (L2.upd H p (.tup vs)) (.ref p) (.d (.tuple xs)) := by
  show Rp _ _ _ _ _
  simp only [Rp]
  exact ⟨p, vs, rfl, .inl ⟨upd_same, fun z => hd p z hp⟩, h.same (Same.upd hp)⟩
end
theorem Ro.intsL {K : PySem.W.Frag} {O : AS} {H : Hp} {ns : List Int} {vs : List V} (h : RpL K O H (ns.map PyData.int) vs) : vs = ns.map V.int := h.ints
def ints? : List Da → Option (List Int)
  | [] => some []
  | .int i :: r => (ints? r).map (i :: ·)
  | _ => none
theorem ints?_some : ∀ {xs : List Da} {ns : List Int}, ints? xs = some ns → xs = ns.map PyData.int
  | [], ns, h => by cases h; rfl
  | .int i :: r, ns, h => by
    unfold ints? at h
    obtain ⟨ms, e, rfl⟩ := Option.map_eq_some_iff.mp h
    rw [ints?_some e]; rfl
  | .none :: r, ns, h => by cases h
  | .bool _ :: r, ns, h => by cases h
  | .str _ :: r, ns, h => by cases h
  | .list _ :: r, ns, h => by cases h
  | .tuple _ :: r, ns, h => by cases h
  | .dict _ :: r, ns, h => by cases h
theorem ints?_map : ∀ (ns : List Int), ints? (ns.map PyData.int) = some ns
  | [] => rfl
  | n :: ns => by rw [List.map_cons, ints?, ints?_map ns]; rfl
/-! ### operators by the data -/
def addD : Da → Da → Option EV
  | .int i, .int j => some (.d (.int (i + j)))
  | .str a, .str b => if a.length + b.length ≤ 16777216 then some (.d (.str (a ++ b))) else none
  | .list a, .list b => if a.length + b.length ≤ 16777216 then some (.own (.l (a ++ b))) else none
  | .tuple a, .tuple b => if a.length + b.length ≤ 16777216 then some (.d (.tuple (a ++ b))) else none
  | _, _ => none
def subD : Da → Da → Option EV
  | .int i, .int j => some (.d (.int (i - j)))
  | _, _ => none
def mulD : Da → Da → Option EV
  | .int i, .int j => if i.natAbs.log2 + j.natAbs.log2 < 1000000 then some (.d (.int (i * j))) else none
  | .list xs, .int k => if -(2 ^ 63) ≤ k ∧ k < 2 ^ 63 ∧ xs.length * k.toNat ≤ 16777216 then some (.own (.l (List.replicate k.toNat xs).flatten)) else none
  | .tuple xs, .int k => if xs ≠ [] ∧ 2 ≤ k ∧ k ≤ 1000 ∧ xs.length ≤ 1000 then some (.d (.tuple (List.replicate k.toNat xs).flatten)) else none
  | _, _ => none
def fdivD : Da → Da → Option EV
  | .int i, .int j => if 0 < j ∧ j.natAbs.log2 < 9000 then some (.d (.int (i / j))) else none
  | _, _ => none
def modD : Da → Da → Option EV
  | .int i, .int j => if 0 < j then some (.d (.int (i % j))) else none
  | _, _ => none
def powD : Da → Da → Option EV
  | .int i, .int j => if 0 ≤ j ∧ j ≤ 1000000 ∧ i.natAbs < 2 ^ 64 then some (.d (.int (i ^ j.toNat))) else none
  | _, _ => none
def eqD (x y : Da) : Option EV := if SeqAt.shaped x = true ∧ SeqAt.shaped y = true then some (.d (.bool (PyData.eqv x y))) else none
def neD (x y : Da) : Option EV := if SeqAt.shaped x = true ∧ SeqAt.shaped y = true then some (.d (.bool (!PyData.eqv x y))) else none
def isNoneD : Da → Bool
  | .none => true
  | _ => false
def isD : Da → Da → Option EV
  | x, .none => some (.d (.bool (isNoneD x)))
  | _, _ => none
def isnotD : Da → Da → Option EV
  | x, .none => some (.d (.bool (!isNoneD x)))
  | _, _ => none
def negD : Da → Option EV
  | .int i => some (.d (.int (-i)))
  | _ => none
theorem OpR.or {X : Cx} {f : Value → Value → Sem Value} {r r' : R2} (h : OpR X f r) (h' : OpR X f r') : OpR X f (fun x y H Q => r x y H Q ∨ r' x y H Q) := by
  intro pins s σ H x y v u Q I rx ry q
  rcases q with q | q
  · exact h pins s σ H x y v u Q I rx ry q
  · exact h' pins s σ H x y v u Q I rx ry q
section
variable {X : Cx}
theorem RpL.reps {K : PySem.W.Frag} {O : AS} {H : Hp} {xs : List Da} {vs : List V} (h : RpL K O H xs vs) : ∀ n : Nat, RpL K O H (List.replicate n xs).flatten (List.replicate n vs).flatten
  | 0 => .nil
  | n + 1 => by
    rw [List.replicate_succ, List.replicate_succ, List.flatten_cons, List.flatten_cons]
    exact h.append (RpL.reps h n)
theorem o_add : Op2 X (binaryOp .Add) addD := by
  refine ⟨_, OpR.or op_add (OpR.or op_add_str (OpR.or op_cat op_catA)), fun O H x y v w z Q hd hx hy e q => ?_⟩
  cases x with
  | int i =>
    cases y with
    | int j => cases e; obtain rfl := hx.int; obtain rfl := hy.int; exact .inl ⟨i, j, rfl, rfl, q _ H (Same.refl H) (by show Rp _ _ _ _ _; simp only [Rp])⟩
    | _ => cases e
  | str i =>
    cases y with
    | str j =>
      obtain rfl := hx.str; obtain rfl := hy.str
      unfold addD at e; dsimp only at e
      split at e
      · rename_i hl; cases e
        exact .inr (.inl ⟨i, j, rfl, rfl, by rw [sizeLine_eq]; exact hl, q _ H (Same.refl H) (by show Rp _ _ _ _ _; simp only [Rp])⟩)
      · cases e
    | _ => cases e
  | list a =>
    cases y with
    | list b =>
      unfold addD at e; dsimp only at e
      split at e
      · rename_i hl; cases e
        obtain ⟨l, vs, rfl, h1, r1⟩ := hx.list
        obtain ⟨m, ws, rfl, h2, r2⟩ := hy.list
        exact .inr (.inr (.inl ⟨l, m, vs, ws, rfl, rfl, h1, h2, by rw [← r1.length, ← r2.length, sizeLine_eq]; exact hl, fun p hp => q _ _ (Same.upd hp) (NR.lst (r1.append r2) hp)⟩))
      · cases e
    | _ => cases e
  | tuple a =>
    cases y with
    | tuple b =>
      unfold addD at e; dsimp only at e
      split at e
      · rename_i hl; cases e
        have hx' := hx.tup
        have hy' := hy.tup
        obtain ⟨l, vs, rfl, h1, r1⟩ := hx.tupT
        obtain ⟨m, ws, rfl, h2, r2⟩ := hy.tupT
        refine .inr (.inr (.inr ⟨l, m, vs, ws, rfl, rfl, h1, h2, by rw [← r1.length, ← r2.length, sizeLine_eq]; exact hl, fun ev => ?_, fun _ ew => ?_, fun _ _ p hp => q _ _ (Same.upd hp) (NR.tup hd (r1.append r2) hp)⟩))
        · subst ev
          have ea : a = [] := List.eq_nil_of_length_eq_zero r1.length
          subst ea
          exact q _ H (Same.refl H) hy'
        · subst ew
          have eb : b = [] := List.eq_nil_of_length_eq_zero r2.length
          subst eb
          refine q _ H (Same.refl H) ?_
          rw [List.append_nil]; exact hx'
      · cases e
    | _ => cases e
  | _ => cases e
theorem o_sub : Op2 X (binaryOp .Sub) subD := by
  refine ⟨_, op_sub, fun O H x y v w z Q hd hx hy e q => ?_⟩
  cases x with
  | int i =>
    cases y with
    | int j => cases e; obtain rfl := hx.int; obtain rfl := hy.int; exact ⟨i, j, rfl, rfl, q _ H (Same.refl H) (by show Rp _ _ _ _ _; simp only [Rp])⟩
    | _ => cases e
  | _ => cases e
theorem o_mul : Op2 X (binaryOp .Mult) mulD := by
  refine ⟨_, OpR.or op_mulW (OpR.or op_rep op_repT), fun O H x y v w z Q hd hx hy e q => ?_⟩
  cases x with
  | int i =>
    cases y with
    | int j =>
      unfold mulD at e; dsimp only at e
      split at e
      · rename_i hc; cases e; obtain rfl := hx.int; obtain rfl := hy.int
        exact .inl ⟨i, j, rfl, rfl, hc, q _ H (Same.refl H) (by show Rp _ _ _ _ _; simp only [Rp])⟩
      · cases e
    | _ => cases e
  | list a =>
    cases y with
    | int k =>
      unfold mulD at e; dsimp only at e
      split at e
      · rename_i hc; cases e; obtain rfl := hy.int
        obtain ⟨l, vs, rfl, h1, r1⟩ := hx.list
        exact .inr (.inl ⟨l, k, vs, rfl, rfl, h1, hc.1, hc.2.1, by rw [← r1.length, sizeLine_eq]; exact hc.2.2, fun p hp => q _ _ (Same.upd hp) (NR.lst (r1.reps _) hp)⟩)
      · cases e
    | _ => cases e
  | tuple a =>
    cases y with
    | int k =>
      unfold mulD at e; dsimp only at e
      split at e
      · rename_i hc; cases e; obtain rfl := hy.int
        obtain ⟨l, vs, rfl, h1, r1⟩ := hx.tupT
        exact .inr (.inr ⟨l, k, vs, rfl, rfl, h1, fun z => hc.1 (List.eq_nil_of_length_eq_zero (by rw [r1.length, z]; rfl)), hc.2.1, hc.2.2.1, by rw [← r1.length]; exact hc.2.2.2, fun p hp => q _ _ (Same.upd hp) (NR.tup hd (r1.reps _) hp)⟩)
      · cases e
    | _ => cases e
  | _ => cases e
theorem o_fdiv : Op2 X (binaryOp .FloorDiv) fdivD := by
  refine ⟨_, op_fdivW, fun O H x y v w z Q hd hx hy e q => ?_⟩
  cases x with
  | int i =>
    cases y with
    | int j =>
      unfold fdivD at e; dsimp only at e
      split at e
      · rename_i hc; cases e; obtain rfl := hx.int; obtain rfl := hy.int
        exact ⟨i, j, rfl, rfl, hc, q _ H (Same.refl H) (by show Rp _ _ _ _ _; simp only [Rp])⟩
      · cases e
    | _ => cases e
  | _ => cases e
theorem o_mod : Op2 X (binaryOp .Mod) modD := by
  refine ⟨_, op_mod, fun O H x y v w z Q hd hx hy e q => ?_⟩
  cases x with
  | int i =>
    cases y with
    | int j =>
      unfold modD at e; dsimp only at e
      split at e
      · rename_i hc; cases e; obtain rfl := hx.int; obtain rfl := hy.int
        exact ⟨i, j, rfl, rfl, hc, q _ H (Same.refl H) (by show Rp _ _ _ _ _; simp only [Rp])⟩
      · cases e
    | _ => cases e
  | _ => cases e
theorem o_pow : Op2 X (binaryOp .Pow) powD := by
  refine ⟨_, op_pow, fun O H x y v w z Q hd hx hy e q => ?_⟩
  cases x with
  | int i =>
    cases y with
    | int j =>
      unfold powD at e; dsimp only at e
      split at e
      · rename_i hc; cases e; obtain rfl := hx.int; obtain rfl := hy.int
        exact ⟨i, j, rfl, rfl, hc, q _ H (Same.refl H) (by show Rp _ _ _ _ _; simp only [Rp])⟩
      · cases e
    | _ => cases e
  | _ => cases e
theorem o_eq (hu : X.A.units + 64 < cLine) : Op2 X (compareOp .Eq) eqD := by
  refine ⟨_, op_eqD hu, fun O H x y v w z Q hd hx hy e q => ?_⟩
  unfold eqD at e
  split at e
  · rename_i hc; cases e
    exact ⟨x, y, hx.dp (SeqAt.canLay_of_shaped hc.1), hy.dp (SeqAt.canLay_of_shaped hc.2), hc.1, hc.2, q _ H (Same.refl H) (by show Rp _ _ _ _ _; simp only [Rp])⟩
  · cases e
theorem o_ne (hu : X.A.units + 64 < cLine) : Op2 X (compareOp .NotEq) neD := by
  refine ⟨_, op_neD hu, fun O H x y v w z Q hd hx hy e q => ?_⟩
  unfold neD at e
  split at e
  · rename_i hc; cases e
    exact ⟨x, y, hx.dp (SeqAt.canLay_of_shaped hc.1), hy.dp (SeqAt.canLay_of_shaped hc.2), hc.1, hc.2, q _ H (Same.refl H) (by show Rp _ _ _ _ _; simp only [Rp])⟩
  · cases e
theorem Ro.isNone {K : PySem.W.Frag} {O : AS} {H : Hp} {x : Da} {v : V} (h : Ro K O H x v) : decide (v = .non) = isNoneD x := by
  cases x with
  | none => rw [h.none]; rfl
  | bool b => rw [h.bool]; rfl
  | int b => rw [h.int]; rfl
  | str b => rw [h.str]; rfl
  | list b => obtain ⟨a, vs, rfl, _⟩ := h.list; rfl
  | tuple b => obtain ⟨a, vs, rfl, _⟩ := h.tupT; rfl
  | dict b => obtain ⟨a, vs, rfl, _⟩ := h.dict; rfl
theorem o_is : Op2 X (compareOp .Is) isD := by
  refine ⟨_, op_isN, fun O H x y v w z Q hd hx hy e q => ?_⟩
  cases y with
  | none =>
    have e : some (EV.d (.bool (isNoneD x))) = some z := by cases x <;> exact e
    cases e
    exact ⟨hy.none, by rw [hx.isNone]; exact q _ H (Same.refl H) (by show Rp _ _ _ _ _; simp only [Rp])⟩
  | _ => cases x <;> cases e
theorem o_isnot : Op2 X (compareOp .IsNot) isnotD := by
  refine ⟨_, op_notN, fun O H x y v w z Q hd hx hy e q => ?_⟩
  cases y with
  | none =>
    have e : some (EV.d (.bool (!isNoneD x))) = some z := by cases x <;> exact e
    cases e
    exact ⟨hy.none, by rw [hx.isNone]; exact q _ H (Same.refl H) (by show Rp _ _ _ _ _; simp only [Rp])⟩
  | _ => cases x <;> cases e
theorem o_neg : Op1 X (unaryOp .USub) negD := by
  refine ⟨_, un_neg, fun O H x v z Q hd hx e q => ?_⟩
  cases x with
  | int i => cases e; obtain rfl := hx.int; exact ⟨i, rfl, q _ H (Same.refl H) (by show Rp _ _ _ _ _; simp only [Rp])⟩
  | _ => cases e
/-! order: ints, texts, tuples of ints -/
def ordD (pi : Int → Int → Bool) (ps : Str → Str → Bool) (pt : List Int → List Int → Bool) : Da → Da → Option EV
  | .int i, .int j => some (.d (.bool (pi i j)))
  | .str a, .str b => some (.d (.bool (ps a b)))
  | .tuple a, .tuple b => (ints? a).bind fun x => (ints? b).map fun y => .d (.bool (pt x y))
  | _, _ => none
theorem o_ord {f : Value → Value → Sem Value} {pi : Int → Int → Bool} {ps : Str → Str → Bool} {pt : List Int → List Int → Bool}
    (h1 : OpR X f (rI0 fun i j => .bl (pi i j))) (h2 : OpR X f (fun x y H Q => ∃ i j, x = .str i ∧ y = .str j ∧ Q (.bl (ps i j)) H))
    (h3 : OpR X f (fun x y H Q => ∃ a b ns ms, x = .ref a ∧ y = .ref b ∧ SqT X.K H a (ns.map V.int) ∧ SqT X.K H b (ms.map V.int) ∧ Q (.bl (pt ns ms)) H)) : Op2 X f (ordD pi ps pt) := by
  refine ⟨_, OpR.or h1 (OpR.or h2 h3), fun O H x y v w z Q hd hx hy e q => ?_⟩
  cases x with
  | int i =>
    cases y with
    | int j => cases e; obtain rfl := hx.int; obtain rfl := hy.int; exact .inl ⟨i, j, rfl, rfl, q _ H (Same.refl H) (by show Rp _ _ _ _ _; simp only [Rp])⟩
    | _ => cases e
  | str i =>
    cases y with
    | str j => cases e; obtain rfl := hx.str; obtain rfl := hy.str; exact .inr (.inl ⟨i, j, rfl, rfl, q _ H (Same.refl H) (by show Rp _ _ _ _ _; simp only [Rp])⟩)
    | _ => cases e
  | tuple a =>
    cases y with
    | tuple b =>
      obtain ⟨ns, e1, e⟩ := Option.bind_eq_some_iff.mp (show (ints? a).bind _ = some z from e)
      obtain ⟨ms, e2, e⟩ := Option.map_eq_some_iff.mp e
      subst e
      have := ints?_some e1; subst this
      have := ints?_some e2; subst this
      obtain ⟨l, vs, rfl, t1, r1⟩ := hx.tupT
      obtain ⟨m, ws, rfl, t2, r2⟩ := hy.tupT
      rw [r1.ints] at t1
      rw [r2.ints] at t2
      exact .inr (.inr ⟨l, m, ns, ms, rfl, rfl, t1, t2, q _ H (Same.refl H) (by show Rp _ _ _ _ _; simp only [Rp])⟩)
    | _ => cases e
  | _ => cases e
theorem OpR.no {f : Value → Value → Sem Value} {r : R2} (h : ∀ x y H Q, ¬ r x y H Q) : OpR X f r := fun _ _ _ H x y _ _ Q _ _ _ q => (h x y H Q q).elim
end
def ltD : Da → Da → Option EV := ordD (fun i j => decide (i < j)) (fun i j => decide (i.cps.toList < j.cps.toList)) HT.lexLt
theorem o_lt {X : Cx} (hu : X.A.units < cLine) : Op2 X (compareOp .Lt) ltD := o_ord op_lt op_lt_str (op_ltT hu)
end VL
set_option Elab.async false
set_option linter.all false
set_option maxRecDepth 100000
namespace VL
open PySem PySem.Spec PyProof.Rows L2
section
variable {K : PySem.W.Frag} {mg : Str → Option Value} {W : WX} {O O' : AS} {st st1 st2 : VS} {σ σ1 σ2 : L2.St} {H H0 H1 H2 : Hp} {v : V} {r : EV}
theorem SlotOk.sub (hO : ∀ a, O' a → O a) {sv : SV} {ov : Option V} (h : SlotOk K O H sv ov) : SlotOk K O' H sv ov := by
  cases sv with
  | un => trivial
  | d x => obtain ⟨w, e, r⟩ := h; exact ⟨w, e, r.sub hO⟩
  | own c => obtain ⟨p, e, r⟩ := h; exact ⟨p, e, r.sub hO⟩
  | io c => obtain ⟨p, e, r⟩ := h; exact ⟨p, e, r.sub hO⟩
  | lk c => obtain ⟨p, e, r⟩ := h; exact ⟨p, e, r.sub hO⟩
  | rd xs => obtain ⟨a, vs, e, r, q⟩ := h; exact ⟨a, vs, e, r.mono (fun a z => .inl (hO a z)) (fun _ _ e _ _ => e), q.sub hO⟩
theorem FR.sub (hO : ∀ a, O' a → O a) (F : FR Tb K O st σ H) : FR Tb K O' st σ H := by
  refine ⟨F.len, fun i sv h => ?_, F.inj, fun p h z => F.avoid p h (hO p z), fun p h => F.odom p (hO p h), F.tabs⟩
  obtain ⟨v, e, s⟩ := F.slot i sv h
  exact ⟨v, e, s.sub fun a z => z.elim (fun z => .inl (hO a z)) .inr⟩
theorem Step.sub (hO : ∀ a, O' a → O a) (S : Step Tb K O st σ H st1 σ1 H1) : Step Tb K O' st σ H st1 σ1 H1 := ⟨S.fr.sub hO, S.keep, S.new, S.mnew, S.dom, S.len, S.io, S.lk⟩
theorem VRun.more {α : Type} {r : Res (α × VS)} {k : α → VS → Prop} (hO : ∀ a, O a → O' a) (h : VRun Tb K mg W O st σ H r k) : VRun Tb K mg W O' st σ H r k := by
  match r, h with
  | .ok (a, st'), h => exact h
  | .error (.exc C fs st'), h =>
    exact fun Ca d σ' H' ws e S' hd hr he => h Ca d σ' H' ws e (S'.sub hO) hd (hr.sub fun a z => z.elim (fun z => .inl (hO a z)) .inr) he
  | .error .stuck, h => exact h.elim
theorem VRun.mono {α : Type} {r : Res (α × VS)} {k k' : α → VS → Prop} (h : VRun Tb K mg W O st σ H r k) (hk : ∀ a s, k a s → k' a s) : VRun Tb K mg W O st σ H r k' := by
  match r, h with
  | .ok (a, st'), h => exact hk _ _ h
  | .error (.exc C fs st'), h => exact h
  | .error .stuck, h => exact h.elim
/-- a slot that may be written -/
def wrOk : Option SV → Bool
  | some (.io _) => false
  | some (.lk _) => false
  | some _ => true
  | none => false
theorem OwnAt.set {i j : Nat} {sv : SV} {ov : Option V} {q : Addr} (h : OwnAt (st.set i sv) (σ.set i ov) j q) : (j = i ∧ ov = some (.ref q) ∧ ∃ c, sv = .own c ∨ sv = .io c ∨ sv = .lk c) ∨ (j ≠ i ∧ OwnAt st σ j q) := by
  obtain ⟨e, c, h⟩ := h
  by_cases hj : j = i
  · subst hj
    refine .inl ⟨rfl, ?_, c, ?_⟩
    · by_cases hl : j < σ.length
      · rw [List.getElem?_set_self hl] at e; exact Option.some.inj e
      · rw [List.getElem?_eq_none (by rw [List.length_set]; omega)] at e; cases e
    · by_cases hl : j < st.length
      · rw [List.getElem?_set_self hl] at h
        exact h.imp Option.some.inj (fun h => h.imp Option.some.inj Option.some.inj)
      · rw [List.getElem?_eq_none (by rw [List.length_set]; omega)] at h
        rcases h with h | h | h <;> cases h
  · refine .inr ⟨hj, ?_, c, ?_⟩
    · rwa [List.getElem?_set_ne (Ne.symm hj)] at e
    · rwa [List.getElem?_set_ne (Ne.symm hj)] at h
theorem MutAt.set {i j : Nat} {sv : SV} {ov : Option V} {q : Addr} (h : MutAt (st.set i sv) (σ.set i ov) j q) : (j = i ∧ ov = some (.ref q) ∧ ∃ c, sv = .own c ∨ sv = .io c) ∨ (j ≠ i ∧ MutAt st σ j q) := by
  obtain ⟨e, c, h⟩ := h
  by_cases hj : j = i
  · subst hj
    refine .inl ⟨rfl, ?_, c, ?_⟩
    · by_cases hl : j < σ.length
      · rw [List.getElem?_set_self hl] at e; exact Option.some.inj e
      · rw [List.getElem?_eq_none (by rw [List.length_set]; omega)] at e; cases e
    · by_cases hl : j < st.length
      · rw [List.getElem?_set_self hl] at h
        exact h.imp Option.some.inj Option.some.inj
      · rw [List.getElem?_eq_none (by rw [List.length_set]; omega)] at h
        rcases h with h | h <;> cases h
  · refine .inr ⟨hj, ?_, c, ?_⟩
    · rwa [List.getElem?_set_ne (Ne.symm hj)] at e
    · rwa [List.getElem?_set_ne (Ne.symm hj)] at h
theorem wr_io {i j : Nat} {sv : SV} (hw : wrOk st[i]? = true) {c : OC} (h : st[j]? = some (.io c)) : (st.set i sv)[j]? = some (.io c) ∧ j ≠ i := by
  have hj : j ≠ i := fun z => by subst z; rw [h] at hw; cases hw
  exact ⟨by rw [List.getElem?_set_ne (Ne.symm hj)]; exact h, hj⟩
theorem wr_lk {i j : Nat} {sv : SV} (hw : wrOk st[i]? = true) {c : OC} (h : st[j]? = some (.lk c)) : (st.set i sv)[j]? = some (.lk c) ∧ j ≠ i := by
  have hj : j ≠ i := fun z => by subst z; rw [h] at hw; cases hw
  exact ⟨by rw [List.getElem?_set_ne (Ne.symm hj)]; exact h, hj⟩
theorem wr_lt {i : Nat} (hw : wrOk st[i]? = true) : i < st.length := by
  by_cases h : i < st.length
  · exact h
  · rw [List.getElem?_eq_none (by omega)] at hw; cases hw
/-- a slot is set to what owns nothing -/
theorem FR.setN {i : Nat} {sv : SV} {ov : Option V} (F : FR Tb K O st σ H) (hsv : SlotOk K (Av O st σ) H sv ov) (hn : ∀ c, sv ≠ .own c ∧ sv ≠ .io c ∧ sv ≠ .lk c) : FR Tb K O (st.set i sv) (σ.set i ov) H := by
  have own : ∀ j q, OwnAt (st.set i sv) (σ.set i ov) j q → OwnAt st σ j q := fun j q h => by
    rcases h.set with ⟨_, _, c, h⟩ | ⟨_, h⟩
    · rcases h with h | h | h
      · exact absurd h (hn c).1
      · exact absurd h (hn c).2.1
      · exact absurd h (hn c).2.2
    · exact h
  have av : ∀ a, Av O (st.set i sv) (σ.set i ov) a → Av O st σ a := fun a h => h.imp id fun ⟨j, h⟩ => ⟨j, own j a h⟩
  refine ⟨by rw [List.length_set, List.length_set]; exact F.len, fun j sv' h => ?_, fun a b p h1 h2 => F.inj a b p (own _ _ h1) (own _ _ h2), fun p ⟨j, h⟩ => F.avoid p ⟨j, own j p h⟩, F.odom, F.tabs⟩
  by_cases hj : j = i
  · subst hj
    have hl : j < st.length := by
      by_cases hl : j < st.length
      · exact hl
      · rw [List.getElem?_eq_none (by rw [List.length_set]; omega)] at h; cases h
    rw [List.getElem?_set_self hl] at h
    cases h
    exact ⟨ov, List.getElem?_set_self (by rw [← F.len]; exact hl), hsv.sub av⟩
  · rw [List.getElem?_set_ne (Ne.symm hj)] at h
    obtain ⟨v, e, s⟩ := F.slot j sv' h
    exact ⟨v, by rw [List.getElem?_set_ne (Ne.symm hj)]; exact e, s.sub av⟩
theorem Step.setN {i : Nat} {sv : SV} {ov : Option V} (S : Step Tb K O st σ H st1 σ1 H1) (hw : wrOk st1[i]? = true) (hsv : SlotOk K (Av O st1 σ1) H1 sv ov) (hn : ∀ c, sv ≠ .own c ∧ sv ≠ .io c ∧ sv ≠ .lk c) :
    Step Tb K O st σ H (st1.set i sv) (σ1.set i ov) H1 := by
  refine S.trans ⟨S.fr.setN hsv hn, fun _ _ h _ _ => h, fun a ⟨j, h⟩ => ?_, fun a ⟨j, h⟩ => ?_, fun _ h => h, List.length_set, fun j c h => ?_, fun j c h => ?_⟩
  · rcases h.set with ⟨_, _, c, h⟩ | ⟨_, h⟩
    · rcases h with h | h | h
      · exact absurd h (hn c).1
      · exact absurd h (hn c).2.1
      · exact absurd h (hn c).2.2
    · exact .inl ⟨j, h⟩
  · rcases h.set with ⟨_, _, c, h⟩ | ⟨_, h⟩
    · rcases h with h | h
      · exact absurd h (hn c).1
      · exact absurd h (hn c).2.1
    · exact .inl ⟨j, h⟩
  · obtain ⟨a, b⟩ := wr_io (sv := sv) hw h
    exact ⟨⟨c, a⟩, List.getElem?_set_ne (Ne.symm b)⟩
  · obtain ⟨a, b⟩ := wr_lk (sv := sv) hw h
    exact ⟨a, List.getElem?_set_ne (Ne.symm b)⟩
/-- a slot is given a new list of its own -/
theorem FR.setOwn {i : Nat} {p : Addr} {c : OC} (F : FR Tb K (O.with p) st σ H) (n : ¬ O p) (C : Cont K (Av (O.with p) st σ) H p c) (hi : i < st.length) : FR Tb K O (st.set i (.own c)) (σ.set i (some (.ref p))) H := by
  have np : ∀ j, ¬ OwnAt st σ j p := fun j h => F.avoid p ⟨j, h⟩ (.inr rfl)
  have own : ∀ j q, OwnAt (st.set i (.own c)) (σ.set i (some (.ref p))) j q → (j = i ∧ q = p) ∨ OwnAt st σ j q := fun j q h => by
    rcases h.set with ⟨a, b, _⟩ | ⟨_, h⟩
    · cases b; exact .inl ⟨a, rfl⟩
    · exact .inr h
  have av : ∀ a, Av O (st.set i (.own c)) (σ.set i (some (.ref p))) a → Av (O.with p) st σ a := fun a h => by
    rcases h with h | ⟨j, h⟩
    · exact .inl (.inl h)
    · rcases own j a h with ⟨_, e⟩ | h
      · exact .inl (.inr e)
      · exact .inr ⟨j, h⟩
  refine ⟨by rw [List.length_set, List.length_set]; exact F.len, fun j sv' h => ?_, fun a b q h1 h2 => ?_, fun q ⟨j, h⟩ z => ?_, fun q h => F.odom q (.inl h), F.tabs⟩
  · by_cases hj : j = i
    · subst hj
      rw [List.getElem?_set_self hi] at h
      cases h
      exact ⟨_, List.getElem?_set_self (by rw [← F.len]; exact hi), p, rfl, C.sub av⟩
    · rw [List.getElem?_set_ne (Ne.symm hj)] at h
      obtain ⟨v, e, s⟩ := F.slot j sv' h
      exact ⟨v, by rw [List.getElem?_set_ne (Ne.symm hj)]; exact e, s.sub av⟩
  · rcases own a q h1 with ⟨e1, e2⟩ | h1
    · rcases own b q h2 with ⟨e3, _⟩ | h2
      · rw [e1, e3]
      · rw [e2] at h2; exact absurd h2 (np b)
    · rcases own b q h2 with ⟨_, e2⟩ | h2
      · rw [e2] at h1; exact absurd h1 (np a)
      · exact F.inj a b q h1 h2
  · rcases own j q h with ⟨_, e⟩ | h
    · rw [e] at z; exact n z
    · exact F.avoid q ⟨j, h⟩ (.inl z)
theorem Step.setOwn {i : Nat} {p : Addr} {c : OC} (S : Step Tb K O st σ H st1 σ1 H1) (hw : wrOk st1[i]? = true) (hp : H p = none) (n : ¬ O p) (F : FR Tb K (O.with p) st1 σ1 H1) (C : Cont K (Av (O.with p) st1 σ1) H1 p c) :
    Step Tb K O st σ H (st1.set i (.own c)) (σ1.set i (some (.ref p))) H1 := by
  refine ⟨F.setOwn n C (wr_lt hw), S.keep, fun a ⟨j, h⟩ => ?_, fun a ⟨j, h⟩ => ?_, S.dom, List.length_set.trans S.len, fun j c h => ?_, fun j c h => ?_⟩
  · rcases h.set with ⟨_, e, _⟩ | ⟨_, h⟩
    · cases e; exact .inr hp
    · exact S.new a ⟨j, h⟩
  · rcases h.set with ⟨_, e, _⟩ | ⟨_, h⟩
    · cases e; exact .inr hp
    · exact S.mnew a ⟨j, h⟩
  · obtain ⟨⟨c', h'⟩, e⟩ := S.io j c h
    obtain ⟨a, b⟩ := wr_io (sv := .own c) hw h'
    exact ⟨⟨c', (wr_io hw h').1⟩, by rw [List.getElem?_set_ne (Ne.symm b)]; exact e⟩
  · obtain ⟨h', e⟩ := S.lk j c h
    obtain ⟨a, b⟩ := wr_lk (sv := .own c) hw h'
    exact ⟨(wr_lk hw h').1, by rw [List.getElem?_set_ne (Ne.symm b)]; exact e⟩
/-! ### statements -/
inductive Ctl where
  | nx | bk | ct
  | rt (r : EV)
def CtlK (Tb : List (Addr × Str)) (K : PySem.W.Frag) (O : AS) (st : VS) (σ : L2.St) (H : Hp) (D : Ends) (c : Ctl) (st' : VS) : Prop :=
  match c with
  | .nx => ∀ σ' H', Step Tb K O st σ H st' σ' H' → D.nx σ' H'
  | .bk => ∀ σ' H', Step Tb K O st σ H st' σ' H' → D.bk σ' H'
  | .ct => ∀ σ' H', Step Tb K O st σ H st' σ' H' → D.ct σ' H'
  | .rt r => ∀ v σ' H', Step Tb K O st σ H st' σ' H' → ER Tb K O H st' σ' H' v r → D.rt v H'
theorem CtlK.step {D : Ends} {c : Ctl} {st' : VS} (S : Step Tb K O st σ H st1 σ1 H1) (h : CtlK Tb K O st σ H D c st') : CtlK Tb K O st1 σ1 H1 D c st' := by
  cases c with
  | nx => exact fun σ' H' S' => h σ' H' (S.trans S')
  | bk => exact fun σ' H' S' => h σ' H' (S.trans S')
  | ct => exact fun σ' H' S' => h σ' H' (S.trans S')
  | rt r => exact fun v σ' H' S' E => h v σ' H' (S.trans S') (E.back S.dom)
def tVS (Tb : List (Addr × Str)) (K : PySem.W.Frag) (mg : Str → Option Value) (W : WX) (g : VM Ctl) : TS := fun D σ H => ∃ O st, FR Tb K O st σ H ∧ VRun Tb K mg W O st σ H (g st) (CtlK Tb K O st σ H D)
/-- from a state on -/
theorem tVS.of {g : VM Ctl} {D : Ends} (F : FR Tb K O st σ H) (h : VRun Tb K mg W O st σ H (g st) (CtlK Tb K O st σ H D)) : tVS Tb K mg W g D σ H := ⟨O, st, F, h⟩
def vSeq (f g : VM Ctl) : VM Ctl := vb f fun c => match c with
  | .nx => g
  | c => vr c
theorem vrun_vb {α β : Type} {f : VM α} {g : α → VM β} {k : β → VS → Prop} (h : VRun Tb K mg W O st σ H (vb f g st) k) : VRun Tb K mg W O st σ H (f st) fun a s => VRun Tb K mg W O st σ H (g a s) k := by
  unfold vb at h
  cases e : f st with
  | ok p => rw [e] at h; exact h
  | error er =>
    rw [e] at h
    cases er with
    | exc C fs s1 => exact h
    | stuck => exact h
theorem tVS.seq {f g : VM Ctl} {D : Ends} (h : tVS Tb K mg W (vSeq f g) D σ H) : tVS Tb K mg W f { D with nx := tVS Tb K mg W g D } σ H := by
  obtain ⟨O, st, F, h⟩ := h
  refine ⟨O, st, F, (vrun_vb h).mono fun c s q => ?_⟩
  cases c with
  | nx => exact fun σ' H' S => ⟨O, s, S.fr, (VRun.step S q).mono fun c s' z => z.step S⟩
  | bk => exact q
  | ct => exact q
  | rt r => exact q
end
abbrev VSt (Tb : List (Addr × Str)) (X : Cx) (W : WX) (s : Stmt) (g : VM Ctl) : Prop := PS X s (tVS Tb X.K X.mg W g)
abbrev VSs (Tb : List (Addr × Str)) (X : Cx) (W : WX) (ss : List Stmt) (g : VM Ctl) : Prop := PSs X ss (tVS Tb X.K X.mg W g)
theorem PS.wk {X : Cx} {s : Stmt} {t t' : TS} (h : PS X s t) (w : ∀ D σ H, t' D σ H → t D σ H) : PS X s t' := ⟨fun pins s σ H D I q => h.run pins s σ H D I (w D σ H q)⟩
theorem PSs.wk {X : Cx} {s : List Stmt} {t t' : TS} (h : PSs X s t) (w : ∀ D σ H, t' D σ H → t D σ H) : PSs X s t' := ⟨fun pins s σ H D I q => h.run pins s σ H D I (w D σ H q)⟩
section
variable {X : Cx} {W : WX} {a b c e : Expr} {pos : Pos} {fa fb fc fe : VM EV} {ga gb : VM Bool} {s : Stmt} {ss sb : List Stmt} {g g' : VM Ctl}
def vNx : VM Ctl := vr .nx
theorem vs_nil : VSs Tb X W [] vNx := PSs.wk pss_nil fun D σ H ⟨O, st, F, h⟩ => h σ H (Step.refl F)
theorem vs_cons (h1 : VSt Tb X W s g) (h2 : VSs Tb X W ss g') : VSs Tb X W (s :: ss) (vSeq g g') := PSs.wk (pss_cons h1 h2) fun D σ H h => h.seq
theorem vs_one (h1 : VSt Tb X W s g) : VSs Tb X W [s] g := pss_one h1
theorem vs_pass : VSt Tb X W (.Pass pos) vNx := PS.wk ps_pass fun D σ H ⟨O, st, F, h⟩ => h σ H (Step.refl F)
theorem vs_break : VSt Tb X W (.Break pos) (vr .bk) := PS.wk ps_break fun D σ H ⟨O, st, F, h⟩ => h σ H (Step.refl F)
theorem vs_continue : VSt Tb X W (.Continue pos) (vr .ct) := PS.wk ps_continue fun D σ H ⟨O, st, F, h⟩ => h σ H (Step.refl F)
/-- a ghost: what a slot owns is let go, to be shared as a datum -/
def frz1 (i : Nat) (s : VS) : VS := match s[i]? with
  | some (.own c) => s.set i (.d c.data)
  | _ => s
def vFrz (is : List Nat) (g : VM α) : VM α := fun s => g (is.foldl (fun s i => frz1 i s) s)
theorem Own.frz {K : PySem.W.Frag} {O : AS} {st : VS} {σ : L2.St} {H : Hp} (F : FR Tb K O st σ H) (i : Nat) : Step Tb K O st σ H (frz1 i st) σ H := by
  unfold frz1
  split
  · rename_i c hc
    obtain ⟨ov, eov, p, epv, C⟩ := F.slot i _ hc
    subst epv
    have hi : i < st.length := by
      by_cases h : i < st.length
      · exact h
      · rw [List.getElem?_eq_none (by omega)] at hc; cases hc
    have ip : OwnAt st σ i p := ⟨eov, c, .inl hc⟩
    have hσ : σ.set i (some (.ref p)) = σ := by
      apply List.ext_getElem?
      intro j
      by_cases hj : j = i
      · subst hj; rw [List.getElem?_set_self (by rw [← F.len]; exact hi), eov]
      · rw [List.getElem?_set_ne (Ne.symm hj)]
    -- the other slots keep away from p, the slot itself too
    have own : ∀ j q, OwnAt (st.set i (.d c.data)) σ j q → j ≠ i ∧ OwnAt st σ j q := fun j q h => by
      rw [← hσ] at h
      rcases h.set with ⟨_, _, c, h⟩ | ⟨a, h⟩
      · rcases h with h | h | h <;> cases h
      · exact ⟨a, h⟩
    have mut_ : ∀ j q, MutAt (st.set i (.d c.data)) σ j q → j ≠ i ∧ MutAt st σ j q := fun j q h => by
      rw [← hσ] at h
      rcases h.set with ⟨_, _, c, h⟩ | ⟨a, h⟩
      · rcases h with h | h <;> cases h
      · exact ⟨a, h⟩
    have av : ∀ a, Av O (st.set i (.d c.data)) σ a → Av O st σ a := fun a h => h.imp id fun ⟨j, h⟩ => ⟨j, (own j a h).2⟩
    have FF : FR Tb K O (st.set i (.d c.data)) σ H := by
      refine ⟨by rw [List.length_set]; exact F.len, fun j sv' h => ?_, fun a b q h1 h2 => F.inj a b q (own a q h1).2 (own b q h2).2, fun q ⟨j, h⟩ => F.avoid q ⟨j, (own j q h).2⟩, F.odom, F.tabs⟩
      by_cases hj : j = i
      · subst hj
        rw [List.getElem?_set_self hi] at h
        cases h
        refine ⟨_, eov, .ref p, rfl, (C.sub av).rp fun z => ?_⟩
        rcases z with z | ⟨j', z⟩
        · exact F.avoid p ⟨j, ip⟩ z
        · obtain ⟨n, z⟩ := own j' p z
          exact n (F.inj j' j p z ip)
      · rw [List.getElem?_set_ne (Ne.symm hj)] at h
        obtain ⟨v, e, s⟩ := F.slot j sv' h
        exact ⟨v, e, s.sub av⟩
    refine ⟨FF, fun _ _ h _ _ => h, fun a ⟨j, h⟩ => .inl ⟨j, (own j a h).2⟩, fun a ⟨j, h⟩ => .inl ⟨j, (mut_ j a h).2⟩, fun _ h => h, rfl, fun j c' h => ⟨⟨c', ?_⟩, rfl⟩, fun j c' h => ⟨?_, rfl⟩⟩
    · have hj : j ≠ i := fun z => by subst z; rw [h] at hc; cases hc
      rw [List.getElem?_set_ne (Ne.symm hj)]; exact h
    · have hj : j ≠ i := fun z => by subst z; rw [h] at hc; cases hc
      rw [List.getElem?_set_ne (Ne.symm hj)]; exact h
  · exact Step.refl F
theorem Step.frzs {K : PySem.W.Frag} {O : AS} {σ : L2.St} {H : Hp} : ∀ (is : List Nat) {st : VS}, FR Tb K O st σ H → Step Tb K O st σ H (is.foldl (fun s i => frz1 i s) st) σ H
  | [], st, F => Step.refl F
  | i :: is, st, F => by
    have a := Own.frz F i
    exact a.trans (Step.frzs is a.fr)
theorem vs_frz (is : List Nat) (h : VSt Tb X W s g) : VSt Tb X W s (vFrz is g) := PS.wk h fun D σ H ⟨O, st, F, q⟩ => by
  have S := Step.frzs is F
  exact ⟨O, _, S.fr, (VRun.step S q).mono fun c s z => z.step S⟩
/-- an expression as a statement -/
def vDrop (f : VM EV) : VM Ctl := vb f fun _ => vNx
theorem tVS.expr {f : VM EV} {g : EV → VM Ctl} {D : Ends} {σ : L2.St} {H : Hp} {K : PySem.W.Frag} {mg : Str → Option Value} {Q : VK} (h : tVS Tb K mg W (vb f g) D σ H)
    (cont : ∀ O st r s1 v H1, Step Tb K O st σ H s1 σ H1 → ER Tb K O H s1 σ H1 v r → VRun Tb K mg W O s1 σ H1 (g r s1) (CtlK Tb K O st σ H D) → Q v H1) : tV Tb K mg W f σ H Q := by
  obtain ⟨O, st, F, h⟩ := h
  exact tV.bind F h fun r s1 v H1 S E h => cont O st r s1 v H1 S E h
theorem vs_expr (he : VE Tb X W e fe) (hs : swapsWith e none pos.line X.env = pure false := by rfl) : VSt Tb X W (.Expr e pos) (vDrop fe) :=
  PS.wk (ps_expr he hs) fun D σ H h => h.expr fun O st r s1 v H1 S E h => h σ H1 S
/-- return -/
def vRet (f : VM EV) : VM Ctl := vb f fun r => vr (.rt r)
theorem vs_ret (he : VE Tb X W e fe) : VSt Tb X W (.Return (some e) pos) (vRet fe) :=
  PS.wk (ps_ret he) fun D σ H h => h.expr fun O st r s1 v H1 S E h => h v σ H1 S E
theorem vs_retN : VSt Tb X W (.Return none pos) (vr (.rt (.d .none))) :=
  PS.wk ps_retN fun D σ H ⟨O, st, F, h⟩ => h .non σ H (Step.refl F) (by show Rp _ _ _ _ _; simp only [Rp])
/-- if -/
def vIf (c : VM Bool) (a b : VM Ctl) : VM Ctl := vb c fun k => if k = true then a else b
theorem vs_if {e : Expr} {sa : List Stmt} (hc : VT Tb X W e ga) (ha : VSs Tb X W sa g) (hb : VSs Tb X W sb g') : VSt Tb X W (.If e sa sb pos) (vIf ga g g') := by
  refine PS.wk (ps_if hc ha hb) fun D σ H h => ?_
  obtain ⟨O, st, F, h⟩ := h
  refine tVT.bind F h fun k s1 H1 S h => ?_
  cases k with
  | true => rw [if_pos rfl] at h; exact iteT ⟨O, s1, S.fr, h.mono fun c s z => z.step S⟩
  | false => rw [if_neg Bool.false_ne_true] at h; exact iteF ⟨O, s1, S.fr, h.mono fun c s z => z.step S⟩
/-- a if c else b -/
def vIte (c : VM Bool) (a b : VM EV) : VM EV := vb c fun k => if k = true then a else b
theorem ve_ite {c a b : Expr} (hc : VT Tb X W c ga) (ha : VE Tb X W a fa) (hb : VE Tb X W b fb) : VE Tb X W (.IfExp c a b pos) (vIte ga fa fb) := by
  refine PE.wk (pe_ifExp hc ha hb) fun σ H Q h => ?_
  obtain ⟨O, st, F, h⟩ := h
  refine tVT.bind F h fun k s1 H1 S h => ?_
  cases k with
  | true => rw [if_pos rfl] at h; exact iteT ⟨O, s1, S.fr, h.mono fun r s z v H' S' E => z v H' (S.trans S') (E.back S.dom)⟩
  | false => rw [if_neg Bool.false_ne_true] at h; exact iteF ⟨O, s1, S.fr, h.mono fun r s z v H' S' E => z v H' (S.trans S') (E.back S.dom)⟩
/-! ### targets -/
/-- it comes to an end, and then k -/
def okK {α : Type} (r : Res (α × VS)) (k : α → VS → Prop) : Prop := match r with
  | .ok (a, st') => k a st'
  | .error _ => False
/-- storing a result -/
def gVT (Tb : List (Addr × Str)) (K : PySem.W.Frag) (f : EV → VM Unit) : TG := fun v σ H Q => ∃ O st0 σ0 H0 st r, Step Tb K O st0 σ0 H0 st σ H ∧ ER Tb K O H0 st σ H v r ∧
  okK (f r st) fun _ st' => ∀ σ' H', Step Tb K O st0 σ0 H0 st' σ' H' → Q σ' H'
abbrev VG (Tb : List (Addr × Str)) (X : Cx) (t : Expr) (f : EV → VM Unit) : Prop := PG X t (gVT Tb X.K f)
theorem PG.wk {X : Cx} {e : Expr} {t t' : TG} (h : PG X e t) (w : ∀ v σ H Q, t' v σ H Q → t v σ H Q) : PG X e t' := ⟨fun pins s σ H v u Q I r q => h.run pins s σ H v u Q I r (w v σ H Q q)⟩
def vSet (i : Nat) (r : EV) : VM Unit := fun s =>
  if wrOk s[i]? = true then
    match r with
    | .d x => .ok ((), s.set i (.d x))
    | .own c => .ok ((), s.set i (.own c))
    | .loan _ => .error .stuck
  else .error .stuck
theorem gVT.name {K : PySem.W.Frag} {i : Nat} {v : V} {σ : L2.St} {H : Hp} {Q : L2.St → Hp → Prop} (h : gVT Tb K (vSet i) v σ H Q) : gName i v σ H Q := by
  obtain ⟨O, st0, σ0, H0, st, r, S, E, h⟩ := h
  unfold vSet at h
  by_cases hw : wrOk st[i]? = true
  · rw [if_pos hw] at h
    cases r with
    | d x => exact h _ _ (S.setN hw ⟨v, rfl, E⟩ fun c => ⟨(fun z => by cases z), (fun z => by cases z), (fun z => by cases z)⟩)
    | own c =>
      obtain ⟨p, rfl, hp, n, F, C⟩ := E
      exact h _ _ (S.setOwn hw hp n F C)
    | loan j => exact h.elim
  · rw [if_neg hw] at h; exact h.elim
theorem vg_name {i : Nat} {x : Str} (hN : X.N.Nodup) (hi : X.N[i]? = some x) (hx : Loc X.env.scope x) (hf : X.fn x = true ∨ X.env.scope.names.lookup x = some .local := by first | exact .inl rfl | exact .inr rfl | assumption) : VG Tb X (.Name x pos) (vSet i) :=
  PG.wk (pg_name hN hi hx hf) fun v σ H Q h => h.name
/-- what raises is left out -/
def vNoX {α : Type} (m : VM α) : VM α := fun s => match m s with
  | .ok p => .ok p
  | .error _ => .error .stuck
def vAsg (f : VM EV) (g : EV → VM Unit) : VM Ctl := vb f fun r => vb (vNoX (g r)) fun _ => vNx
theorem asg_wk {fe : VM EV} {gt : EV → VM Unit} {K : PySem.W.Frag} {mg : Str → Option Value} {D : Ends} {σ : L2.St} {H : Hp} (h : tVS Tb K mg W (vAsg fe gt) D σ H) : tAsg (tV Tb K mg W fe) (gVT Tb K gt) D σ H := by
  refine h.expr fun O st r s1 v H1 S E h => ?_
  refine ⟨O, st, σ, H, s1, r, S, E, ?_⟩
  unfold vb vNoX at h
  cases q : gt r s1 with
  | ok p =>
    obtain ⟨_, s2⟩ := p
    rw [q] at h
    exact fun σ' H' S' => h σ' H' S'
  | error er =>
    rw [q] at h
    exact h.elim
theorem vs_asg {tg : Expr} {gt : EV → VM Unit} (he : VE Tb X W e fe) (hg : VG Tb X tg gt) (hs : swapsWithSole [tg] e pos.line X.env = pure false := by rfl) (hw : swappedStores [tg] e X.env = pure none := by rfl)
    (h1 : (assignEach [tg] X.env).map (·.2) = [assign tg X.env] := by rfl) : VSt Tb X W (.Assign [tg] e pos) (vAsg fe gt) := PS.wk (ps_asg he hg hs hw h1) fun D σ H h => asg_wk h
theorem vs_set {i : Nat} {x : Str} {pos' : Pos} (hN : X.N.Nodup) (hi : X.N[i]? = some x) (hx : Loc X.env.scope x) (he : VE Tb X W e fe) (hs : swapsWith e (some (.Name x pos')) pos.line X.env = pure false := by rfl) (hf : X.fn x = true ∨ X.env.scope.names.lookup x = some .local := by first | exact .inl rfl | exact .inr rfl | assumption) :
    VSt Tb X W (.Assign [.Name x pos'] e pos) (vAsg fe (vSet i)) := by
  refine PS.wk (ps_set hN hi hx he hs hf) fun D σ H h => ?_
  exact (asg_wk h).imp fun O ⟨st, F, q⟩ => ⟨st, F, q.mono fun r s z v H' S E => (z v H' S E).name⟩
end
end VL
set_option Elab.async false
set_option linter.all false
set_option maxRecDepth 100000
namespace VL
open PySem PySem.Spec PyProof.Rows L2
/-! ### argument lists -/
section
variable {K : PySem.W.Frag} {mg : Str → Option Value} {W : WX} {O O' : AS} {st st1 st2 : VS} {σ σ1 σ2 : L2.St} {H H0 H1 H2 : Hp} {v : V} {r : EV}
/-- results that are settled -/
def ERs (Tb : List (Addr × Str)) (K : PySem.W.Frag) (O : AS) (st : VS) (σ : L2.St) (H : Hp) : List V → List EV → Prop
  | [], [] => True
  | v :: vs, r :: rs => ER Tb K O H st σ H v (settle r) ∧ r = settle r ∧ ERs Tb K O st σ H vs rs
  | _, _ => False
theorem settle_settle (r : EV) : settle (settle r) = settle r := by cases r <;> rfl
theorem ERs.later : ∀ {vs : List V} {rs : List EV}, ERs Tb K O st σ H vs rs → Step Tb K O st σ H st1 σ H1 → ERs Tb K O st1 σ H1 vs rs
  | [], [], _, _ => trivial
  | v :: vs, r :: rs, h, S => ⟨h.1.later S, h.2.1, ERs.later h.2.2 S⟩
  | [], _ :: _, h, _ => h.elim
  | _ :: _, [], h, _ => h.elim
theorem ERs.append : ∀ {vs ws : List V} {rs qs : List EV}, ERs Tb K O st σ H vs rs → ERs Tb K O st σ H ws qs → ERs Tb K O st σ H (vs ++ ws) (rs ++ qs)
  | [], ws, [], qs, _, g => g
  | v :: vs, ws, r :: rs, qs, h, g => ⟨h.1, h.2.1, ERs.append h.2.2 g⟩
  | [], _, _ :: _, _, h, _ => h.elim
  | _ :: _, _, [], _, h, _ => h.elim
theorem ERs.length : ∀ {vs : List V} {rs : List EV}, ERs Tb K O st σ H vs rs → vs.length = rs.length
  | [], [], _ => rfl
  | v :: vs, r :: rs, h => by rw [List.length_cons, List.length_cons, ERs.length h.2.2]
  | [], _ :: _, h => h.elim
  | _ :: _, [], h => h.elim
theorem ERs.ofD : ∀ {xs : List Da} {vs : List V}, RpL K (Av O st σ) H xs vs → ERs Tb K O st σ H vs (xs.map .d)
  | [], vs, h => by simp only [RpL] at h; subst h; exact trivial
  | x :: xs, vs, h => by
    simp only [RpL] at h
    obtain ⟨w, ws, rfl, a, b⟩ := h
    exact ⟨a, rfl, ERs.ofD b⟩
/-- the data of results that are to be kept: no loan -/
def evD : EV → Option Da
  | .d x => some x
  | .own c => some c.data
  | .loan _ => none
def dts : List EV → Option (List Da)
  | [] => some []
  | r :: rs => (evD r).bind fun x => (dts rs).map (x :: ·)
theorem ERs.dts : ∀ {vs : List V} {rs : List EV} {xs : List Da}, ERs Tb K O st σ H vs rs → VL.dts rs = some xs → RpL K (Av O st σ) H xs vs
  | [], [], xs, _, e => by cases e; exact .nil
  | v :: vs, r :: rs, xs, h, e => by
    obtain ⟨x, e1, e⟩ := Option.bind_eq_some_iff.mp (show (evD r).bind _ = some xs from e)
    obtain ⟨ys, e2, rfl⟩ := Option.map_eq_some_iff.mp e
    have h1 := h.1
    rw [← h.2.1] at h1
    refine .cons ?_ (ERs.dts h.2.2 e2)
    cases r with
    | d y => cases e1; exact h1
    | own c => cases h.2.1
    | loan i => cases e1
  | [], _ :: _, _, h, _ => h.elim
  | _ :: _, [], _, h, _ => h.elim
/-- .. read, loans too -/
def vRds : List EV → VM (List Da)
  | [] => vr []
  | r :: rs => vb (vRd r) fun x => vb (vRds rs) fun xs => vr (x :: xs)
theorem ERs.rds {α : Type} {k : α → VS → Prop} : ∀ {vs : List V} {rs : List EV} {g : List Da → VM α}, FR Tb K O st σ H → ERs Tb K O st σ H vs rs → VRun Tb K mg W O st σ H (vb (vRds rs) g st) k →
    ∃ xs, RoL K (Av O st σ) H xs vs ∧ VRun Tb K mg W O st σ H (g xs st) k
  | [], [], g, F, _, h => ⟨[], by simp only [RoL], h⟩
  | v :: vs, r :: rs, g, F, E, h => by
    have h' : VRun Tb K mg W O st σ H (vb (vRd r) (fun x => vb (vRds rs) fun xs => g (x :: xs)) st) k := by
      have : vb (vRds (r :: rs)) g = vb (vRd r) (fun x => vb (vRds rs) fun xs => g (x :: xs)) := by
        funext s
        show vb (vb (vRd r) fun x => vb (vRds rs) fun xs => vr (x :: xs)) g s = _
        unfold vb
        cases vRd r s with
        | error e => rfl
        | ok p =>
          obtain ⟨x, s1⟩ := p
          dsimp only
          cases vRds rs s1 with
          | error e => rfl
          | ok q => rfl
      rw [this] at h; exact h
    have E1 := E.1
    rw [← E.2.1] at E1
    obtain ⟨x, Rx, h'⟩ := VRun.rd F E1 h'
    obtain ⟨xs, Rxs, h'⟩ := ERs.rds F E.2.2 h'
    refine ⟨x :: xs, ?_, h'⟩
    simp only [RoL]
    exact ⟨v, vs, rfl, Rx, Rxs⟩
  | [], _ :: _, _, _, h, _ => h.elim
  | _ :: _, [], _, _, h, _ => h.elim
def tVA (Tb : List (Addr × Str)) (K : PySem.W.Frag) (mg : Str → Option Value) (W : WX) (f : VM (List EV)) : TA := fun σ H Q =>
  ∃ O st, FR Tb K O st σ H ∧ VRun Tb K mg W O st σ H (f st) fun rs st' => ∀ vs H', Step Tb K O st σ H st' σ H' → ERs Tb K O st' σ H' vs rs → Q vs H'
theorem tVA.bind {α : Type} {fa : VM (List EV)} {g : List EV → VM α} {k : α → VS → Prop} {Q : List V → Hp → Prop} (F : FR Tb K O st σ H) (h : VRun Tb K mg W O st σ H (vb fa g st) k)
    (cont : ∀ rs s1 vs H1, Step Tb K O st σ H s1 σ H1 → ERs Tb K O s1 σ H1 vs rs → VRun Tb K mg W O s1 σ H1 (g rs s1) k → Q vs H1) : tVA Tb K mg W fa σ H Q :=
  ⟨O, st, F, (vrun_vb h).mono fun rs s q vs H' S E => cont rs s vs H' S E (VRun.step S q)⟩
def vCons (f : VM EV) (fs : VM (List EV)) : VM (List EV) := vb f fun r => vb fs fun rs => vr (settle r :: rs)
def vConsS (f : VM EV) (fs : VM (List EV)) : VM (List EV) := vb f fun r => vb (vRd r) fun x => vb (vOpt (seqD x)) fun xs => vb fs fun rs => vr (xs.map .d ++ rs)
end
abbrev VA (Tb : List (Addr × Str)) (X : Cx) (W : WX) (es : List Expr) (f : VM (List EV)) : Prop := PA X es (tVA Tb X.K X.mg W f)
section
variable {X : Cx} {W : WX} {a b c e o : Expr} {es : List Expr} {pos p : Pos} {fa fb fc fe fo : VM EV} {fs : VM (List EV)} {ga gb : VM Bool}
theorem va_nil : VA Tb X W [] (vr []) := PA.wk pa_nil fun σ H Q ⟨O, st, F, h⟩ => h [] H (Step.refl F) trivial
theorem va_cons (ha : VE Tb X W e fe) (hr : VA Tb X W es fs) (hs : starEach (e :: es) X.env = (false, eval e X.env) :: starEach es X.env := by rfl) : VA Tb X W (e :: es) (vCons fe fs) := by
  refine PA.wk (pa_cons ha hr hs) fun σ H Q h => ?_
  obtain ⟨O, st, F, h⟩ := h
  refine tV.bind F h fun r s1 v H1 S1 E1 h => ?_
  refine tVA.bind S1.fr h fun rs s2 vs H2 S2 E2 h => ?_
  refine h (v :: vs) H2 (S1.trans S2) ⟨?_, (settle_settle r).symm, E2⟩
  rw [settle_settle]
  exact (E1.settle (H1 := H)).later S2 (H2 := H2)
theorem va_star (ha : VE Tb X W e fe) (hr : VA Tb X W es fs) (hs : starEach (.Starred e p :: es) X.env = (true, eval e X.env) :: starEach es X.env := by rfl) : VA Tb X W (.Starred e p :: es) (vConsS fe fs) := by
  refine PA.wk (StX.pa_star ha hr hs) fun σ H Q h => ?_
  obtain ⟨O, st, F, h⟩ := h
  refine tV.bind F h fun r s1 v H1 S1 E1 h => ?_
  obtain ⟨x, Rx, h⟩ := h.rd S1.fr E1
  obtain ⟨xs, ex, h⟩ := h.opt
  obtain ⟨ad, vs, rfl, sq, rl⟩ := Rx.seq ex
  refine ⟨ad, vs, rfl, sq.symm, tVA.bind S1.fr h fun rs s2 ws H2 S2 E2 h => ?_⟩
  exact h (vs ++ ws) H2 (S1.trans S2) (ERs.append (ERs.ofD (S2.rpl rl)) E2)
/-! displays -/
def vTuple (fs : VM (List EV)) : VM EV := vb fs fun rs => vb (vOpt (dts rs)) fun xs => if xs.length ≤ 16777216 then vr (.d (.tuple xs)) else vStuck
def vList (fs : VM (List EV)) : VM EV := vb fs fun rs => vb (vOpt (dts rs)) fun xs => if xs.length ≤ 16777216 then vr (.own (.l xs)) else vStuck
theorem ve_tup {k : Nat} (h : VA Tb X W es fs) : VE Tb X W (.Tuple es k pos) (vTuple fs) := by
  refine PE.wk (pe_tup h) fun σ H Q h => ?_
  obtain ⟨O, st, F, h⟩ := h
  refine tVA.bind F h fun rs s1 vs H1 S1 E1 h => ?_
  obtain ⟨xs, ex, h⟩ := h.opt
  have R := E1.dts ex
  split at h
  · rename_i hl
    refine ⟨by rw [← R.length, sizeLine_eq]; exact hl, fun p hp => ?_⟩
    exact h _ _ (S1.trans (Step.ext S1.fr (Same.upd hp))) ((NR.er S1.fr (Same.upd hp) (NR.tup S1.fr.avdom R hp)).back S1.dom)
  · exact h.elim
theorem ve_lst (h : VA Tb X W es fs) : VE Tb X W (.List es pos) (vList fs) := by
  refine PE.wk (pe_lst h) fun σ H Q h => ?_
  obtain ⟨O, st, F, h⟩ := h
  refine tVA.bind F h fun rs s1 vs H1 S1 E1 h => ?_
  obtain ⟨xs, ex, h⟩ := h.opt
  have R := E1.dts ex
  split at h
  · rename_i hl
    refine ⟨by rw [← R.length, sizeLine_eq]; exact hl, fun p hp => ?_⟩
    exact h _ _ (S1.trans (Step.ext S1.fr (Same.upd hp))) ((NR.er S1.fr (Same.upd hp) (NR.lst R hp)).back S1.dom)
  · exact h.elim
/-! built-ins by values -/
/-- f gives what g says -/
def CallV (X : Cx) (f : Value) (g : List Da → Option EV) : Prop :=
  ∃ r, CallR X f r ∧ ∀ O H xs vs z (Q : VK), (∀ a, O a → H a ≠ none) → RoL X.K O H xs vs → g xs = some z → (∀ u H', Same H H' → NR X.K O H H' u z → Q u H') → r vs H Q
def vCall (g : List Da → Option EV) (fs : VM (List EV)) : VM EV := vb fs fun rs => vb (vRds rs) fun xs => vOpt (g xs)
theorem call_wk {r : List V → Hp → VK → Prop} {g : List Da → Option EV} {σ : L2.St} {H : Hp} {Q : VK}
    (hg : ∀ O H xs vs z (Q : VK), (∀ a, O a → H a ≠ none) → RoL X.K O H xs vs → g xs = some z → (∀ u H', Same H H' → NR X.K O H H' u z → Q u H') → r vs H Q)
    (h : tV Tb X.K X.mg W (vCall g fs) σ H Q) : tCB r (tVA Tb X.K X.mg W fs) σ H Q := by
  obtain ⟨O, st, F, h⟩ := h
  refine tVA.bind F h fun rs s1 vs H1 S1 E1 h => ?_
  obtain ⟨xs, R, h⟩ := E1.rds S1.fr h
  obtain ⟨z, ez, h⟩ := h.opt1
  refine hg (Av O s1 σ) H1 xs vs z Q S1.fr.avdom R ez fun u H' k n => ?_
  exact h u H' (S1.trans (Step.ext S1.fr k)) ((NR.er S1.fr k n).back S1.dom)
theorem ve_callB {x : Str} {id : String} {g : List Da → Option EV} (hc : CallV X (.builtin id) g) (hm : X.mg x = none) (ha : VA Tb X W (e :: es) fs) (hg : Gl X x := by rfl) (hv : bootBuiltins x = some (.builtin id) := by decide +kernel) (hn : x ≠ "__name__" := by decide) (hdb : (x == ("__debug__" : Str)) = false := by decide)
    (he : starEach (e :: es) X.env = (false, eval e X.env) :: starEach es X.env := by rfl) (hpl : (backTo pos (starEach es X.env)).any (·.1) = false := by rfl) : VE Tb X W (.Call (.Name x p) (e :: es) [] pos) (vCall g fs) := by
  obtain ⟨r, hr, hgg⟩ := hc
  exact PE.wk (pe_callB hr hg hm hv ha hn hdb he hpl) fun σ H Q h => call_wk hgg h
theorem ve_callT {x : Str} {T : String} {g : List Da → Option EV} (hc : CallV X (.type T) g) (hm : X.mg x = none) (ha : VA Tb X W (e :: es) fs) (hg : Gl X x := by rfl) (hv : bootBuiltins x = some (.type T) := by decide +kernel) (hn : x ≠ "__name__" := by decide) (hdb : (x == ("__debug__" : Str)) = false := by decide)
    (he : starEach (e :: es) X.env = (false, eval e X.env) :: starEach es X.env := by rfl) (hpl : (backTo pos (starEach es X.env)).any (·.1) = false := by rfl) : VE Tb X W (.Call (.Name x p) (e :: es) [] pos) (vCall g fs) := by
  obtain ⟨r, hr, hgg⟩ := hc
  exact PE.wk (pe_callTy hr hg hm hv ha hn hdb he hpl) fun σ H Q h => call_wk hgg h
/-! subscripts -/
def ixD : Da → Da → Option EV
  | .list xs, .int i => (atI xs i).map .d
  | .tuple xs, .int i => (atI xs i).map .d
  | .str z, .int i => if z.length ≤ 16777216 then (atI z.cps.toList i).map fun c => .d (.str ⟨#[c]⟩) else none
  | _, _ => none
theorem atI_rel {K : PySem.W.Frag} {O : AS} {H : Hp} {xs : List Da} {vs : List V} (R : RpL K O H xs vs) {i : Int} {x : Da} (e : atI xs i = some x) : ∃ w, atI vs i = some w ∧ Rp K O H x w := by
  unfold atI at e ⊢
  rw [← R.length]
  obtain ⟨j, e1, e2⟩ := Option.bind_eq_some_iff.mp e
  rw [e1]
  exact R.get e2
theorem ve_ix (ha : VE Tb X W a fa) (hb : VE Tb X W b fb) (hs : PlainIx b := by exact fun _ _ => rfl) : VE Tb X W (.Subscript a b pos) (vBin ixD fa fb) := by
  refine PE.wk (pe_ix ix_seq ha hb hs) fun σ H Q h => bin_wk (fun O H x y v w z Q hd hx hy e q => ?_) h
  cases y with
  | int i =>
    obtain rfl := hy.int
    cases x with
    | list xs =>
      obtain ⟨d, ed, rfl⟩ := Option.map_eq_some_iff.mp (show (atI xs i).map EV.d = some z from e)
      obtain ⟨l, vs, rfl, h1, r1⟩ := hx.list
      obtain ⟨u, e1, e2⟩ := atI_rel r1 ed
      exact .inl ⟨l, vs, i, u, rfl, rfl, .of h1, e1, q u H (Same.refl H) e2⟩
    | tuple xs =>
      obtain ⟨d, ed, rfl⟩ := Option.map_eq_some_iff.mp (show (atI xs i).map EV.d = some z from e)
      obtain ⟨l, vs, rfl, h1, r1⟩ := hx.tupT
      obtain ⟨u, e1, e2⟩ := atI_rel r1 ed
      exact .inr (.inl ⟨l, vs, i, u, rfl, rfl, h1, e1, q u H (Same.refl H) e2⟩)
    | str s =>
      obtain rfl := hx.str
      unfold ixD at e; dsimp only at e
      split at e
      · rename_i hl
        obtain ⟨d, ed, rfl⟩ := Option.map_eq_some_iff.mp e
        exact .inr (.inr ⟨s, i, d, rfl, rfl, by rw [sizeLine_eq]; exact hl, ed, q _ H (Same.refl H) (by show Rp _ _ _ _ _; simp only [Rp])⟩)
      · cases e
    | _ => cases e
  | _ => cases x <;> cases e
/-! slices -/
def vPart : Option (VM EV) → VM (Option Int)
  | none => vr none
  | some f => vb f fun r => match r with
    | .d (.int i) => vr (some i)
    | _ => vStuck
def tVO (Tb : List (Addr × Str)) (K : PySem.W.Frag) (mg : Str → Option Value) (W : WX) (f : VM (Option Int)) : TO := fun σ H Q =>
  ∃ O st, FR Tb K O st σ H ∧ VRun Tb K mg W O st σ H (f st) fun o st' => ∀ H', Step Tb K O st σ H st' σ H' → Q o H'
abbrev VO (Tb : List (Addr × Str)) (X : Cx) (W : WX) (e : Option Expr) (f : VM (Option Int)) : Prop := PO X e (tVO Tb X.K X.mg W f)
theorem PO.wk {X : Cx} {e : Option Expr} {t t' : TO} (h : PO X e t) (w : ∀ σ H Q, t' σ H Q → t σ H Q) : PO X e t' := ⟨fun pins s σ H Q I q => h.run pins s σ H Q I (w σ H Q q)⟩
theorem vo_none : VO Tb X W none (vPart none) := PO.wk po_none fun σ H Q ⟨O, st, F, h⟩ => h H (Step.refl F)
theorem vo_some (h : VE Tb X W e fe) : VO Tb X W (some e) (vPart (some fe)) := by
  refine PO.wk (po_some h) fun σ H Q h => ?_
  obtain ⟨O, st, F, h⟩ := h
  refine tV.bind F h fun r s1 v H1 S1 E1 h => ?_
  cases r with
  | d x =>
    cases x with
    | int i =>
      have E1 : Rp X.K (Av O s1 σ) H1 (.int i) v := E1
      simp only [Rp] at E1
      exact ⟨i, E1, h H1 S1⟩
    | _ => exact h.elim
  | _ => exact h.elim
def cutD (xs : List Da) (lo hi : Option Int) : List Da := (xs.drop (HT.sIx xs.length 0 lo)).take (HT.sIx xs.length xs.length hi - HT.sIx xs.length 0 lo)
def slD (x : Da) (lo hi : Option Int) : Option EV :=
  match x with
  | .list xs => some (.own (.l (cutD xs lo hi)))
  | .tuple xs => some (.d (.tuple (cutD xs lo hi)))
  | .str z => if z.length ≤ 16777216 then some (.d (.str (cutS z lo hi))) else none
  | _ => none
/-- what may be cut: a datum, a loan, the script -/
def vRdS (r : EV) : VM Da := fun s =>
  match r with
  | .loan i =>
    match s[i]? with
    | some (.rd xs) => .ok (.list xs, s)
    | _ => vRd (.loan i) s
  | r => vRd r s
def vSl (fe : VM EV) (lo hi : VM (Option Int)) : VM EV := vb fe fun r => vb lo fun l => vb hi fun h => vb (vRdS (settle r)) fun x => vOpt (slD x l h)
theorem RpL.cut {K : PySem.W.Frag} {O : AS} {H : Hp} {xs : List Da} {vs : List V} (R : RpL K O H xs vs) (lo hi : Option Int) : RpL K O H (cutD xs lo hi) (cutV vs lo hi) := by
  unfold cutD cutV
  rw [← R.length]
  exact (R.drop _).take _
theorem SlR.or3 {r r' r'' : V → Option Int → Option Int → Hp → VK → Prop} (h : SlR X r) (h' : SlR X r') (h'' : SlR X r'') : SlR X (fun x lo hi H Q => r x lo hi H Q ∨ r' x lo hi H Q ∨ r'' x lo hi H Q) := SlR.or h (SlR.or h' h'')
theorem ve_slice {lo hi : Option Expr} {p2 : Pos} {fl fh : VM (Option Int)} (he : VE Tb X W e fe) (hl : VO Tb X W lo fl) (hh : VO Tb X W hi fh) : VE Tb X W (.Subscript e (.Slice lo hi none p2) pos) (vSl fe fl fh) := by
  refine PE.wk (pe_slice (SlR.or3 sl_list sl_tupA sl_str) he hl hh) fun σ H Q h => ?_
  obtain ⟨O, st, F, h⟩ := h
  refine tV.bind F h fun r s1 v H1 S1 E1 h => ?_
  refine ⟨O, s1, S1.fr, (vrun_vb h).mono fun l s2 q H2 S2 => ?_⟩
  refine ⟨O, s2, S2.fr, (vrun_vb (VRun.step S2 q)).mono fun u s3 q H3 S3 => ?_⟩
  have h := VRun.step S3 q
  have S := (S1.trans S2).trans S3
  have E3 := ((E1.settle (H1 := H)).later S2 (H2 := H)).later S3 (H2 := H)
  -- the script
  by_cases hr : ∃ i xs, settle r = .loan i ∧ s3[i]? = some (.rd xs)
  · obtain ⟨i, xs, er, ei⟩ := hr
    have : vb (vRdS (settle r)) (fun x => vOpt (slD x l u)) s3 = vOpt (slD (.list xs) l u) s3 := by
      unfold vb vRdS
      rw [er]; dsimp only; rw [ei]
    rw [this] at h
    rw [er] at E3
    have E3 : σ[i]? = some (some v) := E3
    obtain ⟨ov, eov, ad, vs, eo, rd, R⟩ := S3.fr.slot i _ ei
    rw [E3] at eov
    cases eov
    cases eo
    exact .inl ⟨ad, vs, rfl, rd.sq, fun p hp => h _ _ (S.trans (Step.ext S.fr (Same.upd hp))) ((NR.er S3.fr (Same.upd hp) (NR.lst (R.cut l u) hp)).back S.dom)⟩
  · have : vRdS (settle r) s3 = vRd (settle r) s3 := by
      unfold vRdS
      split
      · rename_i i er
        split
        · rename_i xs ei; exact absurd ⟨i, xs, er, ei⟩ hr
        · rw [er]
      · rfl
    have h' : VRun Tb X.K X.mg W O s3 σ H3 (vb (vRd (settle r)) (fun x => vOpt (slD x l u)) s3) fun r st' => ∀ (v : V) (H' : Hp), Step Tb X.K O st σ H st' σ H' → ER Tb X.K O H st' σ H' v r → Q v H' := by
      unfold vb at h ⊢
      rw [this] at h; exact h
    obtain ⟨x, Rx, h'⟩ := h'.rd S3.fr E3
    obtain ⟨z, ez, h'⟩ := h'.opt1
    cases x with
    | list xs =>
      cases ez
      obtain ⟨ad, vs, rfl, h1, R⟩ := Rx.list
      exact .inl ⟨ad, vs, rfl, .of h1, fun p hp => h' _ _ (S.trans (Step.ext S.fr (Same.upd hp))) ((NR.er S3.fr (Same.upd hp) (NR.lst (R.cut l u) hp)).back S.dom)⟩
    | tuple xs =>
      cases ez
      have Rt := Rx.tup
      obtain ⟨ad, vs, rfl, h1, R⟩ := Rx.tupT
      refine .inr (.inl ⟨ad, vs, rfl, h1, fun hw => ?_, fun _ p hp => ?_⟩)
      · have e : cutD xs l u = xs := by
          unfold cutD
          rw [R.length, hw.1, hw.2, List.drop_zero, ← R.length, Nat.sub_zero, List.take_length]
        rw [e] at h'
        exact h' _ _ S Rt
      · exact h' _ _ (S.trans (Step.ext S.fr (Same.upd hp))) ((NR.er S3.fr (Same.upd hp) (NR.tup S3.fr.avdom (R.cut l u) hp)).back S.dom)
    | str z =>
      obtain rfl := Rx.str
      unfold slD at ez; dsimp only at ez
      split at ez
      · rename_i hz; cases ez
        exact .inr (.inr ⟨z, rfl, by rw [sizeLine_eq]; exact hz, h' _ _ S (by show Rp _ _ _ _ _; simp only [Rp])⟩)
      · cases ez
    | _ => cases ez
end
end VL
set_option Elab.async false
set_option linter.all false
set_option maxRecDepth 100000
namespace VL
open PySem PySem.Spec PyProof.Rows L2
/-! ### what a slot owns is changed -/
def putC (i : Nat) (c : OC) (s : VS) : VS := match s[i]? with
  | some (.own _) => s.set i (.own c)
  | some (.io _) => s.set i (.io c)
  | _ => s
/-- the list of its own that a result stands for, where it may be changed -/
def mutL (r : EV) (s : VS) : Option (Nat × List Da) := match r with
  | .loan i => match s[i]? with
    | some (.own (.l xs)) => some (i, xs)
    | some (.io (.l xs)) => some (i, xs)
    | _ => none
  | _ => none
def mutM (r : EV) (s : VS) : Option (Nat × List (Da × Da)) := match r with
  | .loan i => match s[i]? with
    | some (.own (.m xs)) => some (i, xs)
    | some (.io (.m xs)) => some (i, xs)
    | _ => none
  | _ => none
section
variable {K : PySem.W.Frag} {mg : Str → Option Value} {W : WX} {O O' : AS} {st st1 st2 : VS} {σ σ1 σ2 : L2.St} {H H0 H1 H2 : Hp} {v : V} {r : EV}
theorem FR.put {i : Nat} {p : Addr} {c c' : OC} {o : HO} (F : FR Tb K O st σ H) (hs : st[i]? = some (.own c) ∨ st[i]? = some (.io c)) (hp : σ[i]? = some (some (.ref p))) (hC : Cont K (Av O st σ) (upd H p o) p c') :
    Step Tb K O st σ H (putC i c' st) σ (upd H p o) := by
  have hi : i < st.length := by
    by_cases h : i < st.length
    · exact h
    · rw [List.getElem?_eq_none (by omega)] at hs; rcases hs with h | h <;> cases h
  have ip : OwnAt st σ i p := ⟨hp, c, hs.imp id .inl⟩
  obtain ⟨sv, hsv, hput, hkind⟩ : ∃ sv, (sv = .own c' ∨ sv = .io c') ∧ putC i c' st = st.set i sv ∧ ((sv = .own c' ∧ st[i]? = some (.own c)) ∨ (sv = .io c' ∧ st[i]? = some (.io c))) := by
    rcases hs with h | h
    · exact ⟨.own c', .inl rfl, by unfold putC; rw [h], .inl ⟨rfl, h⟩⟩
    · exact ⟨.io c', .inr rfl, by unfold putC; rw [h], .inr ⟨rfl, h⟩⟩
  rw [hput]
  have hσ : σ.set i (some (.ref p)) = σ := by
    apply List.ext_getElem?
    intro j
    by_cases hj : j = i
    · subst hj; rw [List.getElem?_set_self (by rw [← F.len]; exact hi), hp]
    · rw [List.getElem?_set_ne (Ne.symm hj)]
  have own : ∀ j q, OwnAt (st.set i sv) σ j q → OwnAt st σ j q := fun j q h => by
    rw [← hσ] at h
    rcases h.set with ⟨rfl, e, _⟩ | ⟨_, h⟩
    · cases e; exact ip
    · exact h
  have muto : ∀ j q, MutAt (st.set i sv) σ j q → MutAt st σ j q := fun j q h => by
    rw [← hσ] at h
    rcases h.set with ⟨rfl, e, _⟩ | ⟨_, h⟩
    · cases e; exact ⟨hp, c, hs⟩
    · exact h
  have own' : ∀ j q, OwnAt st σ j q → OwnAt (st.set i sv) σ j q := fun j q h => by
    by_cases hj : j = i
    · subst hj
      have : q = p := by
        have := h.1
        rw [hp] at this; cases this; rfl
      subst this
      exact ⟨hp, c', by rw [List.getElem?_set_self hi]; rcases hsv with rfl | rfl; exact .inl rfl; exact .inr (.inl rfl)⟩
    · obtain ⟨e, c, h⟩ := h
      exact ⟨e, c, by rw [List.getElem?_set_ne (Ne.symm hj)]; exact h⟩
  have av : ∀ a, Av O (st.set i sv) σ a → Av O st σ a := fun a h => h.imp id fun ⟨j, h⟩ => ⟨j, own j a h⟩
  have pAv : Av O st σ p := .inr ⟨i, ip⟩
  have hH : ∀ a o', H a = some o' → NTb o' → ¬ Av O st σ a → upd H p o a = some o' := fun a o' e _ n => by
    rw [upd_ne fun z => n (by rw [z]; exact pAv)]; exact e
  have old : ∀ a o', H a = some o' → a ≠ p → upd H p o a = some o' := fun a o' e n => by rw [upd_ne n]; exact e
  refine ⟨⟨by rw [List.length_set]; exact F.len, fun j sv' h => ?_, fun a b q h1 h2 => F.inj a b q (own a q h1) (own b q h2), fun q ⟨j, h⟩ => F.avoid q ⟨j, own j q h⟩, fun q h z => ?_, tabs_upd F.tabs (F.ownc ip).choose_spec.2.kind⟩, fun a o' e _ n => ?_, fun a ⟨j, h⟩ => .inl ⟨j, own j a h⟩, fun a ⟨j, h⟩ => .inl ⟨j, muto j a h⟩, fun a h => ?_, rfl, fun j c2 h => ?_, fun j c2 h => ?_⟩
  · by_cases hj : j = i
    · subst hj
      rw [List.getElem?_set_self hi] at h
      cases h
      refine ⟨_, hp, ?_⟩
      rcases hsv with rfl | rfl
      · exact ⟨p, rfl, hC.sub av⟩
      · exact ⟨p, rfl, hC.sub av⟩
    · rw [List.getElem?_set_ne (Ne.symm hj)] at h
      obtain ⟨v, e, s⟩ := F.slot j sv' h
      refine ⟨v, e, ?_⟩
      have hc : ∀ q cc, OwnAt st σ j q → Cont K (Av O st σ) H q cc → Cont K (Av O (st.set i sv) σ) (upd H p o) q cc := fun q cc hq C => by
        refine (C.mono (fun _ z => .inl z) hH ?_).sub av
        exact upd_ne fun z => hj (F.inj j i p (z ▸ hq) ip)
      cases sv' with
      | un => trivial
      | d x => obtain ⟨w, e, r⟩ := s; exact ⟨w, e, (Rp.mono (fun _ z => .inl z) hH _ _ r).sub av⟩
      | own cc => obtain ⟨q, eq, C⟩ := s; subst eq; exact ⟨q, rfl, hc q cc ⟨e, cc, .inl h⟩ C⟩
      | io cc => obtain ⟨q, eq, C⟩ := s; subst eq; exact ⟨q, rfl, hc q cc ⟨e, cc, .inr (.inl h)⟩ C⟩
      | lk cc => obtain ⟨q, eq, C⟩ := s; subst eq; exact ⟨q, rfl, hc q cc ⟨e, cc, .inr (.inr h)⟩ C⟩
      | rd xs =>
        obtain ⟨a, vs, e, r, q⟩ := s
        exact ⟨a, vs, e, r.mono (fun a z => .inl (av a z)) hH, (RpL.mono (fun _ z => .inl z) hH _ _ q).sub av⟩
  · by_cases hq : q = p
    · subst hq; rw [upd_same] at z; cases z
    · rw [upd_ne hq] at z; exact F.odom q h z
  · exact old a o' e fun z => n ⟨i, by rw [z]; exact ⟨hp, c, hs⟩⟩
  · by_cases hq : a = p
    · subst hq; rw [upd_same] at h; cases h
    · rw [upd_ne hq] at h; exact h
  · by_cases hj : j = i
    · subst hj
      rcases hkind with ⟨rfl, e⟩ | ⟨rfl, e⟩
      · rw [e] at h; cases h
      · exact ⟨⟨c', List.getElem?_set_self hi⟩, rfl⟩
    · exact ⟨⟨c2, by rw [List.getElem?_set_ne (Ne.symm hj)]; exact h⟩, rfl⟩
  · have hj : j ≠ i := fun z => by
      subst z
      rcases hs with q | q <;> (rw [q] at h; cases h)
    exact ⟨by rw [List.getElem?_set_ne (Ne.symm hj)]; exact h, rfl⟩
theorem mutL_ok {i : Nat} {xs : List Da} (F : FR Tb K O st σ H) (E : ER Tb K O H0 st σ H v r) (e : mutL r st = some (i, xs)) :
    ∃ p vs, v = .ref p ∧ σ[i]? = some (some (.ref p)) ∧ (st[i]? = some (.own (.l xs)) ∨ st[i]? = some (.io (.l xs))) ∧ H p = some (.lst vs) ∧ RpL K (Av O st σ) H xs vs := by
  unfold mutL at e
  cases r with
  | loan j =>
    have E : σ[j]? = some (some v) := E
    dsimp only at e
    split at e
    · rename_i xs' hs; cases e
      obtain ⟨ov, eo, p, ep, vs, h1, h2⟩ := F.slot _ _ hs
      rw [E] at eo; cases eo; cases ep
      exact ⟨p, vs, rfl, E, .inl hs, h1, h2⟩
    · rename_i xs' hs; cases e
      obtain ⟨ov, eo, p, ep, vs, h1, h2⟩ := F.slot _ _ hs
      rw [E] at eo; cases eo; cases ep
      exact ⟨p, vs, rfl, E, .inr hs, h1, h2⟩
    · cases e
  | _ => cases e
end
/-- a method that changes its list: g the list's new items and what comes back -/
def MutV (X : Cx) (id : String) (g : List Da → List Da → Option (List Da × Da)) : Prop :=
  ∃ r, MtR X id r ∧ ∀ O H p ws xs vs as ys z (Q : VK), H p = some (.lst ws) → RpL X.K O H xs ws → RpL X.K O H as vs → g xs as = some (ys, z) →
    (∀ u ws', RpL X.K O H ys ws' → Rp X.K O H z u → Q u (upd H p (.lst ws'))) → r (.ref p) vs H Q
/-- .. its arguments only read -/
def MutB (X : Cx) (id : String) (g : List Da → List Da → Option (List Da × Da)) : Prop :=
  ∃ r, MtR X id r ∧ ∀ O H p ws xs vs as ys z (Q : VK), H p = some (.lst ws) → RpL X.K O H xs ws → RoL X.K O H as vs → g xs as = some (ys, z) →
    (∀ u ws', RpL X.K O H ys ws' → Rp X.K O H z u → Q u (upd H p (.lst ws'))) → r (.ref p) vs H Q
/-- the receiver stands for a list that may be changed -/
def vIsL (r : EV) : VM Unit := fun s => if (mutL r s).isSome then .ok ((), s) else .error .stuck
def vApp (g : List Da → List Da → Option (List Da × Da)) (r : EV) (as : List Da) : VM EV := fun s =>
  match mutL r s with
  | some (i, xs) => match g xs as with
    | some (ys, z) => .ok (.d z, putC i (.l ys) s)
    | none => .error .stuck
  | none => .error .stuck
def vMut (g : List Da → List Da → Option (List Da × Da)) (fo : VM EV) (fs : VM (List EV)) : VM EV := vb fo fun ro => vb (vIsL ro) fun _ => vb fs fun rs => vb (vOpt (dts rs)) fun as => vApp g ro as
def vMutB (g : List Da → List Da → Option (List Da × Da)) (fo : VM EV) (fs : VM (List EV)) : VM EV := vb fo fun ro => vb (vIsL ro) fun _ => vb fs fun rs => vb (vRds rs) fun as => vApp g ro as
def vMut0 (g : List Da → List Da → Option (List Da × Da)) (fo : VM EV) : VM EV := vb fo fun ro => vb (vIsL ro) fun _ => vApp g ro []
section
variable {X : Cx} {W : WX} {a b c e o : Expr} {es : List Expr} {pos p : Pos} {fa fb fc fe fo : VM EV} {fs : VM (List EV)} {ga gb : VM Bool}
section
variable {K : PySem.W.Frag} {mg : Str → Option Value} {O : AS} {st s2 : VS} {σ : L2.St} {H H0 H1 H2 : Hp} {v : V} {r : EV} {Q : VK} {as : List Da} {g : List Da → List Da → Option (List Da × Da)}
theorem putL {i : Nat} {p : Addr} {xs ys : List Da} {ws' : List V} (F : FR Tb K O s2 σ H2) (hst : s2[i]? = some (.own (.l xs)) ∨ s2[i]? = some (.io (.l xs))) (hσ : σ[i]? = some (some (.ref p))) (R' : RpL K (Av O s2 σ) H2 ys ws') :
    Step Tb K O s2 σ H2 (putC i (.l ys) s2) σ (upd H2 p (.lst ws')) := by
  have pAv : Av O s2 σ p := .inr ⟨i, hσ, _, hst.imp id .inl⟩
  refine F.put hst hσ ⟨ws', upd_same, RpL.mono (fun _ z => .inl z) (fun a o' e _ n => ?_) _ _ R'⟩
  rw [upd_ne fun z => n (by rw [z]; exact pAv)]; exact e
theorem VRun.isL {α : Type} {k : α → VS → Prop} {f : Unit → VM α} (F : FR Tb K O st σ H) (E : ER Tb K O H0 st σ H v r) (h : VRun Tb K mg W O st σ H (vb (vIsL r) f st) k) :
    (∃ p vs, v = .ref p ∧ H p = some (.lst vs)) ∧ VRun Tb K mg W O st σ H (f () st) k := by
  unfold vb vIsL at h
  by_cases q : (mutL r st).isSome = true
  · rw [if_pos q] at h
    obtain ⟨⟨i, xs⟩, e⟩ := Option.isSome_iff_exists.mp q
    obtain ⟨p, vs, e1, _, _, e2, _⟩ := mutL_ok F E e
    exact ⟨⟨p, vs, e1, e2⟩, h⟩
  · rw [if_neg q] at h; exact h.elim
theorem VRun.app (S : Step Tb K O st σ H s2 σ H2) (E : ER Tb K O H0 s2 σ H2 v r)
    (h : VRun Tb K mg W O s2 σ H2 (vApp g r as s2) fun r st' => ∀ v H', Step Tb K O st σ H st' σ H' → ER Tb K O H st' σ H' v r → Q v H') :
    ∃ p ws xs ys z, v = .ref p ∧ H2 p = some (.lst ws) ∧ RpL K (Av O s2 σ) H2 xs ws ∧ g xs as = some (ys, z) ∧ (∀ u ws', RpL K (Av O s2 σ) H2 ys ws' → Rp K (Av O s2 σ) H2 z u → Q u (upd H2 p (.lst ws'))) := by
  unfold vApp at h
  cases em : mutL r s2 with
  | none => rw [em] at h; exact h.elim
  | some ix =>
    obtain ⟨i, xs⟩ := ix
    rw [em] at h
    dsimp only at h
    cases eg : g xs as with
    | none => rw [eg] at h; exact h.elim
    | some yz =>
      obtain ⟨ys, z⟩ := yz
      rw [eg] at h
      obtain ⟨p, ws, rfl, hσ, hst, hp, R⟩ := mutL_ok S.fr E em
      refine ⟨p, ws, xs, ys, z, rfl, hp, R, eg, fun u ws' R' Rz => ?_⟩
      have S2 := putL S.fr hst hσ R'
      exact h u _ (S.trans S2) (S2.rp Rz)
theorem ER.loan_later {s1 : VS} (E : ER Tb K O H0 s1 σ H v r) (S : Step Tb K O s1 σ H s2 σ H1) : ∃ H0 r', ER Tb K O H0 s2 σ H1 v r' ∧ (∀ as, vApp g r as = vApp g r' as) := by
  cases r with
  | loan i => exact ⟨H0, .loan i, E, fun _ => rfl⟩
  | d x => exact ⟨H0, .d x, S.rp E, fun _ => rfl⟩
  | own c => exact ⟨H0, .d c.data, (E.settle (H1 := H0)).later S (H2 := H0), fun _ => rfl⟩
end
theorem ve_mut {name : Str} {id : String} {apos cpos : Pos} {g : List Da → List Da → Option (List Da × Da)} (pa : PlainAttrs "list") (slot : Slot "list" name id) (hty : typeOf (.builtin id) = pure (.type "method_descriptor")) (hm : MutV X id g) (ho : VE Tb X W o fo) (ha : VA Tb X W (e :: es) fs)
    (hbase : attributeBase o name X.env (eval o X.env) = eval o X.env := by rfl)
    (hfew : ((backTo cpos (starEach (e :: es) X.env)).all (fun x => !x.1) && (backToKw cpos (keywordEach [] X.env)).all (fun x => x.1.isSome)
      && decide ((e :: es).length + ([] : List Keyword).length + (if ([] : List Keyword).isEmpty then 0 else 1) < 30)) = true := by rfl)
    (hline : (apos.endLine == cpos.line) = true := by rfl) (hs : starEach (e :: es) X.env = (false, eval e X.env) :: starEach es X.env := by rfl) (hplain : (backTo cpos (starEach es X.env)).any (·.1) = false := by rfl) :
    VE Tb X W (.Call (.Attribute o name apos) (e :: es) [] cpos) (vMut g fo fs) := by
  obtain ⟨r, hr, hg⟩ := hm
  refine PE.wk (pe_bm pa slot hty hr ho ha hbase hfew hline hs hplain) fun σ H Q h => ?_
  obtain ⟨O, st, F, h⟩ := h
  refine tV.bind F h fun ro s1 v H1 S1 E1 h => ?_
  obtain ⟨⟨p, vs, rfl, hp⟩, h⟩ := VRun.isL S1.fr E1 h
  refine ⟨.inl ⟨rfl, vs, .of hp⟩, tVA.bind S1.fr h fun rs s2 as H2 S2 E2 h => ?_⟩
  obtain ⟨xs, ea, h⟩ := h.opt
  obtain ⟨H0, r', E', em⟩ := E1.loan_later (g := g) S2
  rw [em] at h
  obtain ⟨p', ws, ys, zs, z, ep, hp', R, eg, q⟩ := VRun.app (S1.trans S2) E' h
  cases ep
  exact hg _ H2 p ws ys as xs zs z Q hp' R (E2.dts ea) eg q
theorem ve_mutB {name : Str} {id : String} {apos cpos : Pos} {g : List Da → List Da → Option (List Da × Da)} (pa : PlainAttrs "list") (slot : Slot "list" name id) (hty : typeOf (.builtin id) = pure (.type "method_descriptor")) (hm : MutB X id g) (ho : VE Tb X W o fo) (ha : VA Tb X W (e :: es) fs)
    (hbase : attributeBase o name X.env (eval o X.env) = eval o X.env := by rfl)
    (hfew : ((backTo cpos (starEach (e :: es) X.env)).all (fun x => !x.1) && (backToKw cpos (keywordEach [] X.env)).all (fun x => x.1.isSome)
      && decide ((e :: es).length + ([] : List Keyword).length + (if ([] : List Keyword).isEmpty then 0 else 1) < 30)) = true := by rfl)
    (hline : (apos.endLine == cpos.line) = true := by rfl) (hs : starEach (e :: es) X.env = (false, eval e X.env) :: starEach es X.env := by rfl) (hplain : (backTo cpos (starEach es X.env)).any (·.1) = false := by rfl) :
    VE Tb X W (.Call (.Attribute o name apos) (e :: es) [] cpos) (vMutB g fo fs) := by
  obtain ⟨r, hr, hg⟩ := hm
  refine PE.wk (pe_bm pa slot hty hr ho ha hbase hfew hline hs hplain) fun σ H Q h => ?_
  obtain ⟨O, st, F, h⟩ := h
  refine tV.bind F h fun ro s1 v H1 S1 E1 h => ?_
  obtain ⟨⟨p, vs, rfl, hp⟩, h⟩ := VRun.isL S1.fr E1 h
  refine ⟨.inl ⟨rfl, vs, .of hp⟩, tVA.bind S1.fr h fun rs s2 as H2 S2 E2 h => ?_⟩
  obtain ⟨xs, ea, h⟩ := E2.rds S2.fr h
  obtain ⟨H0, r', E', em⟩ := E1.loan_later (g := g) S2
  rw [em] at h
  obtain ⟨p', ws, ys, zs, z, ep, hp', R, eg, q⟩ := VRun.app (S1.trans S2) E' h
  cases ep
  exact hg _ H2 p ws ys as xs zs z Q hp' R ea eg q
theorem ve_mut0 {name : Str} {id : String} {apos cpos : Pos} {g : List Da → List Da → Option (List Da × Da)} (pa : PlainAttrs "list") (slot : Slot "list" name id) (hty : typeOf (.builtin id) = pure (.type "method_descriptor")) (hm : MutV X id g) (ho : VE Tb X W o fo)
    (hbase : attributeBase o name X.env (eval o X.env) = eval o X.env := by rfl) (hline : (apos.endLine == cpos.line) = true := by rfl) :
    VE Tb X W (.Call (.Attribute o name apos) [] [] cpos) (vMut0 g fo) := by
  obtain ⟨r, hr, hg⟩ := hm
  refine PE.wk (pe_bm0 pa slot hty hr ho hbase hline) fun σ H Q h => ?_
  obtain ⟨O, st, F, h⟩ := h
  refine tV.bind F h fun ro s1 v H1 S1 E1 h => ?_
  obtain ⟨⟨p, vs, rfl, hp⟩, h⟩ := VRun.isL S1.fr E1 h
  refine ⟨.inl ⟨rfl, vs, .of hp⟩, ?_⟩
  obtain ⟨p', ws, ys, zs, z, ep, hp', R, eg, q⟩ := VRun.app S1 E1 h
  cases ep
  exact hg _ H1 p ws ys [] [] zs z Q hp' R .nil eg q
/-! append, extend, pop, insert -/
theorem cap_lt {n m : Nat} (e : n = m) (h : n < 16777216) : m < sizeLine := by subst e; have := sizeLine_eq; omega
theorem cap_le {n m : Nat} (e : n = m) (h : n ≤ 16777216) : m ≤ sizeLine := by subst e; have := sizeLine_eq; omega
def appendD : List Da → List Da → Option (List Da × Da)
  | xs, [x] => if xs.length < 16777216 then some (xs ++ [x], .none) else none
  | _, _ => none
theorem m_append : MutV X "list.append" appendD := by
  refine ⟨rAppend, mt_append, fun O H p ws xs vs as ys z Q hp R Ra e q => ?_⟩
  match as, Ra, e with
  | [x], Ra, e =>
    unfold appendD at e; dsimp only at e
    split at e
    · rename_i hl; cases e
      simp only [RpL] at Ra
      obtain ⟨w, r, rfl, Rx, rfl⟩ := Ra
      exact ⟨p, ws, w, rfl, rfl, hp, cap_lt R.length hl, q .non _ (R.append (.one Rx)) (by simp only [Rp])⟩
    · cases e
def extendD : List Da → List Da → Option (List Da × Da)
  | xs, [.list zs] => if xs.length + zs.length ≤ 16777216 then some (xs ++ zs, .none) else none
  | xs, [.tuple zs] => if xs.length + zs.length ≤ 16777216 then some (xs ++ zs, .none) else none
  | _, _ => none
theorem list_extend_tup (l : Addr) (items : Array Value) (n : Nat) (b : Addr) (items2 : Array Value) (n2 : Nat) (dd : Option Addr) (sl : Array (Option Value)) (hs0 : ¬(!items.isEmpty && Builtin.List.listTooLong (items.size + items2.size)) = true) (hs1 : items.size ≤ sizeLine) (hs2 : items.size + items2.size ≤ sizeLine + 1) :
    Meets (Builtin.«list.extend» ⟨[.ref l, .ref b], []⟩) (fun _ R s => s.heap.get? l = some { cls := .type "list", dict := none, data := .seq items n, slots := #[] } ∧ s.heap.get? b = some { cls := .type "tuple", dict := dd, data := .seq items2 n2, slots := sl } ∧ R (.ok (.ret Value.none)) { s with heap := s.heap.update l (Obj.mapSeq fun x => x ++ items2), toks := s.toks }) :=
  .of_wp fun prog w A R s h => by
    obtain ⟨hp, g, d, tk, os⟩ := s; obtain ⟨hl, hb, h⟩ := h; have f1 := AutoSeq1.idx_int; have f2 := AutoSeq1.sub_tuple_tuple; have f3 := AutoSeq1.sub_list_list; have f4 := AutoSeq1.sub_tuple_list; have f5 := AutoSeq1.sub_list_tuple;
    have hz' : (items ++ items2).size ≤ sizeLine + 1 := by rw [Array.size_append]; exact hs2
    wp_walk using (wpAny_updateSeq hl rfl (hz := hs1) (_hz' := hz')), wpAny_loadPart' hl, wpAny_loadPart' hb; exact ⟨_, rfl, h⟩
def rExtendT (K : PySem.W.Frag) : V → List V → Hp → VK → Prop := fun x vs H Q => ∃ l b xs zs, x = .ref l ∧ vs = [.ref b] ∧ H l = some (.lst xs) ∧ SqT K H b zs ∧ xs.length + zs.length ≤ sizeLine ∧ Q .non (upd H l (.lst (xs ++ zs)))
theorem mt_extendT : MtR X "list.extend" (rExtendT X.K) := by
  intro pins s σ H x vs v us Q I rx rv h
  obtain ⟨l, b, xs, zs, rfl, rfl, hH, hB, hz, q⟩ := h
  cases rx
  obtain ⟨u, rfl, ru⟩ := rv.one
  cases ru
  obtain ⟨z, its, n, r, hl, e⟩ := I.lstM hH
  obtain ⟨its2, r2, ⟨⟨cls, dd, data, sl⟩, e2, hc, n2, hd⟩, hz2⟩ := I.tuple hB
  simp only at hc hd
  subst hc hd
  have hl2 := r2.length
  have hsz : its.toArray.size + its2.toArray.size ≤ sizeLine := by rw [List.size_toArray, List.size_toArray]; omega
  have hlong : ¬ (!its.toArray.isEmpty && Builtin.List.listTooLong (its.toArray.size + its2.toArray.size)) = true := by
    rw [notLongL hsz, Bool.and_false]
    exact Bool.false_ne_true
  refine call_meets F.slot_list_extend ⟨_, e, rfl⟩ F.entry_list_extend (F.args_list_extend_2 _ _)
    (list_extend_tup l its.toArray n b its2.toArray n2 dd sl hlong (by rw [List.size_toArray]; omega) (by omega)) ⟨e, e2, ?_⟩
  refine ⟨.non, _, I.lset (its' := its ++ its2) hH e (by simp) (r.append r2) ?_, rfl, q⟩
  rw [List.length_append]
  omega
theorem MtR.or {id : String} {r r' : V → List V → Hp → VK → Prop} (h : MtR X id r) (h' : MtR X id r') : MtR X id (fun x xs H Q => r x xs H Q ∨ r' x xs H Q) := by
  intro pins s σ H x xs v us Q I rx rv q
  rcases q with q | q
  · exact h pins s σ H x xs v us Q I rx rv q
  · exact h' pins s σ H x xs v us Q I rx rv q
theorem extendD_some {xs as ys : List Da} {z : Da} (e : extendD xs as = some (ys, z)) : ∃ zs, (as = [.list zs] ∨ as = [.tuple zs]) ∧ xs.length + zs.length ≤ 16777216 ∧ ys = xs ++ zs ∧ z = .none := by
  unfold extendD at e
  split at e
  · split at e
    · rename_i zs hl; cases e; exact ⟨zs, .inl rfl, hl, rfl, rfl⟩
    · cases e
  · split at e
    · rename_i zs hl; cases e; exact ⟨zs, .inr rfl, hl, rfl, rfl⟩
    · cases e
  · cases e
theorem m_extend : MutB X "list.extend" extendD := by
  refine ⟨_, MtR.or (show MtR X "list.extend" rExtend from mt_extend) mt_extendT, fun O H p ws xs vs as ys z Q hp R Ra e q => ?_⟩
  obtain ⟨zs, ea, hl, rfl, rfl⟩ := extendD_some e
  have hw := R.length
  rcases ea with rfl | rfl
  · simp only [RoL] at Ra
    obtain ⟨w, r, rfl, Rx, rfl⟩ := Ra
    obtain ⟨b, us, rfl, hb, Rz⟩ := Rx.list
    exact .inl ⟨p, b, ws, us, rfl, rfl, hp, hb, cap_le (by rw [hw, Rz.length]) hl, q .non _ (R.append Rz) (by simp only [Rp])⟩
  · simp only [RoL] at Ra
    obtain ⟨w, r, rfl, Rx, rfl⟩ := Ra
    obtain ⟨b, us, rfl, hb, Rz⟩ := Rx.tupT
    exact .inr ⟨p, b, ws, us, rfl, rfl, hp, hb, cap_le (by rw [hw, Rz.length]) hl, q .non _ (R.append Rz) (by simp only [Rp])⟩
def popD : List Da → List Da → Option (List Da × Da)
  | xs, [] => xs[xs.length - 1]?.map fun y => (xs.dropLast, y)
  | _, _ => none
theorem RpL.dropLast {K : PySem.W.Frag} {O : AS} {H : Hp} {xs : List Da} {vs : List V} (R : RpL K O H xs vs) : RpL K O H xs.dropLast vs.dropLast := by
  rw [List.dropLast_eq_take, List.dropLast_eq_take, ← R.length]; exact R.take _
theorem RpL.eraseIdx {K : PySem.W.Frag} {O : AS} {H : Hp} {xs : List Da} {vs : List V} (R : RpL K O H xs vs) (k : Nat) : RpL K O H (xs.eraseIdx k) (vs.eraseIdx k) := by
  rw [List.eraseIdx_eq_take_drop_succ, List.eraseIdx_eq_take_drop_succ]; exact (R.take _).append (R.drop _)
theorem m_pop : MutV X "list.pop" popD := by
  refine ⟨rPop, mt_pop, fun O H p ws xs vs as ys z Q hp R Ra e q => ?_⟩
  match as, Ra, e with
  | [], Ra, e =>
    simp only [RpL] at Ra; subst Ra
    obtain ⟨y, e1, e2⟩ := Option.map_eq_some_iff.mp (show xs[xs.length - 1]?.map _ = some (ys, z) from e)
    cases e2
    obtain ⟨w, e3, Rw⟩ := R.get e1
    exact ⟨p, ws, w, rfl, rfl, hp, by rw [← R.length]; exact e3, q w _ R.dropLast Rw⟩
def popAtD : List Da → List Da → Option (List Da × Da)
  | xs, [.int i] => if -1000000000 ≤ i ∧ i < 1000000000 then (ixN xs.length i).bind fun k => xs[k]?.map fun y => (xs.eraseIdx k, y) else none
  | _, _ => none
theorem popAtD_some {xs as ys : List Da} {z : Da} (e : popAtD xs as = some (ys, z)) : ∃ i k, as = [.int i] ∧ -1000000000 ≤ i ∧ i < 1000000000 ∧ ixN xs.length i = some k ∧ xs[k]? = some z ∧ ys = xs.eraseIdx k := by
  unfold popAtD at e
  split at e
  · split at e
    · rename_i i hi
      obtain ⟨k, e0, e⟩ := Option.bind_eq_some_iff.mp e
      obtain ⟨y, e1, e2⟩ := Option.map_eq_some_iff.mp e
      cases e2
      exact ⟨i, k, rfl, hi.1, hi.2, e0, e1, rfl⟩
    · cases e
  · cases e
theorem m_popAt : MutV X "list.pop" popAtD := by
  refine ⟨rPopAt, mt_popAt, fun O H p ws xs vs as ys z Q hp R Ra e q => ?_⟩
  obtain ⟨i, k, rfl, h1, h2, e0, e1, rfl⟩ := popAtD_some e
  simp only [RpL, Rp] at Ra
  obtain ⟨w, r, rfl, rfl, rfl⟩ := Ra
  obtain ⟨w, e3, Rw⟩ := R.get e1
  exact ⟨p, ws, i, k, w, rfl, rfl, hp, by omega, by omega, by rw [← R.length]; exact (ixN_seq e0).1, e3, q w _ (R.eraseIdx k) Rw⟩
def insertD : List Da → List Da → Option (List Da × Da)
  | xs, [.int i, y] => if xs.length < 16777216 ∧ 0 ≤ i ∧ i < 1000000000 then some (xs.take i.toNat ++ [y] ++ xs.drop i.toNat, .none) else none
  | _, _ => none
theorem insertD_some {xs as ys : List Da} {z : Da} (e : insertD xs as = some (ys, z)) : ∃ i y, as = [.int i, y] ∧ xs.length < 16777216 ∧ 0 ≤ i ∧ i < 1000000000 ∧ ys = xs.take i.toNat ++ [y] ++ xs.drop i.toNat ∧ z = .none := by
  unfold insertD at e
  split at e
  · split at e
    · rename_i i y hi
      cases e
      exact ⟨i, y, rfl, hi.1, hi.2.1, hi.2.2, rfl, rfl⟩
    · cases e
  · cases e
theorem m_insert : MutV X "list.insert" insertD := by
  refine ⟨_, mt_insert, fun O H p ws xs vs as ys z Q hp R Ra e q => ?_⟩
  obtain ⟨i, y, rfl, h0, h1, h2, rfl, rfl⟩ := insertD_some e
  simp only [RpL] at Ra
  obtain ⟨w, r, rfl, Ri, w2, r2, rfl, Ry, rfl⟩ := Ra
  simp only [Rp] at Ri; subst Ri
  exact ⟨p, ws, i, w2, rfl, rfl, hp, cap_lt R.length h0, h1, by omega, q .non _ (((R.take _).append (.one Ry)).append (R.drop _)) (by simp only [Rp])⟩
end
end VL
set_option Elab.async false
set_option linter.all false
set_option maxRecDepth 100000
namespace VL
open PySem PySem.Spec PyProof.Rows L2
/-! ### targets that are given data -/
def gVD (Tb : List (Addr × Str)) (K : PySem.W.Frag) (vs : List Nat) (f : Da → VM Unit) : TG := fun v σ H Q => ∃ O st x, FR Tb K O st σ H ∧ Rp K (Av O st σ) H x v ∧
  okK (f x st) fun _ st' => ∀ σ' H', Step Tb K O st σ H st' σ' H' → (∀ j, j ∉ vs → σ'[j]? = σ[j]?) → Q σ' H'
def gVDs (Tb : List (Addr × Str)) (K : PySem.W.Frag) (vs : List Nat) (f : List Da → VM Unit) : TGs := fun ws σ H Q => ∃ O st xs, FR Tb K O st σ H ∧ RpL K (Av O st σ) H xs ws ∧
  okK (f xs st) fun _ st' => ∀ σ' H', Step Tb K O st σ H st' σ' H' → (∀ j, j ∉ vs → σ'[j]? = σ[j]?) → Q σ' H'
abbrev VGD (Tb : List (Addr × Str)) (X : Cx) (vs : List Nat) (t : Expr) (f : Da → VM Unit) : Prop := PG X t (gVD Tb X.K vs f)
abbrev VGDs (Tb : List (Addr × Str)) (X : Cx) (vs : List Nat) (ts : List Expr) (f : List Da → VM Unit) : Prop := PGs X ts (gVDs Tb X.K vs f)
theorem PGs.wk {X : Cx} {e : List Expr} {t t' : TGs} (h : PGs X e t) (w : ∀ v σ H Q, t' v σ H Q → t v σ H Q) : PGs X e t' := ⟨fun pins s σ H v u Q I r q => h.run pins s σ H v u Q I r (w v σ H Q q)⟩
def vSetD (i : Nat) (x : Da) : VM Unit := fun s => if wrOk s[i]? = true then .ok ((), s.set i (.d x)) else .error .stuck
def vUnp : List (Da → VM Unit) → List Da → VM Unit
  | [], [] => vr ()
  | f :: fs, x :: xs => vb (f x) fun _ => vUnp fs xs
  | _, _ => vStuck
def tupD : Da → Option (List Da)
  | .tuple xs => some xs
  | _ => none
def vUnpT (fs : List (Da → VM Unit)) (x : Da) : VM Unit := vb (vOpt (tupD x)) fun xs => vUnp fs xs
section
variable {X : Cx} {W : WX} {a b c e o : Expr} {es ts : List Expr} {pos p : Pos} {fa fb fc fe fo : VM EV} {fs : VM (List EV)} {ga gb : VM Bool} {f : Da → VM Unit} {fl : List (Da → VM Unit)} {ix : List Nat}
theorem gVD.name {K : PySem.W.Frag} {i : Nat} {v : V} {σ : L2.St} {H : Hp} {Q : L2.St → Hp → Prop} (hv : i ∈ ix) (h : gVD Tb K ix (vSetD i) v σ H Q) : gName i v σ H Q := by
  obtain ⟨O, st, x, F, R, h⟩ := h
  unfold vSetD at h
  by_cases hw : wrOk st[i]? = true
  · rw [if_pos hw] at h
    exact h _ _ ((Step.refl F).setN hw ⟨v, rfl, R⟩ fun c => ⟨(fun z => by cases z), (fun z => by cases z), (fun z => by cases z)⟩) fun j hj => List.getElem?_set_ne fun z => hj (by rw [← z]; exact hv)
  · rw [if_neg hw] at h; exact h.elim
theorem vgd_name {i : Nat} {x : Str} (hN : X.N.Nodup) (hi : X.N[i]? = some x) (hx : Loc X.env.scope x) (hf : X.fn x = true ∨ X.env.scope.names.lookup x = some .local := by first | exact .inl rfl | exact .inr rfl | assumption) (hv : i ∈ ix := by decide) : VGD Tb X ix (.Name x pos) (vSetD i) :=
  PG.wk (pg_name hN hi hx hf) fun v σ H Q h => h.name hv
theorem vgds_nil : VGDs Tb X ix [] (vUnp []) := PGs.wk pgs_nil fun vs σ H Q ⟨O, st, xs, F, R, h⟩ => by
  cases xs with
  | nil => simp only [RpL] at R; exact ⟨R, h σ H (Step.refl F) fun _ _ => rfl⟩
  | cons x xs => exact h.elim
theorem vgds_cons (h1 : VGD Tb X ix e f) (h2 : VGDs Tb X ix es (vUnp fl)) (hs : (assignEach (e :: es) X.env).map (·.2) = assign e X.env :: (assignEach es X.env).map (·.2) := by rfl) : VGDs Tb X ix (e :: es) (vUnp (f :: fl)) := by
  refine PGs.wk (pgs_cons h1 h2 hs) fun vs σ H Q ⟨O, st, xs, F, R, h⟩ => ?_
  cases xs with
  | nil => exact h.elim
  | cons x xs =>
    simp only [RpL] at R
    obtain ⟨v, vr, rfl, Rv, Rr⟩ := R
    refine ⟨v, vr, rfl, O, st, x, F, Rv, ?_⟩
    have h : okK (vb (f x) (fun _ => vUnp fl xs) st) fun _ st' => ∀ σ' H', Step Tb X.K O st σ H st' σ' H' → (∀ j, j ∉ ix → σ'[j]? = σ[j]?) → Q σ' H' := h
    unfold vb at h
    cases q : f x st with
    | error er => rw [q] at h; exact h
    | ok p =>
      obtain ⟨_, s1⟩ := p
      rw [q] at h
      refine fun σ1 H1 S1 a1 => ⟨O, s1, xs, S1.fr, S1.rpl Rr, ?_⟩
      dsimp only at h
      cases q2 : vUnp fl xs s1 with
      | error er => rw [q2] at h; exact h
      | ok p => rw [q2] at h; exact fun σ' H' S' a' => h σ' H' (S1.trans S') fun j hj => (a' j hj).trans (a1 j hj)
theorem vgd_tup {k : Nat} {n : Nat} (hc : X.calm = true) (h : VGDs Tb X ix es (vUnp fl)) (hn : (assignEach es X.env).length = n := by rfl) (hst : (assignEach es X.env).findIdx? (·.1) = none := by rfl) (hl : fl.length = n := by rfl) : VGD Tb X ix (.Tuple es k pos) (vUnpT fl) := by
  refine PG.wk (pg_tup hc h hn hst) fun v σ H Q ⟨O, st, x, F, R, h⟩ => ?_
  cases x with
  | tuple xs =>
    obtain ⟨ad, vs, rfl, sq, Rl⟩ := R.tupT
    have h : okK (vUnp fl xs st) fun _ st' => ∀ σ' H', Step Tb X.K O st σ H st' σ' H' → (∀ j, j ∉ ix → σ'[j]? = σ[j]?) → Q σ' H' := h
    have len : ∀ {fl : List (Da → VM Unit)} {xs : List Da} {st : VS}, (∃ p, vUnp fl xs st = .ok p) → fl.length = xs.length := by
      intro fl
      induction fl with
      | nil =>
        intro xs st ⟨p, e⟩
        cases xs with
        | nil => rfl
        | cons _ _ => cases e
      | cons f fl ih =>
        intro xs st ⟨p, e⟩
        cases xs with
        | nil => cases e
        | cons x xs =>
          have e : vb (f x) (fun _ => vUnp fl xs) st = .ok p := e
          unfold vb at e
          split at e
          · rw [List.length_cons, List.length_cons, ih ⟨_, e⟩]
          · cases e
    have hlen : fl.length = xs.length := by
      cases q : vUnp fl xs st with
      | error er => rw [q] at h; exact h.elim
      | ok p => exact len ⟨p, q⟩
    exact ⟨ad, vs, rfl, sq, by rw [← Rl.length, ← hlen, hl], O, st, xs, F, Rl, h⟩
  | _ => exact h.elim
/-- data into a target -/
def vAsgD (f : VM EV) (g : Da → VM Unit) : VM Ctl := vb f fun r => vb (vOpt (evD r)) fun x => vb (vNoX (g x)) fun _ => vNx
theorem ER.evD {K : PySem.W.Frag} {O : AS} {H0 H : Hp} {st : VS} {σ : L2.St} {v : V} {r : EV} {x : Da} (E : ER Tb K O H0 st σ H v r) (e : VL.evD r = some x) : Rp K (Av O st σ) H x v := by
  cases r with
  | d y => cases e; exact E
  | own c => cases e; exact ER.settle (H1 := H0) E
  | loan i => cases e
theorem asgD_wk {gt : Da → VM Unit} {K : PySem.W.Frag} {mg : Str → Option Value} {D : Ends} {σ : L2.St} {H : Hp} (h : tVS Tb K mg W (vAsgD fe gt) D σ H) : tAsg (tV Tb K mg W fe) (gVD Tb K ix gt) D σ H := by
  refine h.expr fun O st r s1 v H1 S E h => ?_
  obtain ⟨x, ex, h⟩ := h.opt
  refine ⟨O, s1, x, S.fr, E.evD ex, ?_⟩
  unfold vb vNoX at h
  cases q : gt x s1 with
  | ok p =>
    obtain ⟨_, s2⟩ := p
    rw [q] at h
    exact fun σ' H' S' _ => h σ' H' (S.trans S')
  | error er => rw [q] at h; exact h.elim
theorem vs_asgD {tg : Expr} {gt : Da → VM Unit} (he : VE Tb X W e fe) (hg : VGD Tb X ix tg gt) (hs : swapsWithSole [tg] e pos.line X.env = pure false := by rfl) (hw : swappedStores [tg] e X.env = pure none := by rfl)
    (h1 : (assignEach [tg] X.env).map (·.2) = [assign tg X.env] := by rfl) : VSt Tb X W (.Assign [tg] e pos) (vAsgD fe gt) := PS.wk (ps_asg he hg hs hw h1) fun D σ H h => asgD_wk (ix := ix) h
/-! xs[i] = v -/
def setD : List Da → List Da → Option (List Da × Da)
  | xs, [.int k, v] => (ixN xs.length k).map fun j => (xs.set j v, .none)
  | _, _ => none
theorem setD_some {xs as ys : List Da} {z : Da} (e : setD xs as = some (ys, z)) : ∃ k v j, as = [.int k, v] ∧ ixN xs.length k = some j ∧ ys = xs.set j v ∧ z = .none := by
  unfold setD at e
  split at e
  · rename_i k v
    obtain ⟨j, e0, e1⟩ := Option.map_eq_some_iff.mp e
    cases e1
    exact ⟨k, v, j, rfl, e0, rfl, rfl⟩
  · cases e
def vSub (fo fi : VM EV) (x : Da) : VM Unit := vb fo fun ro => vb fi fun ri => vb (vRd ri) fun i => vb (vApp setD ro [i, x]) fun _ => vr ()
theorem tV.bind0 {α : Type} {K : PySem.W.Frag} {mg : Str → Option Value} {O : AS} {st : VS} {σ : L2.St} {H : Hp} {f : VM EV} {g : EV → VM α} {Q : VK} {k : α → VS → Prop} (F : FR Tb K O st σ H)
    (h : okK (vb f g st) k)
    (cont : ∀ r s1 v H1, Step Tb K O st σ H s1 σ H1 → ER Tb K O H s1 σ H1 v r → okK (g r s1) k → Q v H1) : tV Tb K mg W f σ H Q := by
  refine ⟨O, st, F, ?_⟩
  unfold vb at h
  cases e : f st with
  | ok p =>
    obtain ⟨r, s1⟩ := p
    rw [e] at h
    exact fun v H1 S E => cont r s1 v H1 S E h
  | error er => rw [e] at h; exact h.elim
theorem vgd_sub (ho : VE Tb X W o fo) (hi : VE Tb X W a fa) (ha : ∀ v, assign (.Subscript o a pos) X.env v = (do
      let ov ← holding [v] (eval o X.env)
      let iv ← holding [v, ov] (eval a X.env)
      standAt pos
      holding [v, ov, iv] (setItem ov iv v)
      release [v, ov, iv] []) := by intro _; rfl) : VGD Tb X ix (.Subscript o a pos) (vSub fo fa) := by
  refine PG.wk (pg_sub ho hi set_list ha) fun v σ H Q ⟨O, st, x, F, R, h⟩ => ?_
  refine tV.bind0 (g := fun ro => vb fa fun ri => vb (vRd ri) fun i => vb (vApp setD ro [i, x]) fun _ => vr ()) (k := fun _ st' => ∀ σ' H', Step Tb X.K O st σ H st' σ' H' → (∀ j, j ∉ ix → σ'[j]? = σ[j]?) → Q σ' H') F h fun ro s1 ov H1 S1 E1 h => ?_
  refine tV.bind0 (g := fun ri => vb (vRd ri) fun i => vb (vApp setD ro [i, x]) fun _ => vr ()) (k := fun _ st' => ∀ σ' H', Step Tb X.K O st σ H st' σ' H' → (∀ j, j ∉ ix → σ'[j]? = σ[j]?) → Q σ' H') S1.fr h fun ri s2 iv H2 S2 E2 h => ?_
  have S := S1.trans S2
  have Rx := S.rp R
  -- as a run
  have h' : VRun Tb X.K X.mg W O s2 σ H2 (vb (vRd ri) (fun i => vb (vApp setD ro [i, x]) fun _ => (vr () : VM Unit)) s2) fun _ st' => ∀ σ' H', Step Tb X.K O st σ H st' σ' H' → (∀ j, j ∉ ix → σ'[j]? = σ[j]?) → Q σ' H' := by
    cases q : vb (vRd ri) (fun i => vb (vApp setD ro [i, x]) fun _ => (vr () : VM Unit)) s2 with
    | ok p => rw [q] at h; exact h
    | error er => rw [q] at h; exact h.elim
  obtain ⟨i, Ri, h'⟩ := h'.rd S2.fr E2
  obtain ⟨H0, r', E', em⟩ := E1.loan_later (g := setD) S2
  have h2 := vrun_vb h'
  rw [em] at h2
  obtain ⟨p, ws, xs, ys, z, rfl, hp, Rl, eg, q⟩ := VRun.app (Q := fun _ H' => ∃ σ', σ' = σ ∧ Q σ' H') S E' (h2.mono fun r st' z v H' S' E => ⟨σ, rfl, z σ H' S' fun _ _ => rfl⟩)
  obtain ⟨k, v', j, e1, e2, rfl, rfl⟩ := setD_some eg
  cases e1
  obtain rfl := Ri.int
  refine ⟨p, ws, k, j, rfl, rfl, hp, by rw [← Rl.length]; exact e2, ?_⟩
  obtain ⟨σ', ee, qq⟩ := q .non _ (Rl.set j Rx) (by simp only [Rp])
  rw [ee] at qq
  exact qq
/-! x op= e -/
theorem ip_of {op : Operator} {r : R2} (h : OpR X (inplaceOp op) r) : PIp X op r := h
def vAug (i : Nat) (g : Da → Da → Option EV) (f : VM EV) : VM Ctl := vb (vVar i) fun r0 => vb f fun r => vb (vRd r0) fun x => vb (vRd r) fun y => vb (vOpt (g x y)) fun z => vb (vNoX (vSet i z)) fun _ => vNx
/-- the operator, in place, of what is no list -/
def flatD : Da → Bool
  | .int _ => true
  | .str _ => true
  | _ => false
theorem vs_aug {i : Nat} {x : Str} {op : Operator} {g : Da → Da → Option EV} {pos' : Pos} (hN : X.N.Nodup) (hi : X.N[i]? = some x) (hx : Loc X.env.scope x) (he : VE Tb X W e fe) (ho : Op2 X (inplaceOp op) g) (hf : X.fn x = true ∨ X.env.scope.names.lookup x = some .local := by first | exact .inl rfl | exact .inr rfl | assumption) :
    VSt Tb X W (.AugAssign (.Name x pos') op e pos) (vAug i g fe) := by
  obtain ⟨r, hr, hg⟩ := ho
  refine PS.wk (ps_aug hN hi hx he (ip_of hr) hf) fun D σ H h => ?_
  obtain ⟨O, st, F, h⟩ := h
  -- the name's value
  have h0 := vrun_vb h
  unfold vVar at h0
  cases q : st[i]? with
  | none => rw [q] at h0; exact h0.elim
  | some sv =>
    rw [q] at h0
    obtain ⟨w, ew, sl⟩ := F.slot i sv q
    have main : ∀ (u : V) (r0 : EV), w = some u → ER Tb X.K O H st σ H u r0 → VRun Tb X.K X.mg W O st σ H ((vb fe fun r => vb (vRd r0) fun x => vb (vRd r) fun y => vb (vOpt (g x y)) fun z => vb (vNoX (vSet i z)) fun _ => vNx) st) (CtlK Tb X.K O st σ H D) →
        (r0 = settle r0) → tAug i (tV Tb X.K X.mg W fe) r D σ H := fun u r0 eu E0 h er => by
      subst eu
      refine ⟨u, ew, tV.bind F h fun r1 s1 v H1 S1 E1 h => ?_⟩
      rw [er] at E0
      have E0' := E0.later S1 (H2 := H)
      rw [← er] at E0'
      obtain ⟨xd, Rx, h⟩ := h.rd S1.fr E0'
      obtain ⟨yd, Ry, h⟩ := h.rd S1.fr E1
      obtain ⟨z, ez, h⟩ := h.opt
      refine hg _ H1 xd yd u v z _ S1.fr.avdom Rx Ry ez fun zv H2 k n => ?_
      have S2 := S1.trans (Step.ext S1.fr k)
      have Ez := (NR.er S1.fr k n).back S1.dom
      refine gVT.name (K := X.K) ⟨O, st, σ, H, s1, z, S2, Ez, ?_⟩
      unfold vb vNoX at h
      cases q : vSet i z s1 with
      | ok p => rw [q] at h; exact fun σ' H' S' => h σ' H' S'
      | error er => rw [q] at h; exact h.elim
    cases sv with
    | un => exact h0.elim
    | d y => obtain ⟨u, e, R⟩ := sl; exact main u (.d y) e R h0 rfl
    | own c => obtain ⟨p, e, R⟩ := sl; exact main _ (.loan i) e (by rw [e] at ew; exact ew) h0 rfl
    | io c => obtain ⟨p, e, R⟩ := sl; exact main _ (.loan i) e (by rw [e] at ew; exact ew) h0 rfl
    | lk c => obtain ⟨p, e, R⟩ := sl; exact main _ (.loan i) e (by rw [e] at ew; exact ew) h0 rfl
    | rd xs => obtain ⟨p, vs, e, R⟩ := sl; exact main _ (.loan i) e (by rw [e] at ew; exact ew) h0 rfl
def iaddD : Da → Da → Option EV
  | .int i, .int j => some (.d (.int (i + j)))
  | .str a, .str b => if a.length + b.length ≤ 16777216 then some (.d (.str (a ++ b))) else none
  | _, _ => none
theorem i_add : Op2 X (inplaceOp .Add) iaddD := by
  refine ⟨_, OpR.or iop_add iop_add_str, fun O H x y v w z Q hd hx hy e q => ?_⟩
  cases x with
  | int i =>
    cases y with
    | int j => cases e; obtain rfl := hx.int; obtain rfl := hy.int; exact .inl ⟨i, j, rfl, rfl, q _ H (Same.refl H) (by show Rp _ _ _ _ _; simp only [Rp])⟩
    | _ => cases e
  | str i =>
    cases y with
    | str j =>
      obtain rfl := hx.str; obtain rfl := hy.str
      unfold iaddD at e; dsimp only at e
      split at e
      · rename_i hl; cases e
        exact .inr ⟨i, j, rfl, rfl, by rw [sizeLine_eq]; exact hl, q _ H (Same.refl H) (by show Rp _ _ _ _ _; simp only [Rp])⟩
      · cases e
    | _ => cases e
  | _ => cases e
theorem i_sub : Op2 X (inplaceOp .Sub) subD := by
  refine ⟨_, iop_sub, fun O H x y v w z Q hd hx hy e q => ?_⟩
  cases x with
  | int i =>
    cases y with
    | int j => cases e; obtain rfl := hx.int; obtain rfl := hy.int; exact ⟨i, j, rfl, rfl, q _ H (Same.refl H) (by show Rp _ _ _ _ _; simp only [Rp])⟩
    | _ => cases e
  | _ => cases e
/-! xs[i] op= e -/
theorem get_list : PGet X (rIxL X.K) := by
  intro pins s σ H x y v u Q I rx ry h
  obtain ⟨p, xs, i, z, rfl, rfl, hq, he, q⟩ := h
  cases rx
  obtain ⟨t, rfl⟩ := ry
  obtain ⟨its, r, pl, hz⟩ := I.list hq
  obtain ⟨j, hj, ej⟩ := Option.bind_eq_some_iff.mp (show (ixN xs.length i).bind _ = some z from he)
  obtain ⟨h1, h2, h3, h4⟩ := ixN_seq hj
  obtain ⟨w, ew, rw'⟩ := r.get ej
  have hl := r.length
  have hn := line63
  have fin : EP X pins σ Q w s := ⟨z, H, I, rw', q⟩
  by_cases h0 : 0 ≤ i
  · have hk : i.toNat = j := by
      rw [seqIndex_of h0 h4] at h1
      exact Option.some.inj h1
    exact PySem.wpAny_getItem_list pl.isList h0 (by omega) (by rw [hk]; simpa using ew) fin
  · have hk : (i + (its.toArray.size : Int)).toNat = j := by
      rw [seqIndex_neg (by omega) h3] at h1
      rw [List.size_toArray, ← hl]
      exact Option.some.inj h1
    exact wpAny_getItem_list_neg pl.isList (by omega) (by rw [List.size_toArray] <;> omega) (by omega) (by rw [hk]; simpa using ew) fin
def intD : Da → Option Int
  | .int i => some i
  | _ => none
def vCt (r : EV) : VM (List Da) := fun s => match mutL r s with
  | some (_, xs) => .ok (xs, s)
  | none => .error .stuck
theorem VRun.ct {α : Type} {K : PySem.W.Frag} {mg : Str → Option Value} {O : AS} {st : VS} {σ : L2.St} {H H0 : Hp} {v : V} {r : EV} {k : α → VS → Prop} {f : List Da → VM α} (F : FR Tb K O st σ H) (E : ER Tb K O H0 st σ H v r) (h : VRun Tb K mg W O st σ H (vb (vCt r) f st) k) :
    ∃ xs p vs, v = .ref p ∧ H p = some (.lst vs) ∧ RpL K (Av O st σ) H xs vs ∧ VRun Tb K mg W O st σ H (f xs st) k := by
  unfold vb vCt at h
  cases e : mutL r st with
  | none => rw [e] at h; exact h.elim
  | some ix =>
    obtain ⟨i, xs⟩ := ix
    rw [e] at h
    obtain ⟨p, vs, e1, _, _, e2, R⟩ := mutL_ok F E e
    exact ⟨xs, p, vs, e1, e2, R, h⟩
theorem ER.loan_later2 {K : PySem.W.Frag} {O : AS} {H0 H H1 : Hp} {s1 s2 : VS} {σ : L2.St} {v : V} {r : EV} (E : ER Tb K O H0 s1 σ H v r) (S : Step Tb K O s1 σ H s2 σ H1) : ∃ H0 r', ER Tb K O H0 s2 σ H1 v r' ∧ (∀ g as, vApp g r as = vApp g r' as) ∧ vCt r = vCt r' := by
  cases r with
  | loan i => exact ⟨H0, .loan i, E, fun _ _ => rfl, rfl⟩
  | d x => exact ⟨H0, .d x, S.rp E, fun _ _ => rfl, rfl⟩
  | own c => exact ⟨H0, .d c.data, (E.settle (H1 := H0)).later S (H2 := H0), fun _ _ => rfl, rfl⟩
def vAugS (g : Da → Da → Option EV) (fo fi fe : VM EV) : VM Ctl := vb fo fun ro => vb fi fun ri => vb (vRd ri) fun i => vb (vOpt (intD i)) fun k => vb (vCt ro) fun xs => vb (vOpt (atI xs k)) fun old => vb fe fun re => vb (vRd re) fun y =>
  vb (vOpt ((g old y).bind evD)) fun new => vb (vApp setD ro [.int k, new]) fun _ => vNx
theorem vs_augS {tpos : Pos} {op : Operator} {g : Da → Da → Option EV} (ho : VE Tb X W o fo) (hi : VE Tb X W a fa) (he : VE Tb X W e fe) (hop : Op2 X (inplaceOp op) g)
    (ha : ∀ ov iv new, augStore a ov iv new = (do holding [new, ov, iv] (setItem ov iv new); release [new, ov, iv] []; pure .next) := by intros; rfl) :
    VSt Tb X W (.AugAssign (.Subscript o a tpos) op e pos) (vAugS g fo fa fe) := by
  obtain ⟨r, hr, hg⟩ := hop
  refine PS.wk (ps_augS ho hi get_list he (ip_of hr) set_list ha) fun D σ H h => ?_
  obtain ⟨O, st, F, h⟩ := h
  refine tV.bind F h fun ro s1 ov H1 S1 E1 h => ?_
  refine tV.bind S1.fr h fun ri s2 iv H2 S2 E2 h => ?_
  obtain ⟨i, Ri, h⟩ := h.rd S2.fr E2
  obtain ⟨k, ek, h⟩ := h.opt
  obtain rfl : i = .int k := by
    cases i with
    | int j => cases ek; rfl
    | _ => cases ek
  obtain rfl := Ri.int
  obtain ⟨H0, r2, E', em, ec⟩ := E1.loan_later2 S2
  rw [ec] at h
  obtain ⟨xs, p, vs, rfl, hp, Rl, h⟩ := h.ct S2.fr E'
  obtain ⟨old, eo, h⟩ := h.opt
  obtain ⟨w, ew, Rw⟩ := atI_rel Rl eo
  refine ⟨p, vs, k, w, rfl, rfl, .of hp, ew, ?_⟩
  refine tV.bind S2.fr h fun re s3 y H3 S3 E3 h => ?_
  obtain ⟨yd, Ry, h⟩ := h.rd S3.fr E3
  obtain ⟨new, en, h⟩ := h.opt
  obtain ⟨z, ez1, ez2⟩ := Option.bind_eq_some_iff.mp en
  have Rw3 := S3.rp Rw
  refine hg _ H3 old yd w y z _ S3.fr.avdom (.inl Rw3) Ry ez1 fun u H4 k4 n4 => ?_
  have S4 := Step.ext S3.fr k4
  have E4 := NR.er S3.fr k4 n4
  have Rn := E4.evD ez2
  have h := VRun.step S4 h
  obtain ⟨H0', r3, E'', em3⟩ := E'.loan_later (g := setD) (S3.trans S4)
  have h2 := vrun_vb h
  rw [em, em3] at h2
  have S := ((S1.trans S2).trans S3).trans S4
  obtain ⟨p', ws, ys, zs, z', ep, hp', Rl', eg, q⟩ := VRun.app (Q := fun _ H' => D.nx σ H') S E'' (h2.mono fun r st' z v H' S' E => z σ H' S')
  cases ep
  obtain ⟨k', v', j, e1, e2, rfl, rfl⟩ := setD_some eg
  cases e1
  exact ⟨p, ws, k, j, rfl, rfl, hp', by rw [← Rl'.length]; exact e2, q .non _ (Rl'.set j Rn) (by simp only [Rp])⟩
end
end VL
set_option Elab.async false
set_option linter.all false
set_option maxRecDepth 100000
namespace VL
open PySem PySem.Spec PyProof.Rows L2
/-- what a body knows of where it stands -/
structure VC (X : Cx) (W : WX) (k : Nat) : Prop where
  calm : X.calm = true
  nd : X.N.Nodup
  tk : Takes X W
  rm : Room k X.A
theorem VC.hu {X : Cx} {W : WX} {k : Nat} (c : VC X W k) : X.A.units + 64 < cLine := c.rm.units
theorem VC.hu0 {X : Cx} {W : WX} {k : Nat} (c : VC X W k) : X.A.units < cLine := c.rm.units0
/-- what is wanted of an exception, whatever the slots; where they are the given ones -/
def WN (E : XK) : WX := fun cls d _ H => E cls d H
def WS (σ0 : L2.St) (E : XK) : WX := fun cls d σ H => σ = σ0 → E cls d H
abbrev FM := VS → Res (EV × VS)
/-- THE PROMISE of a def whose mirror is m -/
def spV (Tb : List (Addr × Str)) (K : PySem.W.Frag) (mg : Str → Option Value) (n : Nat) (m : FM) : Sp := fun vs H Q E => vs.length = n ∧ ∃ O st0, FR Tb K O st0 (vs.map some) H ∧ (∀ (i : Nat) (c : OC), st0[i]? ≠ some (.own c)) ∧
  VRun Tb K mg (WS (vs.map some) E) O st0 (vs.map some) H (m st0) fun r st' => ∀ v H', Step Tb K O st0 (vs.map some) H st' (vs.map some) H' → ER Tb K O H st' (vs.map some) H' v r → Q v H'
/-! ### the body -/
/-- what is given back: a datum, or a list of one's own -/
def retV (c : Ctl) (s : VS) : Option EV := match c with
  | .nx => some (.d .none)
  | .rt (.loan i) => match s[i]? with
    | some (.own c) => some (.own c)
    | _ => none
  | .rt r => some r
  | _ => none
/-- the parameters behind it -/
def outs : VS → VS → VS
  | .io _ :: st0, sv :: s => sv :: outs st0 s
  | x :: st0, _ :: s => x :: outs st0 s
  | st0, _ => st0
def runF (N : Nat) (g : VM Ctl) : FM := fun st0 =>
  match g (st0 ++ List.replicate (N - st0.length) .un) with
  | .ok (c, s) => match retV c s with
    | some r => .ok (r, outs st0 s)
    | none => .error .stuck
  | .error (.exc C fs s) => .error (.exc C fs (outs st0 s))
  | .error .stuck => .error .stuck
theorem outs_get : ∀ {st0 s : VS} {i : Nat} {sv : SV}, st0.length ≤ s.length → st0[i]? = some sv → ∃ sv', s[i]? = some sv' ∧ (outs st0 s)[i]? = some (match sv with
    | .io _ => sv'
    | x => x)
  | [], s, i, sv, _, h => by simp at h
  | x :: st0, [], i, sv, hl, h => by simp at hl
  | x :: st0, y :: s, 0, sv, hl, h => by
    simp at h; subst h
    refine ⟨y, rfl, ?_⟩
    cases x <;> rfl
  | x :: st0, y :: s, i + 1, sv, hl, h => by
    obtain ⟨sv', h1, h2⟩ := outs_get (st0 := st0) (s := s) (i := i) (sv := sv) (by simpa using hl) (by simpa using h)
    refine ⟨sv', by simpa using h1, ?_⟩
    cases x <;> (show (_ :: outs st0 s)[i + 1]? = _; simpa using h2)
theorem outs_len : ∀ {st0 s : VS}, st0.length ≤ s.length → (outs st0 s).length = st0.length
  | [], s, _ => by cases s <;> rfl
  | x :: st0, [], hl => by simp at hl
  | x :: st0, y :: s, hl => by
    have ih := outs_len (st0 := st0) (s := s) (by simpa using hl)
    cases x <;> (show (_ :: outs st0 s).length = _; simp [ih])
theorem start_map (N : List Str) (vs : List V) : L2.start N vs = vs.map some ++ List.replicate (N.length - vs.length) none := rfl
section
variable {K : PySem.W.Frag} {mg : Str → Option Value} {W : WX} {O : AS} {H H' : Hp} {vs : List V} {st0 : VS} {n : Nat}
theorem own_ext {i : Nat} {p : Addr} (hl : st0.length = vs.length) : OwnAt (st0 ++ List.replicate n .un) (vs.map some ++ List.replicate n none) i p ↔ OwnAt st0 (vs.map some) i p := by
  constructor
  · rintro ⟨e, c, h⟩
    by_cases hi : i < st0.length
    · rw [List.getElem?_append_left (by rw [List.length_map, ← hl]; exact hi)] at e
      rw [List.getElem?_append_left hi] at h
      exact ⟨e, c, h⟩
    · rw [List.getElem?_append_right (by omega), List.getElem?_replicate] at h
      rcases h with h | h | h <;> (split at h <;> cases h)
  · rintro ⟨e, c, h⟩
    have hi : i < st0.length := by
      by_cases hi : i < st0.length
      · exact hi
      · rw [List.getElem?_eq_none (by omega)] at h; rcases h with h | h | h <;> cases h
    exact ⟨by rw [List.getElem?_append_left (by rw [List.length_map, ← hl]; exact hi)]; exact e, c, by rw [List.getElem?_append_left hi]; exact h⟩
theorem FR.start (F : FR Tb K O st0 (vs.map some) H) : FR Tb K O (st0 ++ List.replicate n .un) (vs.map some ++ List.replicate n none) H := by
  have hl : st0.length = vs.length := by rw [F.len, List.length_map]
  have av : Av O (st0 ++ List.replicate n .un) (vs.map some ++ List.replicate n none) = Av O st0 (vs.map some) := by
    funext a
    exact propext ⟨fun h => h.imp id fun ⟨j, h⟩ => ⟨j, (own_ext hl).mp h⟩, fun h => h.imp id fun ⟨j, h⟩ => ⟨j, (own_ext hl).mpr h⟩⟩
  refine ⟨by simp [hl], fun i sv h => ?_, fun i j p h1 h2 => F.inj i j p ((own_ext hl).mp h1) ((own_ext hl).mp h2), fun p ⟨j, h⟩ => F.avoid p ⟨j, (own_ext hl).mp h⟩, F.odom, F.tabs⟩
  rw [av]
  by_cases hi : i < st0.length
  · rw [List.getElem?_append_left hi] at h
    obtain ⟨v, e, s⟩ := F.slot i sv h
    exact ⟨v, by rw [List.getElem?_append_left (by rw [List.length_map, ← hl]; exact hi)]; exact e, s⟩
  · rw [List.getElem?_append_right (by omega), List.getElem?_replicate] at h
    split at h
    · cases h
      rename_i hn
      refine ⟨none, ?_, trivial⟩
      rw [List.getElem?_append_right (by rw [List.length_map]; omega), List.getElem?_replicate, List.length_map, ← hl, if_pos hn]
    · cases h
/-- the parameters' slots behind the body -/
structure Outs (st0 s : VS) (σ0 σ' : L2.St) : Prop where
  len : (VL.outs st0 s).length = st0.length
  get : ∀ (i : Nat) (sv : SV), (VL.outs st0 s)[i]? = some sv → ∃ sv0, st0[i]? = some sv0 ∧ ((∃ c c', sv0 = SV.io c ∧ s[i]? = some (SV.io c') ∧ sv = SV.io c' ∧ σ'[i]? = σ0[i]?) ∨ (∃ c, sv0 = SV.lk c ∧ s[i]? = some (SV.lk c) ∧ sv = SV.lk c ∧ σ'[i]? = σ0[i]?) ∨
    ((∀ c, sv0 ≠ .io c ∧ sv0 ≠ .lk c ∧ sv0 ≠ .own c) ∧ sv = sv0))
  io : ∀ (i : Nat) (c : OC), st0[i]? = some (.io c) → ∃ c', s[i]? = some (.io c') ∧ (VL.outs st0 s)[i]? = some (.io c')
  lk : ∀ (i : Nat) (c : OC), st0[i]? = some (.lk c) → (VL.outs st0 s)[i]? = some (.lk c)
theorem Outs.of {s : VS} {σ' : L2.St} (F : FR Tb K O st0 (vs.map some) H) (hno : ∀ (i : Nat) (c : OC), st0[i]? ≠ some (.own c)) (S : Step Tb K O (st0 ++ List.replicate n .un) (vs.map some ++ List.replicate n none) H s σ' H') : Outs st0 s (vs.map some) σ' := by
  have hl : st0.length = vs.length := by rw [F.len, List.length_map]
  have hs : st0.length ≤ s.length := by rw [S.fr.len, S.len]; simp [hl]
  have io : ∀ (i : Nat) (c : OC), st0[i]? = some (.io c) → (∃ c', s[i]? = some (.io c')) ∧ σ'[i]? = (vs.map some)[i]? := fun i c h => by
    have hi : i < st0.length := by
      by_cases hi : i < st0.length
      · exact hi
      · rw [List.getElem?_eq_none (by omega)] at h; cases h
    obtain ⟨a, b⟩ := S.io i c (by rw [List.getElem?_append_left hi]; exact h)
    exact ⟨a, by rw [b, List.getElem?_append_left (by rw [List.length_map, ← hl]; exact hi)]⟩
  have lk : ∀ (i : Nat) (c : OC), st0[i]? = some (.lk c) → s[i]? = some (.lk c) ∧ σ'[i]? = (vs.map some)[i]? := fun i c h => by
    have hi : i < st0.length := by
      by_cases hi : i < st0.length
      · exact hi
      · rw [List.getElem?_eq_none (by omega)] at h; cases h
    obtain ⟨a, b⟩ := S.lk i c (by rw [List.getElem?_append_left hi]; exact h)
    exact ⟨a, by rw [b, List.getElem?_append_left (by rw [List.length_map, ← hl]; exact hi)]⟩
  refine ⟨outs_len hs, fun i sv h => ?_, fun i c h => ?_, fun i c h => ?_⟩
  · have hi : i < st0.length := by
      by_cases hi : i < st0.length
      · exact hi
      · rw [List.getElem?_eq_none (by rw [outs_len hs]; omega)] at h; cases h
    obtain ⟨sv0, h0⟩ : ∃ sv0, st0[i]? = some sv0 := ⟨_, List.getElem?_eq_getElem hi⟩
    obtain ⟨sv', h1, h2⟩ := outs_get hs h0
    refine ⟨sv0, h0, ?_⟩
    rw [h] at h2
    cases sv0 with
    | io c =>
      obtain ⟨⟨c', e⟩, e2⟩ := io i c h0
      rw [e] at h1; cases h1
      exact .inl ⟨c, c', rfl, e, Option.some.inj h2, e2⟩
    | lk c => obtain ⟨e, e2⟩ := lk i c h0; exact .inr (.inl ⟨c, rfl, e, Option.some.inj h2, e2⟩)
    | un => exact .inr (.inr ⟨fun c => ⟨(fun z => by cases z), (fun z => by cases z), (fun z => by cases z)⟩, Option.some.inj h2⟩)
    | d x => exact .inr (.inr ⟨fun c => ⟨(fun z => by cases z), (fun z => by cases z), (fun z => by cases z)⟩, Option.some.inj h2⟩)
    | rd x => exact .inr (.inr ⟨fun c => ⟨(fun z => by cases z), (fun z => by cases z), (fun z => by cases z)⟩, Option.some.inj h2⟩)
    | own x => exact absurd h0 (hno i x)
  · obtain ⟨⟨c', e⟩, _⟩ := io i c h
    obtain ⟨sv', h1, h2⟩ := outs_get hs h
    rw [e] at h1; cases h1
    exact ⟨c', e, h2⟩
  · obtain ⟨sv', h1, h2⟩ := outs_get hs h
    exact h2
theorem Outs.own {s : VS} {σ0 σ' : L2.St} (B : Outs st0 s σ0 σ') {i : Nat} {p : Addr} (h : OwnAt (outs st0 s) σ0 i p) : OwnAt s σ' i p ∧ OwnAt st0 σ0 i p := by
  obtain ⟨e, c, h⟩ := h
  have : ∃ sv, (outs st0 s)[i]? = some sv ∧ (sv = .own c ∨ sv = .io c ∨ sv = .lk c) := by
    rcases h with h | h | h
    · exact ⟨_, h, .inl rfl⟩
    · exact ⟨_, h, .inr (.inl rfl)⟩
    · exact ⟨_, h, .inr (.inr rfl)⟩
  obtain ⟨sv, h, hsv⟩ := this
  obtain ⟨sv0, h0, h1⟩ := B.get i sv h
  rcases h1 with ⟨c0, c', rfl, e1, rfl, e2⟩ | ⟨c0, rfl, e1, rfl, e2⟩ | ⟨hn, rfl⟩
  · exact ⟨⟨by rw [e2]; exact e, c', .inr (.inl e1)⟩, e, c0, .inr (.inl h0)⟩
  · exact ⟨⟨by rw [e2]; exact e, c0, .inr (.inr e1)⟩, e, c0, .inr (.inr h0)⟩
  · rcases hsv with rfl | rfl | rfl
    · exact absurd rfl (hn c).2.2
    · exact absurd rfl (hn c).1
    · exact absurd rfl (hn c).2.1
theorem Outs.mut {s : VS} {σ0 σ' : L2.St} (B : Outs st0 s σ0 σ') {i : Nat} {p : Addr} (h : MutAt (outs st0 s) σ0 i p) : MutAt st0 σ0 i p := by
  obtain ⟨e, c, h⟩ := h
  have : ∃ sv, (outs st0 s)[i]? = some sv ∧ (sv = .own c ∨ sv = .io c) := by
    rcases h with h | h
    · exact ⟨_, h, .inl rfl⟩
    · exact ⟨_, h, .inr rfl⟩
  obtain ⟨sv, h, hsv⟩ := this
  obtain ⟨sv0, h0, h1⟩ := B.get i sv h
  rcases h1 with ⟨c0, c', rfl, e1, rfl, e2⟩ | ⟨c0, rfl, e1, rfl, e2⟩ | ⟨hn, rfl⟩
  · exact ⟨e, c0, .inr h0⟩
  · rcases hsv with z | z <;> cases z
  · rcases hsv with rfl | rfl
    · exact absurd rfl (hn c).2.2
    · exact absurd rfl (hn c).1
theorem FR.outs {O2 : AS} {s : VS} {σ' : L2.St} (F : FR Tb K O st0 (vs.map some) H) (B : Outs st0 s (vs.map some) σ') (S : FR Tb K O s σ' H') (keep : ∀ a o, H a = some o → NTb o → ¬ MutO st0 (vs.map some) a → H' a = some o)
    (h1 : ∀ a, O2 a → O a ∨ H a = none) (h2 : ∀ a, O2 a → H' a ≠ none) (h3 : ∀ a, O2 a → ¬ Own (VL.outs st0 s) (vs.map some) a)
    (h4 : ∀ (i : Nat) (p : Addr) (c : OC), (s[i]? = some (.io c) ∨ s[i]? = some (.lk c)) → σ'[i]? = some (some (.ref p)) → Cont K (Av O2 (VL.outs st0 s) (vs.map some)) H' p c) : FR Tb K O2 (VL.outs st0 s) (vs.map some) H' := by
  have hl : st0.length = vs.length := by rw [F.len, List.length_map]
  have mo : ∀ a, Av O2 (VL.outs st0 s) (vs.map some) a → Av O st0 (vs.map some) a ∨ H a = none := fun a z => by
    rcases z with z | ⟨j, z⟩
    · exact (h1 a z).imp .inl id
    · exact .inl (.inr ⟨j, (B.own z).2⟩)
  have ke : ∀ a o, H a = some o → NTb o → ¬ Av O st0 (vs.map some) a → H' a = some o := fun a o e t nn => keep a o e t fun z => nn (.inr z.own)
  refine ⟨by rw [B.len, hl, List.length_map], fun i sv h => ?_, fun i j p h1 h2 => S.inj i j p (B.own h1).1 (B.own h2).1, fun p h z => h3 p z h, h2, S.tabs⟩
  obtain ⟨sv0, h0, hk⟩ := B.get i sv h
  obtain ⟨v, ev, s0⟩ := F.slot i sv0 h0
  refine ⟨v, ev, ?_⟩
  rcases hk with ⟨c0, c', rfl, e1, rfl, e2⟩ | ⟨c0, rfl, e1, rfl, e2⟩ | ⟨hn, rfl⟩
  · obtain ⟨p, ep, _⟩ := s0
    exact ⟨p, ep, h4 i p c' (.inl e1) (by rw [e2, ev, ep])⟩
  · obtain ⟨p, ep, _⟩ := s0
    exact ⟨p, ep, h4 i p c0 (.inr e1) (by rw [e2, ev, ep])⟩
  · cases sv with
    | un => trivial
    | d x => obtain ⟨w, ew, R⟩ := s0; exact ⟨w, ew, Rp.mono mo ke _ _ R⟩
    | own c => exact absurd rfl (hn c).2.2
    | io c => exact absurd rfl (hn c).1
    | lk c => exact absurd rfl (hn c).2.1
    | rd xs =>
      obtain ⟨a, ws, ew, R, Rl⟩ := s0
      exact ⟨a, ws, ew, R.mono mo ke, RpL.mono mo ke _ _ Rl⟩
theorem mut_start {p : Addr} (hl : st0.length = vs.length) (h : MutO (st0 ++ List.replicate n .un) (vs.map some ++ List.replicate n none) p) : MutO st0 (vs.map some) p := by
  obtain ⟨i, e, c, h⟩ := h
  by_cases hi : i < st0.length
  · rw [List.getElem?_append_left (by rw [List.length_map, ← hl]; exact hi)] at e
    rw [List.getElem?_append_left hi] at h
    exact ⟨i, e, c, h⟩
  · rw [List.getElem?_append_right (by omega), List.getElem?_replicate] at h
    rcases h with h | h <;> (split at h <;> cases h)
/-- back to the parameters -/
theorem Step.back {s : VS} {σ' : L2.St} (F : FR Tb K O st0 (vs.map some) H) (hno : ∀ (i : Nat) (c : OC), st0[i]? ≠ some (.own c)) (S : Step Tb K O (st0 ++ List.replicate n .un) (vs.map some ++ List.replicate n none) H s σ' H') :
    Step Tb K O st0 (vs.map some) H (outs st0 s) (vs.map some) H' := by
  have hl : st0.length = vs.length := by rw [F.len, List.length_map]
  have B := Outs.of F hno S
  have keep : ∀ a o, H a = some o → NTb o → ¬ MutO st0 (vs.map some) a → H' a = some o := fun a o e t n => S.keep a o e t fun z => n (mut_start hl z)
  refine ⟨FR.outs F B S.fr keep (fun _ z => .inl z) S.fr.odom (fun a z ⟨j, h⟩ => S.fr.avoid a ⟨j, (B.own h).1⟩ z) fun i p c h e => ?_, keep, fun a ⟨j, h⟩ => .inl ⟨j, (B.own h).2⟩, fun a ⟨j, h⟩ => .inl ⟨j, B.mut h⟩, S.dom, rfl, fun i c h => ?_, fun i c h => ⟨B.lk i c h, rfl⟩⟩
  · obtain ⟨c', hh, C⟩ := S.fr.ownc (i := i) (p := p) ⟨e, c, .inr h⟩
    have : c' = c := by
      rcases hh with q | q | q <;> rcases h with h | h <;> (rw [h] at q; cases q <;> rfl)
    subst this
    exact C.sub fun a z => z.imp id fun ⟨j, z⟩ => ⟨j, (B.own z).1⟩
  · obtain ⟨c', _, e⟩ := B.io i c h
    exact ⟨⟨c', e⟩, rfl⟩
/-- a def's body keeps the promise -/
theorem run_body {N : List Str} {g : VM Ctl} {Q : VK} {E : XK} (h : spV Tb K mg vs.length (runF N.length g) vs H Q E) : tVS Tb K mg (WN E) g { nx := fun _ H' => Q .non H', rt := Q } (L2.start N vs) H := by
  obtain ⟨_, O, st0, F, hno, h⟩ := h
  have hl : st0.length = vs.length := by rw [F.len, List.length_map]
  rw [start_map]
  refine ⟨O, st0 ++ List.replicate (N.length - vs.length) .un, F.start, ?_⟩
  unfold runF at h
  rw [hl] at h
  cases q : g (st0 ++ List.replicate (N.length - vs.length) .un) with
  | error er =>
    rw [q] at h
    cases er with
    | stuck => exact h
    | exc C fs s =>
      have h : XW Tb K mg (WS (vs.map some) E) O st0 (vs.map some) H C fs (outs st0 s) := h
      refine fun Ca d σ' H' ws e S hd hr he => ?_
      have B := Outs.of F hno S
      exact h Ca d (vs.map some) H' ws e (Step.back F hno S) hd (hr.sub fun a z => z.imp id fun ⟨j, z⟩ => ⟨j, (B.own z).1⟩) he rfl
  | ok p =>
    obtain ⟨c, s⟩ := p
    rw [q] at h
    dsimp only at h
    cases er : retV c s with
    | none => rw [er] at h; exact h.elim
    | some r =>
      rw [er] at h
      have h : ∀ v H', Step Tb K O st0 (vs.map some) H (outs st0 s) (vs.map some) H' → ER Tb K O H (outs st0 s) (vs.map some) H' v r → Q v H' := h
      have keep : ∀ {σ' : L2.St} {H' : Hp}, Step Tb K O (st0 ++ List.replicate (N.length - vs.length) .un) (vs.map some ++ List.replicate (N.length - vs.length) none) H s σ' H' → ∀ a o, H a = some o → NTb o → ¬ MutO st0 (vs.map some) a → H' a = some o := fun S a o e t n => S.keep a o e t fun z => n (mut_start hl z)
      cases c with
      | nx =>
        cases er
        exact fun σ' H' S => h .non H' (Step.back F hno S) (by show Rp _ _ _ _ _; simp only [Rp])
      | bk => cases er
      | ct => cases er
      | rt r0 =>
        refine fun v σ' H' S Er => ?_
        have B := Outs.of F hno S
        refine h v H' (Step.back F hno S) ?_
        cases r0 with
        | d x => cases er; exact Rp.sub (fun a z => z.imp id fun ⟨j, z⟩ => ⟨j, (B.own z).1⟩) Er
        | own c =>
          cases er
          obtain ⟨p, ev, hp, np, FF, C⟩ := Er
          refine ⟨p, ev, hp, np, FR.outs F B S.fr (keep S) (fun a z => z.imp id fun z => by rw [z]; exact hp) FF.odom (fun a z ⟨j, h⟩ => FF.avoid a ⟨j, (B.own h).1⟩ z) fun i q c' h e => ?_, C.sub fun a z => z.imp id fun ⟨j, z⟩ => ⟨j, (B.own z).1⟩⟩
          obtain ⟨c2, hh, C2⟩ := FF.ownc (i := i) (p := q) ⟨e, c', .inr h⟩
          have : c2 = c' := by
            rcases hh with q | q | q <;> rcases h with h | h <;> (rw [h] at q; cases q <;> rfl)
          subst this
          exact C2.sub fun a z => z.imp id fun ⟨j, z⟩ => ⟨j, (B.own z).1⟩
        | loan i =>
          have er : (match s[i]? with
            | some (.own c) => some (EV.own c)
            | _ => none) = some r := er
          split at er
          · rename_i c hc
            cases er
            have Er : σ'[i]? = some (some v) := Er
            obtain ⟨ov, eo, p, ep, C⟩ := S.fr.slot i _ hc
            rw [Er] at eo; cases eo; cases ep
            have hown : OwnAt s σ' i p := ⟨Er, c, .inl hc⟩
            have np : ¬ O p := S.fr.avoid p ⟨i, hown⟩
            -- no parameter lies there
            have nop : ∀ j, ¬ OwnAt (outs st0 s) (vs.map some) j p := fun j z => by
              have e := S.fr.inj j i p (B.own z).1 hown
              subst e
              obtain ⟨_, c', h'⟩ := z
              have : ∃ sv, (outs st0 s)[j]? = some sv ∧ (sv = .own c' ∨ sv = .io c' ∨ sv = .lk c') := by
                rcases h' with h | h | h
                · exact ⟨_, h, .inl rfl⟩
                · exact ⟨_, h, .inr (.inl rfl)⟩
                · exact ⟨_, h, .inr (.inr rfl)⟩
              obtain ⟨sv, h', hsv⟩ := this
              obtain ⟨sv0, h0, hk⟩ := B.get j sv h'
              rcases hk with ⟨c0, c1, rfl, e1, rfl, e2⟩ | ⟨c0, rfl, e1, rfl, e2⟩ | ⟨hn, rfl⟩
              · rw [hc] at e1; cases e1
              · rw [hc] at e1; cases e1
              · rcases hsv with rfl | rfl | rfl
                · exact (hn c').2.2 rfl
                · exact (hn c').1 rfl
                · exact (hn c').2.1 rfl
            have hp : H p = none := by
              rcases S.new p ⟨i, hown⟩ with ⟨j, z⟩ | z
              · have z := (own_ext hl).mp z
                exfalso
                obtain ⟨e, c', h'⟩ := z
                rcases h' with h' | h' | h'
                · exact hno j c' h'
                · obtain ⟨c1, _, h2⟩ := B.io j c' h'
                  exact nop j ⟨e, c1, .inr (.inl h2)⟩
                · exact nop j ⟨e, c', .inr (.inr (B.lk j c' h'))⟩
              · exact z
            have sub : ∀ a, Av (O.with p) (outs st0 s) (vs.map some) a → Av O s σ' a := fun a z => by
              rcases z with (z | z) | ⟨j, z⟩
              · exact .inl z
              · rw [z]; exact .inr ⟨i, hown⟩
              · exact .inr ⟨j, (B.own z).1⟩
            refine ⟨p, rfl, hp, np, FR.outs F B S.fr (keep S) (fun a z => z.imp id fun z => by rw [z]; exact hp) (fun a z => z.elim (S.fr.odom a) fun z => by rw [z]; exact C.there) (fun a z ⟨j, h⟩ => z.elim (S.fr.avoid a ⟨j, (B.own h).1⟩) fun z => nop j (z ▸ h)) fun j q c' h e => ?_, C.sub sub⟩
            obtain ⟨c2, hh, C2⟩ := S.fr.ownc (i := j) (p := q) ⟨e, c', .inr h⟩
            have : c2 = c' := by
              rcases hh with q | q | q <;> rcases h with h | h <;> (rw [h] at q; cases q <;> rfl)
            subst this
            exact C2.sub sub
          · cases er
end
end VL
set_option Elab.async false
set_option linter.all false
set_option maxRecDepth 100000
namespace VL
open PySem PySem.Spec PyProof.Rows L2
/-! ### a call of a def -/
def argSV1 (s : VS) : EV → Option SV
  | .d x => some (.d x)
  | .own c => some (.d c.data)
  | .loan i => match s[i]? with
    | some (.own c) => some (.io c)
    | some (.io c) => some (.io c)
    | some (.lk c) => some (.lk c)
    | some (.rd xs) => some (.rd xs)
    | _ => none
def argSV (s : VS) : List EV → Option VS
  | [] => some []
  | r :: rs => (argSV1 s r).bind fun a => (argSV s rs).map (a :: ·)
def loans : List EV → List Nat
  | [] => []
  | .loan i :: rs => i :: loans rs
  | _ :: rs => loans rs
def putOuts : List EV → VS → VS → VS
  | .loan i :: rs, .io c :: o, s => putOuts rs o (putC i c s)
  | _ :: rs, _ :: o, s => putOuts rs o s
  | _, _, s => s
def callF (m : FM) (rs : List EV) : VM EV := fun s =>
  if (loans rs).Nodup then
    match argSV s rs with
    | some st0 => match m st0 with
      | .ok (.loan _, _) => .error .stuck
      | .ok (r, o) => .ok (r, putOuts rs o s)
      | .error (.exc C fs o) => .error (.exc C fs (putOuts rs o s))
      | .error .stuck => .error .stuck
    | none => .error .stuck
  else .error .stuck
def vCallF (m : FM) (fs : VM (List EV)) : VM EV := vb fs fun rs => callF m rs
theorem putC_get (i : Nat) (c : OC) (s : VS) (j : Nat) : (j ≠ i ∧ (putC i c s)[j]? = s[j]?) ∨ (j = i ∧ ((∃ c0 : OC, s[i]? = some (.own c0) ∧ (putC i c s)[i]? = some (.own c)) ∨ (∃ c0 : OC, s[i]? = some (.io c0) ∧ (putC i c s)[i]? = some (.io c)) ∨ ((∀ c0 : OC, s[i]? ≠ some (.own c0) ∧ s[i]? ≠ some (.io c0)) ∧ putC i c s = s))) := by
  have hi : ∀ sv, s[i]? = some sv → i < s.length := fun sv h => by
    by_cases hi : i < s.length
    · exact hi
    · rw [List.getElem?_eq_none (by omega)] at h; cases h
  by_cases hj : j = i
  · refine .inr ⟨hj, ?_⟩
    unfold putC
    split
    · rename_i c0 h; exact .inl ⟨c0, h, List.getElem?_set_self (hi _ h)⟩
    · rename_i c0 h; exact .inr (.inl ⟨c0, h, List.getElem?_set_self (hi _ h)⟩)
    · rename_i h1 h2
      exact .inr (.inr ⟨fun c0 => ⟨fun z => h1 c0 z, fun z => h2 c0 z⟩, rfl⟩)
  · refine .inl ⟨hj, ?_⟩
    unfold putC
    split
    · exact List.getElem?_set_ne (Ne.symm hj)
    · exact List.getElem?_set_ne (Ne.symm hj)
    · rfl
theorem putC_len (i : Nat) (c : OC) (s : VS) : (putC i c s).length = s.length := by
  unfold putC; split <;> first | exact List.length_set | rfl
theorem putOuts_len : ∀ (rs : List EV) (o s : VS), (putOuts rs o s).length = s.length
  | [], o, s => by cases o <;> rfl
  | r :: rs, [], s => by cases r <;> rfl
  | r :: rs, x :: o, s => by
    cases r <;> cases x <;> first | exact putOuts_len rs o s | (show (putOuts rs o (putC _ _ s)).length = _; rw [putOuts_len, putC_len])
/-- what the slots are behind it -/
def PutP (rs : List EV) (o s s2 : VS) (i : Nat) : Prop :=
    (s2[i]? = s[i]? ∧ ∀ (j : Nat) (c : OC), rs[j]? = some (.loan i) → o[j]? = some (.io c) → ∀ (c0 : OC), s[i]? ≠ some (.own c0) ∧ s[i]? ≠ some (.io c0)) ∨
    (∃ (j : Nat) (c c0 : OC), rs[j]? = some (.loan i) ∧ o[j]? = some (.io c) ∧ ((s[i]? = some (.own c0) ∧ s2[i]? = some (.own c)) ∨ (s[i]? = some (.io c0) ∧ s2[i]? = some (.io c))))
theorem putOuts_get : ∀ (rs : List EV) (o s : VS), (loans rs).Nodup → ∀ (i : Nat), PutP rs o s (putOuts rs o s) i
  | [], o, s, _, i => .inl ⟨by cases o <;> rfl, fun j c h => by simp at h⟩
  | r :: rs, [], s, _, i => .inl ⟨by cases r <;> rfl, fun j c h g => by simp at g⟩
  | r :: rs, x :: o, s, nd, i => by
    have skip : (∀ (k : Nat) (c : OC), r = .loan k → x ≠ .io c) → (loans rs).Nodup → putOuts (r :: rs) (x :: o) s = putOuts rs o s → PutP (r :: rs) (x :: o) s (putOuts (r :: rs) (x :: o) s) i := fun hn nd' e => by
      rw [e]
      rcases putOuts_get rs o s nd' i with ⟨a, b⟩ | ⟨j, c, c0, a, b, d⟩
      · refine .inl ⟨a, fun j c h g => ?_⟩
        cases j with
        | zero => simp at h g; exact absurd g (hn i c h)
        | succ j => exact b j c (by simpa using h) (by simpa using g)
      · exact .inr ⟨j + 1, c, c0, by simpa using a, by simpa using b, d⟩
    cases r with
    | d y => exact skip (fun k c z => by cases z) nd (by cases x <;> rfl)
    | own y => exact skip (fun k c z => by cases z) nd (by cases x <;> rfl)
    | loan k =>
      have nd2 : (loans rs).Nodup := (List.nodup_cons.mp nd).2
      have nk : k ∉ loans rs := (List.nodup_cons.mp nd).1
      have nkj : ∀ j : Nat, rs[j]? ≠ some (.loan k) := fun j h => nk (mem_loans rs j k h)
      cases x with
      | io c =>
        have e : putOuts (.loan k :: rs) (.io c :: o) s = putOuts rs o (putC k c s) := rfl
        rw [e]
        rcases putOuts_get rs o (putC k c s) nd2 i with ⟨a, b⟩ | ⟨j, c', c0, a, b, d⟩
        · rcases putC_get k c s i with ⟨hik, e2⟩ | ⟨hik, e2⟩
          · refine .inl ⟨a.trans e2, fun j c' h g => ?_⟩
            cases j with
            | zero => simp at h; exact absurd h.symm hik
            | succ j => have := b j c' (by simpa using h) (by simpa using g); rw [e2] at this; exact this
          · subst hik
            rcases e2 with ⟨c0, h1, h2⟩ | ⟨c0, h1, h2⟩ | ⟨hn, e2⟩
            · exact .inr ⟨0, c, c0, rfl, rfl, .inl ⟨h1, a.trans h2⟩⟩
            · exact .inr ⟨0, c, c0, rfl, rfl, .inr ⟨h1, a.trans h2⟩⟩
            · exact .inl ⟨by rw [a, e2], fun _ _ _ _ => hn⟩
        · have hik : i ≠ k := fun z => by subst z; exact nkj j a
          rcases putC_get k c s i with ⟨_, e2⟩ | ⟨z, _⟩
          · rw [e2] at d
            exact .inr ⟨j + 1, c', c0, by simpa using a, by simpa using b, d⟩
          · exact absurd z hik
      | un => exact skip (fun k c _ z => by cases z) nd2 rfl
      | d y => exact skip (fun k c _ z => by cases z) nd2 rfl
      | own y => exact skip (fun k c _ z => by cases z) nd2 rfl
      | lk y => exact skip (fun k c _ z => by cases z) nd2 rfl
      | rd y => exact skip (fun k c _ z => by cases z) nd2 rfl
where
  mem_loans : ∀ (rs : List EV) (j k : Nat), rs[j]? = some (.loan k) → k ∈ loans rs
    | [], j, k, h => by simp at h
    | .d x :: rs, 0, k, h => by simp at h
    | .own x :: rs, 0, k, h => by simp at h
    | .loan i :: rs, 0, k, h => by simp at h; subst h; exact List.mem_cons_self
    | .d x :: rs, j + 1, k, h => mem_loans rs j k (by simpa using h)
    | .own x :: rs, j + 1, k, h => mem_loans rs j k (by simpa using h)
    | .loan i :: rs, j + 1, k, h => List.mem_cons_of_mem _ (mem_loans rs j k (by simpa using h))
theorem loans_inj : ∀ {rs : List EV} {i j k : Nat}, (loans rs).Nodup → rs[i]? = some (.loan k) → rs[j]? = some (.loan k) → i = j
  | [], i, j, k, _, h, _ => by simp at h
  | .d x :: rs, 0, j, k, _, h, _ => by simp at h
  | .own x :: rs, 0, j, k, _, h, _ => by simp at h
  | .d x :: rs, i + 1, 0, k, _, _, h => by simp at h
  | .own x :: rs, i + 1, 0, k, _, _, h => by simp at h
  | .d x :: rs, i + 1, j + 1, k, nd, h, g => congrArg Nat.succ (loans_inj (rs := rs) nd (by simpa using h) (by simpa using g))
  | .own x :: rs, i + 1, j + 1, k, nd, h, g => congrArg Nat.succ (loans_inj (rs := rs) nd (by simpa using h) (by simpa using g))
  | .loan l :: rs, 0, 0, k, _, _, _ => rfl
  | .loan l :: rs, 0, j + 1, k, nd, h, g => by
    simp at h; subst h
    exact absurd (putOuts_get.mem_loans rs j l (by simpa using g)) (List.nodup_cons.mp nd).1
  | .loan l :: rs, i + 1, 0, k, nd, h, g => by
    simp at g; subst g
    exact absurd (putOuts_get.mem_loans rs i l (by simpa using h)) (List.nodup_cons.mp nd).1
  | .loan l :: rs, i + 1, j + 1, k, nd, h, g => congrArg Nat.succ (loans_inj (rs := rs) (List.nodup_cons.mp nd).2 (by simpa using h) (by simpa using g))
theorem argSV_get : ∀ {rs : List EV} {s st0 : VS}, argSV s rs = some st0 → st0.length = rs.length ∧ ∀ (j : Nat) (r : EV), rs[j]? = some r → ∃ a, argSV1 s r = some a ∧ st0[j]? = some a
  | [], s, st0, h => by cases h; exact ⟨rfl, fun j r h => by simp at h⟩
  | r :: rs, s, st0, h => by
    obtain ⟨a, h1, h⟩ := Option.bind_eq_some_iff.mp (show (argSV1 s r).bind _ = some st0 from h)
    obtain ⟨t, h2, rfl⟩ := Option.map_eq_some_iff.mp h
    obtain ⟨l, g⟩ := argSV_get h2
    refine ⟨by rw [List.length_cons, List.length_cons, l], fun j r' hj => ?_⟩
    cases j with
    | zero => simp at hj; subst hj; exact ⟨a, h1, rfl⟩
    | succ j =>
      obtain ⟨b, e1, e2⟩ := g j r' (by simpa using hj)
      exact ⟨b, e1, by simpa using e2⟩
section
variable {K : PySem.W.Frag} {mg : Str → Option Value} {W : WX} {O : AS} {H H2 : Hp} {s st0 o : VS} {σ : L2.St} {vs : List V} {rs : List EV}
theorem ERs.get : ∀ {vs : List V} {rs : List EV} {j : Nat} {r : EV}, ERs Tb K O s σ H vs rs → rs[j]? = some r → ∃ v, vs[j]? = some v ∧ ER Tb K O H s σ H v r ∧ r = settle r
  | [], [], j, r, _, h => by simp at h
  | v :: vs, r' :: rs, 0, r, E, h => by
    simp at h; subst h
    have E1 := E.1
    rw [← E.2.1] at E1
    exact ⟨v, rfl, E1, E.2.1⟩
  | v :: vs, r' :: rs, j + 1, r, E, h => by
    obtain ⟨u, a, b⟩ := ERs.get (j := j) (r := r) E.2.2 (by simpa using h)
    exact ⟨u, by simpa using a, b⟩
  | [], _ :: _, _, _, h, _ => h.elim
  | _ :: _, [], _, _, h, _ => h.elim
/-- what the callee has to keep away from -/
def O2 (O : AS) (s : VS) (σ : L2.St) (st0 : VS) (vs : List V) : AS := fun a => O a ∨ (Own s σ a ∧ ¬ Own st0 (vs.map some) a)
structure ArgOk (Tb : List (Addr × Str)) (K : PySem.W.Frag) (O : AS) (s : VS) (σ : L2.St) (H : Hp) (rs : List EV) (vs : List V) (st0 : VS) : Prop where
  nd : (loans rs).Nodup
  lv : vs.length = rs.length
  ls : st0.length = rs.length
  /-- a parameter's own object is the one of the slot that was lent -/
  own : ∀ (j : Nat) (p : Addr), OwnAt st0 (vs.map some) j p → ∃ i, rs[j]? = some (.loan i) ∧ OwnAt s σ i p ∧ (MutAt st0 (vs.map some) j p → MutAt s σ i p)
  fr : FR Tb K (O2 O s σ st0 vs) st0 (vs.map some) H
  noown : ∀ (i : Nat) (c : OC), st0[i]? ≠ some (.own c)
theorem ArgOk.of (F : FR Tb K O s σ H) (E : ERs Tb K O s σ H vs rs) (nd : (loans rs).Nodup) (h : argSV s rs = some st0) : ArgOk Tb K O s σ H rs vs st0 := by
  obtain ⟨ls, get⟩ := argSV_get h
  have lv := E.length
  have each : ∀ (j : Nat) (sv : SV), st0[j]? = some sv → ∃ r v, rs[j]? = some r ∧ vs[j]? = some v ∧ argSV1 s r = some sv ∧ ER Tb K O H s σ H v r ∧ r = settle r := fun j sv hj => by
    have hl : j < rs.length := by
      by_cases hl : j < rs.length
      · exact hl
      · rw [List.getElem?_eq_none (by omega)] at hj; cases hj
    obtain ⟨r, hr⟩ : ∃ r, rs[j]? = some r := ⟨_, List.getElem?_eq_getElem hl⟩
    obtain ⟨v, hv, Er, es⟩ := E.get hr
    obtain ⟨a, e1, e2⟩ := get j r hr
    rw [hj] at e2; cases e2
    exact ⟨r, v, hr, hv, e1, Er, es⟩
  have noown : ∀ (i : Nat) (c : OC), st0[i]? ≠ some (.own c) := fun i c h => by
    obtain ⟨r, v, _, _, e, _⟩ := each i _ h
    cases r with
    | d x => cases e
    | own x => cases e
    | loan k => unfold argSV1 at e; dsimp only at e; split at e <;> cases e
  have own : ∀ (j : Nat) (p : Addr), OwnAt st0 (vs.map some) j p → ∃ i, rs[j]? = some (.loan i) ∧ OwnAt s σ i p ∧ (MutAt st0 (vs.map some) j p → MutAt s σ i p) := fun j p ⟨e, c, hc⟩ => by
    have : ∃ sv, st0[j]? = some sv ∧ (sv = .io c ∨ sv = .lk c) := by
      rcases hc with h | h | h
      · exact absurd h (noown j c)
      · exact ⟨_, h, .inl rfl⟩
      · exact ⟨_, h, .inr rfl⟩
    obtain ⟨sv, hsv, hk⟩ := this
    obtain ⟨r, v, hr, hv, ea, Er, _⟩ := each j sv hsv
    rw [List.getElem?_map, hv] at e
    cases e
    cases r with
    | d x => cases ea; rcases hk with z | z <;> cases z
    | own x => cases ea; rcases hk with z | z <;> cases z
    | loan i =>
      have Er : σ[i]? = some (some (.ref p)) := Er
      refine ⟨i, hr, ?_⟩
      unfold argSV1 at ea; dsimp only at ea
      split at ea
      · rename_i c' hs; exact ⟨⟨Er, c', .inl hs⟩, fun _ => ⟨Er, c', .inl hs⟩⟩
      · rename_i c' hs; exact ⟨⟨Er, c', .inr (.inl hs)⟩, fun _ => ⟨Er, c', .inr hs⟩⟩
      · rename_i c' hs
        cases ea
        refine ⟨⟨Er, c', .inr (.inr hs)⟩, fun ⟨_, c2, z⟩ => ?_⟩
        rcases z with z | z <;> (rw [hsv] at z; cases z)
      · cases ea; rcases hk with z | z <;> cases z
      · cases ea
  have av : ∀ a, Av (O2 O s σ st0 vs) st0 (vs.map some) a ↔ Av O s σ a := fun a => by
    constructor
    · rintro ((h | ⟨h, _⟩) | ⟨j, h⟩)
      · exact .inl h
      · exact .inr h
      · obtain ⟨i, _, h, _⟩ := own j a h; exact .inr ⟨i, h⟩
    · rintro (h | h)
      · exact .inl (.inl h)
      · by_cases q : Own st0 (vs.map some) a
        · exact .inr q
        · exact .inl (.inr ⟨h, q⟩)
  have sub : ∀ a, Av (O2 O s σ st0 vs) st0 (vs.map some) a → Av O s σ a := fun a h => (av a).mp h
  refine ⟨nd, lv, ls, own, ⟨by rw [ls, List.length_map, lv], fun j sv h => ?_, fun i j p h1 h2 => ?_, fun p hp z => ?_, fun p z => z.elim (F.odom p) fun z => F.ownSome z.1, F.tabs⟩, noown⟩
  · obtain ⟨r, v, hr, hv, ea, Er, _⟩ := each j sv h
    refine ⟨some v, by rw [List.getElem?_map, hv]; rfl, ?_⟩
    cases r with
    | d x => cases ea; exact ⟨v, rfl, Rp.sub sub Er⟩
    | own c => cases ea; exact ⟨v, rfl, Rp.sub sub (ER.settle (H1 := H) Er)⟩
    | loan i =>
      have Er : σ[i]? = some (some v) := Er
      unfold argSV1 at ea; dsimp only at ea
      split at ea
      · rename_i c hs; cases ea
        obtain ⟨ov, eo, p, ep, C⟩ := F.slot i _ hs
        rw [Er] at eo; cases eo
        exact ⟨p, ep, C.sub sub⟩
      · rename_i c hs; cases ea
        obtain ⟨ov, eo, p, ep, C⟩ := F.slot i _ hs
        rw [Er] at eo; cases eo
        exact ⟨p, ep, C.sub sub⟩
      · rename_i c hs; cases ea
        obtain ⟨ov, eo, p, ep, C⟩ := F.slot i _ hs
        rw [Er] at eo; cases eo
        exact ⟨p, ep, C.sub sub⟩
      · rename_i xs hs; cases ea
        obtain ⟨ov, eo, a, ws, ep, R, Rl⟩ := F.slot i _ hs
        rw [Er] at eo; cases eo
        exact ⟨a, ws, ep, R.mono (fun a z => .inl (sub a z)) (fun _ _ e _ _ => e), Rl.sub sub⟩
      · cases ea
  · obtain ⟨k, e1, o1, _⟩ := own i p h1
    obtain ⟨l, e2, o2, _⟩ := own j p h2
    have := F.inj k l p o1 o2
    subst this
    exact loans_inj nd e1 e2
  · rcases z with z | ⟨_, z⟩
    · obtain ⟨j, hp⟩ := hp
      obtain ⟨i, _, h, _⟩ := own j p hp
      exact F.avoid p ⟨i, h⟩ z
    · exact z hp
/-- behind the call -/
theorem ArgOk.step (A : ArgOk Tb K O s σ H rs vs st0) (F : FR Tb K O s σ H) (E : ERs Tb K O s σ H vs rs) (S : Step Tb K (O2 O s σ st0 vs) st0 (vs.map some) H o (vs.map some) H2) :
    Step Tb K O s σ H (putOuts rs o s) σ H2 ∧ ∀ a, Av O (putOuts rs o s) σ a → Av (O2 O s σ st0 vs) o (vs.map some) a := by
  have ownO : ∀ a, Own st0 (vs.map some) a → Own o (vs.map some) a := fun a ⟨j, h⟩ => by
    obtain ⟨e, c, h⟩ := h
    rcases h with h | h | h
    · exact absurd h (A.noown j c)
    · obtain ⟨⟨c', h'⟩, _⟩ := S.io j c h; exact ⟨j, e, c', .inr (.inl h')⟩
    · obtain ⟨h', _⟩ := S.lk j c h; exact ⟨j, e, c, .inr (.inr h')⟩
  have get := putOuts_get rs o s A.nd
  -- kinds
  have own : ∀ i p, OwnAt (putOuts rs o s) σ i p → OwnAt s σ i p := fun i p ⟨e, c, h⟩ => by
    rcases get i with ⟨g, _⟩ | ⟨j, c1, c0, _, _, g⟩
    · rw [g] at h; exact ⟨e, c, h⟩
    · rcases g with ⟨g, _⟩ | ⟨g, _⟩
      · exact ⟨e, c0, .inl g⟩
      · exact ⟨e, c0, .inr (.inl g)⟩
  have own' : ∀ i p, OwnAt s σ i p → OwnAt (putOuts rs o s) σ i p := fun i p ⟨e, c, h⟩ => by
    rcases get i with ⟨g, _⟩ | ⟨j, c1, c0, _, _, g⟩
    · rw [← g] at h; exact ⟨e, c, h⟩
    · rcases g with ⟨_, g⟩ | ⟨_, g⟩
      · exact ⟨e, c1, .inl g⟩
      · exact ⟨e, c1, .inr (.inl g)⟩
  have mut_ : ∀ i p, MutAt (putOuts rs o s) σ i p → MutAt s σ i p := fun i p ⟨e, c, h⟩ => by
    rcases get i with ⟨g, _⟩ | ⟨j, c1, c0, _, _, g⟩
    · rw [g] at h; exact ⟨e, c, h⟩
    · rcases g with ⟨g, _⟩ | ⟨g, _⟩
      · exact ⟨e, c0, .inl g⟩
      · exact ⟨e, c0, .inr g⟩
  have av : ∀ a, Av O (putOuts rs o s) σ a → Av (O2 O s σ st0 vs) o (vs.map some) a := fun a z => by
    rcases z with z | ⟨i, z⟩
    · exact .inl (.inl z)
    · by_cases q : Own st0 (vs.map some) a
      · exact .inr (ownO a q)
      · exact .inl (.inr ⟨⟨i, own i a z⟩, q⟩)
  have mutS : ∀ a, MutO st0 (vs.map some) a → MutO s σ a := fun a ⟨j, h⟩ => by
    have ho : OwnAt st0 (vs.map some) j a := let ⟨e, c, h⟩ := h; ⟨e, c, h.imp id .inl⟩
    obtain ⟨i, _, _, g⟩ := A.own j a ho
    exact ⟨i, g h⟩
  have keep : ∀ a ob, H a = some ob → NTb ob → ¬ MutO s σ a → H2 a = some ob := fun a ob e t n => S.keep a ob e t fun z => n (mutS a z)
  have mo : ∀ a, Av O (putOuts rs o s) σ a → Av O s σ a ∨ H a = none := fun a z => .inl (z.imp id fun ⟨i, z⟩ => ⟨i, own i a z⟩)
  have ke : ∀ a ob, H a = some ob → NTb ob → ¬ Av O s σ a → H2 a = some ob := fun a ob e t n => keep a ob e t fun z => n (.inr z.own)
  refine ⟨⟨⟨by rw [putOuts_len]; exact F.len, fun i sv h => ?_, fun i j p h1 h2 => F.inj i j p (own i p h1) (own j p h2), fun p ⟨i, h⟩ => F.avoid p ⟨i, own i p h⟩, fun p hp z => F.odom p hp (S.dom p z), S.fr.tabs⟩, keep, fun a ⟨i, h⟩ => .inl ⟨i, own i a h⟩, fun a ⟨i, h⟩ => .inl ⟨i, mut_ i a h⟩, S.dom, rfl, fun i c h => ?_, fun i c h => ?_⟩, av⟩
  · -- a slot
    rcases get i with ⟨g, gn⟩ | ⟨j, c1, c0, hr, ho, g⟩
    · rw [g] at h
      obtain ⟨v, ev, sl⟩ := F.slot i sv h
      refine ⟨v, ev, ?_⟩
      -- its object was not lent to be changed
      have stay : ∀ p c, OwnAt s σ i p → Cont K (Av O s σ) H p c → Cont K (Av O (putOuts rs o s) σ) H2 p c := fun p c hp C => by
        refine C.mono mo ke ?_
        have nm : ¬ MutO st0 (vs.map some) p := fun ⟨j, hj⟩ => by
          have hoj : OwnAt st0 (vs.map some) j p := let ⟨e, c, h⟩ := hj; ⟨e, c, h.imp id .inl⟩
          obtain ⟨i', er, o', gm⟩ := A.own j p hoj
          have := F.inj i' i p o' hp
          subst this
          obtain ⟨_, c2, hc2⟩ := hj
          rcases hc2 with hc2 | hc2
          · exact A.noown j c2 hc2
          · obtain ⟨⟨c3, ho3⟩, _⟩ := S.io j c2 hc2
            obtain ⟨_, c4, h4⟩ := gm ⟨hoj.1, c2, .inr hc2⟩
            rcases h4 with h4 | h4
            · exact (gn j c3 er ho3 c4).1 h4
            · exact (gn j c3 er ho3 c4).2 h4
        cases q : H p with
        | none => exact absurd q C.there
        | some ob => exact S.keep p ob q (C.ntb q) nm
      cases sv with
      | un => trivial
      | d x => obtain ⟨w, ew, R⟩ := sl; exact ⟨w, ew, Rp.mono mo ke _ _ R⟩
      | own c => obtain ⟨p, ep, C⟩ := sl; subst ep; exact ⟨p, rfl, stay p c ⟨ev, c, .inl h⟩ C⟩
      | io c => obtain ⟨p, ep, C⟩ := sl; subst ep; exact ⟨p, rfl, stay p c ⟨ev, c, .inr (.inl h)⟩ C⟩
      | lk c => obtain ⟨p, ep, C⟩ := sl; subst ep; exact ⟨p, rfl, stay p c ⟨ev, c, .inr (.inr h)⟩ C⟩
      | rd xs => obtain ⟨a, ws, ep, R, Rl⟩ := sl; exact ⟨a, ws, ep, R.mono mo ke, RpL.mono mo ke _ _ Rl⟩
    · -- lent and given back
      obtain ⟨v, hv, Er, _⟩ := E.get hr
      have Er : σ[i]? = some (some v) := Er
      obtain ⟨ov, eo, p, ep, C⟩ := S.fr.slot j _ ho
      rw [List.getElem?_map, hv] at eo
      cases eo
      cases ep
      refine ⟨_, Er, ?_⟩
      have C' := C.sub av
      rcases g with ⟨_, g⟩ | ⟨_, g⟩
      · rw [g] at h; cases h; exact ⟨p, rfl, C'⟩
      · rw [g] at h; cases h; exact ⟨p, rfl, C'⟩
  · rcases get i with ⟨g, _⟩ | ⟨j, c1, c0, _, _, g⟩
    · exact ⟨⟨c, by rw [g]; exact h⟩, rfl⟩
    · rcases g with ⟨g, _⟩ | ⟨_, g⟩
      · rw [h] at g; cases g
      · exact ⟨⟨c1, g⟩, rfl⟩
  · rcases get i with ⟨g, _⟩ | ⟨j, c1, c0, _, _, g⟩
    · exact ⟨by rw [g]; exact h, rfl⟩
    · rcases g with ⟨g, _⟩ | ⟨g, _⟩ <;> (rw [h] at g; cases g)
end
section
variable {X : Cx} {W : WX} {e : Expr} {es : List Expr} {pos p : Pos} {fs : VM (List EV)} {k j n : Nat} {f : Addr} {fd : FuncData} {ps : List Str} {m : FM} {x : Str}
/-- what is given back keeps away from the caller's own too -/
theorem FR.put2 {K : PySem.W.Frag} {O : AS} {s st0 o : VS} {σ : L2.St} {H H2 : Hp} {vs : List V} {rs : List EV} {q : Addr} (A : ArgOk Tb K O s σ H rs vs st0) (F : FR Tb K O s σ H) (E : ERs Tb K O s σ H vs rs)
    (S : Step Tb K (O2 O s σ st0 vs) st0 (vs.map some) H o (vs.map some) H2) (hq : H q = none) (FF : FR Tb K ((O2 O s σ st0 vs).with q) o (vs.map some) H2) : FR Tb K (O.with q) (putOuts rs o s) σ H2 := by
  obtain ⟨S', av⟩ := A.step F E S
  have av2 : ∀ a, Av (O.with q) (putOuts rs o s) σ a → Av ((O2 O s σ st0 vs).with q) o (vs.map some) a := fun a z => by
    rcases z with (z | z) | z
    · exact (av a (.inl z)).imp .inl id
    · exact .inl (.inr z)
    · exact (av a (.inr z)).imp .inl id
  have noq : ¬ Own (putOuts rs o s) σ q := fun z => (S'.new q z).elim (fun z => F.ownSome z hq) fun _ => by
    have := av q (.inr z)
    rcases this with z | z
    · exact (z.elim (F.odom q) fun z => F.ownSome z.1) hq
    · exact FF.avoid q z (.inr rfl)
  have mo : ∀ a, Av (O.with q) (putOuts rs o s) σ a → Av O s σ a ∨ H a = none := fun a z => by
    rcases z with (z | z) | z
    · exact .inl (.inl z)
    · exact .inr (by rw [z]; exact hq)
    · exact (S'.new a z).imp .inr id
  have ke : ∀ a ob, H a = some ob → NTb ob → ¬ Av O s σ a → H2 a = some ob := fun a ob e t n => S'.keep a ob e t fun z => n (.inr z.own)
  refine ⟨S'.fr.len, fun i sv h => ?_, S'.fr.inj, fun p hp z => z.elim (S'.fr.avoid p hp) fun z => noq (z ▸ hp), fun p z => z.elim (S'.fr.odom p) fun z => by rw [z]; exact FF.odom q (.inr rfl), S'.fr.tabs⟩
  have keepd : ∀ {d : Da} {w : V}, Rp K (Av O s σ) H d w → Rp K (Av (O.with q) (putOuts rs o s) σ) H2 d w := fun R => Rp.mono mo ke _ _ R
  -- a slot that owns, behind it
  have cont : ∀ p c, OwnAt (putOuts rs o s) σ i p → (putOuts rs o s)[i]? = some sv → Cont K (Av O (putOuts rs o s) σ) H2 p c → (sv = .own c ∨ sv = .io c ∨ sv = .lk c) → Cont K (Av (O.with q) (putOuts rs o s) σ) H2 p c := fun p c ow h C hk => by
    rcases putOuts_get rs o s A.nd i with ⟨g, gn⟩ | ⟨j, c1, c0, hr, ho, g⟩
    · rw [g] at h
      obtain ⟨v, ev, sl⟩ := F.slot i sv h
      have hp0 : OwnAt s σ i p ∧ Cont K (Av O s σ) H p c := by
        rcases hk with rfl | rfl | rfl
        · obtain ⟨p', ep, C0⟩ := sl
          have e := ow.1; rw [ev, ep] at e; cases e
          exact ⟨⟨ow.1, c, .inl h⟩, C0⟩
        · obtain ⟨p', ep, C0⟩ := sl
          have e := ow.1; rw [ev, ep] at e; cases e
          exact ⟨⟨ow.1, c, .inr (.inl h)⟩, C0⟩
        · obtain ⟨p', ep, C0⟩ := sl
          have e := ow.1; rw [ev, ep] at e; cases e
          exact ⟨⟨ow.1, c, .inr (.inr h)⟩, C0⟩
      refine hp0.2.mono mo ke ?_
      have nm : ¬ MutO st0 (vs.map some) p := fun ⟨j, hj⟩ => by
        have hoj : OwnAt st0 (vs.map some) j p := let ⟨e, c, h⟩ := hj; ⟨e, c, h.imp id .inl⟩
        obtain ⟨i', er, o', gm⟩ := A.own j p hoj
        have := F.inj i' i p o' hp0.1
        subst this
        obtain ⟨_, c2, hc2⟩ := hj
        rcases hc2 with hc2 | hc2
        · exact A.noown j c2 hc2
        · obtain ⟨⟨c3, ho3⟩, _⟩ := S.io j c2 hc2
          obtain ⟨_, c4, h4⟩ := gm ⟨hoj.1, c2, .inr hc2⟩
          rcases h4 with h4 | h4
          · exact (gn j c3 er ho3 c4).1 h4
          · exact (gn j c3 er ho3 c4).2 h4
      cases qq : H p with
      | none => exact absurd qq hp0.2.there
      | some ob => exact S.keep p ob qq (hp0.2.ntb qq) nm
    · obtain ⟨v, hv, Er, _⟩ := E.get hr
      have Er : σ[i]? = some (some v) := Er
      obtain ⟨ov, eo, p', ep, C2⟩ := FF.slot j _ ho
      rw [List.getElem?_map, hv] at eo
      cases eo
      cases ep
      have e := ow.1; rw [Er] at e; cases e
      have ec : c1 = c := by
        rcases g with ⟨_, g⟩ | ⟨_, g⟩ <;> (rw [g] at h; cases h; rcases hk with z | z | z <;> cases z <;> rfl)
      subst ec
      exact C2.sub av2
  obtain ⟨v, ev, sl⟩ := S'.fr.slot i sv h
  refine ⟨v, ev, ?_⟩
  cases sv with
  | un => trivial
  | own c => obtain ⟨p, ep, C⟩ := sl; subst ep; exact ⟨p, rfl, cont p c ⟨ev, c, .inl h⟩ h C (.inl rfl)⟩
  | io c => obtain ⟨p, ep, C⟩ := sl; subst ep; exact ⟨p, rfl, cont p c ⟨ev, c, .inr (.inl h)⟩ h C (.inr (.inl rfl))⟩
  | lk c => obtain ⟨p, ep, C⟩ := sl; subst ep; exact ⟨p, rfl, cont p c ⟨ev, c, .inr (.inr h)⟩ h C (.inr (.inr rfl))⟩
  | d x =>
    have h0 : s[i]? = some (.d x) := by
      rcases putOuts_get rs o s A.nd i with ⟨g, _⟩ | ⟨j, c1, c0, _, _, g⟩
      · rw [← g]; exact h
      · rcases g with ⟨_, g⟩ | ⟨_, g⟩ <;> (rw [h] at g; cases g)
    obtain ⟨v0, ev0, w, ew, R⟩ := F.slot i _ h0
    rw [ev] at ev0; cases ev0
    exact ⟨w, ew, keepd R⟩
  | rd xs =>
    have h0 : s[i]? = some (.rd xs) := by
      rcases putOuts_get rs o s A.nd i with ⟨g, _⟩ | ⟨j, c1, c0, _, _, g⟩
      · rw [← g]; exact h
      · rcases g with ⟨_, g⟩ | ⟨_, g⟩ <;> (rw [h] at g; cases g)
    obtain ⟨v0, ev0, a, ws, ew, R, Rl⟩ := F.slot i _ h0
    rw [ev] at ev0; cases ev0
    exact ⟨a, ws, ew, R.mono mo ke, RpL.mono mo ke _ _ Rl⟩
theorem callF_wk {σ : L2.St} {H : Hp} {Q : VK} (hn : ∀ s (rs : List EV) (r : List EV × VS), fs s = .ok r → r.1.length = n) (h : tV Tb X.K X.mg W (vCallF m fs) σ H Q) : tCallS (spV Tb X.K X.mg n m) (WE W) (tVA Tb X.K X.mg W fs) σ H Q := by
  obtain ⟨O, st, F, h⟩ := h
  have len : ∀ rs s1, fs st = .ok (rs, s1) → rs.length = n := fun rs s1 e => hn st rs (rs, s1) e
  refine ⟨O, st, F, ?_⟩
  have h := vrun_vb h
  cases efs : fs st with
  | error er => rw [efs] at h; cases er <;> exact h
  | ok q0 =>
  obtain ⟨rs, s1⟩ := q0
  rw [efs] at h
  refine fun vs H1 S1 E1 => ?_
  have hl : vs.length = n := E1.length.trans (len rs s1 efs)
  have h : VRun Tb X.K X.mg W O s1 σ H1 (callF m rs s1) _ := VRun.step S1 h
  unfold callF at h
  by_cases nd : (loans rs).Nodup
  · rw [if_pos nd] at h
    cases ea : argSV s1 rs with
    | none => rw [ea] at h; exact h.elim
    | some st0 =>
      rw [ea] at h
      dsimp only at h
      have A := ArgOk.of S1.fr E1 nd ea
      refine ⟨hl, _, st0, A.fr, A.noown, ?_⟩
      cases em : m st0 with
      | error er =>
        rw [em] at h
        cases er with
        | stuck => exact h
        | exc C fs o =>
          have h : XW Tb X.K X.mg W O s1 σ H1 C fs (putOuts rs o s1) := h
          refine fun Ca d σ' H' ws e S hd hr he eσ => ?_
          subst eσ
          obtain ⟨S', av⟩ := A.step S1.fr E1 S
          exact h Ca d σ H' ws e S' hd (hr.sub av) he
      | ok q =>
        obtain ⟨r, o⟩ := q
        rw [em] at h
        refine fun v H' S Er => ?_
        obtain ⟨S', av⟩ := A.step S1.fr E1 S
        have hL : ∀ i, r ≠ .loan i := fun i z => by subst z; exact h
        have h : ∀ v H', Step Tb X.K O st σ H (putOuts rs o s1) σ H' → ER Tb X.K O H (putOuts rs o s1) σ H' v r → Q v H' := by
          cases r with
          | loan i => exact absurd rfl (hL i)
          | d x => exact h
          | own c => exact h
        refine h v H' (S1.trans S') ?_
        cases r with
        | d x => exact Rp.sub av Er
        | own c =>
          obtain ⟨q, ev, hq, nq, FF, C⟩ := Er
          refine ⟨q, ev, S1.dom q hq, fun z => nq (.inl z), FR.put2 A S1.fr E1 S hq FF, C.sub fun a z => ?_⟩
          rcases z with (z | z) | z
          · exact (av a (.inl z)).imp .inl id
          · exact .inl (.inr z)
          · exact (av a (.inr z)).imp .inl id
        | loan i => exact absurd rfl (hL i)
  · rw [if_neg nd] at h; exact h.elim
/-- f(e, ..) -/
theorem ve_call {W : WX} (c : VC X W k) (G : FnOk X.prog X.w X.K X.mg X.base (L2.CX X.prog X.w) j f fd ps (spV Tb X.K X.mg n m)) (hj : j ≤ k) (hm : X.mg x = some (.ref f)) (hk : PySem.W.keepIn X.K (.ref f) = true) (hb : Binds X.K fd ps [])
    (ha : VA Tb X W (e :: es) fs) (hn : ∀ s (r : List EV × VS), fs s = .ok r → r.1.length = n) (hg : Gl X x := by rfl) (hdb : (x == ("__debug__" : Str)) = false := by decide)
    (he : starEach (e :: es) X.env = (false, eval e X.env) :: starEach es X.env := by rfl) (hpl : (backTo pos (starEach es X.env)).any (·.1) = false := by rfl) : VE Tb X W (.Call (.Name x p) (e :: es) [] pos) (vCallF m fs) :=
  PE.wk (pe_callS G (c.rm.mono hj) hg hm hk hb (fun σ => passAt c.tk σ) ha hdb he hpl) fun σ H Q h => callF_wk (fun s rs r e => hn s r e) h
theorem vcons_len {f : VM EV} {fs : VM (List EV)} {n : Nat} (h : ∀ s (r : List EV × VS), fs s = .ok r → r.1.length = n) : ∀ s (r : List EV × VS), vCons f fs s = .ok r → r.1.length = n + 1 := fun s r e => by
  unfold vCons vb at e
  split at e
  · dsimp only at e
    split at e
    · rename_i q
      cases e
      show _ + 1 = _
      rw [h _ _ q]
    · cases e
  · cases e
theorem vnil_len : ∀ s (r : List EV × VS), (vr [] : VM (List EV)) s = .ok r → r.1.length = 0 := fun s r e => by cases e; rfl
end
section
variable {P : Program} {w : World} {K : PySem.W.Frag} {mg : Str → Option Value} {base : Heap}
/-- A DEF: its body's derivation gives its promise -/
theorem fn_v {x qual : Str} {st : Stmt} {f : Addr} {fd : FuncData} {N ps : List Str} {k : Nat} {g : VM Ctl} (F : Fun K x qual st f fd) (S : FnScope N ps (defScope st))
    (hb : ∀ (cdv : Value) (A : Around) (outer : List Env) (s : Shared) (H : Hp) (E : XK), VC (cxOf (L2.CX P w) P w K mg base N qual (defScope st) f cdv A outer s H E) (WN E) k →
      VSs Tb (cxOf (L2.CX P w) P w K mg base N qual (defScope st) f cdv A outer s H E) (WN E) (defBody st) g) :
    FnOk P w K mg base (L2.CX P w) (k + 1) f fd ps (spV Tb K mg ps.length (runF N.length g)) := by
  refine F.okX S (fun vs H Q E h => h.1) (fun cdv A outer s H vs Q E hr h => ⟨_, hb cdv A outer s H E ⟨rfl, S.nd, takes_of rfl rfl rfl rfl, hr⟩, ?_⟩)
  have hl := h.1
  rw [← hl] at h
  exact run_body h
end
end VL
set_option Elab.async false
set_option linter.all false
set_option maxRecDepth 100000
namespace VL
open PySem PySem.Spec PyProof.Rows L2
/-! ### what is walked stands still: locks -/
/-- a slot that is locked, and whether it is a parameter's -/
abbrev Lks := List (Nat × Bool)
def ownB (b : Bool) (c : OC) : SV := if b then .io c else .own c
def unlock1 (i : Nat) (b : Bool) (s : VS) : VS := match s[i]? with
  | some (.lk c) => s.set i (ownB b c)
  | _ => s
def unlock : Lks → VS → VS
  | [], s => s
  | (i, b) :: L, s => unlock1 i b (unlock L s)
/-- s1 is s, locked -/
inductive LkS : Lks → VS → VS → Prop
  | nil {s : VS} : LkS [] s s
  | cons {i : Nat} {b : Bool} {c : OC} {L : Lks} {s s1 : VS} : s[i]? = some (ownB b c) → LkS L (s.set i (.lk c)) s1 → LkS ((i, b) :: L) s s1
section
variable {K : PySem.W.Frag} {mg : Str → Option Value} {W : WX} {O O' : AS} {s s1 s2 st : VS} {σ σ1 σ2 : L2.St} {H H0 H1 H2 : Hp} {v : V} {r : EV} {i : Nat} {b : Bool} {c : OC}
theorem ownB_cases (b : Bool) (c : OC) : (b = false ∧ ownB b c = .own c) ∨ (b = true ∧ ownB b c = .io c) := by cases b; exact .inl ⟨rfl, rfl⟩; exact .inr ⟨rfl, rfl⟩
theorem lt_of_get {sv : SV} (h : s[i]? = some sv) : i < s.length := by
  by_cases hi : i < s.length
  · exact hi
  · rw [List.getElem?_eq_none (by omega)] at h; cases h
/-- the kind of an owning slot does not matter to what stands -/
theorem FR.rekind {sv sv' : SV} (F : FR Tb K O s σ H) (h : s[i]? = some sv) (hk : ∃ c, (sv = .own c ∨ sv = .io c ∨ sv = .lk c) ∧ (sv' = .own c ∨ sv' = .io c ∨ sv' = .lk c)) : FR Tb K O (s.set i sv') σ H ∧ (∀ j p, OwnAt (s.set i sv') σ j p ↔ OwnAt s σ j p) := by
  obtain ⟨c, h1, h2⟩ := hk
  have hi := lt_of_get h
  have own : ∀ j p, OwnAt (s.set i sv') σ j p ↔ OwnAt s σ j p := fun j p => by
    by_cases hj : j = i
    · subst hj
      constructor
      · rintro ⟨e, _⟩
        exact ⟨e, c, by rw [h]; rcases h1 with z | z | z <;> subst z; exact .inl rfl; exact .inr (.inl rfl); exact .inr (.inr rfl)⟩
      · rintro ⟨e, _⟩
        exact ⟨e, c, by rw [List.getElem?_set_self hi]; rcases h2 with z | z | z <;> subst z; exact .inl rfl; exact .inr (.inl rfl); exact .inr (.inr rfl)⟩
    · constructor
      · rintro ⟨e, c', q⟩; rw [List.getElem?_set_ne (Ne.symm hj)] at q; exact ⟨e, c', q⟩
      · rintro ⟨e, c', q⟩; exact ⟨e, c', by rw [List.getElem?_set_ne (Ne.symm hj)]; exact q⟩
  have av : ∀ a, Av O (s.set i sv') σ a → Av O s σ a := fun a z => z.imp id fun ⟨j, z⟩ => ⟨j, (own j a).mp z⟩
  refine ⟨⟨by rw [List.length_set]; exact F.len, fun j sv0 hj => ?_, fun a b p x y => F.inj a b p ((own a p).mp x) ((own b p).mp y), fun p ⟨j, z⟩ => F.avoid p ⟨j, (own j p).mp z⟩, F.odom, F.tabs⟩, own⟩
  by_cases e : j = i
  · subst e
    rw [List.getElem?_set_self hi] at hj
    cases hj
    obtain ⟨v, ev, sl⟩ := F.slot j sv h
    refine ⟨v, ev, ?_⟩
    have : ∃ p, v = some (.ref p) ∧ Cont K (Av O s σ) H p c := by rcases h1 with z | z | z <;> (subst z; exact sl)
    obtain ⟨p, ep, C⟩ := this
    rcases h2 with z | z | z <;> (subst z; exact ⟨p, ep, C.sub av⟩)
  · rw [List.getElem?_set_ne (Ne.symm e)] at hj
    obtain ⟨v, ev, sl⟩ := F.slot j sv0 hj
    exact ⟨v, ev, sl.sub av⟩
theorem FR.lock (F : FR Tb K O s σ H) (h : s[i]? = some (ownB b c)) : FR Tb K O (s.set i (.lk c)) σ H ∧ (∀ j p, OwnAt (s.set i (.lk c)) σ j p ↔ OwnAt s σ j p) :=
  F.rekind h ⟨c, (ownB_cases b c).elim (fun z => .inl z.2) fun z => .inr (.inl z.2), .inr (.inr rfl)⟩
theorem FR.unlock1 (F : FR Tb K O s σ H) (b : Bool) (h : s[i]? = some (.lk c)) : FR Tb K O (s.set i (ownB b c)) σ H ∧ (∀ j p, OwnAt (s.set i (ownB b c)) σ j p ↔ OwnAt s σ j p) :=
  F.rekind h ⟨c, .inr (.inr rfl), (ownB_cases b c).elim (fun z => .inl z.2) fun z => .inr (.inl z.2)⟩
/-- a run from the locked state is one from the unlocked -/
theorem Step.unlock1 (F : FR Tb K O s σ H) (h : s[i]? = some (ownB b c)) (S : Step Tb K O (s.set i (.lk c)) σ H s2 σ2 H2) : Step Tb K O s σ H (VL.unlock1 i b s2) σ2 H2 ∧ (∀ j p, OwnAt (VL.unlock1 i b s2) σ2 j p ↔ OwnAt s2 σ2 j p) := by
  have hi := lt_of_get h
  obtain ⟨e2, eσ⟩ := S.lk i c (List.getElem?_set_self hi)
  have hu : VL.unlock1 i b s2 = s2.set i (ownB b c) := by unfold VL.unlock1; rw [e2]
  rw [hu]
  obtain ⟨FU, ou⟩ := S.fr.unlock1 b e2
  obtain ⟨FL, ol⟩ := F.lock h
  have ml : ∀ j p, MutAt (s.set i (.lk c)) σ j p → MutAt s σ j p := fun j p ⟨e, c', q⟩ => by
    by_cases hj : j = i
    · subst hj; rw [List.getElem?_set_self hi] at q; rcases q with q | q <;> cases q
    · rw [List.getElem?_set_ne (Ne.symm hj)] at q; exact ⟨e, c', q⟩
  have hi2 := lt_of_get e2
  refine ⟨⟨FU, fun a o e t n => S.keep a o e t fun ⟨j, z⟩ => n ⟨j, ml j a z⟩, fun a ⟨j, z⟩ => (S.new a ⟨j, (ou j a).mp z⟩).imp (fun ⟨k, z⟩ => ⟨k, (ol k a).mp z⟩) id, fun a ⟨j, z⟩ => ?_, S.dom, S.len, fun j c' hj => ?_, fun j c' hj => ?_⟩, ou⟩
  · by_cases hj : j = i
    · subst hj
      refine .inl ⟨j, ?_⟩
      obtain ⟨e, _⟩ := z
      rw [eσ] at e
      exact ⟨e, c, by rw [h]; rcases ownB_cases b c with ⟨_, q⟩ | ⟨_, q⟩ <;> rw [q]; exact .inl rfl; exact .inr rfl⟩
    · obtain ⟨e, c', q⟩ := z
      rw [List.getElem?_set_ne (Ne.symm hj)] at q
      exact (S.mnew a ⟨j, e, c', q⟩).imp (fun ⟨k, z⟩ => ⟨k, ml k a z⟩) id
  · by_cases e : j = i
    · subst e
      rw [h] at hj
      rcases ownB_cases b c with ⟨_, q⟩ | ⟨_, q⟩
      · rw [q] at hj; cases hj
      · rw [q] at hj; cases hj
        exact ⟨⟨c, by rw [List.getElem?_set_self hi2, q]⟩, eσ⟩
    · obtain ⟨⟨c2, q⟩, e3⟩ := S.io j c' (by rw [List.getElem?_set_ne (Ne.symm e)]; exact hj)
      exact ⟨⟨c2, by rw [List.getElem?_set_ne (Ne.symm e)]; exact q⟩, e3⟩
  · have e : j ≠ i := fun z => by
      subst z
      rw [h] at hj
      rcases ownB_cases b c with ⟨_, q⟩ | ⟨_, q⟩ <;> (rw [q] at hj; cases hj)
    obtain ⟨q, e3⟩ := S.lk j c' (by rw [List.getElem?_set_ne (Ne.symm e)]; exact hj)
    exact ⟨by rw [List.getElem?_set_ne (Ne.symm e)]; exact q, e3⟩
theorem LkS.fr {L : Lks} (h : LkS L s s1) : FR Tb K O s σ H → FR Tb K O s1 σ H := by
  induction h with
  | nil => exact id
  | cons e _ ih => exact fun F => ih (F.lock e).1
theorem LkS.step {L : Lks} (h : LkS L s s1) : ∀ {s2 : VS}, FR Tb K O s σ H → Step Tb K O s1 σ H s2 σ2 H2 → Step Tb K O s σ H (VL.unlock L s2) σ2 H2 ∧ (∀ j p, OwnAt (VL.unlock L s2) σ2 j p ↔ OwnAt s2 σ2 j p) := by
  induction h with
  | nil => exact fun _ S => ⟨S, fun _ _ => Iff.rfl⟩
  | cons e l ih =>
    intro s2 F S
    obtain ⟨S', o'⟩ := ih (F.lock e).1 S
    obtain ⟨S2, o2⟩ := Step.unlock1 F e S'
    exact ⟨S2, fun j p => (o2 j p).trans (o' j p)⟩
theorem LkS.own {L : Lks} (h : LkS L s s1) (F : FR Tb K O s σ H) : ∀ j p, OwnAt s1 σ j p ↔ OwnAt s σ j p := by
  induction h with
  | nil => exact fun _ _ => Iff.rfl
  | cons e l ih => exact fun j p => (ih (F.lock e).1 j p).trans ((F.lock e).2 j p)
/-- frames, unlocked -/
theorem FR.unl {L : Lks} : ∀ {s2 : VS}, FR Tb K O s2 σ H → (∀ p ∈ L, ∃ c, s2[p.1]? = some (.lk c)) → (L.map (·.1)).Nodup → FR Tb K O (VL.unlock L s2) σ H ∧ ∀ j, j ∉ L.map (·.1) → (VL.unlock L s2)[j]? = s2[j]? := by
  induction L with
  | nil => exact fun F _ _ => ⟨F, fun _ _ => rfl⟩
  | cons p L ih =>
    intro s2 F h nd
    obtain ⟨i, b⟩ := p
    obtain ⟨F', g⟩ := ih F (fun q hq => h q (List.mem_cons_of_mem _ hq)) (List.nodup_cons.mp nd).2
    obtain ⟨c, hc⟩ := h (i, b) List.mem_cons_self
    have hc' : (VL.unlock L s2)[i]? = some (.lk c) := by rw [g i (List.nodup_cons.mp nd).1]; exact hc
    have hu : VL.unlock ((i, b) :: L) s2 = (VL.unlock L s2).set i (ownB b c) := by
      show VL.unlock1 i b (VL.unlock L s2) = _
      unfold VL.unlock1; rw [hc']
    rw [hu]
    refine ⟨(F'.unlock1 b hc').1, fun j hj => ?_⟩
    have hji : j ≠ i := fun z => hj (by rw [z]; exact List.mem_cons_self)
    rw [List.getElem?_set_ne (Ne.symm hji)]
    exact g j fun z => hj (List.mem_cons_of_mem _ z)
theorem LkS.lks {L : Lks} (h : LkS L s s1) : (∀ p ∈ L, ∃ c, s1[p.1]? = some (.lk c)) ∧ (L.map (·.1)).Nodup ∧ (∀ (j : Nat) (c : OC), s[j]? = some (.lk c) → s1[j]? = some (.lk c) ∧ j ∉ L.map (·.1)) := by
  induction h with
  | nil => exact ⟨(fun _ h => by cases h), List.nodup_nil, fun j c h => ⟨h, by simp⟩⟩
  | cons e l ih =>
    rename_i i b c L s s1
    obtain ⟨a, nd, g⟩ := ih
    have hi := lt_of_get e
    obtain ⟨q, nq⟩ := g i c (List.getElem?_set_self hi)
    refine ⟨fun p hp => ?_, List.nodup_cons.mpr ⟨nq, nd⟩, fun j c' hj => ?_⟩
    · rcases List.mem_cons.mp hp with rfl | hp
      · exact ⟨c, q⟩
      · exact a p hp
    · have hji : j ≠ i := fun z => by
        subst z
        rw [e] at hj
        rcases ownB_cases b c with ⟨_, q⟩ | ⟨_, q⟩ <;> (rw [q] at hj; cases hj)
      obtain ⟨x, y⟩ := g j c' (by rw [List.getElem?_set_ne (Ne.symm hji)]; exact hj)
      exact ⟨x, fun z => by rcases List.mem_cons.mp z with z | z; exact hji z; exact y z⟩
theorem LkS.er {L : Lks} (h : LkS L s s1) (F : FR Tb K O s σ H) (S : Step Tb K O s1 σ H s2 σ2 H2) (E : ER Tb K O H0 s2 σ2 H2 v r) : ER Tb K O H0 (VL.unlock L s2) σ2 H2 v r := by
  obtain ⟨S', ow⟩ := h.step F S
  have av : ∀ {O : AS} a, Av O (VL.unlock L s2) σ2 a → Av O s2 σ2 a := fun a z => z.imp id fun ⟨j, z⟩ => ⟨j, (ow j a).mp z⟩
  cases r with
  | d x => exact Rp.sub (fun a z => av a z) E
  | loan i => exact E
  | own c =>
    obtain ⟨p, ev, hp, np, FF, C⟩ := E
    obtain ⟨l1, nd, _⟩ := h.lks
    refine ⟨p, ev, hp, np, (FR.unl FF (fun q hq => ?_) nd).1, C.sub fun a z => av a z⟩
    obtain ⟨c', hc⟩ := l1 q hq
    exact ⟨c', (S.lk q.1 c' hc).1⟩
/-- the way on, from the locked state -/
theorem CtlK.unlock {L : Lks} {D : Ends} {cc : Ctl} (h : LkS L s s1) (S0 : Step Tb K O st σ H s σ1 H1) (q : CtlK Tb K O st σ H D cc (VL.unlock L s2)) : CtlK Tb K O s1 σ1 H1 D cc s2 := by
  cases cc with
  | nx => exact fun σ' H' S => q σ' H' (S0.trans (h.step S0.fr S).1)
  | bk => exact fun σ' H' S => q σ' H' (S0.trans (h.step S0.fr S).1)
  | ct => exact fun σ' H' S => q σ' H' (S0.trans (h.step S0.fr S).1)
  | rt r => exact fun v σ' H' S E => q v σ' H' (S0.trans (h.step S0.fr S).1) ((h.er S0.fr S E).back S0.dom)
theorem XW.unlock {L : Lks} {C : Str} {fs : List (Str × Da)} (h : LkS L s s1) (S0 : Step Tb K O st σ H s σ1 H1) (q : XW Tb K mg W O st σ H C fs (VL.unlock L s2)) : XW Tb K mg W O s1 σ1 H1 C fs s2 := fun Ca d σ' H' ws e S hd hr he => by
  obtain ⟨S', ow⟩ := h.step S0.fr S
  exact q Ca d σ' H' ws e (S0.trans S') hd (hr.sub fun a z => z.imp id fun ⟨j, z⟩ => ⟨j, (ow j a).mp z⟩) he
/-- data and what is locked stand -/
structure Pres (K : PySem.W.Frag) (O : AS) (s : VS) (σ : L2.St) (H : Hp) (O' : AS) (s' : VS) (σ' : L2.St) (H' : Hp) : Prop where
  rp : ∀ (d : Da) (v : V), Rp K (Av O s σ) H d v → Rp K (Av O' s' σ') H' d v
  lk : ∀ (i : Nat) (c : OC) (p : Addr), s[i]? = some (.lk c) → σ[i]? = some (some (.ref p)) → Cont K (Av O' s' σ') H' p c
theorem Step.pres (S : Step Tb K O s σ H s2 σ2 H2) : Pres K O s σ H O s2 σ2 H2 := ⟨fun d v h => S.rp h, fun i c p h e => by
  obtain ⟨h2, e2⟩ := S.lk i c h
  obtain ⟨v, ev, q, eq, C⟩ := S.fr.slot i _ h2
  rw [e2, e] at ev; cases ev; cases eq
  exact C⟩
/-- the iterator J hands out xs, as long as they do -/
def JV (K : PySem.W.Frag) (O : AS) (s1 : VS) (σ1 : L2.St) (H1 : Hp) (J : It) (xs : List Da) : Prop := ∀ O' st' σ' H', Pres K O s1 σ1 H1 O' st' σ' H' →
  (∀ i x, xs[i]? = some x → J.go i H' ∧ ∀ v H2, J.yld i H' v H2 → Same H' H2 ∧ ((∀ a, Av O' st' σ' a → H' a ≠ none) → Rp K (Av O' st' σ') H2 x v)) ∧ (∀ i, xs.length ≤ i → J.stop i H')
def tVI (Tb : List (Addr × Str)) (K : PySem.W.Frag) (mg : Str → Option Value) (W : WX) (f : VM (List Da × Lks)) : TI := fun σ H R => ∃ O st, FR Tb K O st σ H ∧ VRun Tb K mg W O st σ H (f st) fun p s1 => ∀ J H1 s0, Step Tb K O st σ H s0 σ H1 → LkS p.2 s0 s1 → JV K O s1 σ H1 J p.1 → R J H1
end
abbrev VI (Tb : List (Addr × Str)) (X : Cx) (W : WX) (tg iter : Expr) (f : VM (List Da × Lks)) : Prop := PI X tg iter (tVI Tb X.K X.mg W f)
theorem PI.wk {X : Cx} {tg iter : Expr} {t t' : TI} (h : PI X tg iter t) (w : ∀ σ H R, t' σ H R → t σ H R) : PI X tg iter t' := ⟨fun pins s σ H R I q => h.run pins s σ H R I (w σ H R q)⟩
section
variable {X : Cx} {W : WX} {a b c e o tg iter : Expr} {es ts : List Expr} {pos p : Pos} {fa fb fc fe fo : VM EV} {fs : VM (List EV)} {ga gb : VM Bool} {f : Da → VM Unit} {ix : List Nat} {fi : VM (List Da × Lks)} {body : List Stmt} {g : VM Ctl}
/-! ### for -/
def vForL (gt : Da → VM Unit) (g : VM Ctl) : List Da → VM Ctl
  | [] => vNx
  | x :: xs => vb (vNoX (gt x)) fun _ => vb g fun c => match c with
    | .nx => vForL gt g xs
    | .ct => vForL gt g xs
    | .bk => vNx
    | .rt r => vr (.rt r)
def vFor (fi : VM (List Da × Lks)) (gt : Da → VM Unit) (g : VM Ctl) : VM Ctl := vb fi fun p => fun s => match vForL gt g p.1 s with
  | .ok (c, s2) => .ok (c, unlock p.2 s2)
  | .error (.exc C fs s2) => .error (.exc C fs (unlock p.2 s2))
  | .error .stuck => .error .stuck
theorem drop_cons {α : Type} {xs : List α} {i : Nat} {x : α} {r : List α} (h : xs.drop i = x :: r) : xs[i]? = some x ∧ xs.drop (i + 1) = r := by
  have h1 : (xs.drop i)[0]? = some x := by rw [h]; rfl
  rw [List.getElem?_drop] at h1
  refine ⟨by simpa using h1, ?_⟩
  rw [← List.drop_drop, h]; rfl
theorem vs_for (c : X.calm = true) (hi : VI Tb X W tg iter fi) (hg : VGD Tb X ix tg f) (hb : VSs Tb X W body g) (hs : ∀ x, foldedSetIterable iter X.env x = pure x := by intro _; rfl) (hp : PassesOwn (model X.prog X.w) X.A X.env X.xe) :
    VSt Tb X W (.For tg iter body [] pos) (vFor fi f g) := by
  refine PS.wk (ps_for hp c hi hg hb hs) fun D σ H h => ?_
  obtain ⟨O, st, F, h⟩ := h
  refine ⟨O, st, F, (vrun_vb h).mono fun p s1 q J H1 s0 S0 lk jv => ?_⟩
  obtain ⟨xs, L⟩ := p
  have F1 := lk.fr S0.fr
  -- from the locked state on
  have q1 : VRun Tb X.K X.mg W O s1 σ H1 (vForL f g xs s1) (CtlK Tb X.K O s1 σ H1 D) := by
    dsimp only at q
    cases e : vForL f g xs s1 with
    | ok r => obtain ⟨cc, s2⟩ := r; rw [e] at q; exact CtlK.unlock lk S0 q
    | error er =>
      rw [e] at q
      cases er with
      | stuck => exact q
      | exc C fs s2 => exact XW.unlock lk S0 q
  refine ⟨fun i m σ' H' => i + m = xs.length ∧ ∃ st', Step Tb X.K O s1 σ H1 st' σ' H' ∧ VRun Tb X.K X.mg W O st' σ' H' (vForL f g (xs.drop i) st') (CtlK Tb X.K O s1 σ H1 D), ⟨xs.length, by omega, s1, Step.refl F1, q1⟩, ?_⟩
  rintro i m σ' H' ⟨em, st', S, q⟩
  obtain ⟨jgo, jst⟩ := jv O st' σ' H' S.pres
  cases ed : xs.drop i with
  | nil =>
    have hl : xs.length ≤ i := List.drop_eq_nil_iff.mp ed
    rw [ed] at q
    exact .inl ⟨jst i hl, q σ' H' S⟩
  | cons x r =>
    obtain ⟨ex, er⟩ := drop_cons ed
    have hlt : i < xs.length := by
      by_cases hl : i < xs.length
      · exact hl
      · rw [List.getElem?_eq_none (by omega)] at ex; cases ex
    obtain ⟨go, yl⟩ := jgo i x ex
    rw [ed] at q
    refine .inr ⟨go, fun σ2 H2 => (i + 1) + (m - 1) = xs.length ∧ ∃ s2, Step Tb X.K O s1 σ H1 s2 σ2 H2 ∧ VRun Tb X.K X.mg W O s2 σ2 H2 (vForL f g (xs.drop (i + 1)) s2) (CtlK Tb X.K O s1 σ H1 D), fun σ2 H2 z => ⟨m - 1, by omega, z⟩, fun v H2 hy => ?_⟩
    obtain ⟨sm, rp⟩ := yl v H2 hy
    have Se := Step.ext S.fr sm
    refine ⟨O, st', x, Se.fr, rp S.fr.avdom, ?_⟩
    have q : VRun Tb X.K X.mg W O st' σ' H' (vb (vNoX (f x)) (fun _ => vb g fun c => match c with
      | .nx => vForL f g r
      | .ct => vForL f g r
      | .bk => vNx
      | .rt r => vr (.rt r)) st') (CtlK Tb X.K O s1 σ H1 D) := q
    unfold vb vNoX at q
    cases eg : f x st' with
    | error er => rw [eg] at q; exact q.elim
    | ok pr =>
      obtain ⟨_, s3⟩ := pr
      rw [eg] at q
      refine fun σ3 H3 S3 _ => ⟨O, s3, S3.fr, ?_⟩
      have S' := (S.trans Se).trans S3
      refine (vrun_vb (f := g) (VRun.step (Se.trans S3) q)).mono fun cc s4 z => ?_
      cases cc with
      | nx => exact fun σ4 H4 S4 => ⟨by omega, s4, S'.trans S4, by rw [er]; exact (VRun.step S4 z)⟩
      | ct => exact fun σ4 H4 S4 => ⟨by omega, s4, S'.trans S4, by rw [er]; exact (VRun.step S4 z)⟩
      | bk => exact fun σ4 H4 S4 => z σ4 H4 (S'.trans S4)
      | rt r0 => exact fun v4 σ4 H4 S4 E4 => z v4 σ4 H4 (S'.trans S4) (E4.back S'.dom)
/-! ### while -/
/-- so many turns at most -/
def fuel : Nat := 1000000000
def vWhileN (c : VM Bool) (g : VM Ctl) : Nat → VM Ctl
  | 0 => vStuck
  | n + 1 => vb c fun k => if k = true then vb g fun cc => match cc with
      | .nx => vWhileN c g n
      | .ct => vWhileN c g n
      | .bk => vNx
      | .rt r => vr (.rt r)
    else vNx
def vWhile (c : VM Bool) (g : VM Ctl) : VM Ctl := vWhileN c g fuel
theorem vs_while (hc : VT Tb X W e ga) (hb : VSs Tb X W body g) (hp : PassesOwn (model X.prog X.w) X.A X.env X.xe) : VSt Tb X W (.While e body [] pos) (vWhile ga g) := by
  refine PS.wk (ps_while hp hc hb) fun D σ H h => ?_
  obtain ⟨O, st, F, h⟩ := h
  refine ⟨fun m σ' H' => ∃ st', Step Tb X.K O st σ H st' σ' H' ∧ VRun Tb X.K X.mg W O st' σ' H' (vWhileN ga g m st') (CtlK Tb X.K O st σ H D), ⟨fuel, st, Step.refl F, h⟩, ?_⟩
  rintro m σ' H' ⟨st', S, q⟩
  cases m with
  | zero => exact q.elim
  | succ m =>
    refine tVT.bind S.fr q fun k s1 H1 S1 q => ?_
    cases k with
    | false => rw [if_neg Bool.false_ne_true] at q; exact iteF (q σ' H1 (S.trans S1))
    | true =>
      rw [if_pos rfl] at q
      refine iteT ⟨fun σ2 H2 => ∃ s2, Step Tb X.K O st σ H s2 σ2 H2 ∧ VRun Tb X.K X.mg W O s2 σ2 H2 (vWhileN ga g m s2) (CtlK Tb X.K O st σ H D), fun σ2 H2 z => ⟨m, Nat.lt_succ_self m, z⟩, O, s1, S1.fr, (vrun_vb q).mono fun cc s2 z => ?_⟩
      have S' := S.trans S1
      cases cc with
      | nx => exact fun σ4 H4 S4 => ⟨s2, S'.trans S4, VRun.step S4 z⟩
      | ct => exact fun σ4 H4 S4 => ⟨s2, S'.trans S4, VRun.step S4 z⟩
      | bk => exact fun σ4 H4 S4 => z σ4 H4 (S'.trans S4)
      | rt r0 => exact fun v4 σ4 H4 S4 E4 => z v4 σ4 H4 (S'.trans S4) (E4.back S'.dom)
end
end VL
set_option Elab.async false
set_option linter.all false
set_option maxRecDepth 100000
namespace VL
open PySem PySem.Spec PyProof.Rows L2
/-! ### what is walked -/
def iSeq (K : PySem.W.Frag) (tl : TE) : TI := fun σ H R => tl σ H fun x H1 => ∃ a, x = .ref a ∧ (((∃ xs, SqL K H1 a xs) ∧ R (Itl K a) H1) ∨ ((∃ xs, SqT K H1 a xs) ∧ R (Itt K a) H1))
section
variable {X : Cx} {W : WX} {a b c e o tg iter : Expr} {es ts : List Expr} {pos p : Pos} {fa fb fc fe fo : VM EV} {fs : VM (List EV)} {ga gb : VM Bool} {f : Da → VM Unit} {ix : List Nat} {fi : VM (List Da × Lks)} {body : List Stmt} {g : VM Ctl}
theorem pi_seq {l : Expr} {tl : TE} (hl : PE X l tl) : PI X tg l (iSeq X.K tl) := by
  refine ⟨fun pins s σ H R I h => ?_⟩
  refine thn (hl.run pins s σ H _ I h) fun v s1 ⟨x, H1, I1, r1, q1⟩ => ?_
  obtain ⟨a, e, q⟩ := q1
  subst e
  cases r1
  rcases q with ⟨⟨xs, hq⟩, q⟩ | ⟨⟨xs, hq⟩, q⟩
  · obtain ⟨its, rv, p, hz⟩ := I1.list hq
    refine wpAny_pyIter_list p.isList ?_
    refine ⟨s1.heap.objs.size, [s1.heap.objs.size], _, _, H1, rfl, I1.kept (t' := s1.toks) fun b o e => Heap.get?_push_of_some _ e, turn_list a _, ⟨_, Heap.get?_push_size _ rfl, rfl, rfl⟩, fun b hb => ?_, q⟩
    have e : b = s1.heap.objs.size := by simpa using hb
    subst e
    exact I1.fpOk (Nat.le_refl _) (I1.hok.fresh (Nat.le_refl _))
  · obtain ⟨its, rv, p, hz⟩ := I1.tuple hq
    refine wpAny_pyIter_tuple (show s1.heap.IsTuple a its.toArray from p) ?_
    refine ⟨s1.heap.objs.size, [s1.heap.objs.size], _, _, H1, rfl, I1.kept (t' := s1.toks) fun b o e => Heap.get?_push_of_some _ e, turn_tuple a _, ⟨_, Heap.get?_push_size _ rfl, rfl, rfl⟩, fun b hb => ?_, q⟩
    have e : b = s1.heap.objs.size := by simpa using hb
    subst e
    exact I1.fpOk (Nat.le_refl _) (I1.hok.fresh (Nat.le_refl _))
/-- what is walked: a datum, or the list of a slot, locked -/
def vSrc (r : EV) : VM (List Da × Lks) := fun s => match r with
  | .d x => match seqD x with
    | some xs => .ok ((xs, []), s)
    | none => .error .stuck
  | .own (.l xs) => .ok ((xs, []), s)
  | .own (.m _) => .error .stuck
  | .loan i => match s[i]? with
    | some (.own (.l xs)) => .ok ((xs, [(i, false)]), s.set i (.lk (.l xs)))
    | some (.io (.l xs)) => .ok ((xs, [(i, true)]), s.set i (.lk (.l xs)))
    | some (.lk (.l xs)) => .ok ((xs, []), s)
    | _ => .error .stuck
/-- a list that stands as long as the frame lives on -/
inductive SrcL (K : PySem.W.Frag) (O : AS) (s : VS) (σ : L2.St) (H : Hp) (a : Addr) (xs : List Da) : Prop where
  | dl (vs : List V) (h : H a = some (.lst vs)) (n : ¬ Av O s σ a) (R : RpL K (Av O s σ) H xs vs) : SrcL K O s σ H a xs
  | lk (i : Nat) (e : σ[i]? = some (some (.ref a))) (h : s[i]? = some (.lk (.l xs))) : SrcL K O s σ H a xs
/-- a tuple -/
abbrev SrcT (K : PySem.W.Frag) (O : AS) (s : VS) (σ : L2.St) (H : Hp) (a : Addr) (xs : List Da) : Prop := Rp K (Av O s σ) H (.tuple xs) (.ref a)
theorem SrcL.get {K : PySem.W.Frag} {O O' : AS} {s s' : VS} {σ σ' : L2.St} {H H' : Hp} {a : Addr} {xs : List Da} (h : SrcL K O s σ H a xs) (P : Pres K O s σ H O' s' σ' H') : ∃ vs, RpL K (Av O' s' σ') H' xs vs ∧ SqL K H' a vs := by
  cases h with
  | dl vs h n R =>
    have := P.rp (.list xs) (.ref a) (by simp only [Rp]; exact ⟨a, vs, rfl, h, n, R⟩)
    simp only [Rp] at this
    obtain ⟨a', ws, e, h', n', R'⟩ := this
    cases e
    exact ⟨ws, R', .of h'⟩
  | lk i e h =>
    obtain ⟨vs, h1, R⟩ := P.lk i _ a h e
    exact ⟨vs, R, .of h1⟩
theorem SrcL.jv {K : PySem.W.Frag} {O : AS} {s : VS} {σ : L2.St} {H : Hp} {a : Addr} {xs : List Da} (h : SrcL K O s σ H a xs) : JV K O s σ H (Itl K a) xs := fun O' st' σ' H' P => by
  obtain ⟨vs, R, g⟩ := h.get P
  refine ⟨fun i x hx => ?_, fun i hi => ⟨vs, g, by rw [← R.length]; exact hi⟩⟩
  obtain ⟨w, hw, Rw⟩ := R.get hx
  refine ⟨⟨vs, w, g, hw⟩, fun v H2 hy => ?_⟩
  obtain ⟨e, hy⟩ := hy
  subst e
  have := hy vs g
  rw [hw] at this; cases this
  exact ⟨Same.refl _, fun _ => Rw⟩
theorem SrcT.jv {K : PySem.W.Frag} {O : AS} {s : VS} {σ : L2.St} {H : Hp} {a : Addr} {xs : List Da} (h : SrcT K O s σ H a xs) : JV K O s σ H (Itt K a) xs := fun O' st' σ' H' P => by
  obtain ⟨a', vs, e, g, R⟩ := (P.rp _ _ h).tupT
  cases e
  refine ⟨fun i x hx => ?_, fun i hi => ⟨vs, g, by rw [← R.length]; exact hi⟩⟩
  obtain ⟨w, hw, Rw⟩ := R.get hx
  refine ⟨⟨vs, w, g, hw⟩, fun v H2 hy => ?_⟩
  obtain ⟨e, hy⟩ := hy
  subst e
  have := hy vs g
  rw [hw] at this; cases this
  exact ⟨Same.refl _, fun _ => Rw⟩
theorem vSrc_ok {K : PySem.W.Frag} {O : AS} {H0 : Hp} {s s1 : VS} {σ : L2.St} {H : Hp} {v : V} {r : EV} {xs : List Da} {L : Lks} (F : FR Tb K O s σ H) (E : ER Tb K O H0 s σ H v r) (h : vSrc r s = .ok ((xs, L), s1)) :
    ∃ a, v = .ref a ∧ LkS L s s1 ∧ (SrcL K O s1 σ H a xs ∨ SrcT K O s1 σ H a xs) := by
  unfold vSrc at h
  cases r with
  | d x =>
    dsimp only at h
    cases e : seqD x with
    | none => rw [e] at h; cases h
    | some ys =>
      rw [e] at h; cases h
      cases x with
      | list zs =>
        cases e
        have E : Rp K (Av O s σ) H (.list xs) v := E
        simp only [Rp] at E
        obtain ⟨a, vs, rfl, h, n, R⟩ := E
        exact ⟨a, rfl, .nil, .inl (.dl vs h n R)⟩
      | tuple zs =>
        cases e
        have E : Rp K (Av O s σ) H (.tuple xs) v := E
        obtain ⟨a, vs, rfl, _⟩ := E.tupT
        exact ⟨a, rfl, .nil, .inr E⟩
      | _ => cases e
  | own c =>
    cases c with
    | m _ => cases h
    | l ys =>
      cases h
      have E2 : Rp K (Av O s σ) H (.list xs) v := ER.settle (H1 := H0) E
      simp only [Rp] at E2
      obtain ⟨a, vs, rfl, h, n, R⟩ := E2
      exact ⟨a, rfl, .nil, .inl (.dl vs h n R)⟩
  | loan i =>
    have E : σ[i]? = some (some v) := E
    dsimp only at h
    split at h
    · rename_i ys hs; cases h
      obtain ⟨ov, eo, p, ep, _⟩ := F.slot i _ hs
      rw [E] at eo; cases eo; cases ep
      exact ⟨p, rfl, .cons (b := false) hs .nil, .inl (.lk i E (List.getElem?_set_self (lt_of_get hs)))⟩
    · rename_i ys hs; cases h
      obtain ⟨ov, eo, p, ep, _⟩ := F.slot i _ hs
      rw [E] at eo; cases eo; cases ep
      exact ⟨p, rfl, .cons (b := true) hs .nil, .inl (.lk i E (List.getElem?_set_self (lt_of_get hs)))⟩
    · rename_i ys hs; cases h
      obtain ⟨ov, eo, p, ep, _⟩ := F.slot i _ hs
      rw [E] at eo; cases eo; cases ep
      exact ⟨p, rfl, .nil, .inl (.lk i E hs)⟩
    · cases h
theorem vSrc_err {s : VS} {r : EV} {er : Err} (h : vSrc r s = .error er) : er = .stuck := by
  unfold vSrc at h
  split at h
  · split at h <;> cases h; rfl
  · cases h
  · cases h; rfl
  · split at h <;> cases h; rfl
/-- a list, a tuple, walked -/
def vItSeq (fe : VM EV) : VM (List Da × Lks) := vb fe vSrc
theorem vi_seq (he : VE Tb X W e fe) : VI Tb X W tg e (vItSeq fe) := by
  refine PI.wk (pi_seq he) fun σ H R h => ?_
  obtain ⟨O, st, F, h⟩ := h
  refine tV.bind F h fun r s1 v H1 S1 E1 h => ?_
  cases q : vSrc r s1 with
  | error er => rw [q] at h; rw [vSrc_err q] at h; exact h.elim
  | ok p =>
    obtain ⟨⟨xs, L⟩, s2⟩ := p
    rw [q] at h
    obtain ⟨a, rfl, lk, src⟩ := vSrc_ok S1.fr E1 q
    refine ⟨a, rfl, ?_⟩
    rcases src with src | src
    · obtain ⟨vs, _, g⟩ := src.get (Step.refl (lk.fr S1.fr)).pres
      exact .inl ⟨⟨vs, g⟩, h _ H1 s1 S1 lk src.jv⟩
    · obtain ⟨_, vs, e, g, _⟩ := Rp.tupT src
      cases e
      exact .inr ⟨⟨vs, g⟩, h _ H1 s1 S1 lk src.jv⟩
/-! range -/
def rngD (lo : Int) (n : Nat) (c : Int) : List Da := (List.range n).map fun i : Nat => PyData.int (lo + (i : Int) * c)
theorem rngD_get {lo : Int} {n : Nat} {c : Int} {i : Nat} {x : Da} (h : (rngD lo n c)[i]? = some x) : i < n ∧ x = .int (lo + (i : Int) * c) := by
  unfold rngD at h
  rw [List.getElem?_map] at h
  obtain ⟨j, e, rfl⟩ := Option.map_eq_some_iff.mp h
  obtain ⟨hi, e⟩ := List.getElem?_eq_some_iff.mp e
  rw [List.getElem_range] at e
  subst e
  exact ⟨by simpa using hi, rfl⟩
theorem rngD_len (lo : Int) (n : Nat) (c : Int) : (rngD lo n c).length = n := by unfold rngD; simp
theorem jv_rng {K : PySem.W.Frag} {O : AS} {s : VS} {σ : L2.St} {H : Hp} {lo : Int} {n : Nat} : JV K O s σ H (Itr lo n) (rngD lo n 1) := fun O' st' σ' H' S =>
  ⟨fun i x hx => by
    obtain ⟨hi, rfl⟩ := rngD_get hx
    refine ⟨hi, fun v H2 hy => ?_⟩
    obtain ⟨e, hy⟩ := hy
    subst e
    exact ⟨Same.refl _, fun _ => by simp only [Rp]; rw [hy, Int.mul_one]⟩, fun i hi => by rw [rngD_len] at hi; exact hi⟩
theorem jv_rngC {K : PySem.W.Frag} {O : AS} {s : VS} {σ : L2.St} {H : Hp} {lo c : Int} {n : Nat} : JV K O s σ H (Itc lo c n) (rngD lo n c) := fun O' st' σ' H' S =>
  ⟨fun i x hx => by
    obtain ⟨hi, rfl⟩ := rngD_get hx
    refine ⟨hi, fun v H2 hy => ?_⟩
    obtain ⟨e, hy⟩ := hy
    subst e
    exact ⟨Same.refl _, fun _ => by simp only [Rp]; rw [hy]⟩, fun i hi => by rw [rngD_len] at hi; exact hi⟩
/-- the ints of a range: one, two or three arguments -/
def rangeD : List Da → Option (List Da)
  | [.int j] => if -1000000000 ≤ j ∧ j ≤ 1000000000 then some (rngD 0 j.toNat 1) else none
  | [.int i, .int j] => if -1000000000 ≤ i ∧ i ≤ 1000000000 ∧ -1000000000 ≤ j ∧ j ≤ 1000000000 then some (rngD i (j - i).toNat 1) else none
  | [.int i, .int j, .int c] => if -1000000000 ≤ i ∧ i ≤ 1000000000 ∧ -1000000000 ≤ j ∧ j ≤ 1000000000 ∧ c = -1 then some (rngD i (i - j).toNat (-1)) else none
  | _ => none
def vItRng (fs : VM (List EV)) : VM (List Da × Lks) := vb fs fun rs => vb (vRds rs) fun xs => vb (vOpt (rangeD xs)) fun ys => vr (ys, [])
theorem RoL.one {K : PySem.W.Frag} {O : AS} {H : Hp} {x : Da} {vs : List V} (h : RoL K O H [x] vs) : ∃ v, vs = [v] ∧ Ro K O H x v := by
  simp only [RoL] at h
  obtain ⟨w, ws, rfl, r, rfl⟩ := h
  exact ⟨w, rfl, r⟩
theorem RoL.two {K : PySem.W.Frag} {O : AS} {H : Hp} {x y : Da} {vs : List V} (h : RoL K O H [x, y] vs) : ∃ v w, vs = [v, w] ∧ Ro K O H x v ∧ Ro K O H y w := by
  simp only [RoL] at h
  obtain ⟨w, ws, rfl, r, w2, ws2, rfl, r2, rfl⟩ := h
  exact ⟨w, w2, rfl, r, r2⟩
theorem RoL.three {K : PySem.W.Frag} {O : AS} {H : Hp} {x y z : Da} {vs : List V} (h : RoL K O H [x, y, z] vs) : ∃ v w u, vs = [v, w, u] ∧ Ro K O H x v ∧ Ro K O H y w ∧ Ro K O H z u := by
  simp only [RoL] at h
  obtain ⟨w, ws, rfl, r, w2, ws2, rfl, r2, w3, ws3, rfl, r3, rfl⟩ := h
  exact ⟨w, w2, w3, rfl, r, r2, r3⟩
theorem vi_range1 (hm : X.mg "range" = none) (ha : VA Tb X W [a] fs) (hg : Gl X "range" := by rfl) (hs : starEach [a] X.env = [(false, eval a X.env)] := by rfl) (hl : ∀ s (r : List EV × VS), fs s = .ok r → r.1.length = 1) : VI Tb X W tg (.Call (.Name "range" p) [a] [] pos) (vItRng fs) := by
  refine PI.wk (pi_range1 hg hm ha hs) fun σ H R h => ?_
  obtain ⟨O, st, F, h⟩ := h
  have len := hl st
  refine ⟨O, st, F, ?_⟩
  have h := vrun_vb h
  cases ef : fs st with
  | error er => rw [ef] at h; cases er <;> exact h
  | ok q =>
    obtain ⟨rs, s1⟩ := q
    rw [ef] at h
    have l1 := len _ ef
    refine fun vs H1 S1 E1 => ?_
    obtain ⟨xs, Rx, h⟩ := E1.rds S1.fr (VRun.step S1 h)
    obtain ⟨ys, ey, h⟩ := h.opt
    unfold rangeD at ey
    split at ey
    · obtain ⟨v, rfl, R⟩ := Rx.one
      obtain rfl := R.int
      split at ey
      · rename_i j hj; cases ey
        exact ⟨j, rfl, by omega, by omega, h _ H1 s1 S1 .nil jv_rng⟩
      · cases ey
    · obtain ⟨v, w, rfl, _⟩ := Rx.two
      have := E1.length
      rw [show rs.length = 1 from l1] at this; cases this
    · obtain ⟨v, w, u, rfl, _⟩ := Rx.three
      have := E1.length
      rw [show rs.length = 1 from l1] at this; cases this
    · cases ey
theorem vi_range2 (hm : X.mg "range" = none) (ha : VA Tb X W [a, b] fs) (hg : Gl X "range" := by rfl) (hs : starEach [a, b] X.env = [(false, eval a X.env), (false, eval b X.env)] := by rfl) (hs2 : starEach [b] X.env = [(false, eval b X.env)] := by rfl) (hl : ∀ s (r : List EV × VS), fs s = .ok r → r.1.length = 2) : VI Tb X W tg (.Call (.Name "range" p) [a, b] [] pos) (vItRng fs) := by
  refine PI.wk (pi_range2 hg hm ha hs hs2) fun σ H R h => ?_
  obtain ⟨O, st, F, h⟩ := h
  have len := hl st
  refine ⟨O, st, F, ?_⟩
  have h := vrun_vb h
  cases ef : fs st with
  | error er => rw [ef] at h; cases er <;> exact h
  | ok q =>
    obtain ⟨rs, s1⟩ := q
    rw [ef] at h
    have l1 := len _ ef
    refine fun vs H1 S1 E1 => ?_
    obtain ⟨xs, Rx, h⟩ := E1.rds S1.fr (VRun.step S1 h)
    obtain ⟨ys, ey, h⟩ := h.opt
    unfold rangeD at ey
    split at ey
    · obtain ⟨v, rfl, R⟩ := Rx.one
      have := E1.length
      rw [show rs.length = 2 from l1] at this; cases this
    · obtain ⟨v, w, rfl, R, R2⟩ := Rx.two
      obtain rfl := R.int
      obtain rfl := R2.int
      split at ey
      · rename_i i j hj; cases ey
        exact ⟨i, j, rfl, ⟨by omega, by omega, by omega, by omega⟩, h _ H1 s1 S1 .nil jv_rng⟩
      · cases ey
    · obtain ⟨v, w, u, rfl, _⟩ := Rx.three
      have := E1.length
      rw [show rs.length = 2 from l1] at this; cases this
    · cases ey
theorem vi_range3 (hm : X.mg "range" = none) (ha : VA Tb X W [a, b, c] fs) (hg : Gl X "range" := by rfl) (hl : ∀ s (r : List EV × VS), fs s = .ok r → r.1.length = 3) (hs : starEach [a, b, c] X.env = (false, eval a X.env) :: starEach [b, c] X.env := by rfl) (hpl : (backTo pos (starEach [b, c] X.env)).any (·.1) = false := by rfl) : VI Tb X W tg (.Call (.Name "range" p) [a, b, c] [] pos) (vItRng fs) := by
  refine PI.wk (pi_range3 hg hm ha hs hpl) fun σ H R h => ?_
  obtain ⟨O, st, F, h⟩ := h
  have len := hl st
  refine ⟨O, st, F, ?_⟩
  have h := vrun_vb h
  cases ef : fs st with
  | error er => rw [ef] at h; cases er <;> exact h
  | ok q =>
    obtain ⟨rs, s1⟩ := q
    rw [ef] at h
    have l1 := len _ ef
    refine fun vs H1 S1 E1 => ?_
    obtain ⟨xs, Rx, h⟩ := E1.rds S1.fr (VRun.step S1 h)
    obtain ⟨ys, ey, h⟩ := h.opt
    unfold rangeD at ey
    split at ey
    · obtain ⟨v, rfl, R⟩ := Rx.one
      have := E1.length
      rw [show rs.length = 3 from l1] at this; cases this
    · obtain ⟨v, w, rfl, R, R2⟩ := Rx.two
      have := E1.length
      rw [show rs.length = 3 from l1] at this; cases this
    · obtain ⟨v, w, u, rfl, R, R2, R3⟩ := Rx.three
      obtain rfl := R.int
      obtain rfl := R2.int
      obtain rfl := R3.int
      split at ey
      · rename_i i j cc hj
        obtain ⟨h1, h2, h3, h4, rfl⟩ := hj
        cases ey
        exact ⟨i, j, -1, (i - j).toNat, rfl, RgC.neg (by omega) (by omega) (by omega) (by omega), h _ H1 s1 S1 .nil jv_rngC⟩
      · cases ey
    · cases ey
end
end VL
set_option Elab.async false
set_option linter.all false
set_option maxRecDepth 100000
namespace VL
open PySem PySem.Spec PyProof.Rows L2
/-! ### comprehensions -/
/-- the slots of the block's own names, forgotten -/
def wipeV (ix : List Nat) (s : VS) : VS := ix.foldr (fun j s => s.set j .un) s
/-- .. given back -/
def restV (s0 : VS) (ix : List Nat) (s : VS) : VS := ix.foldr (fun j s => s.set j (s0[j]?.getD .un)) s
/-- a slot that owns nothing -/
def flatS : Option SV → Bool
  | some .un => true
  | some (.d _) => true
  | none => true
  | _ => false
def vWipe (ix : List Nat) : VM Unit := fun s => if ix.all (fun j => flatS s[j]?) = true then .ok ((), wipeV ix s) else .error .stuck
section
variable {K : PySem.W.Frag} {mg : Str → Option Value} {W : WX} {O O' : AS} {s s0 s1 s2 st : VS} {σ σ1 σ2 : L2.St} {H H0 H1 H2 : Hp} {v : V} {r : EV} {ix : List Nat}
theorem wipeV_len : ∀ (ix : List Nat) (s : VS), (wipeV ix s).length = s.length
  | [], s => rfl
  | j :: ix, s => by show ((wipeV ix s).set j .un).length = _; rw [List.length_set, wipeV_len]
theorem wipeV_get (j : Nat) : ∀ (ix : List Nat) (s : VS), (j ∉ ix → (wipeV ix s)[j]? = s[j]?) ∧ (j ∈ ix → ∀ sv, (wipeV ix s)[j]? = some sv → sv = .un)
  | [], s => ⟨fun _ => rfl, fun h => by cases h⟩
  | i :: ix, s => by
    obtain ⟨h1, h2⟩ := wipeV_get j ix s
    show (_ → ((wipeV ix s).set i .un)[j]? = _) ∧ (_ → ∀ sv, ((wipeV ix s).set i .un)[j]? = some sv → _)
    by_cases e : j = i
    · subst e
      refine ⟨fun h => absurd List.mem_cons_self h, fun _ sv h => ?_⟩
      have hl : j < (wipeV ix s).length := by
        by_cases hl : j < (wipeV ix s).length
        · exact hl
        · rw [List.getElem?_eq_none (by rw [List.length_set]; omega)] at h; cases h
      rw [List.getElem?_set_self hl] at h
      cases h; rfl
    · rw [List.getElem?_set_ne (Ne.symm e)]
      exact ⟨fun h => h1 fun z => h (List.mem_cons_of_mem _ z), fun h => h2 ((List.mem_cons.mp h).resolve_left e)⟩
theorem wipe_get (j : Nat) : ∀ (ix : List Nat) (σ : L2.St), j ∉ ix → (wipe σ ix)[j]? = σ[j]?
  | [], σ, _ => rfl
  | i :: ix, σ, h => by
    show ((wipe σ ix).set i none)[j]? = _
    rw [List.getElem?_set_ne fun z => h (by rw [z]; exact List.mem_cons_self)]
    exact wipe_get j ix σ fun z => h (List.mem_cons_of_mem _ z)
theorem wipe_some2 (j : Nat) : ∀ (ix : List Nat) (σ : L2.St), j < σ.length → ∃ v, (wipe σ ix)[j]? = some v := fun ix σ h => by
  have : j < (wipe σ ix).length := by rw [wipe_length]; exact h
  exact ⟨_, List.getElem?_eq_getElem this⟩
theorem flat_all (h : ix.all (fun j => flatS s[j]?) = true) {j : Nat} (hj : j ∈ ix) : flatS s[j]? = true := List.all_eq_true.mp h j hj
theorem flat_no {j : Nat} (h : flatS s[j]? = true) (c : OC) : s[j]? ≠ some (.own c) ∧ s[j]? ≠ some (.io c) ∧ s[j]? ≠ some (.lk c) := ⟨(fun z => by rw [z] at h; cases h), (fun z => by rw [z] at h; cases h), (fun z => by rw [z] at h; cases h)⟩
theorem own_wipe (h : ix.all (fun j => flatS s[j]?) = true) (j : Nat) (p : Addr) : OwnAt (wipeV ix s) (wipe σ ix) j p ↔ OwnAt s σ j p := by
  by_cases hj : j ∈ ix
  · constructor
    · rintro ⟨_, c, q⟩
      rcases q with q | q | q <;> (have := (wipeV_get j ix s).2 hj _ q; cases this)
    · rintro ⟨_, c, q⟩
      have := flat_no (flat_all h hj) c
      rcases q with q | q | q
      · exact absurd q this.1
      · exact absurd q this.2.1
      · exact absurd q this.2.2
  · unfold OwnAt
    rw [(wipeV_get j ix s).1 hj, wipe_get j ix σ hj]
theorem mut_wipe (h : ix.all (fun j => flatS s[j]?) = true) (j : Nat) (p : Addr) : MutAt (wipeV ix s) (wipe σ ix) j p ↔ MutAt s σ j p := by
  by_cases hj : j ∈ ix
  · constructor
    · rintro ⟨_, c, q⟩
      rcases q with q | q <;> (have := (wipeV_get j ix s).2 hj _ q; cases this)
    · rintro ⟨_, c, q⟩
      have := flat_no (flat_all h hj) c
      rcases q with q | q
      · exact absurd q this.1
      · exact absurd q this.2.1
  · unfold MutAt
    rw [(wipeV_get j ix s).1 hj, wipe_get j ix σ hj]
theorem FR.wipe (F : FR Tb K O s σ H) (h : ix.all (fun j => flatS s[j]?) = true) : FR Tb K O (wipeV ix s) (L2.wipe σ ix) H := by
  have av : ∀ a, Av O (wipeV ix s) (L2.wipe σ ix) a → Av O s σ a := fun a z => z.imp id fun ⟨j, z⟩ => ⟨j, (own_wipe h j a).mp z⟩
  refine ⟨by rw [wipeV_len, wipe_length]; exact F.len, fun j sv hj => ?_, fun a b p x y => F.inj a b p ((own_wipe h a p).mp x) ((own_wipe h b p).mp y), fun p ⟨j, z⟩ => F.avoid p ⟨j, (own_wipe h j p).mp z⟩, F.odom, F.tabs⟩
  by_cases hx : j ∈ ix
  · have := (wipeV_get j ix s).2 hx sv hj
    subst this
    obtain ⟨v, hv⟩ := wipe_some2 j ix σ (by rw [← F.len, ← wipeV_len ix s]; exact lt_of_get hj)
    exact ⟨v, hv, trivial⟩
  · rw [(wipeV_get j ix s).1 hx] at hj
    obtain ⟨v, ev, sl⟩ := F.slot j sv hj
    exact ⟨v, by rw [wipe_get j ix σ hx]; exact ev, sl.sub av⟩
theorem restV_len (s0 : VS) : ∀ (ix : List Nat) (s : VS), (restV s0 ix s).length = s.length
  | [], s => rfl
  | j :: ix, s => by show ((restV s0 ix s).set j _).length = _; rw [List.length_set, restV_len]
theorem restV_get (s0 : VS) (j : Nat) : ∀ (ix : List Nat) (s : VS), (j ∉ ix → (restV s0 ix s)[j]? = s[j]?) ∧ (j ∈ ix → ∀ sv, (restV s0 ix s)[j]? = some sv → sv = s0[j]?.getD .un)
  | [], s => ⟨fun _ => rfl, fun h => by cases h⟩
  | i :: ix, s => by
    obtain ⟨h1, h2⟩ := restV_get s0 j ix s
    show (_ → ((restV s0 ix s).set i _)[j]? = _) ∧ (_ → ∀ sv, ((restV s0 ix s).set i _)[j]? = some sv → _)
    by_cases e : j = i
    · subst e
      refine ⟨fun h => absurd List.mem_cons_self h, fun _ sv h => ?_⟩
      have hl : j < (restV s0 ix s).length := by
        by_cases hl : j < (restV s0 ix s).length
        · exact hl
        · rw [List.getElem?_eq_none (by rw [List.length_set]; omega)] at h; cases h
      rw [List.getElem?_set_self hl] at h
      cases h; rfl
    · rw [List.getElem?_set_ne (Ne.symm e)]
      exact ⟨fun h => h1 fun z => h (List.mem_cons_of_mem _ z), fun h => h2 ((List.mem_cons.mp h).resolve_left e)⟩
/-- behind the comprehension: the block's names stand for what they stood for -/
theorem Step.rest {D : Addr} (F : FR Tb K O s0 σ H) (h : ix.all (fun j => flatS s0[j]?) = true) (hD : H D = none) (S : Step Tb K (O.with D) (wipeV ix s0) (L2.wipe σ ix) H s2 (L2.wipe σ ix) H2) (h2 : ix.all (fun j => flatS s2[j]?) = true) :
    Step Tb K O s0 σ H (restV s0 ix s2) σ H2 ∧ FR Tb K (O.with D) (restV s0 ix s2) σ H2 ∧ (∀ j p, OwnAt (restV s0 ix s2) σ j p ↔ OwnAt s2 (L2.wipe σ ix) j p) := by
  have get : ∀ j sv, (restV s0 ix s2)[j]? = some sv → (j ∉ ix ∧ s2[j]? = some sv) ∨ (j ∈ ix ∧ sv = s0[j]?.getD .un ∧ flatS (some sv) = true) := fun j sv hj => by
    by_cases hx : j ∈ ix
    · have e := (restV_get s0 j ix s2).2 hx sv hj
      refine .inr ⟨hx, e, ?_⟩
      have := flat_all h hx
      rw [e]
      cases q : s0[j]? with
      | none => rfl
      | some z => rw [q] at this; exact this
    · rw [(restV_get s0 j ix s2).1 hx] at hj; exact .inl ⟨hx, hj⟩
  have own : ∀ j p, OwnAt (restV s0 ix s2) σ j p ↔ OwnAt s2 (L2.wipe σ ix) j p := fun j p => by
    by_cases hx : j ∈ ix
    · constructor
      · rintro ⟨_, c, q⟩
        rcases q with q | q | q <;> (rcases get j _ q with ⟨z, _⟩ | ⟨_, _, z⟩; exact absurd hx z; cases z)
      · rintro ⟨_, c, q⟩
        have := flat_no (flat_all h2 hx) c
        rcases q with q | q | q
        · exact absurd q this.1
        · exact absurd q this.2.1
        · exact absurd q this.2.2
    · unfold OwnAt
      rw [(restV_get s0 j ix s2).1 hx, wipe_get j ix σ hx]
  have mut_ : ∀ j p, MutAt (restV s0 ix s2) σ j p ↔ MutAt s2 (L2.wipe σ ix) j p := fun j p => by
    by_cases hx : j ∈ ix
    · constructor
      · rintro ⟨_, c, q⟩
        rcases q with q | q <;> (rcases get j _ q with ⟨z, _⟩ | ⟨_, _, z⟩; exact absurd hx z; cases z)
      · rintro ⟨_, c, q⟩
        have := flat_no (flat_all h2 hx) c
        rcases q with q | q
        · exact absurd q this.1
        · exact absurd q this.2.1
    · unfold MutAt
      rw [(restV_get s0 j ix s2).1 hx, wipe_get j ix σ hx]
  have len2 : s2.length = s0.length := by rw [S.fr.len, wipe_length, F.len]
  have keep : ∀ a o, H a = some o → NTb o → ¬ MutO s0 σ a → H2 a = some o := fun a o e t n => S.keep a o e t fun ⟨j, z⟩ => n ⟨j, (mut_wipe h j a).mp z⟩
  have dom : ∀ a, H2 a = none → H a = none := S.dom
  have mo : ∀ a, Av (O.with D) (restV s0 ix s2) σ a → Av O s0 σ a ∨ H a = none := fun a z => by
    rcases z with (z | z) | ⟨j, z⟩
    · exact .inl (.inl z)
    · exact .inr (by rw [z]; exact hD)
    · rcases S.new a ⟨j, (own j a).mp z⟩ with ⟨k, z⟩ | z
      · exact .inl (.inr ⟨k, (own_wipe h k a).mp z⟩)
      · exact .inr z
  have ke : ∀ a o, H a = some o → NTb o → ¬ Av O s0 σ a → H2 a = some o := fun a o e t n => keep a o e t fun z => n (.inr z.own)
  have av : ∀ a, Av (O.with D) (restV s0 ix s2) σ a → Av (O.with D) s2 (L2.wipe σ ix) a := fun a z => z.imp id fun ⟨j, z⟩ => ⟨j, (own j a).mp z⟩
  have FD : FR Tb K (O.with D) (restV s0 ix s2) σ H2 := by
    refine ⟨by rw [restV_len, len2, F.len], fun j sv hj => ?_, fun a b p x y => S.fr.inj a b p ((own a p).mp x) ((own b p).mp y), fun p ⟨j, z⟩ => S.fr.avoid p ⟨j, (own j p).mp z⟩, S.fr.odom, S.fr.tabs⟩
    rcases get j sv hj with ⟨hx, hj2⟩ | ⟨hx, e, fl⟩
    · obtain ⟨v, ev, sl⟩ := S.fr.slot j sv hj2
      exact ⟨v, by rw [← wipe_get j ix σ hx]; exact ev, sl.sub av⟩
    · have hl : j < s0.length := by rw [← len2, ← restV_len s0 ix s2]; exact lt_of_get hj
      have e0 : s0[j]? = some sv := by
        rw [e]
        rw [List.getElem?_eq_getElem hl]; rfl
      obtain ⟨v, ev, sl⟩ := F.slot j sv e0
      refine ⟨v, ev, ?_⟩
      cases sv with
      | un => trivial
      | d x => obtain ⟨w, ew, R⟩ := sl; exact ⟨w, ew, Rp.mono mo ke _ _ R⟩
      | own c => cases fl
      | io c => cases fl
      | lk c => cases fl
      | rd c => cases fl
  refine ⟨⟨FD.sub fun a z => .inl z, keep, fun a ⟨j, z⟩ => (S.new a ⟨j, (own j a).mp z⟩).imp (fun ⟨k, z⟩ => ⟨k, (own_wipe h k a).mp z⟩) id,
    fun a ⟨j, z⟩ => (S.mnew a ⟨j, (mut_ j a).mp z⟩).imp (fun ⟨k, z⟩ => ⟨k, (mut_wipe h k a).mp z⟩) id, dom, rfl, fun j c hj => ?_, fun j c hj => ?_⟩, FD, own⟩
  · have hx : j ∉ ix := fun z => (flat_no (flat_all h z) c).2.1 hj
    obtain ⟨⟨c', q⟩, _⟩ := S.io j c (by rw [(wipeV_get j ix s0).1 hx]; exact hj)
    exact ⟨⟨c', by rw [(restV_get s0 j ix s2).1 hx]; exact q⟩, rfl⟩
  · have hx : j ∉ ix := fun z => (flat_no (flat_all h z) c).2.2 hj
    obtain ⟨q, _⟩ := S.lk j c (by rw [(wipeV_get j ix s0).1 hx]; exact hj)
    exact ⟨by rw [(restV_get s0 j ix s2).1 hx]; exact q, rfl⟩
/-- the end of a turn -/
theorem Step.wipe (S : Step Tb K O (wipeV ix s0) (L2.wipe σ ix) H s2 σ2 H2) (e : L2.wipe σ2 ix = L2.wipe σ ix) (h2 : ix.all (fun j => flatS s2[j]?) = true) : Step Tb K O (wipeV ix s0) (L2.wipe σ ix) H (wipeV ix s2) (L2.wipe σ ix) H2 := by
  have F2 := S.fr.wipe h2
  rw [e] at F2
  refine ⟨F2, S.keep, fun a ⟨j, z⟩ => S.new a ⟨j, ?_⟩, fun a ⟨j, z⟩ => S.mnew a ⟨j, ?_⟩, S.dom, rfl, fun j c hj => ?_, fun j c hj => ?_⟩
  · rw [← e] at z; exact (own_wipe h2 j a).mp z
  · rw [← e] at z; exact (mut_wipe h2 j a).mp z
  · obtain ⟨⟨c', q⟩, e2⟩ := S.io j c hj
    have hx : j ∉ ix := fun z => (flat_no (flat_all h2 z) c').2.1 q
    exact ⟨⟨c', by rw [(wipeV_get j ix s2).1 hx]; exact q⟩, rfl⟩
  · obtain ⟨q, e2⟩ := S.lk j c hj
    have hx : j ∉ ix := fun z => (flat_no (flat_all h2 z) c).2.2 q
    exact ⟨by rw [(wipeV_get j ix s2).1 hx]; exact q, rfl⟩
end
/-- nothing is let out of a comprehension -/
abbrev W0 : WX := fun _ _ _ _ => False
/-- the turns: acc what is made so far -/
def vLcL (ix : List Nat) (gt : Da → VM Unit) (tt : VM Bool) (te : VM EV) : List Da → List Da → VM (List Da)
  | [], acc => vr acc
  | x :: xs, acc => vb (gt x) fun _ => vb tt fun b => if b = true then vb te fun r => vb (vOpt (evD r)) fun y => if acc.length < 16777216 then vb (vWipe ix) fun _ => vLcL ix gt tt te xs (acc ++ [y]) else vStuck
      else vb (vWipe ix) fun _ => vLcL ix gt tt te xs acc
def vLc (ix : List Nat) (fi : VM (List Da × Lks)) (gt : Da → VM Unit) (tt : VM Bool) (te : VM EV) : VM EV := vb fi fun p => fun s =>
  if ix.all (fun j => flatS s[j]?) = true then
    match vLcL ix gt tt te p.1 [] (wipeV ix s) with
    | .ok (ys, s2) => .ok (.own (.l ys), unlock p.2 (restV s ix s2))
    | .error _ => .error .stuck
  else .error .stuck
def vTT (Tb : List (Addr × Str)) (K : PySem.W.Frag) (mg : Str → Option Value) (W : WX) (f : VM Bool) : TT := tVT Tb K mg W f
theorem PTs.wk {X : Cx} {e : List Expr} {t t' : TT} (h : PTs X e t) (w : ∀ σ H Q, t' σ H Q → t σ H Q) : PTs X e t' := ⟨fun pins s σ H Q I q => h.run pins s σ H Q I (w σ H Q q)⟩
abbrev VTs (Tb : List (Addr × Str)) (X : Cx) (W : WX) (es : List Expr) (f : VM Bool) : Prop := PTs X es (tVT Tb X.K X.mg W f)
theorem vts_nil {X : Cx} {W : WX} : VTs Tb X W [] (vr true) := PTs.wk pts_nil fun σ H Q ⟨O, st, F, h⟩ => h H (Step.refl F)
theorem vts_one {X : Cx} {W : WX} {e : Expr} {f : VM Bool} (h : VT Tb X W e f) : VTs Tb X W [e] f := pts_one h
section
variable {X : Cx} {W : WX} {elt tg iter : Expr} {ifs : List Expr} {scope : Scope} {own : List (Str × Nat)} {pos : Pos} {fi : VM (List Da × Lks)} {f : Da → VM Unit} {tt : VM Bool} {te : VM EV}
/-- what a comprehension reads -/
theorem lc_wk {ix : List Nat} {σ : L2.St} {H : Hp} {Q : VK} (h : tV Tb X.K X.mg W (vLc ix fi f tt te) σ H Q) :
    tLc (tVI Tb X.K X.mg W fi) (gVD Tb X.K ix f) (tVT Tb X.K X.mg W0 tt) (tV Tb X.K X.mg W0 te) ix σ H Q := by
  obtain ⟨O, st, F, h⟩ := h
  refine ⟨O, st, F, (vrun_vb h).mono fun p s1 q J H1 s0 S0 lk jv D hD => ?_⟩
  obtain ⟨xs, L⟩ := p
  dsimp only at q lk jv
  by_cases fl : ix.all (fun j => flatS s1[j]?) = true
  · rw [if_pos fl] at q
    have F1 := lk.fr S0.fr
    have FD : FR Tb X.K (O.with D) s1 σ (upd H1 D (.lst [])) := F1.away hD (Same.upd hD) (by rw [upd_same]; exact fun z => nomatch z)
    have FW := FD.wipe fl
    -- the turns from a state on
    let Res := fun (rest acc : List Da) (s : VS) => ∃ ys s2, vLcL ix f tt te rest acc s = .ok (ys, s2) ∧ (∀ v H', Step Tb X.K O st σ H (unlock L (restV s1 ix s2)) σ H' → ER Tb X.K O H (unlock L (restV s1 ix s2)) σ H' v (.own (.l ys)) → Q v H')
    have res0 : Res xs [] (wipeV ix s1) := by
      cases e : vLcL ix f tt te xs [] (wipeV ix s1) with
      | error er => rw [e] at q; exact q.elim
      | ok p => obtain ⟨ys, s2⟩ := p; rw [e] at q; exact ⟨ys, s2, e, q⟩
    -- data and locks at a turn
    have pres : ∀ {s' : VS} {σ' : L2.St} {H' : Hp}, Step Tb X.K (O.with D) (wipeV ix s1) (wipe σ ix) H1 s' σ' H' → Pres X.K O s1 σ H1 (O.with D) s' σ' H' := fun S => by
      refine ⟨fun d v h => S.rp (Rp.mono (fun a z => ?_) (fun a o e _ _ => e) _ _ h), fun i c p hi e => ?_⟩
      · rcases z with (z | z) | ⟨j, z⟩
        · exact .inl (.inl z)
        · exact .inr (by rw [z]; exact hD)
        · exact .inl (.inr ⟨j, (own_wipe fl j a).mp z⟩)
      · have hx : i ∉ ix := fun z => (flat_no (flat_all fl z) c).2.2 hi
        obtain ⟨h2, e2⟩ := S.lk i c (by rw [(wipeV_get i ix s1).1 hx]; exact hi)
        obtain ⟨v, ev, q, eq, C⟩ := S.fr.slot i _ h2
        rw [e2, wipe_get i ix σ hx, e] at ev; cases ev; cases eq
        exact C
    refine ⟨fun i m H' => i + m = xs.length ∧ ∃ acc s', ∃ ws, Step Tb X.K (O.with D) (wipeV ix s1) (wipe σ ix) H1 s' (wipe σ ix) H' ∧ ix.all (fun j => flatS s'[j]?) = true ∧
        H' D = some (.lst ws) ∧ RpL X.K (Av (O.with D) s' (wipe σ ix)) H' acc ws ∧ Res (xs.drop i) acc s', ⟨xs.length, by omega, [], wipeV ix s1, [], ⟨FW, fun a o e _ _ => Same.upd hD a o e, fun _ h => .inl h, fun _ h => .inl h, fun a h => Same.free (Same.upd hD) h, rfl, fun _ c h => ⟨⟨c, h⟩, rfl⟩, fun _ _ h => ⟨h, rfl⟩⟩, ?_, upd_same, .nil, res0⟩, ?_⟩
    · refine List.all_eq_true.mpr fun j hj => ?_
      cases e : (wipeV ix s1)[j]? with
      | none => rfl
      | some sv => rw [(wipeV_get j ix s1).2 hj sv e]; rfl
    · rintro i m H' ⟨em, acc, s', ws, S, fl', hHD, R, ys, s2, er, fin⟩
      obtain ⟨jgo, jst⟩ := jv _ _ _ _ (pres S)
      cases ed : xs.drop i with
      | nil =>
        have hl : xs.length ≤ i := List.drop_eq_nil_iff.mp ed
        rw [ed] at er
        cases er
        obtain ⟨SR, FRD, ownR⟩ := Step.rest F1 fl hD S fl'
        refine .inl ⟨jst i hl, ?_⟩
        have St := (lk.step S0.fr SR).1
        refine fin (.ref D) H' (S0.trans St) (LkS.er lk S0.fr SR ?_)
        refine ⟨D, rfl, S0.dom D hD, fun z => F1.odom D z hD, FRD, ws, hHD, R.sub fun a z => z.imp id fun ⟨j, z⟩ => ⟨j, (ownR j a).mp z⟩⟩
      | cons x rest =>
        obtain ⟨ex, er'⟩ := drop_cons ed
        have hlt : i < xs.length := by
          by_cases hl : i < xs.length
          · exact hl
          · rw [List.getElem?_eq_none (by omega)] at ex; cases ex
        obtain ⟨go, yl⟩ := jgo i x ex
        rw [ed] at er
        refine .inr ⟨go, fun H2 => (i + 1) + (m - 1) = xs.length ∧ ∃ acc s', ∃ ws, Step Tb X.K (O.with D) (wipeV ix s1) (wipe σ ix) H1 s' (wipe σ ix) H2 ∧ ix.all (fun j => flatS s'[j]?) = true ∧
          H2 D = some (.lst ws) ∧ RpL X.K (Av (O.with D) s' (wipe σ ix)) H2 acc ws ∧ Res (xs.drop (i + 1)) acc s', fun H2 z => ⟨m - 1, by omega, z⟩, fun v H2 hy => ?_⟩
        obtain ⟨sm, rp⟩ := yl v H2 hy
        have Se := Step.ext S.fr sm
        have rp' := rp S.fr.avdom
        -- what a turn comes to, as a run in which nothing raises
        have er : vb (f x) (fun _ => vb tt fun b => if b = true then vb te fun r => vb (vOpt (evD r)) fun y => if acc.length < 16777216 then vb (vWipe ix) fun _ => vLcL ix f tt te rest (acc ++ [y]) else vStuck
          else vb (vWipe ix) fun _ => vLcL ix f tt te rest acc) s' = .ok (ys, s2) := er
        refine ⟨O.with D, s', x, Se.fr, rp', ?_⟩
        unfold vb at er
        cases eg : f x s' with
        | error e => rw [eg] at er; cases er
        | ok pr =>
          obtain ⟨_, s3⟩ := pr
          rw [eg] at er
          refine fun σ3 H3 S3 agree => ?_
          have T3 := (S.trans Se).trans S3
          have ew : wipe σ3 ix = wipe σ ix := by
            apply List.ext_getElem?
            intro j
            by_cases hj : j ∈ ix
            · have l3 : σ3.length = σ.length := by rw [T3.len, wipe_length]
              have n1 : ∀ (τ : L2.St), j < τ.length → (wipe τ ix)[j]? = some none := fun τ hl => by
                have : ∀ (ix : List Nat), j ∈ ix → (wipe τ ix)[j]? = some none := by
                  intro ix
                  induction ix with
                  | nil => intro h; cases h
                  | cons k ix ih =>
                    intro h
                    show ((wipe τ ix).set k none)[j]? = _
                    by_cases e : j = k
                    · subst e; rw [List.getElem?_set_self (by rw [wipe_length]; exact hl)]
                    · rw [List.getElem?_set_ne (Ne.symm e)]; exact ih ((List.mem_cons.mp h).resolve_left e)
                exact this ix hj
              by_cases hl : j < σ.length
              · rw [n1 σ3 (by rw [l3]; exact hl), n1 σ hl]
              · rw [List.getElem?_eq_none (by rw [wipe_length]; omega), List.getElem?_eq_none (by rw [wipe_length]; omega)]
            · rw [wipe_get j ix σ3 hj, agree j hj]
          refine ⟨ew, O.with D, s3, T3.fr, ?_⟩
          dsimp only at er
          cases et : tt s3 with
          | error e => rw [et] at er; cases er
          | ok pr =>
            obtain ⟨b, s4⟩ := pr
            rw [et] at er
            refine fun H4 S4 => ?_
            have T4 := T3.trans S4
            have hH4 : ∀ {H5 : Hp} {s5 : VS}, Step Tb X.K (O.with D) s' (wipe σ ix) H' s5 σ3 H5 → H5 D = some (.lst ws) := fun T => T.keep D _ hHD (fun _ z => nomatch z) fun z => S.fr.avoid D z.own (.inr rfl)
            cases b with
            | false =>
              refine iteF ?_
              have er : vb (vWipe ix) (fun _ => vLcL ix f tt te rest acc) s4 = .ok (ys, s2) := er
              unfold vb vWipe at er
              by_cases fl4 : ix.all (fun j => flatS s4[j]?) = true
              · rw [if_pos fl4] at er
                have U := (Se.trans S3).trans S4
                refine ⟨by omega, acc, wipeV ix s4, ws, Step.wipe T4 ew fl4, ?_, hH4 U, ?_, ys, s2, by rw [er']; exact er, fin⟩
                · refine List.all_eq_true.mpr fun j hj => ?_
                  cases e : (wipeV ix s4)[j]? with
                  | none => rfl
                  | some sv => rw [(wipeV_get j ix s4).2 hj sv e]; rfl
                · rw [← ew]
                  exact (U.rpl R).sub fun a z => z.imp id fun ⟨j, z⟩ => ⟨j, (own_wipe fl4 j a).mp z⟩
              · rw [if_neg fl4] at er; cases er
            | true =>
              refine iteT ⟨O.with D, s4, T4.fr, ?_⟩
              have er : vb te (fun r => vb (vOpt (evD r)) fun y => if acc.length < 16777216 then vb (vWipe ix) fun _ => vLcL ix f tt te rest (acc ++ [y]) else vStuck) s4 = .ok (ys, s2) := er
              unfold vb at er
              cases ee : te s4 with
              | error e => rw [ee] at er; cases er
              | ok pr =>
                obtain ⟨r, s5⟩ := pr
                rw [ee] at er
                dsimp only at er
                refine fun y H5 S5 E5 => ?_
                have T5 := T4.trans S5
                have U := ((Se.trans S3).trans S4).trans S5
                have hD5 := hH4 U
                cases ev : evD r with
                | none => rw [ev] at er; cases er
                | some yd =>
                  rw [ev] at er
                  have Ry := E5.evD ev
                  have er : (if acc.length < 16777216 then vb (vWipe ix) fun _ => vLcL ix f tt te rest (acc ++ [yd]) else vStuck) s5 = .ok (ys, s2) := er
                  by_cases hc : acc.length < 16777216
                  · rw [if_pos hc] at er
                    unfold vb vWipe at er
                    by_cases fl5 : ix.all (fun j => flatS s5[j]?) = true
                    · rw [if_pos fl5] at er
                      refine ⟨ws, hD5, cap_lt R.length hc, ?_⟩
                      -- the new list grows
                      have R5 := U.rpl R
                      have avD : ∀ {s : VS} {τ : L2.St}, Av (O.with D) s τ D := fun {_ _} => .inl (.inr rfl)
                      have grow : ∀ a o, H5 a = some o → NTb o → ¬ Av (O.with D) s5 σ3 a → upd H5 D (.lst (ws ++ [y])) a = some o := fun a o e _ n => by rw [upd_ne fun z => n (by rw [z]; exact avD)]; exact e
                      have FG : FR Tb X.K (O.with D) s5 σ3 (upd H5 D (.lst (ws ++ [y]))) := by
                        refine ⟨T5.fr.len, fun j sv hj => ?_, T5.fr.inj, T5.fr.avoid, fun p hp z => ?_, tabs_upd T5.fr.tabs fun u e => .inl ⟨ws, by rw [hH4 U] at e; exact (Option.some.inj e).symm⟩⟩
                        · obtain ⟨v, ev, sl⟩ := T5.fr.slot j sv hj
                          refine ⟨v, ev, ?_⟩
                          have own1 : ∀ p c, OwnAt s5 σ3 j p → Cont X.K (Av (O.with D) s5 σ3) H5 p c → Cont X.K (Av (O.with D) s5 σ3) (upd H5 D (.lst (ws ++ [y]))) p c := fun p c hp C =>
                            C.mono (fun _ z => .inl z) grow (upd_ne fun z => T5.fr.avoid p ⟨j, hp⟩ (.inr z))
                          cases sv with
                          | un => trivial
                          | d x => obtain ⟨w, ew, R⟩ := sl; exact ⟨w, ew, Rp.mono (fun _ z => .inl z) grow _ _ R⟩
                          | own c => obtain ⟨p, ep, C⟩ := sl; subst ep; exact ⟨p, rfl, own1 p c ⟨ev, c, .inl hj⟩ C⟩
                          | io c => obtain ⟨p, ep, C⟩ := sl; subst ep; exact ⟨p, rfl, own1 p c ⟨ev, c, .inr (.inl hj)⟩ C⟩
                          | lk c => obtain ⟨p, ep, C⟩ := sl; subst ep; exact ⟨p, rfl, own1 p c ⟨ev, c, .inr (.inr hj)⟩ C⟩
                          | rd xs => obtain ⟨a, vs, ep, R, Rl⟩ := sl; exact ⟨a, vs, ep, R.mono (fun _ z => .inl z) grow, RpL.mono (fun _ z => .inl z) grow _ _ Rl⟩
                        · by_cases e : p = D
                          · rw [e, upd_same] at z; cases z
                          · rw [upd_ne e] at z; exact T5.fr.odom p hp z
                      have T6 : Step Tb X.K (O.with D) (wipeV ix s1) (wipe σ ix) H1 s5 σ3 (upd H5 D (.lst (ws ++ [y]))) :=
                        ⟨FG, fun a o e t n => by rw [upd_ne (ne_of_none e hD)]; exact T5.keep a o e t n, T5.new, T5.mnew, fun a z => by
                          by_cases e : a = D
                          · rw [e]; exact hD
                          · rw [upd_ne e] at z; exact T5.dom a z, T5.len, T5.io, T5.lk⟩
                      have R6 : RpL X.K (Av (O.with D) s5 σ3) (upd H5 D (.lst (ws ++ [y]))) (acc ++ [yd]) (ws ++ [y]) := RpL.mono (fun _ z => .inl z) grow _ _ (R5.append (.one Ry))
                      refine ⟨by omega, acc ++ [yd], wipeV ix s5, ws ++ [y], Step.wipe T6 ew fl5, ?_, upd_same, ?_, ys, s2, by rw [er']; exact er, fin⟩
                      · refine List.all_eq_true.mpr fun j hj => ?_
                        cases e : (wipeV ix s5)[j]? with
                        | none => rfl
                        | some sv => rw [(wipeV_get j ix s5).2 hj sv e]; rfl
                      · rw [← ew]
                        exact R6.sub fun a z => z.imp id fun ⟨j, z⟩ => ⟨j, (own_wipe fl5 j a).mp z⟩
                    · rw [if_neg fl5] at er; cases er
                  · rw [if_neg hc] at er; cases er
  · rw [if_neg fl] at q; exact q.elim
/-- [elt for target in iter if ..] -/
theorem ve_lc {k : Nat} (c : VC X W k) (hi : VI Tb X W tg iter fi) (ok : BlkOk X.N X.env.scope scope own)
    (hg : ∀ (s : Shared) (H : Hp) (C : Addr) (cl : List (Str × Addr)) (fp : List Addr), VGD Tb (X.blk s H scope (compEnvC scope cl C X.env) fp) (own.map (·.2)) tg f)
    (ht : ∀ (s : Shared) (H : Hp) (C : Addr) (cl : List (Str × Addr)) (fp : List Addr), VC (X.blk s H scope (compEnvC scope cl C X.env) fp) W0 k → VTs Tb (X.blk s H scope (compEnvC scope cl C X.env) fp) W0 ifs tt)
    (he : ∀ (s : Shared) (H : Hp) (C : Addr) (cl : List (Str × Addr)) (fp : List Addr), VC (X.blk s H scope (compEnvC scope cl C X.env) fp) W0 k → VE Tb (X.blk s H scope (compEnvC scope cl C X.env) fp) W0 elt te) (hs : ∀ x, foldedSetIterable iter X.env x = pure x := by intro _; rfl) :
    VE Tb X W (.ListComp elt [⟨tg, iter, ifs, 0⟩] scope pos) (vLc (own.map (·.2)) fi f tt te) := by
  have cb : ∀ (s : Shared) (H : Hp) (C : Addr) (cl : List (Str × Addr)) (fp : List Addr), VC (X.blk s H scope (compEnvC scope cl C X.env) fp) W0 k := fun s H C cl fp => ⟨c.calm, c.nd, takes0, c.rm⟩
  exact PE.wk (pe_lc c.calm c.nd hi ok hg (fun s H C cl fp => ht s H C cl fp (cb s H C cl fp)) (fun s H C cl fp => he s H C cl fp (cb s H C cl fp)) hs) fun σ H Q h => lc_wk h
end
end VL
set_option Elab.async false
set_option linter.all false
set_option maxRecDepth 100000
namespace VL
open PySem PySem.Spec PyProof.Rows L2
/-! ### enumerate, zip, reversed of lists and tuples -/
def Sq (k : Bool) (K : PySem.W.Frag) (H : Hp) (a : Addr) (xs : List V) : Prop := if k = true then SqL K H a xs else SqT K H a xs
def ItAt (k : Bool) (h : Heap) (it a : Addr) (i : Nat) : Prop := if k = true then h.IsListIter it a i else h.IsTupleIter it a i
def SqH (k : Bool) (h : Heap) (a : Addr) (items : Array Value) : Prop := if k = true then h.IsList a items else h.IsTuple a items
def itObj (k : Bool) (a : Addr) : Obj := if k = true then { cls := .type "list_iterator", data := .fields #[.ref a, .int 0 0] } else { cls := .type "tuple_iterator", data := .fields #[.ref a, .int 0 0] }
theorem sq_draws {prog : Program} {w : World} {A : Around} (hh : A.handled = none) (k : Bool) (it a : Addr) (hne : a ≠ it) (items : Array Value) :
    Draws prog w A it [it, a] items.size (fun i v => items[i]? = some v) (fun i h => ItAt k h it a i ∧ SqH k h a items) := by
  cases k with
  | true => exact Draws.list hh it a hne items
  | false => exact Draws.tuple hh it a hne items
theorem sq_begins (k : Bool) (a : Addr) (items : Array Value) : Begins (.ref a) (itObj k a) (fun h => SqH k h a items) := by
  cases k with
  | true => exact begins_list a items
  | false => exact begins_tuple a items
theorem itAt_new {k : Bool} {h : Heap} {it a : Addr} (e : h.get? it = some (itObj k a)) : ItAt k h it a 0 := by
  cases k with
  | true => exact ⟨_, e, rfl, rfl⟩
  | false => exact ⟨_, e, rfl, rfl⟩
theorem ItAt.obj {k : Bool} {h : Heap} {it a : Addr} {i : Nat} (e : ItAt k h it a i) : ∃ o, h.get? it = some o ∧ ∀ v, o.data ≠ .cell v := by
  cases k with
  | true => obtain ⟨o, e, c, d⟩ := (show h.IsListIter it a i from e); exact ⟨o, e, fun v z => by rw [d] at z; cases z⟩
  | false => obtain ⟨o, e, c, d⟩ := (show h.IsTupleIter it a i from e); exact ⟨o, e, fun v z => by rw [d] at z; cases z⟩
theorem ItAt.at {k : Bool} {h h' : Heap} {it a : Addr} {i : Nat} (e : ItAt k h it a i) (q : ∀ o, h.get? it = some o → h'.get? it = some o) : ItAt k h' it a i := by
  cases k with
  | true => exact (show h.IsListIter it a i from e).at q
  | false => exact (show h.IsTupleIter it a i from e).at q
section
variable {X : Cx} {pins : List (Addr × Obj)} {σ : L2.St} {H : Hp} {s : Shared}
theorem Inv.sq {k : Bool} {a : Addr} {xs : List V} (I : Inv X pins σ H s) (h : Sq k X.K H a xs) : ∃ its : List Value, Vals xs its ∧ SqH k s.heap a its.toArray ∧ a < s.heap.objs.size := by
  cases k with
  | true => obtain ⟨its, r, p, _⟩ := I.list h; exact ⟨its, r, p.isList, p.lt⟩
  | false => obtain ⟨its, r, p, _⟩ := I.tuple h; exact ⟨its, r, p, by obtain ⟨o, e, _⟩ := id p; exact Heap.lt_size e⟩
theorem Inv.sq_inj {k : Bool} {a : Addr} {xs ys : List V} (I : Inv X pins σ H s) (h : Sq k X.K H a xs) (h' : Sq k X.K H a ys) : xs = ys := by
  cases k with
  | true => exact I.list_inj h h'
  | false => exact I.tuple_inj h h'
end
/-- each item with its count in a new pair -/
def ItE (K : PySem.W.Frag) (k : Bool) (a : Addr) (c : Int) (n : Nat) : It :=
  ⟨fun i H => i < n ∧ ∃ (xs : List V) (x : V), Sq k K H a xs ∧ xs[i]? = some x, fun i H v H' => ∃ T x, v = .ref T ∧ H T = none ∧ H' = upd H T (.tup [.int (c + (i : Int)), x]) ∧ ∀ xs, Sq k K H a xs → xs[i]? = some x, fun i H => n ≤ i ∧ ∃ xs : List V, Sq k K H a xs ∧ xs.length = n⟩
theorem turn_enumS {P : Program} {w : World} {K : PySem.W.Frag} {elts : List Expr} {kk : Nat} {tpos : Pos} (k : Bool) (a e it : Addr) (c : Int) (n : Nat) (hae : a ≠ e) (hai : a ≠ it) (hne : e ≠ it) :
    Turn P w K (.Tuple elts kk tpos) (ItE K k a c n) [e, it] e (fun i h => i ≤ n ∧ (∃ old, IsEnum h e it (c + ((i : Nat) : Int)) old) ∧ ItAt k h it a i) where
  mem := by simp
  obj := fun i h st b hb => by
    obtain ⟨_, ⟨old, he⟩, hi⟩ := st
    have e' : b = e ∨ b = it := by simpa using hb
    rcases e' with z | z
    · rw [z]; exact ⟨_, he, fun v q => nomatch q⟩
    · rw [z]; exact hi.obj
  keep := fun i h h' st k => let ⟨hn, ⟨old, he⟩, hi⟩ := st; ⟨hn, ⟨old, k e (by simp) _ he⟩, hi.at fun o q => k it (by simp) o q⟩
  item := by
    intro X hP hw hK hc i pins s σ H E I hf st hg
    subst hP hw hK
    obtain ⟨hin, ⟨old, he⟩, hit⟩ := st
    obtain ⟨hlt', xs, x, hq, hx⟩ := hg
    obtain ⟨its, rv, p, _⟩ := Inv.sq I hq
    obtain ⟨u, hu, ru⟩ := rv.get hx
    have hel : e < s.heap.objs.size := Heap.lt_size he
    have hil : it < s.heap.objs.size := by obtain ⟨_, q, _⟩ := hit.obj; exact Heap.lt_size q
    have hlt : i < its.toArray.size := by
      have := List.getElem?_eq_some_iff.mp hu
      simpa using this.1
    refine wpAny_pyNext_enum_itemC (sq_draws (A := X.A.in1) (I.ok.hd hc) k it a hai its.toArray) he ⟨hit, p⟩ hlt hne (by simp [hne, Ne.symm hae]) fun y h' tk hy ho st' hT hsz hk => ?_
    have ey : y = u := by
      have : its.toArray[i]? = some u := by simpa using hu
      rw [this] at hy; exact (Option.some.inj hy).symm
    subst ey
    refine ⟨_, rfl, wpAny_letOwnedTupleGo_enum (s := { s with heap := h', toks := tk + 1 }) ho fun h'' he' sb => ?_⟩
    have hT2 : h''.get? s.heap.objs.size = some { cls := .type "tuple", data := .seq #[.int (c + (i : Nat)) tk, y] } := (sb.2 _ (Nat.ne_of_gt hel)).trans hT
    have new : ObjOk X.prog X.w (upd H s.heap.objs.size (.tup [.int (c + (i : Nat)), x])) h'' s.heap.objs.size (.tup [.int (c + (i : Nat)), x]) :=
      ⟨by show 2 ≤ sizeLine; decide, [.int (c + (i : Nat)) tk, y], .cons ⟨_, rfl⟩ (.cons ru .nil), ⟨_, hT2, rfl, _, rfl⟩⟩
    have I1 : Inv X pins σ (upd H s.heap.objs.size (.tup [.int (c + (i : Nat)), x])) { s with heap := h'', toks := tk + 1 } :=
      I.turnedNew (ch := [e, it]) (fun b ob hb q => (sb.2 b (fun z => hb (by simp [z]))).trans (hk b ob (fun z => hb (by simp [z])) (fun z => hb (by simp [z])) q)) hf (Nat.le_refl _) new
    refine ⟨.ref s.heap.objs.size, _, I1, rfl, ⟨_, x, rfl, I.hok.fresh (Nat.le_refl _), rfl, fun ys hy => by rw [Inv.sq_inj I hy hq]; exact hx⟩, ⟨hlt', ⟨y, ?_⟩, st'.1.at fun o q => (sb.2 it (Ne.symm hne)).trans q⟩, fun b hb => ?_⟩
    · have e1 : c + ((i + 1 : Nat) : Int) = c + (i : Int) + 1 := by omega
      rw [e1]; exact he'
    · have hb' : b < s.heap.objs.size := by
        have e' : b = e ∨ b = it := by simpa using hb
        rcases e' with z | z
        · rw [z]; exact hel
        · rw [z]; exact hil
      rw [upd_ne (Nat.ne_of_lt hb')]
      exact (hf b hb).1
  done := by
    intro X hP hw hK hc i pins s σ H E I hf st hg
    subst hP hw hK
    obtain ⟨hin, ⟨old, he⟩, hit⟩ := st
    obtain ⟨hge, xs, hq, hx⟩ := hg
    obtain ⟨its, rv, p, _⟩ := Inv.sq I hq
    have hl := rv.length
    have hi : i = its.toArray.size := by rw [List.size_toArray, ← hl, hx]; exact Nat.le_antisymm hin hge
    subst hi
    refine wpAny_pyNext_enum_endD (sq_draws (A := X.A.in1) (I.ok.hd hc) k it a hai its.toArray) he ⟨hit, p⟩ fun h' hx => ⟨rfl, I.turnedL (t' := s.toks) (ch := [e, it]) (fun b o hb q => hx b o (fun z => hb (by simp [z])) q) hf⟩
  self := fun A i s Q E st h => let ⟨_, ⟨_, he⟩, _⟩ := st; wpAny_pyIter_enum he h
set_option maxHeartbeats 1000000 in
theorem meets_enum1 {v : Value} {o : Obj} {H : Heap → Prop} (B : Begins v o H) :
    Meets (Builtin.«enumerate.__new__» ⟨[.type "enumerate", v], []⟩) (fun _ R s => H s.heap ∧
      R (.ok (.ret (.ref (s.heap.push o).objs.size))) { s with heap := (s.heap.push o).push { cls := .type "enumerate", data := .fields #[.none, .bool false, .ref s.heap.objs.size, rawInt 0, .none, .none] } }) :=
  .of_wp fun prog w A R s h => by
    obtain ⟨hp, g, d, tk, os⟩ := s; obtain ⟨h1, h⟩ := h
    have hsub := sub_enumerate
    have q1 : ∀ {A' : Around} {E : Value → Shared → Prop} {Q : Value → Shared → Prop}, Q (.ref hp.objs.size) ⟨hp.push o, g, d, tk, os⟩ → wpAny (model prog w) A' (pyIter v) Q E ⟨hp, g, d, tk, os⟩ :=
      fun q => B.iter prog w _ _ ⟨hp, g, d, tk, os⟩ _ h1 q
    wp_walk using q1
    refine wpAny_stack_any fun st => wpAny_pure ?_
    split
    · rename_i c _ _ _ _ _
      cases (c == Value.type "enumerate")
      · wp_walk using q1
        exact ⟨_, rfl, h⟩
      · wp_walk using q1
        exact ⟨_, rfl, h⟩
    · wp_walk using q1
      exact ⟨_, rfl, h⟩
theorem call_enumS1 {prog : Program} {w : World} {A : Around} {E : Value → Shared → Prop} {s : Shared} {k : Bool} {a : Addr} {items : Array Value} {Q : Value → Shared → Prop} (p : SqH k s.heap a items)
    (h : ∀ h', IsEnum h' (s.heap.objs.size + 1) s.heap.objs.size 0 .none → h'.get? s.heap.objs.size = some (itObj k a) → h'.objs.size = s.heap.objs.size + 2 →
      (∀ b o, s.heap.get? b = some o → h'.get? b = some o) → Q (.ref (s.heap.objs.size + 1)) { s with heap := h' }) : wpAny (model prog w) A (call (.type "enumerate") [.ref a]) Q E s := by
  have B := sq_begins k a items
  refine callType_new F.called_enumerate (by decide) (F.typeCall_enumerate_1 _) (F.newCall_enumerate_1 _) (fun obj => F.args_object_init_2 obj _) F.entry_enumerate_new
    (meets_enum1 B) ⟨p, ?_⟩
  generalize itObj k a = o at h B
  have hz : (s.heap.push o).objs.size = s.heap.objs.size + 1 := Heap.size_push ..
  show _ ∧ _
  rw [hz]
  have he : IsEnum ((s.heap.push o).push { cls := .type "enumerate", data := .fields #[.none, .bool false, .ref s.heap.objs.size, rawInt 0, .none, .none] }) (s.heap.objs.size + 1) s.heap.objs.size 0 .none := by
    have := Heap.get?_push_size (s.heap.push o) (o := { cls := .type "enumerate", data := .fields #[.none, .bool false, .ref s.heap.objs.size, rawInt 0, .none, .none] }) rfl
    rw [hz] at this; exact this
  exact ⟨⟨_, he, rfl⟩, h _ he (Heap.get?_push_of_some _ (Heap.get?_push_size _ B.free)) (by rw [Heap.size_push, hz]) fun b o x => Heap.get?_push_of_some _ (Heap.get?_push_of_some _ x)⟩
/-- enumerate(xs) -/
def iEnumS (K : PySem.W.Frag) (ta : TA) : TI := fun σ H R => ta σ H fun vs H1 => ∃ k a xs, vs = [.ref a] ∧ Sq k K H1 a xs ∧ R (ItE K k a 0 xs.length) H1
theorem pi_enumS {X : Cx} {e : Expr} {ta : TA} {p pos tpos : Pos} {elts : List Expr} {kk : Nat} (hg : Gl X "enumerate") (hm : X.mg "enumerate" = none) (ha : PA X [e] ta) (hs : starEach [e] X.env = [(false, eval e X.env)] := by rfl) :
    PI X (.Tuple elts kk tpos) (.Call (.Name "enumerate" p) [e] [] pos) (iEnumS X.K ta) := by
  refine ⟨fun pins s σ H R I h => ?_⟩
  refine Call_ (ld_blt I hg hm boot_enumerate (PyProof.Rows.callWith_type1 (thn (ha.run pos pins s σ H _ I h) fun us s1 ⟨vs, H1, I1, r1, q1⟩ => ?_) hs rfl))
  obtain ⟨k, a, xs, ex, hq, q⟩ := q1
  subst ex
  cases r1 with
  | cons r rr =>
    cases rr
    cases r
    obtain ⟨its, rv, p', hlt⟩ := Inv.sq I1 hq
    refine call_enumS1 p' fun h' he hit hsz hk => wpAny_pyIter_enum he ?_
    have I2 : Inv X pins σ H1 { s1 with heap := h' } := I1.kept (t' := s1.toks) hk
    refine ⟨s1.heap.objs.size + 1, [s1.heap.objs.size + 1, s1.heap.objs.size], _, _, H1, rfl, I2, turn_enumS k a (s1.heap.objs.size + 1) s1.heap.objs.size 0 xs.length (Nat.ne_of_lt (Nat.lt_succ_of_lt hlt)) (Nat.ne_of_lt hlt) (Nat.succ_ne_self _), ⟨Nat.zero_le _, ⟨.none, he⟩, itAt_new hit⟩, fun b hb => ?_, q⟩
    have e' : b = s1.heap.objs.size + 1 ∨ b = s1.heap.objs.size := by simpa using hb
    have hle : s1.heap.objs.size ≤ b := by
      rcases e' with z | z
      · rw [z]; exact Nat.le_add_right _ _
      · rw [z]; exact Nat.le_refl _
    exact I1.fpOk hle (I1.hok.fresh hle)
/-- pairs of the items of two -/
def ItZ (K : PySem.W.Frag) (k : Bool) (a : Addr) (k2 : Bool) (b : Addr) (n : Nat) : It :=
  ⟨fun i H => i < n ∧ ∃ (xs ys : List V) (x y : V), Sq k K H a xs ∧ Sq k2 K H b ys ∧ xs[i]? = some x ∧ ys[i]? = some y,
    fun i H v H' => ∃ T x y, v = .ref T ∧ H T = none ∧ H' = upd H T (.tup [x, y]) ∧ (∀ xs, Sq k K H a xs → xs[i]? = some x) ∧ ∀ ys, Sq k2 K H b ys → ys[i]? = some y,
    fun i H => n ≤ i ∧ ∃ xs ys : List V, Sq k K H a xs ∧ Sq k2 K H b ys ∧ n = min xs.length ys.length⟩
theorem turn_zipS {P : Program} {w : World} {K : PySem.W.Frag} {elts : List Expr} {kk : Nat} {tpos : Pos} (k k2 : Bool) (n : Nat) {a b z TI TO i1 i2 : Addr} (D : ZipSep2 z TI TO i1 i2 [i1, a] [i2, b]) (ha : a ≠ i1) (hb : b ≠ i2) :
    Turn P w K (.Tuple elts kk tpos) (ItZ K k a k2 b n) [z, TI, TO, i1, i2] z (fun i h => i ≤ n ∧ IsZip h z TI TO .none ∧ IsTupOf2 h TI (.ref i1) (.ref i2) ∧ (∃ x y, IsTupOf2 h TO x y) ∧ ItAt k h i1 a i ∧ ItAt k2 h i2 b i) where
  mem := by simp
  obj := fun i h st c hc => by
    obtain ⟨hn, hz, hTI, ⟨x, y, hTO⟩, h1, h2⟩ := st
    have e' : c = z ∨ c = TI ∨ c = TO ∨ c = i1 ∨ c = i2 := by simpa using hc
    rcases e' with q | q | q | q | q
    · rw [q]; exact ⟨_, hz, fun v q => nomatch q⟩
    · rw [q]; exact ⟨_, hTI, fun v q => nomatch q⟩
    · rw [q]; exact ⟨_, hTO, fun v q => nomatch q⟩
    · rw [q]; exact h1.obj
    · rw [q]; exact h2.obj
  keep := fun i h h' st k => by
    obtain ⟨hn, hz, hTI, ⟨x, y, hTO⟩, h1, h2⟩ := st
    exact ⟨hn, k z (by simp) _ hz, k TI (by simp) _ hTI, ⟨x, y, k TO (by simp) _ hTO⟩, h1.at fun o q => k i1 (by simp) o q, h2.at fun o q => k i2 (by simp) o q⟩
  item := by
    intro X hP hw hK hc i pins s σ H E I hf st hg
    subst hP hw hK
    obtain ⟨hn, hz, hTI, ⟨x0, y0, hTO⟩, h1, h2⟩ := st
    obtain ⟨hlt', xs, ys, x, y, hqx, hqy, hx, hy⟩ := hg
    obtain ⟨its, rv, p, _⟩ := Inv.sq I hqx
    obtain ⟨its2, rv2, p2, _⟩ := Inv.sq I hqy
    obtain ⟨u, hu, ru⟩ := rv.get hx
    obtain ⟨u2, hu2, ru2⟩ := rv2.get hy
    have hzl : z < s.heap.objs.size := Heap.lt_size hz
    have l1 : i < its.toArray.size := by have := List.getElem?_eq_some_iff.mp hu; simpa using this.1
    have l2 : i < its2.toArray.size := by have := List.getElem?_eq_some_iff.mp hu2; simpa using this.1
    refine wpAny_pyNext_zipD2_item D (sq_draws (A := X.A.in1) (I.ok.hd hc) k i1 a ha its.toArray) (sq_draws (A := X.A.in1) (I.ok.hd hc) k2 i2 b hb its2.toArray) hz hTI hTO ⟨h1, p⟩ ⟨h2, p2⟩ l1 l2 fun w1 w2 h' tk e1 e2 z' TO' s1' s2' hT hsz hk => ?_
    have e1 : w1 = u := by
      have : its.toArray[i]? = some u := by simpa using hu
      rw [this] at e1; exact (Option.some.inj e1).symm
    have e2 : w2 = u2 := by
      have : its2.toArray[i]? = some u2 := by simpa using hu2
      rw [this] at e2; exact (Option.some.inj e2).symm
    subst e1 e2
    refine ⟨_, rfl, wpAny_letOwnedTupleGo_zip (s := { s with heap := h', toks := tk }) z' fun h'' z'' sb => ?_⟩
    have hT2 : h''.get? s.heap.objs.size = some { cls := .type "tuple", data := .seq #[w1, w2] } := (sb.2 _ (Nat.ne_of_gt hzl)).trans hT
    have new : ObjOk X.prog X.w (upd H s.heap.objs.size (.tup [x, y])) h'' s.heap.objs.size (.tup [x, y]) :=
      ⟨by show 2 ≤ sizeLine; decide, [w1, w2], .cons ru (.cons ru2 .nil), ⟨_, hT2, rfl, _, rfl⟩⟩
    have I1 : Inv X pins σ (upd H s.heap.objs.size (.tup [x, y])) { s with heap := h'', toks := tk } :=
      I.turnedNew (ch := [z, TI, TO, i1, i2]) (fun c o hb q => (sb.2 c (fun q' => hb (by simp [q']))).trans (hk c o (fun q' => hb (by simp [q'])) (fun q' => hb (by simp [q'])) (fun q' => hb (by simp [q'])) (fun q' => hb (by simp [q'])) q)) hf (Nat.le_refl _) new
    refine ⟨.ref s.heap.objs.size, _, I1, rfl, ⟨_, x, y, rfl, I.hok.fresh (Nat.le_refl _), rfl, fun l hl => by rw [Inv.sq_inj I hl hqx]; exact hx, fun l hl => by rw [Inv.sq_inj I hl hqy]; exact hy⟩, ⟨hlt', z'', ?_, ⟨w1, w2, ?_⟩, ?_, ?_⟩, fun c hcm => ?_⟩
    · exact (sb.2 _ D.TIz).trans (hk _ _ D.TIz D.TITO D.TIi1 D.TIi2 hTI)
    · exact (sb.2 _ D.TOz).trans TO'
    · exact s1'.1.at fun o q => (sb.2 _ D.zi1.symm).trans q
    · exact s2'.1.at fun o q => (sb.2 _ D.zi2.symm).trans q
    · have hlt : c < s.heap.objs.size := by
        have e' : c = z ∨ c = TI ∨ c = TO ∨ c = i1 ∨ c = i2 := by simpa using hcm
        rcases e' with q | q | q | q | q
        · rw [q]; exact hzl
        · rw [q]; exact Heap.lt_size hTI
        · rw [q]; exact Heap.lt_size hTO
        · rw [q]; obtain ⟨_, e1, _⟩ := h1.obj; exact Heap.lt_size e1
        · rw [q]; obtain ⟨_, e2, _⟩ := h2.obj; exact Heap.lt_size e2
      rw [upd_ne (Nat.ne_of_lt hlt)]
      exact (hf c hcm).1
  done := by
    intro X hP hw hK hc i pins s σ H E I hf st hg
    subst hP hw hK
    obtain ⟨hn, hz, hTI, ⟨x0, y0, hTO⟩, h1, h2⟩ := st
    obtain ⟨hge, xs, ys, hqx, hqy, hend⟩ := hg
    obtain ⟨its, rv, p, _⟩ := Inv.sq I hqx
    obtain ⟨its2, rv2, p2, _⟩ := Inv.sq I hqy
    have l1 := rv.length
    have l2 := rv2.length
    refine wpAny_pyNext_zipD2_end D (sq_draws (A := X.A.in1) (I.ok.hd hc) k i1 a ha its.toArray) (sq_draws (A := X.A.in1) (I.ok.hd hc) k2 i2 b hb its2.toArray) hz hTI hTO ⟨h1, p⟩ ⟨h2, p2⟩ (by simp; omega) (by simp; omega) (by simp; omega) fun h' tk hk => ⟨rfl, I.turnedL (t' := tk) (ch := [z, TI, TO, i1, i2]) (fun c o hb q =>
      hk c o (fun q' => hb (by simp [q'])) (fun q' => hb (by simp [q'])) (fun q' => hb (by simp [q'])) (fun q' => hb (by simp [q'])) q) hf⟩
  self := fun A i s Q E st h => wpAny_pyIter_zip st.2.1 h
theorem sep2_new (I a b : Nat) (h1 : a < I) (h2 : b < I) : ZipSep2 (I + 4) (I + 2) (I + 3) I (I + 1) [I, a] [I + 1, b] := by
  have n1 : ∀ j, ¬ (I + j = a) := fun j e => Nat.lt_irrefl _ (Nat.lt_of_le_of_lt (Nat.le_add_right I j) (by rw [e]; exact h1))
  have n2 : ∀ j, ¬ (I + j = b) := fun j e => Nat.lt_irrefl _ (Nat.lt_of_le_of_lt (Nat.le_add_right I j) (by rw [e]; exact h2))
  have q1 : ¬ (I = b) := n2 0
  constructor <;> simp <;> first
    | omega
    | exact n1 _
    | exact n2 _
    | (refine ⟨?_, ?_⟩ <;> first | exact n1 _ | exact n2 _ | exact q1 | omega)
def iZipS (K : PySem.W.Frag) (ta : TA) : TI := fun σ H R => ta σ H fun vs H1 => ∃ k a xs k2 b ys, vs = [.ref a, .ref b] ∧ Sq k K H1 a xs ∧ Sq k2 K H1 b ys ∧ R (ItZ K k a k2 b (min xs.length ys.length)) H1
theorem pi_zipS {X : Cx} {e e2 : Expr} {ta : TA} {p pos tpos : Pos} {elts : List Expr} {kk : Nat} (hg : Gl X "zip") (hm : X.mg "zip" = none) (ha : PA X [e, e2] ta)
    (hs : starEach [e, e2] X.env = (false, eval e X.env) :: starEach [e2] X.env := by rfl) (hpl : (backTo pos (starEach [e2] X.env)).any (·.1) = false := by rfl) :
    PI X (.Tuple elts kk tpos) (.Call (.Name "zip" p) [e, e2] [] pos) (iZipS X.K ta) := by
  refine ⟨fun pins s σ H R I h => ?_⟩
  refine Call_ (ld_blt I hg hm PyProof.Rows.boot_zip (PyProof.Rows.callWith_type1 (thn (ha.run pos pins s σ H _ I h) fun us s1 ⟨vs, H1, I1, r1, q1⟩ => ?_) hs hpl))
  obtain ⟨k, a, xs, k2, b, ys, ex, hqx, hqy, q⟩ := q1
  subst ex
  cases r1 with
  | cons r rr =>
    cases rr with
    | cons r' rr =>
      cases rr
      cases r
      cases r'
      have fresh5 : ∀ c, c ∈ [s1.heap.objs.size + 4, s1.heap.objs.size + 2, s1.heap.objs.size + 3, s1.heap.objs.size, s1.heap.objs.size + 1] → FpOk X pins H1 c := fun c hcm => by
        have e' : c = s1.heap.objs.size + 4 ∨ c = s1.heap.objs.size + 2 ∨ c = s1.heap.objs.size + 3 ∨ c = s1.heap.objs.size ∨ c = s1.heap.objs.size + 1 := by simpa using hcm
        have hle : s1.heap.objs.size ≤ c := by
          rcases e' with z | z | z | z | z
          · rw [z]; exact Nat.le_add_right _ _
          · rw [z]; exact Nat.le_add_right _ _
          · rw [z]; exact Nat.le_add_right _ _
          · rw [z]; exact Nat.le_refl _
          · rw [z]; exact Nat.le_add_right _ _
        exact I1.fpOk hle (I1.hok.fresh hle)
      obtain ⟨its, rv, p1, la⟩ := Inv.sq I1 hqx
      obtain ⟨its2, rv2, p2, lb⟩ := Inv.sq I1 hqy
      refine zip_begins2 (sq_begins k a its.toArray) (sq_begins k2 b its2.toArray) p1 p2 fun h' hz hTI hTO h1 h2 hsz hk => wpAny_pyIter_zip hz ?_
      have I2 : Inv X pins σ H1 { s1 with heap := h' } := I1.kept (t' := s1.toks) hk
      exact ⟨s1.heap.objs.size + 4, [s1.heap.objs.size + 4, s1.heap.objs.size + 2, s1.heap.objs.size + 3, s1.heap.objs.size, s1.heap.objs.size + 1], _, _, H1, rfl, I2, turn_zipS k k2 (min xs.length ys.length) (sep2_new s1.heap.objs.size a b la lb) (Nat.ne_of_lt la) (Nat.ne_of_lt (Nat.lt_succ_of_lt lb)), ⟨Nat.zero_le _, hz, hTI, ⟨_, _, hTO⟩, itAt_new h1, itAt_new h2⟩, fresh5, q⟩
/-! their readings -/
/-- a list or tuple that stands as long as the frame lives on -/
def Src (K : PySem.W.Frag) (O : AS) (s : VS) (σ : L2.St) (H : Hp) (k : Bool) (a : Addr) (xs : List Da) : Prop := ∀ O' s' σ' H', Pres K O s σ H O' s' σ' H' → ∃ vs, RpL K (Av O' s' σ') H' xs vs ∧ Sq k K H' a vs
theorem Src.of {K : PySem.W.Frag} {O : AS} {s : VS} {σ : L2.St} {H : Hp} {a : Addr} {xs : List Da} (h : SrcL K O s σ H a xs ∨ SrcT K O s σ H a xs) : ∃ k, Src K O s σ H k a xs := by
  rcases h with h | h
  · exact ⟨true, fun O' s' σ' H' P => h.get P⟩
  · refine ⟨false, fun O' s' σ' H' P => ?_⟩
    obtain ⟨a', vs, e, g, R⟩ := (P.rp _ _ h).tupT
    cases e
    exact ⟨vs, R, g⟩
theorem Rp.pair {K : PySem.W.Frag} {O : AS} {H : Hp} {T : Addr} {v w : V} {x y : Da} (hn : H T = none) (hav : ∀ a, O a → H a ≠ none) (h1 : Rp K O H x v) (h2 : Rp K O H y w) : Rp K O (upd H T (.tup [v, w])) (.tuple [x, y]) (.ref T) := by
  have k : Same H (upd H T (.tup [v, w])) := Same.upd hn
  simp only [Rp]
  refine ⟨T, [v, w], rfl, .inl ⟨upd_same, fun z => hav T z hn⟩, ?_⟩
  exact .cons (Rp.mono (fun _ h => .inl h) (fun a o e _ _ => k a o e) _ _ h1) (.one (Rp.mono (fun _ h => .inl h) (fun a o e _ _ => k a o e) _ _ h2))
def enumD (c : Int) : List Da → List Da
  | [] => []
  | x :: xs => .tuple [.int c, x] :: enumD (c + 1) xs
theorem enumD_len : ∀ (c : Int) (xs : List Da), (enumD c xs).length = xs.length
  | _, [] => rfl
  | c, x :: xs => by simp [enumD, enumD_len]
theorem enumD_get : ∀ {c : Int} {xs : List Da} {i : Nat} {y : Da}, (enumD c xs)[i]? = some y → ∃ x, xs[i]? = some x ∧ y = .tuple [.int (c + (i : Int)), x]
  | c, [], i, y, h => by simp [enumD] at h
  | c, x :: xs, 0, y, h => by simp [enumD] at h; exact ⟨x, rfl, by simp [h]⟩
  | c, x :: xs, i + 1, y, h => by
    obtain ⟨z, e1, e2⟩ := enumD_get (c := c + 1) (xs := xs) (i := i) (y := y) (by simpa [enumD] using h)
    refine ⟨z, by simpa using e1, ?_⟩
    rw [e2]
    have : c + 1 + (i : Int) = c + ((i + 1 : Nat) : Int) := by omega
    rw [this]
theorem Src.enum {K : PySem.W.Frag} {O : AS} {s : VS} {σ : L2.St} {H : Hp} {k : Bool} {a : Addr} {xs : List Da} (h : Src K O s σ H k a xs) {c : Int} {n : Nat} (hn : n = xs.length) : JV K O s σ H (ItE K k a c n) (enumD c xs) := fun O' s' σ' H' P => by
  obtain ⟨vs, R, g⟩ := h O' s' σ' H' P
  subst hn
  refine ⟨fun i y hy => ?_, fun i hi => ⟨by rw [enumD_len] at hi; exact hi, vs, g, R.length.symm⟩⟩
  obtain ⟨x, hx, rfl⟩ := enumD_get hy
  obtain ⟨w, hw, Rw⟩ := R.get hx
  have hlt : i < xs.length := (List.getElem?_eq_some_iff.mp hx).1
  refine ⟨⟨hlt, vs, w, g, hw⟩, fun v H2 hy => ?_⟩
  obtain ⟨T, u, rfl, hT, rfl, hy⟩ := hy
  have := hy vs g
  rw [hw] at this; cases this
  exact ⟨Same.upd hT, fun hav => Rp.pair hT hav (by simp only [Rp]) Rw⟩
def zipD : List Da → List Da → List Da
  | x :: xs, y :: ys => .tuple [x, y] :: zipD xs ys
  | _, _ => []
theorem zipD_len : ∀ (xs ys : List Da), (zipD xs ys).length = min xs.length ys.length
  | [], ys => by simp [zipD]
  | x :: xs, [] => by simp [zipD]
  | x :: xs, y :: ys => by simp [zipD, zipD_len]
theorem zipD_get : ∀ {xs ys : List Da} {i : Nat} {z : Da}, (zipD xs ys)[i]? = some z → ∃ x y, xs[i]? = some x ∧ ys[i]? = some y ∧ z = .tuple [x, y]
  | [], ys, i, z, h => by simp [zipD] at h
  | x :: xs, [], i, z, h => by simp [zipD] at h
  | x :: xs, y :: ys, 0, z, h => by simp [zipD] at h; exact ⟨x, y, rfl, rfl, h.symm⟩
  | x :: xs, y :: ys, i + 1, z, h => by
    obtain ⟨u, v, e1, e2, e3⟩ := zipD_get (xs := xs) (ys := ys) (i := i) (z := z) (by simpa [zipD] using h)
    exact ⟨u, v, by simpa using e1, by simpa using e2, e3⟩
theorem Src.zip {K : PySem.W.Frag} {O : AS} {s : VS} {σ : L2.St} {H : Hp} {k k2 : Bool} {a b : Addr} {xs ys : List Da} (h : Src K O s σ H k a xs) (h2 : Src K O s σ H k2 b ys) {n : Nat} (hn : n = min xs.length ys.length) : JV K O s σ H (ItZ K k a k2 b n) (zipD xs ys) := fun O' s' σ' H' P => by
  obtain ⟨vs, R, g⟩ := h O' s' σ' H' P
  obtain ⟨ws, R2, g2⟩ := h2 O' s' σ' H' P
  subst hn
  refine ⟨fun i y hy => ?_, fun i hi => ⟨by rw [zipD_len] at hi; exact hi, vs, ws, g, g2, by rw [R.length, R2.length]⟩⟩
  have hlt : i < min xs.length ys.length := by rw [← zipD_len]; exact (List.getElem?_eq_some_iff.mp hy).1
  obtain ⟨x, y', hx, hy', rfl⟩ := zipD_get hy
  obtain ⟨w, hw, Rw⟩ := R.get hx
  obtain ⟨w2, hw2, Rw2⟩ := R2.get hy'
  refine ⟨⟨hlt, vs, ws, w, w2, g, g2, hw, hw2⟩, fun v H2 hy => ?_⟩
  obtain ⟨T, u, u2, rfl, hT, rfl, hq, hq2⟩ := hy
  have e1 := hq vs g
  have e2 := hq2 ws g2
  rw [hw] at e1; cases e1
  rw [hw2] at e2; cases e2
  exact ⟨Same.upd hT, fun hav => Rp.pair hT hav Rw Rw2⟩
theorem Src.lks {K : PySem.W.Frag} {O : AS} {s s1 : VS} {σ : L2.St} {H : Hp} {k : Bool} {a : Addr} {xs : List Da} {L : Lks} (h : Src K O s σ H k a xs) (l : LkS L s s1) (F : FR Tb K O s σ H) : Src K O s1 σ H k a xs := by
  have av : ∀ x, Av O s1 σ x ↔ Av O s σ x := fun x => ⟨fun z => z.imp id fun ⟨j, z⟩ => ⟨j, (l.own F j x).mp z⟩, fun z => z.imp id fun ⟨j, z⟩ => ⟨j, (l.own F j x).mpr z⟩⟩
  refine fun O' s' σ' H' P => h O' s' σ' H' ⟨fun d v r => P.rp d v (r.sub fun x z => (av x).mp z), fun i c p hi e => P.lk i c p (l.lks.2.2 i c hi).1 e⟩
section
variable {X : Cx} {W : WX} {a b c e e2 o tg iter : Expr} {es ts : List Expr} {pos p tpos : Pos} {elts : List Expr} {kk : Nat} {fs : VM (List EV)}
def vItEnum (fs : VM (List EV)) : VM (List Da × Lks) := vb fs fun rs => match rs with
  | [r] => vb (vSrc r) fun q => vr (enumD 0 q.1, q.2)
  | _ => vStuck
theorem vi_enum (hm : X.mg "enumerate" = none) (ha : VA Tb X W [e] fs) (hg : Gl X "enumerate" := by rfl) (hs : starEach [e] X.env = [(false, eval e X.env)] := by rfl) :
    VI Tb X W (.Tuple elts kk tpos) (.Call (.Name "enumerate" p) [e] [] pos) (vItEnum fs) := by
  refine PI.wk (pi_enumS hg hm ha hs) fun σ H R h => ?_
  obtain ⟨O, st, F, h⟩ := h
  refine tVA.bind F h fun rs s1 vs H1 S1 E1 h => ?_
  match rs, vs, E1, h with
  | [r], [v], E1, h =>
    have E2 := E1.1
    rw [← E1.2.1] at E2
    have h := vrun_vb h
    cases q : vSrc r s1 with
    | error er => rw [q] at h; rw [vSrc_err q] at h; exact h.elim
    | ok p =>
      obtain ⟨⟨xs, L⟩, s2⟩ := p
      rw [q] at h
      obtain ⟨a, rfl, lk, src⟩ := vSrc_ok S1.fr E2 q
      obtain ⟨k, src⟩ := Src.of src
      obtain ⟨ws, R', g⟩ := src _ _ _ _ (Step.refl (lk.fr S1.fr)).pres
      exact ⟨k, a, ws, rfl, g, h _ H1 s1 S1 lk (src.enum R'.length.symm)⟩
  | [], _, _, h => exact h.elim
  | _ :: _ :: _, _, _, h => exact h.elim
  | [_], [], E1, _ => exact E1.elim
  | [_], _ :: _ :: _, E1, _ => exact E1.2.2.elim
def vItZip (fs : VM (List EV)) : VM (List Da × Lks) := vb fs fun rs => match rs with
  | [r, r2] => vb (vSrc r) fun q => vb (vSrc r2) fun q2 => vr (zipD q.1 q2.1, q.2 ++ q2.2)
  | _ => vStuck
theorem LkS.trans {L1 : Lks} {s s1 : VS} (h : LkS L1 s s1) : ∀ {L2 : Lks} {s2 : VS}, LkS L2 s1 s2 → LkS (L1 ++ L2) s s2 := by
  induction h with
  | nil => exact fun h => h
  | cons e l ih => exact fun h => .cons e (ih h)
theorem LkS.erd {K : PySem.W.Frag} {O : AS} {H0 H1 : Hp} {L : Lks} {s s1 : VS} {σ : L2.St} {H : Hp} {v : V} {r : EV} (l : LkS L s s1) (F : FR Tb K O s σ H) (E : ER Tb K O H0 s σ H v (settle r)) : ER Tb K O H1 s1 σ H v (settle r) := by
  have av : ∀ x, Av O s1 σ x → Av O s σ x := fun x z => z.imp id fun ⟨j, z⟩ => ⟨j, (l.own F j x).mp z⟩
  cases r with
  | d x => exact Rp.sub av E
  | own c => exact Rp.sub (d := c.data) av E
  | loan i => exact E
theorem vi_zip (hm : X.mg "zip" = none) (ha : VA Tb X W [e, e2] fs) (hg : Gl X "zip" := by rfl) (hs : starEach [e, e2] X.env = (false, eval e X.env) :: starEach [e2] X.env := by rfl) (hpl : (backTo pos (starEach [e2] X.env)).any (·.1) = false := by rfl) :
    VI Tb X W (.Tuple elts kk tpos) (.Call (.Name "zip" p) [e, e2] [] pos) (vItZip fs) := by
  refine PI.wk (pi_zipS hg hm ha hs hpl) fun σ H R h => ?_
  obtain ⟨O, st, F, h⟩ := h
  refine tVA.bind F h fun rs s1 vs H1 S1 E1 h => ?_
  match rs, vs, E1, h with
  | [r, r2], [v, v2], E1, h =>
    have E2 := E1.1
    rw [← E1.2.1] at E2
    have E3 := E1.2.2.1
    have h := vrun_vb h
    cases q : vSrc r s1 with
    | error er => rw [q] at h; rw [vSrc_err q] at h; exact h.elim
    | ok p =>
      obtain ⟨⟨xs, L⟩, s2⟩ := p
      rw [q] at h
      change VRun Tb X.K X.mg W O s1 σ H1 (vb (vSrc r2) (fun q2 => vr (zipD xs q2.1, L ++ q2.2)) s2) _ at h
      unfold vb at h
      obtain ⟨a, rfl, lk, src⟩ := vSrc_ok S1.fr E2 q
      obtain ⟨k, src⟩ := Src.of src
      have F2 := lk.fr S1.fr
      have E4 : ER Tb X.K O H s2 σ H1 v2 (settle r2) := lk.erd S1.fr E3
      rw [← E1.2.2.2.1] at E4
      cases q2 : vSrc r2 s2 with
      | error er => rw [q2] at h; rw [vSrc_err q2] at h; exact h.elim
      | ok p =>
        obtain ⟨⟨ys, L2⟩, s3⟩ := p
        rw [q2] at h
        obtain ⟨b, rfl, lk2, src2⟩ := vSrc_ok F2 E4 q2
        obtain ⟨k2, src2⟩ := Src.of src2
        have src := src.lks lk2 F2
        have F3 := lk2.fr F2
        obtain ⟨ws, R', g⟩ := src _ _ _ _ (Step.refl F3).pres
        obtain ⟨ws2, R2', g2⟩ := src2 _ _ _ _ (Step.refl F3).pres
        exact ⟨k, a, ws, k2, b, ws2, rfl, g, g2, h _ H1 s1 S1 (lk.trans lk2) (src.zip src2 (by rw [R'.length, R2'.length]))⟩
  | [], _, _, h => exact h.elim
  | [_], _, _, h => exact h.elim
  | _ :: _ :: _ :: _, _, _, h => exact h.elim
  | [_, _], [], E1, _ => exact E1.elim
  | [_, _], [_], E1, _ => exact E1.2.2.elim
  | [_, _], _ :: _ :: _ :: _, E1, _ => exact E1.2.2.2.2.elim
/-! reversed -/
theorem Src.revJ {K : PySem.W.Frag} {O : AS} {s : VS} {σ : L2.St} {H : Hp} {xs : List Da} {J : It} {k : Bool} {a : Addr} {n : Nat} (h : Src K O s σ H k a xs) (hn : n = xs.length)
    (g : ∀ i H, J.go i H ↔ (i < n ∧ ∃ (xs : List V) (x : V), Sq k K H a xs ∧ xs[n - 1 - i]? = some x)) (y : ∀ i H v H', J.yld i H v H' → H' = H ∧ ∀ xs, Sq k K H a xs → xs[n - 1 - i]? = some v) (t : ∀ i H, J.stop i H ↔ n ≤ i) : JV K O s σ H J xs.reverse := fun O' s' σ' H' P => by
  obtain ⟨vs, R, hq⟩ := h O' s' σ' H' P
  subst hn
  refine ⟨fun i x hx => ?_, fun i hi => (t i H').mpr (by rw [List.length_reverse] at hi; exact hi)⟩
  have hlt : i < xs.length := by have := (List.getElem?_eq_some_iff.mp hx).1; rwa [List.length_reverse] at this
  rw [List.getElem?_reverse hlt] at hx
  obtain ⟨w, hw, Rw⟩ := R.get hx
  refine ⟨(g i H').mpr ⟨hlt, vs, w, hq, hw⟩, fun v H2 hy => ?_⟩
  obtain ⟨e, hy⟩ := y i H' v H2 hy
  subst e
  have := hy vs hq
  rw [hw] at this; cases this
  exact ⟨Same.refl _, fun _ => Rw⟩
def vItRev (fe : VM EV) : VM (List Da × Lks) := vb fe fun r => vb (vSrc r) fun q => vr (q.1.reverse, q.2)
theorem vi_rev {fe : VM EV} (hm : X.mg "reversed" = none) (he : VE Tb X W e fe) (hg : Gl X "reversed" := by rfl) (hs : starEach [e] X.env = (false, eval e X.env) :: starEach [] X.env := by rfl) : VI Tb X W tg (.Call (.Name "reversed" p) [e] [] pos) (vItRev fe) := by
  refine PI.wk (RT.pi_revA hg hm he hs) fun σ H R h => ?_
  obtain ⟨O, st, F, h⟩ := h
  refine tV.bind F h fun r s1 v H1 S1 E1 h => ?_
  have h := vrun_vb h
  cases q : vSrc r s1 with
  | error er => rw [q] at h; rw [vSrc_err q] at h; exact h.elim
  | ok p =>
    obtain ⟨⟨xs, L⟩, s2⟩ := p
    rw [q] at h
    obtain ⟨a, rfl, lk, src⟩ := vSrc_ok S1.fr E1 q
    obtain ⟨k, src⟩ := Src.of src
    obtain ⟨ws, R', g⟩ := src _ _ _ _ (Step.refl (lk.fr S1.fr)).pres
    refine ⟨a, ws, rfl, ?_⟩
    cases k with
    | true => exact .inl ⟨g, h _ H1 s1 S1 lk (src.revJ R'.length.symm (fun i H => Iff.rfl) (fun i H v H' h => h) fun i H => Iff.rfl)⟩
    | false => exact .inr ⟨g, h _ H1 s1 S1 lk (src.revJ R'.length.symm (fun i H => Iff.rfl) (fun i H v H' h => h) fun i H => Iff.rfl)⟩
end
end VL
set_option Elab.async false
set_option linter.all false
set_option maxRecDepth 100000
namespace VL
open PySem PySem.Spec PyProof.Rows L2
section
variable {X : Cx} {W : WX} {a b c e : Expr} {es : List Expr} {pos p : Pos} {fa fb fe : VM EV} {fs : VM (List EV)} {s : Stmt}
/-! ### what is not reached -/
theorem vs_stuck : VSt Tb X W s vStuck := ⟨fun pins s σ H D I q => by obtain ⟨O, st, F, h⟩ := q; exact h.elim⟩
theorem ve_stuck : VE Tb X W e vStuck := ⟨fun pins s σ H Q I q => by obtain ⟨O, st, F, h⟩ := q; exact h.elim⟩
theorem vt_stuck : VT Tb X W e vStuck := ⟨fun pins s σ H Q I q => by obtain ⟨O, st, F, h⟩ := q; exact h.elim⟩
/-! ### order of ints; in -/
def ordI (pi : Int → Int → Bool) : Da → Da → Option EV
  | .int i, .int j => some (.d (.bool (pi i j)))
  | _, _ => none
theorem o_ordI {f : Value → Value → Sem Value} {pi : Int → Int → Bool} (h1 : OpR X f (rI0 fun i j => .bl (pi i j))) : Op2 X f (ordI pi) := by
  refine ⟨_, h1, fun O H x y v w z Q hd hx hy e q => ?_⟩
  cases x with
  | int i =>
    cases y with
    | int j =>
      cases e
      obtain rfl := hx.int
      obtain rfl := hy.int
      exact ⟨i, j, rfl, rfl, q _ H (Same.refl H) (by show Rp _ _ _ _ _; simp only [Rp])⟩
    | _ => cases e
  | _ => cases y <;> cases e
def leD : Da → Da → Option EV := ordI fun i j => decide (i ≤ j)
def gtD : Da → Da → Option EV := ordI fun i j => decide (j < i)
def geD : Da → Da → Option EV := ordI fun i j => decide (j ≤ i)
theorem o_le : Op2 X (compareOp .LtE) leD := o_ordI op_le
theorem o_gt : Op2 X (compareOp .Gt) gtD := o_ordI op_gt
theorem o_ge : Op2 X (compareOp .GtE) geD := o_ordI op_ge
def inB (x : Da) (xs : List Da) : Bool := xs.any fun z => PyData.eqv z x
def inD' (neg : Bool) (x y : Da) : Option EV := (seqD y).bind fun xs => if SeqAt.shaped x = true ∧ SeqAt.shaped (.list xs) = true then some (.d (.bool (if neg = true then !inB x xs else inB x xs))) else none
def inD : Da → Da → Option EV := inD' false
def notinD : Da → Da → Option EV := inD' true
def rInA (K : PySem.W.Frag) (neg : Bool) : R2 := fun x y H Q => ∃ d ds, Dp K H x d ∧ (Dp K H y (.list ds) ∨ Dp K H y (.tuple ds)) ∧ SeqAt.shaped d = true ∧ SeqAt.shaped (.list ds) = true ∧ Q (.bl (if neg = true then !inB d ds else inB d ds)) H
theorem op_inA (hu : X.A.units + 65 < cLine) : OpR X (compareOp .In) (rInA X.K false) := by
  intro pins s σ H x y v u Q I rx ry h
  obtain ⟨d, ds, hd, he, sd, se, q⟩ := h
  obtain ⟨as, r1⟩ := Dp.reads I d x v hd rx
  rcases he with he | he
  · obtain ⟨bs, r2⟩ := Dp.reads I (.list ds) y u he ry
    exact SeqAt.in_list_reads r2 r1 (SeqAt.canLay_of_shaped se) (SeqAt.canLay_of_shaped sd) (room_in_shaped sd hu) ⟨.bl _, H, I, rfl, q⟩
  · obtain ⟨bs, r2⟩ := Dp.reads I (.tuple ds) y u he ry
    exact SeqAt.in_tuple_reads r2 r1 (SeqAt.canLay_of_shaped se) (SeqAt.canLay_of_shaped sd) (room_in_shaped sd hu) ⟨.bl _, H, I, rfl, q⟩
theorem op_notinA (hu : X.A.units + 65 < cLine) : OpR X (compareOp .NotIn) (rInA X.K true) := by
  intro pins s σ H x y v u Q I rx ry h
  obtain ⟨d, ds, hd, he, sd, se, q⟩ := h
  obtain ⟨as, r1⟩ := Dp.reads I d x v hd rx
  rcases he with he | he
  · obtain ⟨bs, r2⟩ := Dp.reads I (.list ds) y u he ry
    exact SeqAt.notIn_list_reads r2 r1 (SeqAt.canLay_of_shaped se) (SeqAt.canLay_of_shaped sd) (room_in_shaped sd hu) ⟨.bl _, H, I, rfl, q⟩
  · obtain ⟨bs, r2⟩ := Dp.reads I (.tuple ds) y u he ry
    exact SeqAt.notIn_tuple_reads r2 r1 (SeqAt.canLay_of_shaped se) (SeqAt.canLay_of_shaped sd) (room_in_shaped sd hu) ⟨.bl _, H, I, rfl, q⟩
theorem o_inA {f : Value → Value → Sem Value} {neg : Bool} (h : OpR X f (rInA X.K neg)) : Op2 X f (inD' neg) := by
  refine ⟨_, h, fun O H x y v w z Q hd hx hy e q => ?_⟩
  obtain ⟨xs, e1, e⟩ := Option.bind_eq_some_iff.mp e
  split at e
  · rename_i hc
    cases e
    have cl := SeqAt.canLay_of_shaped hc.2
    refine ⟨x, xs, hx.dp (SeqAt.canLay_of_shaped hc.1), ?_, hc.1, hc.2, q _ H (Same.refl H) (by show Rp _ _ _ _ _; simp only [Rp])⟩
    cases y with
    | list ys => cases e1; exact .inl (hy.dp cl)
    | tuple ys => cases e1; exact .inr (hy.dp cl)
    | _ => cases e1
  · cases e
theorem VC.hu65 {k : Nat} (c : VC X W k) : X.A.units + 65 < cLine := by have := c.rm.un; omega
theorem o_in {k : Nat} (c : VC X W k) : Op2 X (compareOp .In) inD := o_inA (op_inA c.hu65)
theorem o_notin {k : Nat} (c : VC X W k) : Op2 X (compareOp .NotIn) notinD := o_inA (op_notinA c.hu65)
/-! ### built-ins -/
theorem RoL.none {K : PySem.W.Frag} {O : AS} {H : Hp} {vs : List V} (h : RoL K O H [] vs) : vs = [] := by simpa only [RoL] using h
theorem CallR.or {f : Value} {r r' : List V → Hp → VK → Prop} (h : CallR X f r) (h' : CallR X f r') : CallR X f (fun xs H Q => r xs H Q ∨ r' xs H Q) := by
  intro pins s σ H xs us Q I rx q
  rcases q with q | q
  · exact h pins s σ H xs us Q I rx q
  · exact h' pins s σ H xs us Q I rx q
theorem RpD.length {K : PySem.W.Frag} {O : AS} {H : Hp} : ∀ {ds : List (Da × Da)} {ks : List (Key × V)}, RpD K O H ds ks → ds.length = ks.length
  | [], ks, h => by simp only [RpD] at h; subst h; rfl
  | (k, d) :: r, ks, h => by
    simp only [RpD] at h
    obtain ⟨_, _, _, rfl, _, _, q⟩ := h
    rw [List.length_cons, List.length_cons, RpD.length q]
def lenD : List Da → Option EV
  | [.list xs] => some (.d (.int xs.length))
  | [.tuple xs] => some (.d (.int xs.length))
  | [.str s] => if s.length ≤ 16777216 then some (.d (.int s.length)) else none
  | [.dict kvs] => some (.d (.int kvs.length))
  | _ => none
theorem c_len : CallV X (.builtin "len") lenD := by
  refine ⟨_, CallR.or call_len call_lenD, fun O H xs vs z Q hd R e q => ?_⟩
  match xs, e, R with
  | [.list xs], e, R =>
    cases e; obtain ⟨v, rfl, r⟩ := R.one; obtain ⟨a, vs, rfl, h, r⟩ := r.list
    exact .inl ⟨_, _, rfl, .inl ⟨vs, .of h, r.length⟩, q _ H (Same.refl H) (by show Rp _ _ _ _ _; simp only [Rp])⟩
  | [.tuple xs], e, R =>
    cases e; obtain ⟨v, rfl, r⟩ := R.one; obtain ⟨a, vs, rfl, h, r⟩ := r.tupT
    exact .inl ⟨_, _, rfl, .inr ⟨vs, h, r.length⟩, q _ H (Same.refl H) (by show Rp _ _ _ _ _; simp only [Rp])⟩
  | [.str y], e, R =>
    obtain ⟨v, rfl, r⟩ := R.one; obtain rfl := r.str
    have e : (if y.length ≤ 16777216 then some (EV.d (.int y.length)) else none) = some z := e
    split at e
    · rename_i hs; cases e
      exact .inl ⟨_, _, rfl, ⟨by rw [sizeLine_eq]; exact hs, rfl⟩, q _ H (Same.refl H) (by show Rp _ _ _ _ _; simp only [Rp])⟩
    · cases e
  | [.dict xs], e, R =>
    cases e; obtain ⟨v, rfl, r⟩ := R.one; obtain ⟨a, ks, rfl, h, r⟩ := r.dict
    exact .inr ⟨_, _, rfl, h, by rw [← r.length]; exact q _ H (Same.refl H) (by show Rp _ _ _ _ _; simp only [Rp])⟩
def toIntD : List Da → Option EV
  | [.int i] => some (.d (.int i))
  | [.bool b] => some (.d (.int (if b then 1 else 0)))
  | _ => none
theorem c_int : CallV X (.type "int") toIntD := by
  refine ⟨_, call_int1, fun O H xs vs z Q hd R e q => ?_⟩
  match xs, e, R with
  | [.int i], e, R =>
    cases e; obtain ⟨v, rfl, r⟩ := R.one; obtain rfl := r.int
    exact .inl ⟨i, rfl, q _ H (Same.refl H) (by show Rp _ _ _ _ _; simp only [Rp])⟩
  | [.bool i], e, R =>
    cases e; obtain ⟨v, rfl, r⟩ := R.one; obtain rfl := r.bool
    exact .inr ⟨i, rfl, q _ H (Same.refl H) (by show Rp _ _ _ _ _; simp only [Rp])⟩
def absD : List Da → Option EV
  | [.int i] => some (.d (.int (if i < 0 then -i else i)))
  | _ => none
theorem c_abs : CallV X (.builtin "abs") absD := by
  refine ⟨_, call_abs, fun O H xs vs z Q hd R e q => ?_⟩
  match xs, e, R with
  | [.int i], e, R =>
    cases e; obtain ⟨v, rfl, r⟩ := R.one; obtain rfl := r.int
    exact ⟨i, rfl, q _ H (Same.refl H) (by show Rp _ _ _ _ _; simp only [Rp])⟩
def tupleD : List Da → Option EV
  | [.list xs] => some (.d (.tuple xs))
  | [.tuple xs] => some (.d (.tuple xs))
  | _ => none
theorem c_tuple : CallV X (.type "tuple") tupleD := by
  refine ⟨_, call_tuple_of, fun O H xs vs z Q hd R e q => ?_⟩
  match xs, e, R with
  | [.list xs], e, R =>
    cases e; obtain ⟨v, rfl, r⟩ := R.one; obtain ⟨a, vs, rfl, h, r⟩ := r.list
    exact ⟨_, vs, rfl, .inl ⟨.of h, fun l hl => q _ _ (Same.upd hl) (NR.tup hd r hl)⟩⟩
  | [.tuple xs], e, R =>
    cases e; obtain ⟨v, rfl, r⟩ := R.one
    have r0 := r.tup
    obtain ⟨a, vs, rfl, h, r⟩ := r.tupT
    exact ⟨_, vs, rfl, .inr ⟨h, q _ H (Same.refl H) r0⟩⟩
def listD : List Da → Option EV
  | [.list xs] => some (.own (.l xs))
  | [.tuple xs] => some (.own (.l xs))
  | _ => none
theorem c_list : CallV X (.type "list") listD := by
  refine ⟨_, call_list_of, fun O H xs vs z Q hd R e q => ?_⟩
  match xs, e, R with
  | [.list xs], e, R =>
    cases e; obtain ⟨v, rfl, r⟩ := R.one; obtain ⟨a, vs, rfl, h, r⟩ := r.list
    exact ⟨_, vs, rfl, .inl (.of h), fun l hl => q _ _ (Same.upd hl) (NR.lst r hl)⟩
  | [.tuple xs], e, R =>
    cases e; obtain ⟨v, rfl, r⟩ := R.one; obtain ⟨a, vs, rfl, h, r⟩ := r.tupT
    exact ⟨_, vs, rfl, .inr h, fun l hl => q _ _ (Same.upd hl) (NR.lst r hl)⟩
theorem ints_map : ∀ {ds : List Da} {ns : List Int}, ints? ds = some ns → ds = ns.map PyData.int := by
  intro ds
  induction ds with
  | nil => intro ns h; cases h; rfl
  | cons d ds ih =>
    intro ns h
    cases d with
    | int i =>
      obtain ⟨ms, e, rfl⟩ := Option.map_eq_some_iff.mp h
      rw [ih e]; rfl
    | _ => cases h
theorem Ro.listI {K : PySem.W.Frag} {O : AS} {H : Hp} {xs : List Da} {v : V} {ns : List Int} (r : Ro K O H (.list xs) v) (e : ints? xs = some ns) : ∃ a, v = .ref a ∧ SqL K H a (ns.map V.int) := by
  obtain ⟨a, vs, rfl, h, r⟩ := r.list
  rw [ints_map e] at r
  rw [r.ints] at h
  exact ⟨a, rfl, .of h⟩
def sumD : List Da → Option EV
  | [.list xs] => (ints? xs).map fun ns => .d (.int ns.sum)
  | _ => none
theorem c_sum (hc : X.calm = true) : CallV X (.builtin "sum") sumD := by
  refine ⟨_, cr_sum hc, fun O H xs vs z Q hd R e q => ?_⟩
  match xs, e, R with
  | [.list xs], e, R =>
    obtain ⟨ns, e1, rfl⟩ := Option.map_eq_some_iff.mp (show (ints? xs).map (fun ns => EV.d (.int ns.sum)) = some z from e)
    obtain ⟨v, rfl, r⟩ := R.one; obtain ⟨a, rfl, h⟩ := r.listI e1
    exact ⟨a, ns, rfl, h, q _ H (Same.refl H) (by show Rp _ _ _ _ _; simp only [Rp])⟩
/-- the greatest, the least of ints -/
def maxI : Int → List Int → Int
  | m, [] => m
  | m, n :: ns => maxI (if m < n then n else m) ns
def minI : Int → List Int → Int
  | m, [] => m
  | m, n :: ns => minI (if n < m then n else m) ns
theorem maxI_ok : ∀ (ns : List Int) (m : Int), (maxI m ns = m ∨ maxI m ns ∈ ns) ∧ m ≤ maxI m ns ∧ ∀ y ∈ ns, y ≤ maxI m ns
  | [], m => by simp [maxI]
  | n :: ns, m => by
    obtain ⟨h1, h2, h3⟩ := maxI_ok ns (if m < n then n else m)
    unfold maxI
    split at h2
    · rename_i hc
      rw [if_pos hc] at h1 h3 ⊢
      refine ⟨.inr ?_, by omega, fun y hy => ?_⟩
      · rcases h1 with h1 | h1
        · rw [h1]; simp
        · simp [h1]
      · rcases List.mem_cons.mp hy with rfl | hy
        · exact h2
        · exact h3 y hy
    · rename_i hc
      rw [if_neg hc] at h1 h3 ⊢
      refine ⟨?_, h2, fun y hy => ?_⟩
      · rcases h1 with h1 | h1
        · exact .inl h1
        · exact .inr (by simp [h1])
      · rcases List.mem_cons.mp hy with rfl | hy
        · omega
        · exact h3 y hy
theorem minI_ok : ∀ (ns : List Int) (m : Int), (minI m ns = m ∨ minI m ns ∈ ns) ∧ minI m ns ≤ m ∧ ∀ y ∈ ns, minI m ns ≤ y
  | [], m => by simp [minI]
  | n :: ns, m => by
    obtain ⟨h1, h2, h3⟩ := minI_ok ns (if n < m then n else m)
    unfold minI
    split at h2
    · rename_i hc
      rw [if_pos hc] at h1 h3 ⊢
      refine ⟨.inr ?_, by omega, fun y hy => ?_⟩
      · rcases h1 with h1 | h1
        · rw [h1]; simp
        · simp [h1]
      · rcases List.mem_cons.mp hy with rfl | hy
        · exact h2
        · exact h3 y hy
    · rename_i hc
      rw [if_neg hc] at h1 h3 ⊢
      refine ⟨?_, h2, fun y hy => ?_⟩
      · rcases h1 with h1 | h1
        · exact .inl h1
        · exact .inr (by simp [h1])
      · rcases List.mem_cons.mp hy with rfl | hy
        · omega
        · exact h3 y hy
def maxD : List Da → Option EV
  | [.list xs] => (ints? xs).bind fun ns => match ns with
    | [] => none
    | n :: ns => some (.d (.int (maxI n ns)))
  | [.int i, .int j] => some (.d (.int (if j > i then j else i)))
  | _ => none
def minD : List Da → Option EV
  | [.list xs] => (ints? xs).bind fun ns => match ns with
    | [] => none
    | n :: ns => some (.d (.int (minI n ns)))
  | [.int i, .int j] => some (.d (.int (if j < i then j else i)))
  | _ => none
theorem c_max (hc : X.calm = true) : CallV X (.builtin "max") maxD := by
  refine ⟨_, CallR.or (cr_max hc) (call_max2 hc), fun O H xs vs z Q hd R e q => ?_⟩
  match xs, e, R with
  | [.list xs], e, R =>
    obtain ⟨ns, e1, e2⟩ := Option.bind_eq_some_iff.mp (show (ints? xs).bind _ = some z from e)
    obtain ⟨v, rfl, r⟩ := R.one; obtain ⟨a, rfl, h⟩ := r.listI e1
    cases ns with
    | nil => cases e2
    | cons n ns =>
      cases e2
      refine .inl ⟨a, n :: ns, rfl, h, by simp, fun m hm hy => ?_⟩
      obtain ⟨k1, k2, k3⟩ := maxI_ok ns n
      have e : m = maxI n ns := by
        have a1 : maxI n ns ≤ m := by
          rcases k1 with k1 | k1
          · rw [k1]; exact hy n (by simp)
          · exact hy _ (by simp [k1])
        have a2 : m ≤ maxI n ns := by
          rcases List.mem_cons.mp hm with rfl | hm
          · exact k2
          · exact k3 m hm
        omega
      subst e
      exact q _ H (Same.refl H) (by show Rp _ _ _ _ _; simp only [Rp])
  | [.int i, .int j], e, R =>
    cases e
    obtain ⟨v, w, rfl, r, r'⟩ := R.two
    obtain rfl := r.int; obtain rfl := r'.int
    exact .inr ⟨i, j, rfl, q _ H (Same.refl H) (by show Rp _ _ _ _ _; simp only [Rp])⟩
theorem c_min (hc : X.calm = true) : CallV X (.builtin "min") minD := by
  refine ⟨_, CallR.or (cr_min hc) (call_min2 hc), fun O H xs vs z Q hd R e q => ?_⟩
  match xs, e, R with
  | [.list xs], e, R =>
    obtain ⟨ns, e1, e2⟩ := Option.bind_eq_some_iff.mp (show (ints? xs).bind _ = some z from e)
    obtain ⟨v, rfl, r⟩ := R.one; obtain ⟨a, rfl, h⟩ := r.listI e1
    cases ns with
    | nil => cases e2
    | cons n ns =>
      cases e2
      refine .inl ⟨a, n :: ns, rfl, h, by simp, fun m hm hy => ?_⟩
      obtain ⟨k1, k2, k3⟩ := minI_ok ns n
      have e : m = minI n ns := by
        have a1 : m ≤ minI n ns := by
          rcases k1 with k1 | k1
          · rw [k1]; exact hy n (by simp)
          · exact hy _ (by simp [k1])
        have a2 : minI n ns ≤ m := by
          rcases List.mem_cons.mp hm with rfl | hm
          · exact k2
          · exact k3 m hm
        omega
      subst e
      exact q _ H (Same.refl H) (by show Rp _ _ _ _ _; simp only [Rp])
  | [.int i, .int j], e, R =>
    cases e
    obtain ⟨v, w, rfl, r, r'⟩ := R.two
    obtain rfl := r.int; obtain rfl := r'.int
    exact .inr ⟨i, j, rfl, q _ H (Same.refl H) (by show Rp _ _ _ _ _; simp only [Rp])⟩
/-! sorted, ints -/
def insI (n : Int) : List Int → List Int
  | [] => [n]
  | m :: ms => if n ≤ m then n :: m :: ms else m :: insI n ms
def sortI : List Int → List Int
  | [] => []
  | n :: ns => insI n (sortI ns)
theorem insI_perm (n : Int) : ∀ ms : List Int, (insI n ms).Perm (n :: ms)
  | [] => .refl _
  | m :: ms => by
    unfold insI
    split
    · exact .refl _
    · exact ((insI_perm n ms).cons m).trans (.swap n m ms)
theorem insI_sorted (n : Int) : ∀ ms : List Int, ms.Pairwise (· ≤ ·) → (insI n ms).Pairwise (· ≤ ·)
  | [], _ => by simp [insI]
  | m :: ms, h => by
    have h1 := List.pairwise_cons.mp h
    unfold insI
    split
    · rename_i hc
      refine List.pairwise_cons.mpr ⟨fun y hy => ?_, h⟩
      rcases List.mem_cons.mp hy with rfl | hy
      · exact hc
      · have := h1.1 y hy; omega
    · rename_i hc
      refine List.pairwise_cons.mpr ⟨fun y hy => ?_, insI_sorted n ms h1.2⟩
      rcases List.mem_cons.mp ((insI_perm n ms).mem_iff.mp hy) with rfl | hy
      · omega
      · exact h1.1 y hy
theorem sortI_perm : ∀ ns : List Int, (sortI ns).Perm ns
  | [] => .refl _
  | n :: ns => (insI_perm n _).trans ((sortI_perm ns).cons n)
theorem sortI_sorted : ∀ ns : List Int, (sortI ns).Pairwise (· ≤ ·)
  | [] => by simp [sortI]
  | n :: ns => insI_sorted n _ (sortI_sorted ns)
theorem sorted_uniq : ∀ {xs ys : List Int}, xs.Perm ys → xs.Pairwise (· ≤ ·) → ys.Pairwise (· ≤ ·) → xs = ys := by
  intro xs
  induction xs with
  | nil => intro ys h _ _; exact (List.Perm.nil_eq h)
  | cons x xs ih =>
    intro ys h hx hy
    cases ys with
    | nil => exact absurd h.length_eq (by simp)
    | cons y ys =>
      have h1 := List.pairwise_cons.mp hx
      have h2 := List.pairwise_cons.mp hy
      have e : x = y := by
        have a1 : x ∈ y :: ys := h.mem_iff.mp (by simp)
        have a2 : y ∈ x :: xs := h.mem_iff.mpr (by simp)
        rcases List.mem_cons.mp a1 with a1 | a1
        · exact a1
        · rcases List.mem_cons.mp a2 with a2 | a2
          · exact a2.symm
          · have b1 := h2.1 x a1
            have b2 := h1.1 y a2
            omega
      subst e
      rw [ih (List.Perm.cons_inv h) h1.2 h2.2]
def sortedD : List Da → Option EV
  | [.list xs] => (ints? xs).map fun ns => .own (.l ((sortI ns).map PyData.int))
  | _ => none
theorem c_sorted : CallV X (.builtin "sorted") sortedD := by
  refine ⟨_, cr_sortedI, fun O H xs vs z Q hd R e q => ?_⟩
  match xs, e, R with
  | [.list xs], e, R =>
    obtain ⟨ns, e1, rfl⟩ := Option.map_eq_some_iff.mp (show (ints? xs).map _ = some z from e)
    obtain ⟨v, rfl, r⟩ := R.one; obtain ⟨a, rfl, h⟩ := r.listI e1
    refine ⟨a, ns, rfl, h, fun ns' p hp hs hn => ?_⟩
    rw [sorted_uniq (hp.trans (sortI_perm ns).symm) hs (sortI_sorted ns)]
    exact q _ _ (Same.upd hn) (NR.lst (RpL.ofInts _) hn)
/-! ### isinstance -/
inductive KT where
  | int | bool | str | list | tuple | dict
def KT.nm : KT → String
  | .int => "int"
  | .bool => "bool"
  | .str => "str"
  | .list => "list"
  | .tuple => "tuple"
  | .dict => "dict"
def tyD : Da → String
  | .none => "NoneType"
  | .bool _ => "bool"
  | .int _ => "int"
  | .str _ => "str"
  | .list _ => "list"
  | .tuple _ => "tuple"
  | .dict _ => "dict"
def isKT : KT → Da → Bool
  | .int, .int _ => true
  | .int, .bool _ => true
  | .bool, .bool _ => true
  | .str, .str _ => true
  | .list, .list _ => true
  | .tuple, .tuple _ => true
  | .dict, .dict _ => true
  | _, _ => false
def kitTab : Bool := ([KT.int, .bool, .str, .list, .tuple, .dict].all fun k => [PyData.none, .bool true, .int 0, .str ⟨#[]⟩, .list [], .tuple [], .dict []].all fun x => kitB (tyD x) k.nm == some (isKT k x))
theorem kitTab_ok : kitTab = true := by decide +kernel
theorem kit_tab (k : KT) (x : Da) (h : x ∈ [PyData.none, .bool true, .int 0, .str ⟨#[]⟩, .list [], .tuple [], .dict []]) : kitB (tyD x) k.nm = some (isKT k x) := by
  have h1 := List.all_eq_true.mp kitTab_ok k (by cases k <;> simp)
  have h2 := List.all_eq_true.mp h1 x h
  exact eq_of_beq h2
theorem kit_ok (k : KT) (x : Da) : kitB (tyD x) k.nm = some (isKT k x) := by
  cases x with
  | none => exact kit_tab k .none (by simp)
  | bool b => have := kit_tab k (.bool true) (by simp); cases k <;> exact this
  | int b => have := kit_tab k (.int 0) (by simp); cases k <;> exact this
  | str b => have := kit_tab k (.str ⟨#[]⟩) (by simp); cases k <;> exact this
  | list b => have := kit_tab k (.list []) (by simp); cases k <;> exact this
  | tuple b => have := kit_tab k (.tuple []) (by simp); cases k <;> exact this
  | dict b => have := kit_tab k (.dict []) (by simp); cases k <;> exact this
theorem tyX_of {K : PySem.W.Frag} {O : AS} {H : Hp} {x : Da} {v : V} (r : Ro K O H x v) : TyX K H v (.type (tyD x)) := by
  cases x with
  | none => obtain rfl := r.none; exact .base .non
  | bool b => obtain rfl := r.bool; exact .base (.bl b)
  | int b => obtain rfl := r.int; exact .base (.int b)
  | str b => obtain rfl := r.str; exact .base (.str b)
  | list xs => obtain ⟨a, vs, rfl, h, _⟩ := r.list; exact .base (.lst h)
  | tuple xs =>
    have r := r.tup
    simp only [Rp] at r
    obtain ⟨a, vs, rfl, h, _⟩ := r
    rcases h with ⟨h, _⟩ | ⟨o, its, n, h, hc, _⟩
    · exact .base (.tup h)
    · exact .kTuple h hc
  | dict xs => obtain ⟨a, vs, rfl, h, _⟩ := r.dict; exact .base (.dK h)
def vIsi (ks : List KT) (fe : VM EV) : VM EV := vb fe fun r => vb (vRd r) fun x => vC (.bool (ks.any fun k => isKT k x))
/-- built-in types by their names -/
inductive TyNs (X : Cx) : List Expr → List KT → Prop
  | nil : TyNs X [] []
  | cons {x : Str} {p : Pos} {k : KT} {es : List Expr} {ks : List KT} (hm : X.mg x = none) (hg : Gl X x) (hv : bootBuiltins x = some (.type k.nm)) (hn : x ≠ "__name__") (hd : (x == ("__debug__" : Str)) = false)
      (hs : starEach (.Name x p :: es) X.env = (false, eval (.Name x p) X.env) :: starEach es X.env) (h : TyNs X es ks) : TyNs X (.Name x p :: es) (k :: ks)
def tTys (ks : List KT) : TA := fun σ H Q => Q (ks.map fun k => V.ty k.nm) H
theorem TyNs.pa {es : List Expr} {ks : List KT} (h : TyNs X es ks) : PA X es (tTys ks) := by
  induction h with
  | nil => exact PA.wk pa_nil fun σ H Q h => h
  | cons hm hg hv hn hd hs h ih => exact PA.wk (pa_cons (pe_bltn (v := V.ty _) hg hm hv rfl hn hd) ih hs) fun σ H Q h => h
theorem ve_isi1 {x : Str} {p2 p3 : Pos} {k : KT} (he : VE Tb X W e fe) (hm : X.mg "isinstance" = none) (hmx : X.mg x = none) (hgx : Gl X x := by rfl) (hg : Gl X "isinstance" := by rfl) (hv : bootBuiltins x = some (.type k.nm) := by decide +kernel) (hn : x ≠ "__name__" := by decide) (hd : (x == ("__debug__" : Str)) = false := by decide)
    (hs : starEach [e, .Name x p2] X.env = (false, eval e X.env) :: starEach [.Name x p2] X.env := by rfl) (hs2 : starEach [.Name x p2] X.env = (false, eval (.Name x p2) X.env) :: starEach [] X.env := by rfl) (hpl : (backTo pos (starEach [.Name x p2] X.env)).any (·.1) = false := by rfl) :
    VE Tb X W (.Call (.Name "isinstance" p3) [e, .Name x p2] [] pos) (vIsi [k] fe) := by
  refine PE.wk (pe_callB call_isi hg hm (by decide +kernel) (pa_cons he (TyNs.cons hmx hgx hv hn hd hs2 .nil).pa hs) (by decide) (by decide) hs hpl) fun σ H Q h => ?_
  obtain ⟨O, st, F, h⟩ := h
  refine tV.bind F h fun r s1 v H1 S1 E1 h => ?_
  obtain ⟨x, Rx, h⟩ := h.rd S1.fr E1
  refine ⟨v, .ty k.nm, _, _, isKT k x, rfl, .ty _, tyX_of Rx, kit_ty (kit_ok k x), ?_⟩
  have e : ([k].any fun k => isKT k x) = isKT k x := by simp
  rw [e] at h
  exact h _ H1 S1 (by show Rp _ _ _ _ _; simp only [Rp])
theorem kitAny_ok {K : PySem.W.Frag} (x : Da) : ∀ ks : List KT, PySem.W.kitAny K (.type (tyD x)) (ks.map fun k => Value.type k.nm) = some (ks.any fun k => isKT k x)
  | [] => rfl
  | k :: ks => by
    refine kitAny_cons (b := isKT k x) (kit_ty (kit_ok k x)) (fun h => ?_) (fun h => ?_)
    · rw [kitAny_ok x ks, List.any_cons, h, Bool.false_or]
    · rw [List.any_cons, h, Bool.true_or]
theorem paired_ty : ∀ ks : List KT, Paired ClsV (ks.map fun k => V.ty k.nm) (ks.map fun k => Value.type k.nm)
  | [] => .nil
  | k :: ks => .cons (.ty _) (paired_ty ks)
theorem ve_isiT {p2 p3 : Pos} {kk : Nat} {ks : List KT} (he : VE Tb X W e fe) (hm : X.mg "isinstance" = none) (ht : TyNs X es ks) (hl : ks.length ≤ 16777216 := by decide) (hg : Gl X "isinstance" := by rfl)
    (hs : starEach [e, .Tuple es kk p2] X.env = (false, eval e X.env) :: starEach [.Tuple es kk p2] X.env := by rfl) (hs2 : starEach [.Tuple es kk p2] X.env = (false, eval (.Tuple es kk p2) X.env) :: starEach [] X.env := by rfl) (hpl : (backTo pos (starEach [.Tuple es kk p2] X.env)).any (·.1) = false := by rfl) :
    VE Tb X W (.Call (.Name "isinstance" p3) [e, .Tuple es kk p2] [] pos) (vIsi ks fe) := by
  refine PE.wk (pe_callB call_isiT hg hm (by decide +kernel) (pa_cons he (pa_cons (pe_tup ht.pa) pa_nil hs2) hs) (by decide) (by decide) hs hpl) fun σ H Q h => ?_
  obtain ⟨O, st, F, h⟩ := h
  refine tV.bind F h fun r s1 v H1 S1 E1 h => ?_
  obtain ⟨x, Rx, h⟩ := h.rd S1.fr E1
  refine ⟨by rw [List.length_map, sizeLine_eq]; exact hl, fun p hp => ?_⟩
  have k := Same.upd (o := .tup (ks.map fun k => V.ty k.nm)) hp
  have S2 := S1.trans (Step.ext S1.fr k)
  have Rx2 : Ro X.K (Av O s1 σ) (upd H1 p (.tup (ks.map fun k => V.ty k.nm))) x v := by
    rcases Rx with Rx | ⟨q, c, e1, e2, C⟩
    · exact .inl (Rp.mono (fun _ h => .inl h) (fun a o e _ _ => k a o e) _ _ Rx)
    · refine .inr ⟨q, c, e1, e2, C.mono (fun _ h => .inl h) (fun a o e _ _ => k a o e) ?_⟩
      cases e : H1 q with
      | none => exact absurd e C.there
      | some o => exact k _ _ e
  exact ⟨v, p, _, _, _, _, rfl, upd_same, paired_ty ks, tyX_of Rx2, kitAny_ok x ks, h _ _ S2 (by show Rp _ _ _ _ _; simp only [Rp])⟩
end
end VL
set_option Elab.async false
set_option linter.all false
set_option maxRecDepth 100000
namespace VL
open PySem PySem.Spec PyProof.Rows L2
/-! ### list(zip(xs, ys)) -/
theorem zip_no_len : typeLookup (.type "zip") "__len__" = pure none := by rw [typeLookup_type, builtinLookup_eq_fast]; kernel_rfl
theorem zip_no_hint : typeLookup (.type "zip") "__length_hint__" = pure none := by rw [typeLookup_type, builtinLookup_eq_fast]; kernel_rfl
section
variable {prog : Program} {w : World} {A : Around} {E : Value → Shared → Prop} {s : Shared} {z TI TO i1 i2 T : Addr} {fp1 fp2 : List Addr} {n1 n2 i : Nat} {P1 P2 : Nat → Value → Prop} {St1 St2 : Nat → Heap → Prop} {a1 a2 : Value} {f : Bool} {oT : Obj}
theorem zipD2_item_held {Q : Value → Shared → Prop} (S : ZipSep2 z TI TO i1 i2 fp1 fp2) (D1 : Draws prog w A i1 fp1 n1 P1 St1) (D2 : Draws prog w A i2 fp2 n2 P2 St2)
    (hz : IsZipHeld s.heap z TI TO T f) (hT : s.heap.get? T = some oT) (hTI : IsTupOf2 s.heap TI (.ref i1) (.ref i2)) (st1 : St1 i s.heap) (st2 : St2 i s.heap) (hlt1 : i < n1) (hlt2 : i < n2)
    (hQ : ∀ x1 x2 h' tk, P1 i x1 → P2 i x2 → IsZipHeld h' z TI TO T true → St1 (i + 1) h' → St2 (i + 1) h' → IsTupOf2 h' s.heap.objs.size x1 x2 → h'.objs.size = s.heap.objs.size + 1 →
      (∀ c o, c ≠ z → c ≠ i1 → c ≠ i2 → s.heap.get? c = some o → h'.get? c = some o) → Q (.ref s.heap.objs.size) { s with heap := h', toks := tk }) :
    wpAny (model prog w) A (Builtin.«zip.__next__» ⟨[.ref z], []⟩) (fun fin s' => ∃ v, fin = .done (.ret v) ∧ Q v s') E s := by
  obtain ⟨hp, g, d, tk0, os⟩ := s
  show wpAny _ _ (field (.ref z) 2 >>= _) _ _ _
  refine wpAny_bind (wpAny_field hz rfl (x := .bool false) rfl ?_)
  show wpAny _ _ (field (.ref z) 3 >>= _) _ _ _
  refine wpAny_bind (wpAny_field hz rfl (x := .ref TI) rfl ?_)
  refine wpAny_bind (wpAny_seqItems hTI rfl ?_)
  show wpAny _ _ (Builtin.SmallTypes.ownedTupleIsFree (.ref z) >>= _) _ _ _
  refine wpAny_bind (wpAny_tupleHeld_zip hz hT fun h₁ hz₁ hs₁ => ?_)
  replace hs₁ : Heap.SameBut z hp h₁ := hs₁
  simp only [Bool.false_eq_true, if_false]
  refine wpAny_bind ?_
  rw [← Array.forIn_toList]
  simp only [List.forIn_cons, List.forIn_nil]
  refine wpAny_bind (wpAny_bind (wpAny_holding ?_))
  show wpAny _ _ (Builtin.SmallTypes.nextOf (.ref i1) >>= _) _ _ ⟨h₁, g, d, tk0, os⟩
  refine wpAny_bind (D1.item i _ _ _ hlt1 (D1.over st1 hs₁ S.zf1) fun x1 p1 tk1 hx1 sn1 hp1 => wpAny_pure ?_)
  replace hp1 : Heap.SameBut i1 h₁ p1 := hp1
  refine wpAny_pure ?_
  refine wpAny_bind (wpAny_bind (wpAny_holding ?_))
  show wpAny _ _ (Builtin.SmallTypes.nextOf (.ref i2) >>= _) _ _ ⟨p1, g, d, tk1, os⟩
  refine wpAny_bind (D2.item i _ _ _ hlt2 (D2.over (D2.over st2 hs₁ S.zf2) hp1 S.sep1_2) fun x2 p2 tk2 hx2 sn2 hp2 => wpAny_pure ?_)
  replace hp2 : Heap.SameBut i2 p1 p2 := hp2
  refine wpAny_pure (wpAny_pure ?_)
  show wpAny _ _ (newTuple [x1, x2] >>= _) _ _ ⟨p2, g, d, tk2, os⟩
  refine wpAny_bind (wpAny_newTuple ?_)
  have hsz : p2.objs.size = hp.objs.size := by rw [hp2.1, hp1.1, hs₁.1]
  have hzz : IsZipHeld p2 z TI TO T true := hp2.extBut _ _ S.zi2 (hp1.extBut _ _ S.zi1 hz₁)
  have hkk : ∀ c o, c ≠ z → c ≠ i1 → c ≠ i2 → hp.get? c = some o → p2.get? c = some o := fun c o cz c1 c2 e => hp2.extBut _ _ c2 (hp1.extBut _ _ c1 (hs₁.extBut _ _ cz e))
  have hj1 : St1 (i + 1) p2 := D1.over sn1 hp2 S.sep2_1
  refine wpAny_pure ⟨_, rfl, ?_⟩
  show Q (.ref p2.objs.size) _
  have hpn : IsTupOf2 (p2.push { cls := .type "tuple", data := .seq #[x1, x2] }) p2.objs.size x1 x2 := Heap.get?_push_size _ rfl
  have hz4 : (p2.push { cls := .type "tuple", data := .seq #[x1, x2] }).objs.size = p2.objs.size + 1 := Heap.size_push ..
  rw [hsz] at hpn hz4 ⊢
  exact hQ x1 x2 _ tk2 hx1 hx2 (Heap.get?_push_of_some _ hzz) (D1.frame _ _ _ hj1 fun b _ o e => Heap.get?_push_of_some _ e) (D2.frame _ _ _ sn2 fun b _ o e => Heap.get?_push_of_some _ e) hpn hz4
    fun c o cz c1 c2 e => Heap.get?_push_of_some _ (hkk c o cz c1 c2 e)
theorem zipD2_end_held {Q : Fin → Shared → Prop} (S : ZipSep2 z TI TO i1 i2 fp1 fp2) (D1 : Draws prog w A i1 fp1 n1 P1 St1) (D2 : Draws prog w A i2 fp2 n2 P2 St2)
    (hz : IsZipHeld s.heap z TI TO T f) (hT : s.heap.get? T = some oT) (hTI : IsTupOf2 s.heap TI (.ref i1) (.ref i2)) (st1 : St1 i s.heap) (st2 : St2 i s.heap) (hle1 : i ≤ n1) (hle2 : i ≤ n2) (hend : i = n1 ∨ i = n2)
    (hE : ∀ h' tk e, (∀ c o, c ≠ z → c ≠ i1 → c ≠ i2 → s.heap.get? c = some o → h'.get? c = some o) → (∃ o, h'.get? e = some o ∧ o.cls = .type "StopIteration") → E (.ref e) { s with heap := h', toks := tk }) :
    wpAny (model prog w) A (Builtin.«zip.__next__» ⟨[.ref z], []⟩) Q E s := by
  obtain ⟨hp, g, d, tk0, os⟩ := s
  show wpAny _ _ (field (.ref z) 2 >>= _) _ _ _
  refine wpAny_bind (wpAny_field hz rfl (x := .bool false) rfl ?_)
  show wpAny _ _ (field (.ref z) 3 >>= _) _ _ _
  refine wpAny_bind (wpAny_field hz rfl (x := .ref TI) rfl ?_)
  refine wpAny_bind (wpAny_seqItems hTI rfl ?_)
  show wpAny _ _ (Builtin.SmallTypes.ownedTupleIsFree (.ref z) >>= _) _ _ _
  refine wpAny_bind (wpAny_tupleHeld_zip hz hT fun h₁ hz₁ hs₁ => ?_)
  replace hs₁ : Heap.SameBut z hp h₁ := hs₁
  simp only [Bool.false_eq_true, if_false]
  refine wpAny_bind ?_
  rw [← Array.forIn_toList]
  simp only [List.forIn_cons, List.forIn_nil]
  refine wpAny_bind (wpAny_bind (wpAny_holding ?_))
  show wpAny _ _ (Builtin.SmallTypes.nextOf (.ref i1) >>= _) _ _ ⟨h₁, g, d, tk0, os⟩
  by_cases hlt1 : i < n1
  · refine wpAny_bind (D1.item i _ _ _ hlt1 (D1.over st1 hs₁ S.zf1) fun x1 p1 tk1 hx1 sn1 hp1 => wpAny_pure ?_)
    replace hp1 : Heap.SameBut i1 h₁ p1 := hp1
    have hi2 : i = n2 := by omega
    refine wpAny_pure ?_
    refine wpAny_bind (wpAny_bind (wpAny_holding ?_))
    show wpAny _ _ (Builtin.SmallTypes.nextOf (.ref i2) >>= _) _ _ ⟨p1, g, d, tk1, os⟩
    refine wpAny_bind (D2.done ⟨p1, g, d, tk1, os⟩ _ _ (by rw [← hi2]; exact D2.over (D2.over st2 hs₁ S.zf2) hp1 S.sep1_2) fun q e hq he => ?_)
    replace hq : Heap.ExtBut i2 p1 q := hq
    exact hE q tk1 e (fun c o cz c1 c2 x => hq _ _ c2 (hp1.extBut _ _ c1 (hs₁.extBut _ _ cz x))) he
  · have hi1 : i = n1 := by omega
    refine wpAny_bind (D1.done ⟨h₁, g, d, tk0, os⟩ _ _ (by rw [← hi1]; exact D1.over st1 hs₁ S.zf1) fun q e hq he => ?_)
    replace hq : Heap.ExtBut i1 h₁ q := hq
    exact hE q tk0 e (fun c o cz c1 c2 x => hq _ _ c1 (hs₁.extBut _ _ cz x)) he
theorem next_zip_held {Q : Option Value → Shared → Prop} (S : ZipSep2 z TI TO i1 i2 fp1 fp2) (D1 : Draws prog w A.in1 i1 fp1 n1 P1 St1) (D2 : Draws prog w A.in1 i2 fp2 n2 P2 St2)
    (hz : IsZipHeld s.heap z TI TO T f) (hT : s.heap.get? T = some oT) (hTI : IsTupOf2 s.heap TI (.ref i1) (.ref i2)) (st1 : St1 i s.heap) (st2 : St2 i s.heap) (hlt1 : i < n1) (hlt2 : i < n2)
    (hQ : ∀ x1 x2 h' tk, P1 i x1 → P2 i x2 → IsZipHeld h' z TI TO T true → St1 (i + 1) h' → St2 (i + 1) h' → IsTupOf2 h' s.heap.objs.size x1 x2 → h'.objs.size = s.heap.objs.size + 1 →
      (∀ c o, c ≠ z → c ≠ i1 → c ≠ i2 → s.heap.get? c = some o → h'.get? c = some o) → Q (some (.ref s.heap.objs.size)) { s with heap := h', toks := tk }) :
    wpAny (model prog w) A (pyNext (.ref z)) Q E s := by
  have hTy : s.TypeIs (.ref z) "zip" := ⟨_, hz, rfl⟩
  unfold pyNext
  exact wpAny_bind (wpAny_attempt (wpAny_callSpecial?_slot (name := Str.ofString "__next__") hTy F.slot_zip_next
    (wpAny_call_entry F.slot_zip_next hTy F.entry_zip_next
      (zipD2_item_held S D1 D2 hz hT hTI st1 st2 hlt1 hlt2 fun x1 x2 h' tk y1 y2 b1 d1 d2 b5 b6 b7 => wpAny_pure (hQ x1 x2 h' tk y1 y2 b1 d1 d2 b5 b6 b7)) (F.args_zip_next_1 _))))
theorem next_zip_end_held {Q : Option Value → Shared → Prop} (S : ZipSep2 z TI TO i1 i2 fp1 fp2) (D1 : Draws prog w A.in1 i1 fp1 n1 P1 St1) (D2 : Draws prog w A.in1 i2 fp2 n2 P2 St2)
    (hz : IsZipHeld s.heap z TI TO T f) (hT : s.heap.get? T = some oT) (hTI : IsTupOf2 s.heap TI (.ref i1) (.ref i2)) (st1 : St1 i s.heap) (st2 : St2 i s.heap) (hle1 : i ≤ n1) (hle2 : i ≤ n2) (hend : i = n1 ∨ i = n2)
    (hQ : ∀ h' tk, (∀ c o, c ≠ z → c ≠ i1 → c ≠ i2 → s.heap.get? c = some o → h'.get? c = some o) → Q none { s with heap := h', toks := tk }) : wpAny (model prog w) A (pyNext (.ref z)) Q E s := by
  have hTy : s.TypeIs (.ref z) "zip" := ⟨_, hz, rfl⟩
  unfold pyNext
  refine wpAny_bind (wpAny_attempt (wpAny_callSpecial?_slot (name := Str.ofString "__next__") hTy F.slot_zip_next
    (wpAny_call_entry F.slot_zip_next hTy F.entry_zip_next (zipD2_end_held S D1 D2 hz hT hTI st1 st2 hle1 hle2 hend fun h' tk e hk he => ?_) (F.args_zip_next_1 _))))
  obtain ⟨o, ho, hc⟩ := he
  refine wpAny_bind (wpAny_isInstance (T := "StopIteration") (b := true) ⟨o, ho, hc⟩ isSubtype_stop ?_)
  exact wpAny_pure (hQ _ _ hk)
end
/-- the first i of them -/
def PrI (H00 H : Hp) (xs ys vs : List V) : Prop := ∀ (j : Nat) (v : V), vs[j]? = some v → ∃ (x y : V) (T : Addr), xs[j]? = some x ∧ ys[j]? = some y ∧ v = .ref T ∧ H T = some (.tup [x, y]) ∧ H00 T = none
section
variable {X : Cx} {pins : List (Addr × Obj)} {σ : L2.St}
/-- where the zip stands: fresh, or with the pair that it gave last -/
def ZpAt (h : Heap) (z TI TO : Addr) : Prop := (IsZip h z TI TO .none ∧ ∃ x y, IsTupOf2 h TO x y) ∨ ∃ T f oT, IsZipHeld h z TI TO T f ∧ h.get? T = some oT ∧ T ≠ z
theorem lz_loop {A : Around} (hA : A.handled = none) {k k2 : Bool} {a b z TI TO i1 i2 S : Addr} {xs ys : List V} {n : Nat} (hn : n = min xs.length ys.length) (hnl : n ≤ sizeLine) (D : ZipSep2 z TI TO i1 i2 [i1, a] [i2, b]) (ha : a ≠ i1) (hb : b ≠ i2) (hSc : S ∉ [z, TI, TO, i1, i2])
    {H00 : Hp} (hSa : S ≠ a) (hSb : S ≠ b) {R : Result → Shared → Prop} (res : Value) :
    ∀ (m i : Nat) (s : Shared) (H : Hp) (vs : List V) (us : List Value) (c : Nat), n - i = m → i ≤ n → Inv X pins σ H s → (∀ c ∈ [z, TI, TO, i1, i2], FpOk X pins H c ∧ c < s.heap.objs.size) → S < s.heap.objs.size →
      ZpAt s.heap z TI TO → IsTupOf2 s.heap TI (.ref i1) (.ref i2) → ItAt k s.heap i1 a i → ItAt k2 s.heap i2 b i → Sq k X.K H a xs → Sq k2 X.K H b ys →
      H S = some (.lst vs) → Vals vs us → s.heap.get? S = some { cls := .type "list", data := .seq us.toArray c } → vs.length = i → (∀ q, H q = none → H00 q = none) → PrI H00 H xs ys vs →
      (∀ s' H' vs', Inv X pins σ H' s' → vs'.length = n → H' S = some (.lst vs') → (∀ q o, H q = some o → q ≠ S → H' q = some o) → (∀ q, H' q = none → H q = none) → PrI H00 H' xs ys vs' → R (.ok (.ret res)) s') →
      codeAny (model X.prog X.w) A (.builtin "list.extend.loop" ⟨[.ref S, .ref z, res], []⟩) R s := by
  intro m
  induction m with
  | zero =>
    intro i s H vs us c hm hi I hf hSl hz hTI h1 h2 qa qb hS rv hSg hl hd hp hR
    have hin : i = n := by omega
    subst hin
    obtain ⟨its, rva, p, _⟩ := Inv.sq I qa
    obtain ⟨its2, rvb, p2, _⟩ := Inv.sq I qb
    have l1 := rva.length
    have l2 := rvb.length
    refine codeAny_builtin F.entry_extend_loop ?_
    rw [Around.under_plainId F.plain_extend_loop _]
    show wpAny _ A.in1 (pyNext (.ref z) >>= _) _ _ s
    refine wpAny_bind ?_
    have fin : ∀ h' tk, (∀ c o, c ≠ z → c ≠ TO → c ≠ i1 → c ≠ i2 → s.heap.get? c = some o → h'.get? c = some o) → Inv X pins σ H { s with heap := h', toks := tk } := fun h' tk hk =>
      I.turnedL (t' := tk) (ch := [z, TI, TO, i1, i2]) (fun c o hb q => hk c o (fun q' => hb (by simp [q'])) (fun q' => hb (by simp [q'])) (fun q' => hb (by simp [q'])) (fun q' => hb (by simp [q'])) q) fun c hc => (hf c hc).1
    rcases hz with ⟨hz, x, y, hTO⟩ | ⟨T, f, oT, hz, hT, _⟩
    · exact wpAny_pyNext_zipD2_end D (sq_draws (A := A.in1.in1) hA k i1 a ha its.toArray) (sq_draws (A := A.in1.in1) hA k2 i2 b hb its2.toArray) hz hTI hTO ⟨h1, p⟩ ⟨h2, p2⟩ (by simp; omega) (by simp; omega) (by simp; omega)
        fun h' tk hk => wpAny_pure (hR _ H vs (fin h' tk hk) hl hS (fun q o e _ => e) (fun q e => e) hp)
    · exact next_zip_end_held D (sq_draws (A := A.in1.in1) hA k i1 a ha its.toArray) (sq_draws (A := A.in1.in1) hA k2 i2 b hb its2.toArray) hz hT hTI ⟨h1, p⟩ ⟨h2, p2⟩ (by simp; omega) (by simp; omega) (by simp; omega)
        fun h' tk hk => wpAny_pure (hR _ H vs (fin h' tk fun c o c1 _ c3 c4 => hk c o c1 c3 c4) hl hS (fun q o e _ => e) (fun q e => e) hp)
  | succ m ih =>
    intro i s H vs us c hm hi I hf hSl hz hTI h1 h2 qa qb hS rv hSg hl hd hp hR
    have hlt : i < n := by omega
    obtain ⟨its, rva, p, _⟩ := Inv.sq I qa
    obtain ⟨its2, rvb, p2, _⟩ := Inv.sq I qb
    have l1 := rva.length
    have l2 := rvb.length
    obtain ⟨x, hx⟩ : ∃ x, xs[i]? = some x := ⟨_, List.getElem?_eq_getElem (by omega)⟩
    obtain ⟨y, hy⟩ : ∃ y, ys[i]? = some y := ⟨_, List.getElem?_eq_getElem (by omega)⟩
    obtain ⟨u, hu, ru⟩ := rva.get hx
    obtain ⟨u2, hu2, ru2⟩ := rvb.get hy
    have hzl : z < s.heap.objs.size := (hf z (by simp)).2
    refine codeAny_builtin F.entry_extend_loop ?_
    rw [Around.under_plainId F.plain_extend_loop _]
    show wpAny _ A.in1 (pyNext (.ref z) >>= _) _ _ s
    -- one turn
    have next : ∀ w1 w2 h' tk, its.toArray[i]? = some w1 → its2.toArray[i]? = some w2 → (∃ f T, IsZipHeld h' z TI TO T f ∧ T ≠ z ∧ ∃ oT, h'.get? T = some oT) → ItAt k h' i1 a (i + 1) → ItAt k2 h' i2 b (i + 1) → IsTupOf2 h' s.heap.objs.size w1 w2 → h'.objs.size = s.heap.objs.size + 1 →
        (∀ c o, c ≠ z → c ≠ TO → c ≠ i1 → c ≠ i2 → s.heap.get? c = some o → h'.get? c = some o) →
        wpAny (model X.prog X.w) A.in1 (updateSeq S (·.push (.ref s.heap.objs.size)) >>= fun _ => again (.builtin "list.extend.loop" ⟨[.ref S, .ref z, res], []⟩)) (fun fin s' => match fin with | .done f => R (.ok f) s' | .again c' => c'.quiet = true ∧ codeAny (model X.prog X.w) A c' R s') (fun e s' => R (.error e) s') { s with heap := h', toks := tk } := by
      intro w1 w2 h' tk e1 e2 hzh s1' s2' hT hsz hk
      have e1 : w1 = u := by
        have : its.toArray[i]? = some u := by simpa using hu
        rw [this] at e1; exact (Option.some.inj e1).symm
      have e2 : w2 = u2 := by
        have : its2.toArray[i]? = some u2 := by simpa using hu2
        rw [this] at e2; exact (Option.some.inj e2).symm
      subst e1 e2
      have new : ObjOk X.prog X.w (upd H s.heap.objs.size (.tup [x, y])) h' s.heap.objs.size (.tup [x, y]) :=
        ⟨by show 2 ≤ sizeLine; decide, [w1, w2], .cons ru (.cons ru2 .nil), ⟨_, hT, rfl, _, rfl⟩⟩
      have I1 : Inv X pins σ (upd H s.heap.objs.size (.tup [x, y])) { s with heap := h', toks := tk } :=
        I.turnedNew (ch := [z, TI, TO, i1, i2]) (fun c o hb q => hk c o (fun q' => hb (by simp [q'])) (fun q' => hb (by simp [q'])) (fun q' => hb (by simp [q'])) (fun q' => hb (by simp [q'])) q) (fun c hc => (hf c hc).1) (Nat.le_refl _) new
      have hT0 : H s.heap.objs.size = none := I.hok.fresh (Nat.le_refl _)
      have hSn : S ≠ z ∧ S ≠ TI ∧ S ≠ TO ∧ S ≠ i1 ∧ S ≠ i2 := by simpa using hSc
      have hSg' : h'.get? S = some { cls := .type "list", data := .seq us.toArray c } := hk S _ hSn.1 hSn.2.2.1 hSn.2.2.2.1 hSn.2.2.2.2 hSg
      have hST : S ≠ s.heap.objs.size := Nat.ne_of_lt hSl
      have hS1 : upd H s.heap.objs.size (.tup [x, y]) S = some (.lst vs) := by rw [upd_ne hST]; exact hS
      have rv1 : Vals (vs ++ [.ref s.heap.objs.size]) (us ++ [.ref s.heap.objs.size]) := rv.append (.cons rfl .nil)
      have hul : us.length = i := by rw [← rv.length, hl]
      have hsl := sizeLine_eq
      have I2 : Inv X pins σ (upd (upd H s.heap.objs.size (.tup [x, y])) S (.lst (vs ++ [.ref s.heap.objs.size]))) { s with heap := h'.update S (Obj.mapSeq (·.push (.ref s.heap.objs.size))), toks := tk } :=
        I1.lset (its' := us ++ [.ref s.heap.objs.size]) (t' := tk) hS1 hSg' (by simp) rv1 (by rw [List.length_append, hl]; show i + 1 ≤ _; omega)
      have up : ∀ c o, c ≠ S → h'.get? c = some o → (h'.update S (Obj.mapSeq (·.push (.ref s.heap.objs.size)))).get? c = some o := fun c o hc e => (Heap.get?_update_other _ _ (Ne.symm hc)).trans e
      refine wpAny_bind (wpAny_updateSeq (s := { s with heap := h', toks := tk }) hSg' rfl (wpAny_pure ⟨plainId_quiet F.plain_extend_loop _, ?_⟩) (by show us.toArray.size ≤ _; rw [List.size_toArray, hul]; omega) (by show (us.toArray.push _).size ≤ _; rw [Array.size_push, List.size_toArray, hul]; omega))
      have hk2 : ∀ q o, H q = some o → q ≠ S → (upd (upd H s.heap.objs.size (.tup [x, y])) S (.lst (vs ++ [.ref s.heap.objs.size]))) q = some o := fun q o e hq => by
        rw [upd_ne hq, upd_ne (fun z => by rw [z, hT0] at e; cases e)]; exact e
      have dom : ∀ q, (upd (upd H s.heap.objs.size (.tup [x, y])) S (.lst (vs ++ [.ref s.heap.objs.size]))) q = none → H q = none := fun q h2 => by
        by_cases hq : q = S
        · subst hq; rw [upd_same] at h2; cases h2
        · rw [upd_ne hq] at h2
          by_cases hq2 : q = s.heap.objs.size
          · subst hq2; rw [upd_same] at h2; cases h2
          · rw [upd_ne hq2] at h2; exact h2
      have sqk : ∀ {k : Bool} {a : Addr} {xs : List V}, Sq k X.K H a xs → a ≠ S → Sq k X.K (upd (upd H s.heap.objs.size (.tup [x, y])) S (.lst (vs ++ [.ref s.heap.objs.size]))) a xs := fun {k a xs} h ne => by
        cases k with
        | true =>
          rcases (show SqL X.K H a xs from h) with r | r
          · exact .inl (r.elim (fun r => .inl (hk2 _ _ r ne)) fun ⟨o, r⟩ => .inr ⟨o, hk2 _ _ r ne⟩)
          · exact .inr r
        | false =>
          rcases (show SqT X.K H a xs from h) with r | r
          · exact .inl (r.elim (fun r => .inl (hk2 _ _ r ne)) fun ⟨o, r⟩ => .inr ⟨o, hk2 _ _ r ne⟩)
          · exact .inr r
      have size2 : (h'.update S (Obj.mapSeq (·.push (.ref s.heap.objs.size)))).objs.size = s.heap.objs.size + 1 := by rw [← hsz]; exact (Heap.SameBut.update ..).1
      obtain ⟨c', hSu⟩ : ∃ c', (h'.update S (Obj.mapSeq (·.push (.ref s.heap.objs.size)))).get? S = some { cls := .type "list", data := .seq (us ++ [Value.ref s.heap.objs.size]).toArray c' } := by
        have q := PySem.IsL.update hSg' (·.push (Value.ref s.heap.objs.size))
        have e : us.toArray.push (Value.ref s.heap.objs.size) = (us ++ [Value.ref s.heap.objs.size]).toArray := by simp
        rw [e] at q
        exact ⟨_, q⟩
      refine ih (i + 1) { s with heap := h'.update S (Obj.mapSeq (·.push (.ref s.heap.objs.size))), toks := tk } _ (vs ++ [.ref s.heap.objs.size]) (us ++ [.ref s.heap.objs.size]) c' (by omega) hlt I2 (fun c hc => ?_) (by show S < _; rw [size2]; exact Nat.lt_succ_of_lt hSl) ?_ (up _ _ (Ne.symm hSn.2.1) (hk _ _ D.TIz D.TITO D.TIi1 D.TIi2 hTI))
        (s1'.at fun o e => up _ _ (Ne.symm hSn.2.2.2.1) e) (s2'.at fun o e => up _ _ (Ne.symm hSn.2.2.2.2) e) (sqk qa (Ne.symm hSa)) (sqk qb (Ne.symm hSb)) upd_same rv1 hSu (by rw [List.length_append, hl]; rfl) (fun q e => hd q (dom q e)) ?_ ?_
      · obtain ⟨⟨f0, f1, f2, f3, f4, f5⟩, fl⟩ := hf c hc
        refine ⟨⟨?_, f1, f2, f3, f4, f5⟩, by show c < _; rw [size2]; exact Nat.lt_succ_of_lt fl⟩
        have hcS : c ≠ S := fun e => hSc (e ▸ hc)
        rw [upd_ne hcS, upd_ne (Nat.ne_of_lt fl)]
        exact f0
      · obtain ⟨f, T, hz', hTz, oT, hT'⟩ := hzh
        by_cases hTS : T = S
        · subst hTS
          exact .inr ⟨T, f, _, up _ _ (Ne.symm hSn.1) hz', Heap.get?_update_self _ hSg' rfl, hTz⟩
        · exact .inr ⟨T, f, oT, up _ _ (Ne.symm hSn.1) hz', up _ _ hTS hT', hTz⟩
      · intro j v hj
        by_cases hji : j < vs.length
        · rw [List.getElem?_append_left hji] at hj
          obtain ⟨x', y', T, q1, q2, q3, q4, q5⟩ := hp j v hj
          refine ⟨x', y', T, q1, q2, q3, hk2 _ _ q4 (fun z => ?_), q5⟩
          rw [z, hS] at q4; cases q4
        · have hle := (List.getElem?_eq_some_iff.mp hj).1
          rw [List.length_append] at hle
          have hje : j = i := by simp at hle; omega
          subst hje
          rw [List.getElem?_append_right (by omega), hl, Nat.sub_self] at hj
          cases hj
          exact ⟨x, y, _, hx, hy, rfl, by rw [upd_ne (Ne.symm hST), upd_same], hd _ hT0⟩
      · intro s' H' vs' I' hl' hS' hk' hd' hp'
        refine hR s' H' vs' I' hl' hS' (fun q o e hq => hk' q o (hk2 q o e hq) hq) (fun q e => dom q (hd' q e)) hp'
    refine wpAny_bind ?_
    have lt1 : i < its.toArray.size := by simp; omega
    have lt2 : i < its2.toArray.size := by simp; omega
    rcases hz with ⟨hz, x0, y0, hTO⟩ | ⟨T, f, oT, hz, hT, hTz⟩
    · refine wpAny_pyNext_zipD2_item D (sq_draws (A := A.in1.in1) hA k i1 a ha its.toArray) (sq_draws (A := A.in1.in1) hA k2 i2 b hb its2.toArray) hz hTI hTO ⟨h1, p⟩ ⟨h2, p2⟩ lt1 lt2 fun w1 w2 h' tk e1 e2 z' TO' s1' s2' hT hsz hk => ?_
      exact next w1 w2 h' tk e1 e2 ⟨false, s.heap.objs.size, z', Nat.ne_of_gt hzl, _, hT⟩ s1'.1 s2'.1 hT hsz hk
    · refine next_zip_held D (sq_draws (A := A.in1.in1) hA k i1 a ha its.toArray) (sq_draws (A := A.in1.in1) hA k2 i2 b hb its2.toArray) hz hT hTI ⟨h1, p⟩ ⟨h2, p2⟩ lt1 lt2 fun w1 w2 h' tk e1 e2 z' s1' s2' hT2 hsz hk => ?_
      by_cases hTi1 : T = i1
      · subst hTi1
        obtain ⟨o, e, _⟩ := s1'.1.obj
        exact next w1 w2 h' tk e1 e2 ⟨true, T, z', hTz, o, e⟩ s1'.1 s2'.1 hT2 hsz fun c o c1 _ c3 c4 => hk c o c1 c3 c4
      · by_cases hTi2 : T = i2
        · subst hTi2
          obtain ⟨o, e, _⟩ := s2'.1.obj
          exact next w1 w2 h' tk e1 e2 ⟨true, T, z', hTz, o, e⟩ s1'.1 s2'.1 hT2 hsz fun c o c1 _ c3 c4 => hk c o c1 c3 c4
        · exact next w1 w2 h' tk e1 e2 ⟨true, T, z', hTz, oT, hk T oT hTz hTi1 hTi2 hT⟩ s1'.1 s2'.1 hT2 hsz fun c o c1 _ c3 c4 => hk c o c1 c3 c4
theorem lz_call {A : Around} {Q : Value → Shared → Prop} {E : Value → Shared → Prop} (hA : A.handled = none) {k k2 : Bool} {a b z TI TO i1 i2 : Addr} {xs ys : List V} {n : Nat} (hn : n = min xs.length ys.length) (hnl : n ≤ sizeLine) (D : ZipSep2 z TI TO i1 i2 [i1, a] [i2, b]) (ha : a ≠ i1) (hb : b ≠ i2)
    {s : Shared} {H : Hp} (I : Inv X pins σ H s) (hf : ∀ c ∈ [z, TI, TO, i1, i2], FpOk X pins H c ∧ c < s.heap.objs.size) (hz : IsZip s.heap z TI TO .none) (hTO : ∃ x y, IsTupOf2 s.heap TO x y) (hTI : IsTupOf2 s.heap TI (.ref i1) (.ref i2)) (h1 : ItAt k s.heap i1 a 0) (h2 : ItAt k2 s.heap i2 b 0)
    (qa : Sq k X.K H a xs) (qb : Sq k2 X.K H b ys)
    (hQ : ∀ (S : Addr) s' H' vs', Inv X pins σ H' s' → H S = none → vs'.length = n → H' S = some (.lst vs') → (∀ q o, H q = some o → H' q = some o) → PrI H H' xs ys vs' → Q (.ref S) s') :
    wpAny (model X.prog X.w) A (call (.type "list") [.ref z]) Q E s := by
  have hH0 : H s.heap.objs.size = none := I.hok.fresh (Nat.le_refl _)
  have hSc : s.heap.objs.size ∉ [z, TI, TO, i1, i2] := fun hm => Nat.lt_irrefl _ (hf _ hm).2
  have hSz : s.heap.objs.size ≠ z := fun e => hSc (by rw [e]; simp)
  have I0 : Inv X pins σ (upd H s.heap.objs.size (.lst [])) { s with heap := s.heap.push { cls := .type "list", data := .seq #[] } } :=
    I.laid (t' := s.toks) (o := .lst []) (fun b o e => Heap.get?_push_of_some _ e) (Nat.le_refl _) ⟨Nat.zero_le _, [], 0, .nil, Heap.get?_push_size _ rfl⟩
  obtain ⟨_, _, _, la⟩ := Inv.sq I qa
  obtain ⟨_, _, _, lb⟩ := Inv.sq I qb
  refine callType_codes (Q₁ := fun obj s₁ => obj = .ref s.heap.objs.size ∧ s₁ = { s with heap := s.heap.push { cls := .type "list", data := .seq #[] } }) F.called_list (F.typeCall_list_1 _) F.entry_list_init
    (code_list_new _ ⟨rfl, rfl⟩) fun obj s₁ h₁ => ?_
  obtain ⟨rfl, rfl⟩ := h₁
  have hS : (s.heap.push { cls := .type "list", data := .seq #[] }).get? s.heap.objs.size = some { cls := .type "list", data := .seq #[] } := Heap.get?_push_size _ rfl
  refine ⟨⟨_, hS, rfl⟩, F.args_list_init_2 _ _, ?_⟩
  -- the empty list is cleared, touched, then the loop
  have up0 : ∀ c o, s.heap.get? c = some o → (s.heap.push { cls := .type "list", data := .seq #[] }).get? c = some o := fun c o e => Heap.get?_push_of_some _ e
  generalize hg : s.heap.push { cls := .type "list", data := .seq #[] } = g0 at *
  have hg0 : g0.objs.size = s.heap.objs.size + 1 := by rw [← hg, Heap.size_push]
  generalize hSd : s.heap.objs.size = S at *
  show wpAny _ A.in1.in1 (do let old ← Builtin.List.listItems (.ref S); Builtin.List.listUpdate (.ref S) (fun _ => #[]); letGo old.toList.reverse; Builtin.List.listExtendWith (.ref S) (.ref z) .none) _ _ _
  refine wpAny_bind ?_
  unfold Builtin.List.listItems
  refine wpAny_bind (wpAny_seqItems hS rfl (wpAny_pure ?_))
  show wpAny _ _ (updateSeq S (fun _ => #[]) >>= fun _ => letGo (#[] : Array Value).toList.reverse >>= fun _ => Builtin.List.listExtendWith (.ref S) (.ref z) .none) _ _ _
  refine wpAny_bind (wpAny_updateSeq hS rfl ?_)
  have hS₂ := Heap.get?_update_self (Obj.mapSeq (fun _ => (#[] : Array Value))) hS rfl
  have I1 := I0.lset (its := []) (its' := []) (f := fun _ => #[]) (t' := s.toks) upd_same hS rfl .nil (Nat.zero_le _)
  rw [upd_upd] at I1
  have up1 : ∀ c o, c ≠ S → g0.get? c = some o → (g0.update S (Obj.mapSeq (fun _ => (#[] : Array Value)))).get? c = some o := fun c o hc e => (Heap.get?_update_other _ _ (Ne.symm hc)).trans e
  have sz1 : (g0.update S (Obj.mapSeq (fun _ => (#[] : Array Value)))).objs.size = g0.objs.size := (Heap.SameBut.update ..).1
  refine wpAny_bind (wpAny_letGo ?_)
  generalize g0.update S (Obj.mapSeq (fun _ => (#[] : Array Value))) = g1 at *
  have hz1 : IsZip g1 z TI TO .none := up1 _ _ (Ne.symm hSz) (up0 _ _ hz)
  have hTy : (⟨g1, s.gens, s.drawn, s.toks, s.os⟩ : Shared).TypeIs (.ref z) "zip" := ⟨_, hz1, rfl⟩
  unfold Builtin.List.listExtendWith
  refine wpAny_bind (wpAny_typeOf hTy ?_)
  have e1 : Builtin.List.listSameRef (.ref S) (.ref z) = false := by simp [Builtin.List.listSameRef, hSz]
  have e2 : (Value.type "zip" == Value.type "list") = false := by decide
  have e3 : (Value.type "zip" == Value.type "tuple") = false := by decide
  simp only [e1, e2, e3, Bool.or_false, Bool.false_eq_true, if_false]
  refine wpAny_bind (wpAny_pyIter_zip hz1 ?_)
  refine wpAny_bind (wpAny_holding ?_)
  unfold Builtin.List.listLengthHint
  refine wpAny_bind (wpAny_specialOf hTy zip_no_len ?_)
  show wpAny _ _ (specialOf (Value.ref z) (Str.ofString "__length_hint__") >>= _) _ _ _
  refine wpAny_bind (wpAny_specialOf hTy zip_no_hint ?_)
  refine wpAny_pure ?_
  show wpAny _ _ (rule "list.extend.makes-room" >>= fun _ => Builtin.List.listTouch (.ref S) >>= fun _ =>
    again (.builtin "list.extend.loop" ⟨[.ref S, .ref z, .none], []⟩)) _ _ _
  refine wpAny_bind (wpAny_rule ?_)
  refine wpAny_bind ?_
  show wpAny _ _ (updateSeq S (·.push .none) >>= fun _ => updateSeq S (·.pop)) _ _ _
  refine wpAny_bind (wpAny_updateSeq (hz := by seq_fits) hS₂ rfl ?_)
  have hS3 := Heap.get?_update_self (Obj.mapSeq (·.push Value.none)) hS₂ rfl
  refine wpAny_updateSeq (hz := by seq_fits) hS3 rfl ?_
  have hS4 := Heap.get?_update_self (Obj.mapSeq (·.pop)) hS3 rfl
  have up2 : ∀ c o, c ≠ S → g1.get? c = some o → ((g1.update S (Obj.mapSeq (·.push Value.none))).update S (Obj.mapSeq (·.pop))).get? c = some o :=
    fun c o hc e => (Heap.get?_update_other _ _ (Ne.symm hc)).trans ((Heap.get?_update_other _ _ (Ne.symm hc)).trans e)
  have sz2 : ((g1.update S (Obj.mapSeq (·.push Value.none))).update S (Obj.mapSeq (·.pop))).objs.size = S + 1 := by
    rw [(Heap.SameBut.update (a := S) ..).1, (Heap.SameBut.update (a := S) ..).1, sz1, hg0]
  have I2 : Inv X pins σ (upd H S (.lst [])) { s with heap := (g1.update S (Obj.mapSeq (·.push Value.none))).update S (Obj.mapSeq (·.pop)) } := by
    have := I1.write (x := S) (e := S) (o := .lst []) (h' := (g1.update S (Obj.mapSeq (·.push Value.none))).update S (Obj.mapSeq (·.pop))) (t' := s.toks) (by rw [upd_same]; exact trivial) (.inl rfl) up2 ⟨_, hS4⟩ ⟨Nat.zero_le _, [], _, .nil, hS4⟩
    rw [upd_upd] at this
    exact this
  have hSn : S ≠ z ∧ S ≠ TI ∧ S ≠ TO ∧ S ≠ i1 ∧ S ≠ i2 := by simpa using hSc
  have up : ∀ c o, c ≠ S → s.heap.get? c = some o → ((g1.update S (Obj.mapSeq (·.push Value.none))).update S (Obj.mapSeq (·.pop))).get? c = some o := fun c o hc e => up2 _ _ hc (up1 _ _ hc (up0 _ _ e))
  have hk2 : ∀ q o, H q = some o → upd H S (.lst []) q = some o := fun q o e => by rw [upd_ne (fun z => by rw [z, hH0] at e; cases e)]; exact e
  have dom0 : ∀ q, upd H S (.lst []) q = none → H q = none := fun q h2 => by
    by_cases hq : q = S
    · subst hq; rw [upd_same] at h2; cases h2
    · rw [upd_ne hq] at h2; exact h2
  have sqk : ∀ {k : Bool} {a : Addr} {xs : List V}, Sq k X.K H a xs → Sq k X.K (upd H S (.lst [])) a xs := fun {k a xs} h => by
    cases k with
    | true =>
      rcases (show SqL X.K H a xs from h) with r | r
      · exact .inl (r.elim (fun r => .inl (hk2 _ _ r)) fun ⟨o, r⟩ => .inr ⟨o, hk2 _ _ r⟩)
      · exact .inr r
    | false =>
      rcases (show SqT X.K H a xs from h) with r | r
      · exact .inl (r.elim (fun r => .inl (hk2 _ _ r)) fun ⟨o, r⟩ => .inr ⟨o, hk2 _ _ r⟩)
      · exact .inr r
  obtain ⟨x0, y0, hTO⟩ := hTO
  have hS5 : ((g1.update S (Obj.mapSeq (·.push Value.none))).update S (Obj.mapSeq (·.pop))).get? S = some { cls := .type "list", data := .seq ([] : List Value).toArray _ } := hS4
  refine wpAny_pure ⟨plainId_quiet F.plain_extend_loop _, lz_loop (A := A.in1) (σ := σ) (pins := pins) hA hn hnl D ha hb hSc (Nat.ne_of_gt la) (Nat.ne_of_gt lb) .none n 0 _ _ [] [] _ (Nat.sub_zero _) (Nat.zero_le _) I2 (fun c hc => ?_) (by show S < _; rw [sz2]; exact Nat.lt_succ_self _)
    (.inl ⟨up _ _ (Ne.symm hSn.1) hz, x0, y0, up _ _ (Ne.symm hSn.2.2.1) hTO⟩) (up _ _ (Ne.symm hSn.2.1) hTI) (h1.at fun o e => up _ _ (Ne.symm hSn.2.2.2.1) e) (h2.at fun o e => up _ _ (Ne.symm hSn.2.2.2.2) e) (sqk qa) (sqk qb) upd_same .nil hS5 rfl (fun q e => dom0 q e) (fun j v h => by simp at h)
    fun s' H' vs' I' hl' hS' hk' hd' hp' => ?_⟩
  · obtain ⟨⟨f0, f1, f2, f3, f4, f5⟩, fl⟩ := hf c hc
    refine ⟨⟨?_, f1, f2, f3, f4, f5⟩, by show c < _; rw [sz2]; exact Nat.lt_succ_of_lt fl⟩
    have hcS : c ≠ S := fun e => hSc (e ▸ hc)
    rw [upd_ne hcS]
    exact f0
  · refine ⟨rfl, hQ S s' H' vs' I' hH0 hl' hS' (fun q o e => hk' q o (hk2 q o e) fun z => by rw [z, hH0] at e; cases e) hp'⟩
end
/-- list(zip(a, b)) -/
def tLstZip (K : PySem.W.Frag) (ta : TA) : TE := fun σ H Q => ta σ H fun vs H1 => ∃ k a xs k2 b ys, vs = [.ref a, .ref b] ∧ Sq k K H1 a xs ∧ Sq k2 K H1 b ys ∧ min xs.length ys.length ≤ sizeLine ∧
  ∀ S H2 ws, H1 S = none → H2 S = some (.lst ws) → ws.length = min xs.length ys.length → Same H1 H2 → PrI H1 H2 xs ys ws → Q (.ref S) H2
theorem pe_listZip {X : Cx} {e e2 : Expr} {ta : TA} {p p2 pos pos2 : Pos} (hc : X.calm = true) (hg : Gl X "zip") (hm : X.mg "zip" = none) (hg2 : Gl X "list") (hm2 : X.mg "list" = none) (ha : PA X [e, e2] ta)
    (hs : starEach [e, e2] X.env = (false, eval e X.env) :: starEach [e2] X.env := by rfl) (hpl : (backTo pos (starEach [e2] X.env)).any (·.1) = false := by rfl)
    (hs2 : starEach [.Call (.Name "zip" p) [e, e2] [] pos] X.env = (false, eval (.Call (.Name "zip" p) [e, e2] [] pos) X.env) :: starEach [] X.env := by rfl) :
    PE X (.Call (.Name "list" p2) [.Call (.Name "zip" p) [e, e2] [] pos] [] pos2) (tLstZip X.K ta) := by
  refine ⟨fun pins s σ H Q I h => ?_⟩
  refine Call_ (ld_blt I hg2 hm2 boot_list (PyProof.Rows.callWith_type1 (args_cons (Call_ (ld_blt I hg hm PyProof.Rows.boot_zip (PyProof.Rows.callWith_type1 (thn (ha.run pos pins s σ H _ I h) fun us s1 ⟨vs, H1, I1, r1, q1⟩ => ?_) hs hpl))) hs2) hs2))
  obtain ⟨k, a, xs, k2, b, ys, ex, hqx, hqy, hl, q⟩ := q1
  subst ex
  cases r1 with
  | cons r rr =>
    cases rr with
    | cons r' rr =>
      cases rr
      cases r
      cases r'
      obtain ⟨its, rv, p1, la⟩ := Inv.sq I1 hqx
      obtain ⟨its2, rv2, p2, lb⟩ := Inv.sq I1 hqy
      refine zip_begins2 (sq_begins k a its.toArray) (sq_begins k2 b its2.toArray) p1 p2 fun h' hz hTI hTO h1 h2 hsz hk => args_nil ?_
      have I2 : Inv X pins σ H1 { s1 with heap := h' } := I1.kept (t' := s1.toks) hk
      refine lz_call (σ := σ) (pins := pins) (I.ok.hd hc) rfl hl (sep2_new s1.heap.objs.size a b la lb) (Nat.ne_of_lt la) (Nat.ne_of_lt (Nat.lt_succ_of_lt lb)) I2 (fun c hcm => ?_) hz ⟨_, _, hTO⟩ hTI (itAt_new h1) (itAt_new h2) hqx hqy fun S s' H' vs' I' hS hl' hS' hk' hp' => ?_
      · have e' : c = s1.heap.objs.size + 4 ∨ c = s1.heap.objs.size + 2 ∨ c = s1.heap.objs.size + 3 ∨ c = s1.heap.objs.size ∨ c = s1.heap.objs.size + 1 := by simpa using hcm
        have hle : s1.heap.objs.size ≤ c ∧ c < s1.heap.objs.size + 5 := by
          rcases e' with z | z | z | z | z
          · rw [z]; exact ⟨Nat.le_add_right _ _, Nat.add_lt_add_left (by decide) _⟩
          · rw [z]; exact ⟨Nat.le_add_right _ _, Nat.add_lt_add_left (by decide) _⟩
          · rw [z]; exact ⟨Nat.le_add_right _ _, Nat.add_lt_add_left (by decide) _⟩
          · rw [z]; exact ⟨Nat.le_refl _, Nat.lt_add_of_pos_right (by decide)⟩
          · rw [z]; exact ⟨Nat.le_add_right _ _, Nat.add_lt_add_left (by decide) _⟩
        exact ⟨I1.fpOk hle.1 (I1.hok.fresh hle.1), by show c < h'.objs.size; rw [hsz]; exact hle.2⟩
      · exact ⟨.ref S, H', I', rfl, q S H' vs' hS hS' hl' hk' hp'⟩
/-! its reading -/
theorem RoL.len {K : PySem.W.Frag} {O : AS} {H : Hp} : ∀ {ds : List Da} {vs : List V}, RoL K O H ds vs → ds.length = vs.length
  | [], vs, h => by simp only [RoL] at h; subst h; rfl
  | d :: ds, vs, h => by
    simp only [RoL] at h
    obtain ⟨w, ws, rfl, _, q⟩ := h
    rw [List.length_cons, List.length_cons, RoL.len q]
theorem RpL.ofGet {K : PySem.W.Frag} {O : AS} {H : Hp} : ∀ {ds : List Da} {vs : List V}, ds.length = vs.length → (∀ (j : Nat) (d : Da) (v : V), ds[j]? = some d → vs[j]? = some v → Rp K O H d v) → RpL K O H ds vs
  | [], [], _, _ => .nil
  | d :: ds, v :: vs, h, g => .cons (g 0 d v rfl rfl) (RpL.ofGet (by simpa using h) fun j d' v' e1 e2 => g (j + 1) d' v' (by simpa using e1) (by simpa using e2))
  | [], _ :: _, h, _ => by simp at h
  | _ :: _, [], h, _ => by simp at h
def zipL : List Da → Option EV
  | [x, y] => (seqD x).bind fun xs => (seqD y).bind fun ys => if min xs.length ys.length ≤ 16777216 then some (.own (.l (zipD xs ys))) else none
  | _ => none
theorem Ro.sq {K : PySem.W.Frag} {O : AS} {H : Hp} {x : Da} {v : V} {xs : List Da} (r : Ro K O H x v) (e : seqD x = some xs) : ∃ k a vs, v = .ref a ∧ Sq k K H a vs ∧ RpL K O H xs vs := by
  cases x with
  | list ys => cases e; obtain ⟨a, vs, rfl, h, r⟩ := r.list; exact ⟨true, a, vs, rfl, .of h, r⟩
  | tuple ys => cases e; obtain ⟨a, vs, rfl, h, r⟩ := r.tupT; exact ⟨false, a, vs, rfl, h, r⟩
  | _ => cases e
section
variable {X : Cx} {W : WX} {a b c e e2 o : Expr} {pos pos2 p p2 : Pos} {fs : VM (List EV)}
theorem ve_listZip {k : Nat} (c : VC X W k) (hm : X.mg "zip" = none) (hm2 : X.mg "list" = none) (ha : VA Tb X W [e, e2] fs) (hg : Gl X "zip" := by rfl) (hg2 : Gl X "list" := by rfl)
    (hs : starEach [e, e2] X.env = (false, eval e X.env) :: starEach [e2] X.env := by rfl) (hpl : (backTo pos (starEach [e2] X.env)).any (·.1) = false := by rfl)
    (hs2 : starEach [.Call (.Name "zip" p) [e, e2] [] pos] X.env = (false, eval (.Call (.Name "zip" p) [e, e2] [] pos) X.env) :: starEach [] X.env := by rfl) :
    VE Tb X W (.Call (.Name "list" p2) [.Call (.Name "zip" p) [e, e2] [] pos] [] pos2) (vCall zipL fs) := by
  refine PE.wk (pe_listZip c.calm hg hm hg2 hm2 ha hs hpl hs2) fun σ H Q h => ?_
  obtain ⟨O, st, F, h⟩ := h
  refine tVA.bind F h fun rs s1 vs H1 S1 E1 h => ?_
  obtain ⟨xs, R, h⟩ := E1.rds S1.fr h
  obtain ⟨z, ez, h⟩ := h.opt1
  match xs, ez, R with
  | [x, y], ez, R =>
    obtain ⟨xs, ex, ez⟩ := Option.bind_eq_some_iff.mp (show (seqD x).bind _ = some z from ez)
    obtain ⟨ys, ey, ez⟩ := Option.bind_eq_some_iff.mp ez
    split at ez
    · rename_i hl
      cases ez
      obtain ⟨v, w, rfl, r1, r2⟩ := R.two
      obtain ⟨k1, a1, vs, rfl, g1, q1⟩ := r1.sq ex
      obtain ⟨k2, a2, ws, rfl, g2, q2⟩ := r2.sq ey
      refine ⟨k1, a1, vs, k2, a2, ws, rfl, g1, g2, by rw [← q1.length, ← q2.length, sizeLine_eq]; exact hl, fun S H2 us hS hS2 hlen kp hp => ?_⟩
      refine h _ _ (S1.trans (Step.ext S1.fr kp)) ((NR.er (z := .own (.l (zipD xs ys))) S1.fr kp ⟨S, rfl, hS, us, hS2, ?_⟩).back S1.dom)
      refine RpL.ofGet (by rw [zipD_len, hlen, q1.length, q2.length]) fun j d v hj hv => ?_
      obtain ⟨x', y', e1, e2, rfl⟩ := zipD_get hj
      obtain ⟨u1, u2, T, f1, f2, rfl, f3, f4⟩ := hp j v hv
      obtain ⟨u1', f1', R1⟩ := q1.get e1
      obtain ⟨u2', f2', R2⟩ := q2.get e2
      rw [f1] at f1'; cases f1'
      rw [f2] at f2'; cases f2'
      simp only [Rp]
      refine ⟨T, [u1, u2], rfl, .inl ⟨f3, fun z => ?_⟩, ?_⟩
      · rcases z with z | z
        · exact S1.fr.avdom T z f4
        · rw [z, hS2] at f3; cases f3
      · exact .cons (Rp.mono (fun a z => z.elim .inl fun z => .inr (by rw [z]; exact hS)) (fun a o e _ _ => kp a o e) _ _ R1) (.one (Rp.mono (fun a z => z.elim .inl fun z => .inr (by rw [z]; exact hS)) (fun a o e _ _ => kp a o e) _ _ R2))
    · cases ez
  | [], ez, _ => cases ez
  | [_], ez, _ => cases ez
  | _ :: _ :: _ :: _, ez, _ => cases ez
end
end VL
set_option Elab.async false
set_option linter.all false
set_option maxRecDepth 100000
namespace VL
open PySem PySem.Spec PyProof.Rows L2
/-! ### storing with a change of owner -/
def AS.ws (O : AS) (P : List Addr) : AS := fun a => O a ∨ a ∈ P
section
variable {K : PySem.W.Frag} {mg : Str → Option Value} {W : WX} {O O' : AS} {P Pl : List Addr} {st s s1 s2 : VS} {σ σ0 σ1 : L2.St} {H H0 H1 H2 : Hp} {v : V} {r : EV} {vs : List V} {rs : List EV}
structure StepP (Tb : List (Addr × Str)) (K : PySem.W.Frag) (O : AS) (P : List Addr) (st : VS) (σ0 : L2.St) (H0 : Hp) (s : VS) (σ : L2.St) (H : Hp) : Prop where
  S : Step Tb K O st σ0 H0 s σ H
  F : FR Tb K (O.ws P) s σ H
  p : ∀ a ∈ P, (MutO st σ0 a ∨ H0 a = none) ∧ ¬ O a
  nd : P.Nodup
/-- the results that are held -/
def PR (Tb : List (Addr × Str)) (K : PySem.W.Frag) (O' : AS) (s : VS) (σ : L2.St) (H : Hp) : List Addr → List V → List EV → Prop
  | Pl, [], [] => Pl = []
  | Pl, v :: vs, .d x :: rs => Rp K (Av O' s σ) H x v ∧ PR Tb K O' s σ H Pl vs rs
  | p :: Pl, v :: vs, .own c :: rs => v = .ref p ∧ Cont K (Av O' s σ) H p c ∧ PR Tb K O' s σ H Pl vs rs
  | Pl, v :: vs, .loan j :: rs => σ[j]? = some (some v) ∧ PR Tb K O' s σ H Pl vs rs
  | _, _, _ => False
theorem PR.to {O1 : AS} (hO : ∀ a, Av O1 s1 σ1 a → Av O' s σ a) (hl : ∀ r ∈ rs, (∃ j, r = .loan j) → σ1 = σ) (h : PR Tb K O' s σ H Pl vs rs) : PR Tb K O1 s1 σ1 H Pl vs rs := by
  induction rs generalizing vs Pl with
  | nil =>
    cases vs with
    | nil => exact h
    | cons v vs => exact h.elim
  | cons r rs ih =>
    cases vs with
    | nil => cases r <;> exact h.elim
    | cons v vs =>
      have ih' := fun {Pl vs} => ih (Pl := Pl) (vs := vs) fun r hr => hl r (List.mem_cons_of_mem _ hr)
      cases r with
      | d x => exact ⟨h.1.sub hO, ih' h.2⟩
      | own c =>
        cases Pl with
        | nil => exact h.elim
        | cons p Pl => exact ⟨h.1, h.2.1.sub hO, ih' h.2.2⟩
      | loan j =>
        have e : σ1 = σ := hl _ List.mem_cons_self ⟨j, rfl⟩
        have h' : σ[j]? = some (some v) ∧ PR Tb K O' s σ H Pl vs rs := by cases Pl <;> exact h
        have g : σ1[j]? = some (some v) ∧ PR Tb K O1 s1 σ1 H Pl vs rs := ⟨by rw [e]; exact h'.1, ih' h'.2⟩
        cases Pl <;> exact g
theorem PR.len (h : PR Tb K O' s σ H Pl vs rs) : vs.length = rs.length := by
  induction rs generalizing vs Pl with
  | nil =>
    cases vs with
    | nil => rfl
    | cons v vs => exact h.elim
  | cons r rs ih =>
    cases vs with
    | nil => cases r <;> exact h.elim
    | cons v vs =>
      cases r with
      | d x => rw [List.length_cons, List.length_cons, ih h.2]
      | own c =>
        cases Pl with
        | nil => exact h.elim
        | cons p Pl => rw [List.length_cons, List.length_cons, ih h.2.2]
      | loan j =>
        have h' : σ[j]? = some (some v) ∧ PR Tb K O' s σ H Pl vs rs := by cases Pl <;> exact h
        rw [List.length_cons, List.length_cons, ih h'.2]
/-- a slot lets go of its list -/
theorem FR.release {j : Nat} {p : Addr} {c : OC} (F : FR Tb K O s σ H) (hs : s[j]? = some (.own c)) (hp : σ[j]? = some (some (.ref p))) :
    FR Tb K (O.with p) (s.set j .un) σ H ∧ Cont K (Av (O.with p) (s.set j .un) σ) H p c ∧ (∀ a, Av (O.with p) (s.set j .un) σ a → Av O s σ a) ∧ Own s σ p ∧ MutO s σ p := by
  have hj : j < s.length := lt_of_get hs
  have jp : OwnAt s σ j p := ⟨hp, c, .inl hs⟩
  have own : ∀ i q, OwnAt (s.set j .un) σ i q → i ≠ j ∧ OwnAt s σ i q := fun i q h => by
    obtain ⟨e, c', h⟩ := h
    by_cases hi : i = j
    · subst hi
      rw [List.getElem?_set_self hj] at h
      rcases h with h | h | h <;> cases h
    · rw [List.getElem?_set_ne (Ne.symm hi)] at h
      exact ⟨hi, e, c', h⟩
  have av : ∀ a, Av (O.with p) (s.set j .un) σ a → Av O s σ a := fun a h => by
    rcases h with (h | h) | ⟨i, h⟩
    · exact .inl h
    · exact .inr (h ▸ ⟨j, jp⟩)
    · exact .inr ⟨i, (own i a h).2⟩
  obtain ⟨v, ev, q, eq, C⟩ := F.slot j _ hs
  rw [hp] at ev; cases ev; cases eq
  refine ⟨⟨by rw [List.length_set]; exact F.len, fun i sv h => ?_, fun a b q h1 h2 => F.inj a b q (own a q h1).2 (own b q h2).2, fun q ⟨i, h⟩ z => ?_, fun q h => h.elim (F.odom q) fun h => h ▸ F.ownSome ⟨j, jp⟩, F.tabs⟩, C.sub av, av, ⟨j, jp⟩, ⟨j, hp, c, .inl hs⟩⟩
  · by_cases hi : i = j
    · subst hi
      rw [List.getElem?_set_self hj] at h
      cases h
      exact ⟨_, hp, trivial⟩
    · rw [List.getElem?_set_ne (Ne.symm hi)] at h
      obtain ⟨v, e, r⟩ := F.slot i sv h
      exact ⟨v, e, r.sub av⟩
  · obtain ⟨ne, h⟩ := own i q h
    rcases z with z | z
    · exact F.avoid q ⟨i, h⟩ z
    · subst z; exact ne (F.inj i j q h jp)
theorem Step.drop {j : Nat} {c : OC} (S : Step Tb K O st σ0 H0 s σ H) (hs : s[j]? = some (.own c)) : Step Tb K O st σ0 H0 (s.set j .un) σ H := by
  obtain ⟨ov, eo, p, ep, C⟩ := S.fr.slot j _ hs
  subst ep
  obtain ⟨F, _, _, _, _⟩ := S.fr.release hs eo
  have hj : j < s.length := lt_of_get hs
  have get : ∀ {i : Nat} {sv : SV}, (s.set j .un)[i]? = some sv → (∀ c, sv = .own c ∨ sv = .io c ∨ sv = .lk c → i ≠ j ∧ s[i]? = some sv) := fun {i sv} h c hsv => by
    by_cases hi : i = j
    · subst hi
      rw [List.getElem?_set_self hj] at h
      cases h
      rcases hsv with h | h | h <;> cases h
    · rw [List.getElem?_set_ne (Ne.symm hi)] at h
      exact ⟨hi, h⟩
  have own : ∀ i q, OwnAt (s.set j .un) σ i q → OwnAt s σ i q := fun i q ⟨e, c', h⟩ => ⟨e, c', by
    rcases h with h | h | h
    · exact .inl (get h c' (.inl rfl)).2
    · exact .inr (.inl (get h c' (.inr (.inl rfl))).2)
    · exact .inr (.inr (get h c' (.inr (.inr rfl))).2)⟩
  have mut' : ∀ i q, MutAt (s.set j .un) σ i q → MutAt s σ i q := fun i q ⟨e, c', h⟩ => ⟨e, c', by
    rcases h with h | h
    · exact .inl (get h c' (.inl rfl)).2
    · exact .inr (get h c' (.inr (.inl rfl))).2⟩
  have other : ∀ {k : Nat} {sv : SV}, s[k]? = some sv → (∀ c, sv ≠ .own c) → (s.set j .un)[k]? = some sv := fun {k sv} h hn => by
    have hk : j ≠ k := fun z => by rw [z] at hs; rw [hs] at h; exact hn c (Option.some.inj h).symm
    rw [List.getElem?_set_ne hk]; exact h
  refine ⟨F.sub fun a h => .inl h, S.keep, fun a ⟨i, h⟩ => S.new a ⟨i, own i a h⟩, fun a ⟨i, h⟩ => S.mnew a ⟨i, mut' i a h⟩, S.dom, S.len, fun i c0 h => ?_, fun i c0 h => ?_⟩
  · obtain ⟨⟨c', h'⟩, e⟩ := S.io i c0 h
    exact ⟨⟨c', other h' (fun c z => by cases z)⟩, e⟩
  · obtain ⟨h', e⟩ := S.lk i c0 h
    exact ⟨other h' (fun c z => by cases z), e⟩
def vRelease : List EV → VS → Option (List EV × VS)
  | [], s => some ([], s)
  | .loan j :: rs, s => match s[j]? with
    | some (.own c) => (vRelease rs (s.set j .un)).map fun q => (.own c :: q.1, q.2)
    | _ => none
  | r :: rs, s => (vRelease rs s).map fun q => (r :: q.1, q.2)
def noLoan : List EV → Prop
  | [] => True
  | .loan _ :: _ => False
  | _ :: rs => noLoan rs
theorem ws_cons {p : Addr} {P : List Addr} : ∀ a, O.ws (p :: P) a ↔ (O.ws P).with p a := fun a => by
  show (O a ∨ a ∈ p :: P) ↔ ((O a ∨ a ∈ P) ∨ a = p)
  rw [List.mem_cons]
  constructor
  · rintro (h | h | h)
    · exact .inl (.inl h)
    · exact .inr h
    · exact .inl (.inr h)
  · rintro ((h | h) | h)
    · exact .inl h
    · exact .inr (.inr h)
    · exact .inr (.inl h)
theorem av_mono {O1 O2 : AS} (h : ∀ a, O1 a → O2 a) : ∀ a, Av O1 s σ a → Av O2 s σ a := fun a z => z.imp (h a) id
theorem rel_ok {rs' : List EV} {s' : VS} : ∀ {rs : List EV} {s : VS} {Pl P : List Addr} {vs : List V} {rs' : List EV} {s' : VS}, StepP Tb K O P st σ0 H0 s σ H → PR Tb K (O.ws P) s σ H Pl vs rs → Pl.Nodup → (∀ q ∈ Pl, q ∈ P) → vRelease rs s = some (rs', s') →
    ∃ P' Pl', StepP Tb K O P' st σ0 H0 s' σ H ∧ PR Tb K (O.ws P') s' σ H Pl' vs rs' ∧ noLoan rs' ∧ Pl'.Nodup ∧ (∀ q ∈ Pl', q ∈ P') ∧ (∀ q ∈ P, q ∈ P') ∧ (∀ q ∈ Pl', q ∈ Pl ∨ q ∉ P) ∧ (∀ a, Av (O.ws P') s' σ a → Av (O.ws P) s σ a) := by
  intro rs
  induction rs with
  | nil =>
    intro s Pl P vs rs' s' SP h nd sub e
    cases e
    cases vs with
    | nil => exact ⟨P, Pl, SP, h, trivial, nd, sub, fun q h => h, fun q h => .inl h, fun a h => h⟩
    | cons v vs => exact h.elim
  | cons r rs ih =>
    intro s Pl P vs rs' s' SP h nd sub e
    cases vs with
    | nil => cases r <;> exact h.elim
    | cons v vs =>
      cases r with
      | d x =>
        obtain ⟨⟨rs2, s2⟩, e1, e2⟩ := Option.map_eq_some_iff.mp (show (vRelease rs s).map _ = some (rs', s') from e)
        cases e2
        obtain ⟨P', Pl', SP', h', nl, nd', sub', sup, new, av⟩ := ih SP h.2 nd sub e1
        exact ⟨P', Pl', SP', ⟨h.1.sub av, h'⟩, nl, nd', sub', sup, new, av⟩
      | own c =>
        cases Pl with
        | nil => exact h.elim
        | cons p Pl =>
          obtain ⟨⟨rs2, s2⟩, e1, e2⟩ := Option.map_eq_some_iff.mp (show (vRelease rs s).map _ = some (rs', s') from e)
          cases e2
          have nd1 := List.nodup_cons.mp nd
          obtain ⟨P', Pl', SP', h', nl, nd', sub', sup, new, av⟩ := ih SP h.2.2 nd1.2 (fun q hq => sub q (List.mem_cons_of_mem _ hq)) e1
          have hpP := sub p List.mem_cons_self
          refine ⟨P', p :: Pl', SP', ⟨h.1, h.2.1.sub av, h'⟩, nl, List.nodup_cons.mpr ⟨fun z => (new p z).elim nd1.1 fun z => z hpP, nd'⟩, fun q hq => ?_, sup, fun q hq => ?_, av⟩
          · rcases List.mem_cons.mp hq with rfl | hq
            · exact sup _ hpP
            · exact sub' q hq
          · rcases List.mem_cons.mp hq with rfl | hq
            · exact .inl List.mem_cons_self
            · exact (new q hq).imp (List.mem_cons_of_mem _) id
      | loan j =>
        have h' : σ[j]? = some (some v) ∧ PR Tb K (O.ws P) s σ H Pl vs rs := by cases Pl <;> exact h
        unfold vRelease at e
        split at e
        · rename_i c hs
          obtain ⟨⟨rs2, s2⟩, e1, e2⟩ := Option.map_eq_some_iff.mp e
          cases e2
          obtain ⟨ov, eo, p, ep, C⟩ := SP.S.fr.slot j _ hs
          subst ep
          rw [h'.1] at eo; cases eo
          obtain ⟨F2, C2, av2, op, mp⟩ := SP.F.release hs h'.1
          have npP : p ∉ P := fun z => SP.F.avoid p op (.inr z)
          have av3 : ∀ a, Av (O.ws (p :: P)) (s.set j .un) σ a → Av (O.ws P) s σ a := fun a z => av2 a (av_mono (fun a z => (ws_cons a).mp z) a z)
          have SP2 : StepP Tb K O (p :: P) st σ0 H0 (s.set j .un) σ H := ⟨SP.S.drop hs, F2.sub fun a z => (ws_cons a).mp z, fun a ha => by
            rcases List.mem_cons.mp ha with rfl | ha
            · exact ⟨SP.S.mnew _ mp, SP.S.fr.avoid _ op⟩
            · exact SP.p a ha, List.nodup_cons.mpr ⟨npP, SP.nd⟩⟩
          obtain ⟨P', Pl', SP', h2, nl, nd', sub', sup, new, av⟩ := ih SP2 (h'.2.to av3 fun _ _ _ => rfl) nd (fun q hq => List.mem_cons_of_mem _ (sub q hq)) e1
          have npl : p ∉ Pl' := fun z => (new p z).elim (fun z => npP (sub p z)) fun z => z List.mem_cons_self
          refine ⟨P', p :: Pl', SP', ⟨rfl, ?_, h2⟩, nl, List.nodup_cons.mpr ⟨npl, nd'⟩, fun q hq => ?_, fun q hq => sup q (List.mem_cons_of_mem _ hq), fun q hq => ?_, fun a z => av3 a (av a z)⟩
          · exact (C2.sub (av_mono fun a z => (ws_cons a).mp z)).sub av
          · rcases List.mem_cons.mp hq with rfl | hq
            · exact sup _ List.mem_cons_self
            · exact sub' q hq
          · rcases List.mem_cons.mp hq with rfl | hq
            · exact .inr npP
            · rcases new q hq with z | z
              · exact .inl z
              · exact .inr fun w => z (List.mem_cons_of_mem _ w)
        · cases e
def vStore : List Nat → List EV → VS → Option VS
  | [], [], s => some s
  | i :: is, .d x :: rs, s => if wrOk s[i]? = true then vStore is rs (s.set i (.d x)) else none
  | i :: is, .own c :: rs, s => if wrOk s[i]? = true then vStore is rs (s.set i (.own c)) else none
  | _, _, _ => none
def setσ : List Nat → List V → L2.St → L2.St
  | i :: is, v :: vs, σ => setσ is vs (σ.set i (some v))
  | _, _, σ => σ
theorem store_ok {s' : VS} : ∀ {is : List Nat} {rs : List EV} {s : VS} {σ : L2.St} {Pl P : List Addr} {vs : List V}, StepP Tb K O P st σ0 H0 s σ H → PR Tb K (O.ws P) s σ H Pl vs rs → noLoan rs → Pl.Nodup → (∀ q ∈ Pl, q ∈ P) → vStore is rs s = some s' →
    Step Tb K O st σ0 H0 s' (setσ is vs σ) H := by
  intro is
  induction is with
  | nil =>
    intro rs s σ Pl P vs SP h nl nd sub e
    cases rs with
    | nil =>
      cases e
      cases vs with
      | nil => exact SP.S
      | cons v vs => exact h.elim
    | cons r rs => cases e
  | cons i is ih =>
    intro rs s σ Pl P vs SP h nl nd sub e
    cases rs with
    | nil => cases e
    | cons r rs =>
      cases vs with
      | nil => cases r <;> exact h.elim
      | cons v vs =>
        have nls : ∀ {rs : List EV}, noLoan rs → ∀ r ∈ rs, ¬ ∃ j, r = EV.loan j := fun {rs} => by
          induction rs with
          | nil => intro _ r hr; cases hr
          | cons r rs ih =>
            intro hn q hq
            rcases List.mem_cons.mp hq with rfl | hq
            · rintro ⟨j, rfl⟩; exact hn
            · exact ih (by cases r <;> first | exact hn | exact hn.elim) q hq
        cases r with
        | loan j => exact nl.elim
        | d x =>
          have e : (if wrOk s[i]? = true then vStore is rs (s.set i (.d x)) else none) = some s' := e
          split at e
          · rename_i hw
            have hn : ∀ c, (SV.d x) ≠ .own c ∧ (SV.d x) ≠ .io c ∧ (SV.d x) ≠ .lk c := fun c => ⟨(fun z => by cases z), (fun z => by cases z), (fun z => by cases z)⟩
            have ow : ∀ a, Av (O.ws P) (s.set i (.d x)) (σ.set i (some v)) a → Av (O.ws P) s σ a := fun a z => z.imp id fun ⟨j, z⟩ => by
              rcases z.set with ⟨_, _, c, z⟩ | ⟨_, z⟩
              · rcases z with z | z | z <;> cases z
              · exact ⟨j, z⟩
            have SP2 : StepP Tb K O P st σ0 H0 (s.set i (.d x)) (σ.set i (some v)) H := ⟨SP.S.setN hw ⟨v, rfl, h.1.sub (av_mono fun a z => .inl z)⟩ hn, SP.F.setN ⟨v, rfl, h.1⟩ hn, SP.p, SP.nd⟩
            exact ih SP2 (h.2.to ow fun r hr z => (nls (by exact nl) r hr z).elim) nl nd sub e
          · cases e
        | own c =>
          cases Pl with
          | nil => exact h.elim
          | cons p Pl =>
            have e : (if wrOk s[i]? = true then vStore is rs (s.set i (.own c)) else none) = some s' := e
            split at e
            · rename_i hw
              obtain ⟨rfl, C, h2⟩ := h
              have hpP := sub p List.mem_cons_self
              have np : p ∉ P.erase p := fun z => (List.Nodup.mem_erase_iff SP.nd).mp z |>.1 rfl
              have wsE : ∀ a, O.ws P a ↔ (O.ws (P.erase p)).with p a := fun a => by
                show (O a ∨ a ∈ P) ↔ ((O a ∨ a ∈ P.erase p) ∨ a = p)
                rw [List.Nodup.mem_erase_iff SP.nd]
                by_cases ha : a = p
                · subst ha; exact ⟨fun _ => .inr rfl, fun _ => .inr hpP⟩
                · exact ⟨fun z => .inl (z.imp id fun z => ⟨ha, z⟩), fun z => z.elim (fun z => z.imp id And.right) fun z => absurd z ha⟩
              have F1 : FR Tb K ((O.ws (P.erase p)).with p) s σ H := SP.F.sub fun a z => (wsE a).mpr z
              have nO : ¬ O.ws (P.erase p) p := fun z => z.elim (SP.p p hpP).2 np
              have F2 := F1.setOwn nO (C.sub (av_mono fun a z => (wsE a).mpr z)) (wr_lt hw)
              have ow : ∀ a, Av (O.ws (P.erase p)) (s.set i (.own c)) (σ.set i (some (.ref p))) a → Av (O.ws P) s σ a := fun a z => by
                rcases z with z | ⟨j, z⟩
                · exact .inl (z.imp id fun z => List.mem_of_mem_erase z)
                · rcases z.set with ⟨_, ez, _⟩ | ⟨_, z⟩
                  · cases ez; exact .inl (.inr hpP)
                  · exact .inr ⟨j, z⟩
              have S2 : Step Tb K O st σ0 H0 (s.set i (.own c)) (σ.set i (some (.ref p))) H := by
                refine ⟨F2.sub fun a z => .inl z, SP.S.keep, fun a ⟨j, z⟩ => ?_, fun a ⟨j, z⟩ => ?_, SP.S.dom, List.length_set.trans SP.S.len, fun j c0 z => ?_, fun j c0 z => ?_⟩
                · rcases z.set with ⟨_, ez, _⟩ | ⟨_, z⟩
                  · cases ez; exact (SP.p p hpP).1.imp MutO.own id
                  · exact SP.S.new a ⟨j, z⟩
                · rcases z.set with ⟨_, ez, _⟩ | ⟨_, z⟩
                  · cases ez; exact (SP.p p hpP).1
                  · exact SP.S.mnew a ⟨j, z⟩
                · obtain ⟨⟨c', h'⟩, e⟩ := SP.S.io j c0 z
                  obtain ⟨a, b⟩ := wr_io (sv := .own c) hw h'
                  exact ⟨⟨c', a⟩, by rw [List.getElem?_set_ne (Ne.symm b)]; exact e⟩
                · obtain ⟨h', e⟩ := SP.S.lk j c0 z
                  obtain ⟨a, b⟩ := wr_lk (sv := .own c) hw h'
                  exact ⟨a, by rw [List.getElem?_set_ne (Ne.symm b)]; exact e⟩
              have SP2 : StepP Tb K O (P.erase p) st σ0 H0 (s.set i (.own c)) (σ.set i (some (.ref p))) H := ⟨S2, F2, fun a ha => SP.p a (List.mem_of_mem_erase ha), SP.nd.erase p⟩
              have nd1 := List.nodup_cons.mp nd
              exact ih SP2 (h2.to ow fun r hr z => (nls (by exact nl) r hr z).elim) nl nd1.2 (fun q hq => (List.Nodup.mem_erase_iff SP.nd).mpr ⟨fun z => nd1.1 (z ▸ hq), sub q (List.mem_cons_of_mem _ hq)⟩) e
            · cases e
/-- arguments that keep their lists -/
def tVP (Tb : List (Addr × Str)) (K : PySem.W.Frag) (mg : Str → Option Value) (W : WX) (f : VM (List EV)) : TA := fun σ H Q =>
  ∃ O st, FR Tb K O st σ H ∧ VRun Tb K mg W O st σ H (f st) fun rs s => ∀ vs H' P, StepP Tb K O P st σ H s σ H' → PR Tb K (O.ws P) s σ H' P vs rs → Q vs H'
def vPc (f : VM EV) (fs : VM (List EV)) : VM (List EV) := vb f fun r => vb fs fun rs => vr (r :: rs)
end
abbrev VP (Tb : List (Addr × Str)) (X : Cx) (W : WX) (es : List Expr) (f : VM (List EV)) : Prop := PA X es (tVP Tb X.K X.mg W f)
section
variable {K : PySem.W.Frag} {mg : Str → Option Value} {W : WX} {O O' : AS} {P Pl : List Addr} {st s s1 s2 : VS} {σ σ0 σ1 : L2.St} {H H0 H1 H2 : Hp} {v : V} {r : EV} {vs : List V} {rs : List EV}
/-- one result more -/
theorem PR.cons (S1 : Step Tb K O st σ H s1 σ H1) (E1 : ER Tb K O H s1 σ H1 v r) : ∃ P1 : List Addr, FR Tb K (O.ws P1) s1 σ H1 ∧ ∀ P' vs rs s2 H2, StepP Tb K (O.ws P1) P' s1 σ H1 s2 σ H2 → PR Tb K ((O.ws P1).ws P') s2 σ H2 P' vs rs →
    StepP Tb K O (P1 ++ P') st σ H s2 σ H2 ∧ PR Tb K (O.ws (P1 ++ P')) s2 σ H2 (P1 ++ P') (v :: vs) (r :: rs) := by
  have w2 : ∀ {P1 P' : List Addr} a, O.ws (P1 ++ P') a ↔ (O.ws P1).ws P' a := fun {P1 P'} a => by
    show (O a ∨ a ∈ P1 ++ P') ↔ ((O a ∨ a ∈ P1) ∨ a ∈ P')
    rw [List.mem_append, or_assoc]
  have stp : ∀ {P1 : List Addr}, (∀ p ∈ P1, H p = none ∧ ¬ O p) → P1.Nodup → ∀ {P' : List Addr} {s2 : VS} {H2 : Hp}, StepP Tb K (O.ws P1) P' s1 σ H1 s2 σ H2 → StepP Tb K O (P1 ++ P') st σ H s2 σ H2 := fun {P1} h1 nd1 {P' s2 H2} SP => by
    refine ⟨S1.trans (SP.S.sub fun a z => .inl z), SP.F.sub fun a z => (w2 a).mp z, fun a ha => ?_, List.nodup_append.mpr ⟨nd1, SP.nd, fun a ha b hb e => (SP.p b hb).2 (.inr (e ▸ ha))⟩⟩
    rcases List.mem_append.mp ha with ha | ha
    · exact ⟨.inr (h1 a ha).1, (h1 a ha).2⟩
    · obtain ⟨q, n⟩ := SP.p a ha
      exact ⟨q.elim (S1.mnew a) fun q => .inr (S1.dom a q), fun z => n (.inl z)⟩
  have avb : ∀ {P1 P' : List Addr} {s2 : VS} {H2 : Hp}, StepP Tb K (O.ws P1) P' s1 σ H1 s2 σ H2 → ∀ a, Av (O.ws (P1 ++ P')) s2 σ a → Av (O.ws P1) s1 σ a ∨ H1 a = none := fun {P1 P' s2 H2} SP a z => by
    rcases z with z | z
    · rcases (w2 a).mp z with z | z
      · exact .inl (.inl z)
      · rcases (SP.p a z).1 with q | q
        · exact .inl (.inr q.own)
        · exact .inr q
    · exact (SP.S.new a z).imp .inr id
  cases r with
  | d x =>
    refine ⟨[], S1.fr.sub fun a z => z.elim id fun z => (by cases z), fun P' vs rs s2 H2 SP h => ⟨stp (fun _ h => by cases h) List.nodup_nil SP, ?_, h.to (av_mono fun a z => (w2 a).mp z) fun _ _ _ => rfl⟩⟩
    exact Rp.mono (fun a z => (avb SP a z).imp (av_mono (fun a z => z.elim id fun z => (by cases z)) a) id) (fun a o e t n => SP.S.keep a o e t fun z => n (.inr z.own)) _ _ E1
  | own c =>
    obtain ⟨p, rfl, hp, n, F, C⟩ := E1
    have e1 : ∀ a, O.ws [p] a → O.with p a := fun a z => z.imp id fun z => by simpa using z
    refine ⟨[p], F.sub e1, fun P' vs rs s2 H2 SP h => ⟨stp (fun q hq => by rw [List.mem_singleton.mp hq]; exact ⟨hp, n⟩) (by simp) SP, rfl, ?_, h.to (av_mono fun a z => (w2 a).mp z) fun _ _ _ => rfl⟩⟩
    have hpm : ¬ MutO s1 σ p := fun z => F.avoid p z.own (.inr rfl)
    refine C.mono (fun a z => (avb SP a z).imp (av_mono e1 a) id) (fun a o e t n => SP.S.keep a o e t fun z => n (.inr z.own)) ?_
    cases e : H1 p with
    | none => exact absurd e C.there
    | some o => exact SP.S.keep p o e (C.ntb e) hpm
  | loan j =>
    refine ⟨[], S1.fr.sub fun a z => z.elim id fun z => (by cases z), fun P' vs rs s2 H2 SP h => ⟨stp (fun _ h => by cases h) List.nodup_nil SP, ?_⟩⟩
    have h2 : PR Tb K (O.ws ([] ++ P')) s2 σ H2 ([] ++ P') vs rs := h.to (av_mono fun a z => (w2 a).mp z) fun _ _ _ => rfl
    have E1 : σ[j]? = some (some v) := E1
    rw [List.nil_append] at h2 ⊢
    cases P' <;> exact ⟨E1, h2⟩
end
section
variable {X : Cx} {W : WX} {a b c e : Expr} {es : List Expr} {pos : Pos} {fe : VM EV} {fs : VM (List EV)}
theorem vp_nil : VP Tb X W [] (vr []) := PA.wk pa_nil fun σ H Q ⟨O, st, F, h⟩ => h [] H [] ⟨Step.refl F, F.sub fun a z => z.elim id fun z => (by cases z), fun _ h => (by cases h), List.nodup_nil⟩ rfl
theorem vp_cons (ha : VE Tb X W e fe) (hr : VP Tb X W es fs) (hs : starEach (e :: es) X.env = (false, eval e X.env) :: starEach es X.env := by rfl) : VP Tb X W (e :: es) (vPc fe fs) := by
  refine PA.wk (pa_cons ha hr hs) fun σ H Q h => ?_
  obtain ⟨O, st, F, h⟩ := h
  refine tV.bind F h fun r s1 v H1 S1 E1 h => ?_
  obtain ⟨P1, F1, g⟩ := PR.cons S1 E1
  refine ⟨O.ws P1, s1, F1, ((vrun_vb h).more fun a z => .inl z).mono fun rs s2 q vs H2 P' SP h2 => ?_⟩
  obtain ⟨a1, a2⟩ := g P' vs rs s2 H2 SP h2
  exact q (v :: vs) H2 _ a1 a2
def vPar (is : List Nat) (fs : VM (List EV)) : VM Ctl := vb fs fun rs => fun s => match vRelease rs s with
  | some (rs', s2) => match vStore is rs' s2 with
    | some s3 => .ok (.nx, s3)
    | none => .error .stuck
  | none => .error .stuck
theorem vPar_ok {K : PySem.W.Frag} {mg : Str → Option Value} {O : AS} {P : List Addr} {st s : VS} {σ σ0 : L2.St} {H H0 : Hp} {vs : List V} {rs : List EV} {is : List Nat} {D : Ends} (SP : StepP Tb K O P st σ0 H0 s σ H) (h : PR Tb K (O.ws P) s σ H P vs rs)
    {O9 : AS} {st9 : VS} {σ9 : L2.St} {H9 : Hp} (g : VRun Tb K mg W O9 st9 σ9 H9 ((fun s => match vRelease rs s with
      | some (rs', s2) => match vStore is rs' s2 with
        | some s3 => .ok (.nx, s3)
        | none => .error .stuck
      | none => .error .stuck : VM Ctl) s) (CtlK Tb K O st σ0 H0 D)) : vs.length = is.length ∧ D.nx (setσ is vs σ) H := by
  dsimp only at g
  cases e : vRelease rs s with
  | none => rw [e] at g; exact g.elim
  | some q =>
    obtain ⟨rs', s2⟩ := q
    rw [e] at g
    dsimp only at g
    cases e2 : vStore is rs' s2 with
    | none => rw [e2] at g; exact g.elim
    | some s3 =>
      rw [e2] at g
      obtain ⟨P', Pl', SP', h', nl, nd', sub', _⟩ := rel_ok (rs' := rs') (s' := s2) SP h SP.nd (fun q h => h) e
      refine ⟨?_, g _ _ (store_ok SP' h' nl nd' sub' e2)⟩
      have len : ∀ {is : List Nat} {rs : List EV} {s s3 : VS}, vStore is rs s = some s3 → rs.length = is.length := fun {is} => by
        induction is with
        | nil => intro rs s s3 h; cases rs with
          | nil => rfl
          | cons r rs => cases h
        | cons i is ih =>
          intro rs s s3 h
          cases rs with
          | nil => cases h
          | cons r rs =>
            cases r with
            | d x =>
              have h : (if wrOk s[i]? = true then vStore is rs (s.set i (.d x)) else none) = some s3 := h
              split at h
              · rw [List.length_cons, List.length_cons, ih h]
              · cases h
            | own x =>
              have h : (if wrOk s[i]? = true then vStore is rs (s.set i (.own x)) else none) = some s3 := h
              split at h
              · rw [List.length_cons, List.length_cons, ih h]
              · cases h
            | loan x => cases h
      rw [h'.len, len e2]
theorem vs_par2 {i j : Nat} {x y : Str} {px py pt : Pos} {kt k2 pt2} (hc : X.calm = true) (hN : X.N.Nodup) (hi : X.N[i]? = some x) (hj : X.N[j]? = some y) (hij : i ≠ j)
    (hx : X.env.scope.names.lookup x = some .local) (hy : X.env.scope.names.lookup y = some .local) (ha : VP Tb X W [a, b] fs)
    (hw : swappedStores [.Tuple [.Name x px, .Name y py] kt pt] (.Tuple [a, b] k2 pt2) X.env = pure (some [x, y]))
    (hs : swapsWithSole [.Tuple [.Name x px, .Name y py] kt pt] (.Tuple [a, b] k2 pt2) pos.line X.env = pure false := by rfl) :
    VSt Tb X W (.Assign [.Tuple [.Name x px, .Name y py] kt pt] (.Tuple [a, b] k2 pt2) pos) (vPar [i, j] fs) := by
  refine PS.wk (ps_par hc hN hi hj hij hx hy ha hw hs) fun D σ H h => ?_
  obtain ⟨O, st, F, h⟩ := h
  refine ⟨O, st, F, (vrun_vb h).mono fun rs s q vs H1 P SP hp => ?_⟩
  obtain ⟨hl, hn⟩ := vPar_ok SP hp q
  match vs, hl, hn with
  | [v, w], _, hn => exact ⟨v, w, rfl, hn⟩
theorem vs_setM {i : Nat} {x : Str} {pos' : Pos} (hN : X.N.Nodup) (hi : X.N[i]? = some x) (hx : Loc X.env.scope x) (he : VE Tb X W e fe) (hs : swapsWith e (some (.Name x pos')) pos.line X.env = pure false := by rfl) (hf : X.fn x = true ∨ X.env.scope.names.lookup x = some .local := by first | exact .inl rfl | exact .inr rfl | assumption) :
    VSt Tb X W (.Assign [.Name x pos'] e pos) (vPar [i] (vPc fe (vr []))) := by
  refine PS.wk (ps_set hN hi hx he hs hf) fun D σ H h => ?_
  obtain ⟨O, st, F, h⟩ := h
  have h : VRun Tb X.K X.mg W O st σ H (vb fe (fun r => fun s => match vRelease [r] s with
      | some (rs', s2) => match vStore [i] rs' s2 with
        | some s3 => .ok (.nx, s3)
        | none => .error .stuck
      | none => .error .stuck) st) (CtlK Tb X.K O st σ H D) := by
    have : vPar [i] (vPc fe (vr [])) = vb fe (fun r => fun s => match vRelease [r] s with
      | some (rs', s2) => match vStore [i] rs' s2 with
        | some s3 => .ok (.nx, s3)
        | none => .error .stuck
      | none => .error .stuck) := by
      funext s
      show vb (vb fe fun r => vb (vr []) fun rs => vr (r :: rs)) _ s = _
      unfold vb
      cases fe s with
      | ok p => rfl
      | error er => rfl
    rw [this] at h; exact h
  refine tV.bind F h fun r s1 v H1 S1 E1 h => ?_
  obtain ⟨P1, F1, g⟩ := PR.cons S1 E1
  obtain ⟨a1, a2⟩ := g [] [] [] s1 H1 ⟨Step.refl F1, F1.sub fun a z => z.elim id fun z => (by cases z), fun _ h => (by cases h), List.nodup_nil⟩ rfl
  have hP : P1 ++ [] = P1 := List.append_nil _
  rw [hP] at a1 a2
  exact (vPar_ok (is := [i]) a1 a2 h).2
end
end VL
set_option Elab.async false
set_option linter.all false
set_option maxRecDepth 100000
namespace VL
open PySem PySem.Spec PyProof.Rows L2 HT
/-! ### t[::-1] -/
section
variable {prog : Program} {w : World} {A : Around} {E : Value → Shared → Prop} {s : Shared}
theorem pick_rev (xs : Array Value) : ((List.range xs.size).filterMap fun (m : Nat) => xs[((xs.size : Int) - 1 + (m : Int) * (-1)).toNat]?) = xs.toList.reverse := by
  have h : ∀ m, m < xs.size → xs[((xs.size : Int) - 1 + (m : Int) * (-1)).toNat]? = xs.toList.reverse[m]? := fun m hm => by
    have e : ((xs.size : Int) - 1 + (m : Int) * (-1)).toNat = xs.size - 1 - m := by omega
    rw [e, List.getElem?_reverse (by simpa using hm), Array.length_toList, Array.getElem?_toList]
  have h2 : (List.range xs.size).filterMap (fun (m : Nat) => xs[((xs.size : Int) - 1 + (m : Int) * (-1)).toNat]?) = (List.range xs.size).filterMap (fun m => xs.toList.reverse[m]?) := by
    have g : ∀ (l : List Nat), (∀ m ∈ l, m < xs.size) → l.filterMap (fun (m : Nat) => xs[((xs.size : Int) - 1 + (m : Int) * (-1)).toNat]?) = l.filterMap (fun m => xs.toList.reverse[m]?) := by
      intro l
      induction l with
      | nil => intro _; rfl
      | cons m l ih =>
        intro hl
        rw [List.filterMap_cons, List.filterMap_cons, h m (hl m List.mem_cons_self), ih fun k hk => hl k (List.mem_cons_of_mem _ hk)]
    exact g _ fun m hm => List.mem_range.mp hm
  rw [h2]
  have h3 : ∀ (l : List Value), (List.range l.length).filterMap (fun m => l[m]?) = l := by
    intro l
    induction l with
    | nil => rfl
    | cons x l ih =>
      rw [List.length_cons, List.range_succ_eq_map, List.filterMap_cons]
      simp only [List.getElem?_cons_zero]
      rw [List.filterMap_map]
      congr 1
  have h4 := h3 xs.toList.reverse
  rw [List.length_reverse, Array.length_toList] at h4
  exact h4
theorem getItem_tuple_rev {t sl : Addr} {items : Array Value} {vs : Value} {Q : Value → Shared → Prop} (ht : IsTup s.heap t items) (hs : s.heap.IsSliceOf sl .none .none vs) (ps : IsPart vs (some (-1)))
    (h : Q (.ref s.heap.objs.size) { s with heap := s.heap.push { cls := .type "tuple", data := .seq items.toList.reverse.toArray } }) (hsz : items.size ≤ sizeLine) : wpAny (model prog w) A (getItem (.ref t) (.ref sl)) Q E s := by
  have htake : sizeOk (.seq items.toList.reverse.toArray) := by
    show items.toList.reverse.toArray.size ≤ sizeLine
    rw [List.size_toArray, List.length_reverse, Array.length_toList]; exact hsz
  obtain ⟨os, hos, hcs, hds⟩ := id hs
  have hTs : s.TypeIs (.ref sl) "slice" := ⟨os, hos, hcs⟩
  unfold getItem
  try with_reducible refine wpAny_holding ?_
  first | refine wpAny_bind (wpAny_pure ?_) | skip
  refine wpAny_bind (wpAny_sequenceKey ht.typeIs (by decide) ?_)
  refine wpAny_bind (wpAny_callSpecial?_slot (name := Str.ofString "__getitem__") ht.typeIs PyProof.Rows.slot_tuple_getitem
    (wpAny_call_entry PyProof.Rows.slot_tuple_getitem ht.typeIs entry_tuple_getitem ?_ (args_tuple_getitem _ _)))
  show wpAny _ _ (Builtin.Tuple.tupleItemsOf (.ref t) >>= _) _ _ s
  refine wpAny_bind (tupleItemsOf_ ht ?_)
  refine wpAny_bind (wpAny_typeOf hTs ?_)
  rw [if_pos (by decide)]
  refine wpAny_bind ?_
  unfold Builtin.Slice.sliceApplied Builtin.Slice.sliceFields
  refine wpAny_bind (wpAny_bind (wpAny_field hos hds (x := .none) rfl (wpAny_bind (wpAny_field hos hds (x := .none) rfl (wpAny_bind (wpAny_field hos hds (x := vs) rfl (wpAny_pure ?_)))))))
  refine wpAny_bind (slicePart_ ps ?_)
  show wpAny _ _ (if ((-1 : Int) == 0) = true then _ else _) _ _ s
  rw [if_neg (by decide)]
  refine wpAny_bind (slicePart_none (wpAny_bind (slicePart_none (wpAny_bind (wpAny_pure ?_)))))
  have ad : Builtin.Slice.sliceAdjust none none (-1) (items.size : Int) = ((items.size : Int) - 1, -1) := by
    unfold Builtin.Slice.sliceAdjust
    have : ((-1 : Int) < 0) := by omega
    simp only [this, if_true]
  have pl : Builtin.Slice.slicePlaces ((items.size : Int) - 1) (-1) (-1) = items.size := by
    unfold Builtin.Slice.slicePlaces
    have h1 : ¬ ((-1 : Int) > 0) := by omega
    simp only [h1, if_false]
    by_cases h2 : (items.size : Int) - 1 > -1
    · rw [if_pos h2]
      have : ((items.size : Int) - 1 - -1 - 1) / -(-1) + 1 = (items.size : Int) := by
        have : (-(-1 : Int)) = 1 := by omega
        rw [this, Int.ediv_one]; omega
      rw [this]; simp
    · rw [if_neg h2]; omega
  show wpAny _ _ (match Builtin.Slice.sliceAdjust none none (-1) (items.size : Int) with | (lo, hi) => pure (lo, (-1 : Int), Builtin.Slice.slicePlaces lo hi (-1))) _ _ s
  rw [ad]
  show wpAny _ _ (pure ((items.size : Int) - 1, (-1 : Int), Builtin.Slice.slicePlaces ((items.size : Int) - 1) (-1) (-1))) _ _ s
  rw [pl]
  refine wpAny_pure ?_
  have hno : ¬ ((((items.size : Int) - 1) == 0 && (-1 : Int) == 1 && items.size == items.size) = true) := by
    intro q
    rw [Bool.and_eq_true, Bool.and_eq_true] at q
    exact absurd q.1.2 (by decide)
  show wpAny _ _ (if (((items.size : Int) - 1) == 0 && (-1 : Int) == 1 && items.size == items.size) = true then _ else _) _ _ s
  rw [if_neg hno, pick_rev]
  first
    | exact wpAny_bind (m := Builtin.Tuple.tupleExact _) (wpAny_newObj_type (wpAny_pure ⟨_, rfl, wpAny_pure h⟩) htake)
    | exact wpAny_bind (m := Builtin.Tuple.tupleExact _) (wpAny_newObj_type (wpAny_bind (wpAny_pure (wpAny_pure ⟨_, rfl, wpAny_pure h⟩))) htake)
    | exact wpAny_bind (wpAny_bind (m := Builtin.Tuple.tupleExact _) (wpAny_newObj_type (wpAny_pure (wpAny_pure ⟨_, rfl, wpAny_pure h⟩)) htake))
    | exact wpAny_bind (wpAny_bind (m := Builtin.Tuple.tupleExact _) (wpAny_newObj_type (wpAny_pure ⟨_, rfl, wpAny_pure h⟩) htake))
end
/-- x[::-1], x a list or a tuple -/
def tRevA (K : PySem.W.Frag) (te : TE) : TE := fun σ H Q => te σ H fun x H1 => ∃ a xs, x = .ref a ∧ ((SqL K H1 a xs ∧ ∀ p, H1 p = none → Q (.ref p) (upd H1 p (.lst xs.reverse))) ∨ (SqT K H1 a xs ∧ ∀ p, H1 p = none → Q (.ref p) (upd H1 p (.tup xs.reverse))))
section
variable {X : Cx} {W : WX} {a b c d e : Expr} {es : List Expr} {pos : Pos} {fa fb fe : VM EV} {fs : VM (List EV)}
theorem pe_revA {e : Expr} {te : TE} {k : Nat} {p1 p2 p3 pos : Pos} (he : PE X e te) : PE X (.Subscript e (.Slice none none (some (.UnaryOp .USub (.Constant (.int 1) k p1) p2)) p3) pos) (tRevA X.K te) := by
  refine ⟨fun pins s σ H Q I h => ?_⟩
  refine Subscript_ (thn (he.run pins s σ H _ I h) fun v s1 ⟨x, H1, I1, r1, q1⟩ => ?_)
  obtain ⟨a, xs, ex, hx⟩ := q1
  subst ex
  cases r1
  have hst : PO X (some (.UnaryOp .USub (.Constant (.int 1) k p1) p2)) (tPart (tUn (rU fun i => .int (-i)) (tC (.int 1)))) := po_some (pe_un un_neg pe_int)
  refine wpAny_Slice (thn (po_none.run pins s1 σ H1 (fun o H2 => o = none ∧ H2 = H1) I1 ⟨rfl, rfl⟩) fun vl s2 ⟨l, H2, I2, pl, el, e2⟩ => ?_)
  subst el e2
  refine thn (po_none.run pins s2 σ H2 (fun o H3 => o = none ∧ H3 = H2) I2 ⟨rfl, rfl⟩) fun vu s3 ⟨u, H3, I3, pu, eu, e3⟩ => ?_
  subst eu e3
  refine thn (hst.run pins s3 σ H3 (fun o H4 => o = some (-1) ∧ H4 = H3) I3 ⟨1, rfl, -1, rfl, rfl, rfl⟩) fun vs s4 ⟨o, H4, I4, ps, eo, e4⟩ => ?_
  subst eo e4
  have I5 : Inv X pins σ H4 { s4 with heap := s4.heap.push { cls := .type "slice", data := .fields #[vl, vu, vs] } } := I4.kept (t' := s4.toks) fun b ob q => Heap.get?_push_of_some _ q
  show wpAny (model X.prog X.w) X.A (subscriptTail e (.Slice none none (some (.UnaryOp .USub (.Constant (.int 1) k p1) p2)) p3) (.ref a) (.ref s4.heap.objs.size)) (EP X pins σ Q) X.xe { s4 with heap := s4.heap.push { cls := .type "slice", data := .fields #[vl, vu, vs] } }
  rcases hx with ⟨hx, q⟩ | ⟨hx, q⟩
  · obtain ⟨its, r, ht, hz⟩ := I5.list hx
    have hlen := r.length
    refine tail_any (ops := [.ref a, .ref s4.heap.objs.size]) ht.isList.typeIs (PySem.slot_list_getitem.lookup) ?_ (by with_unfolding_all rfl)
    refine wpAny_getItem_list_slice ht.isList (Heap.IsSliceOf.new _ vl vu vs) pl pu ps (by decide) ?_ (by rw [List.size_toArray]; omega)
    rw [PySem.W.krv_pick]
    refine ⟨.ref _, _, I5.laid (t' := s4.toks) (o := .lst xs.reverse) (fun b ob q => Heap.get?_push_of_some _ q) (Nat.le_refl _) ?_, rfl, q _ (I5.hok.fresh (Nat.le_refl _))⟩
    exact ⟨by rw [List.length_reverse]; exact hz, _, 0, r.reverse, Heap.get?_push_size _ rfl⟩
  · obtain ⟨its, r, ht, hz⟩ := I5.tuple hx
    have hlen := r.length
    refine tail_any (ops := [.ref a, .ref s4.heap.objs.size]) ht.typeIs PyProof.Rows.slot_tuple_getitem.lookup ?_ (by with_unfolding_all rfl)
    cases pl
    cases pu
    refine getItem_tuple_rev ht (Heap.IsSliceOf.new _ .none .none vs) ps ?_ (by rw [List.size_toArray]; omega)
    refine ⟨.ref _, _, I5.laid (t' := s4.toks) (o := .tup xs.reverse) (fun b ob q => Heap.get?_push_of_some _ q) (Nat.le_refl _) ?_, rfl, q _ (I5.hok.fresh (Nat.le_refl _))⟩
    exact ⟨by rw [List.length_reverse]; exact hz, _, r.reverse, IsTup.new _ _⟩
def revD : Da → Option EV
  | .list xs => some (.own (.l xs.reverse))
  | .tuple xs => some (.d (.tuple xs.reverse))
  | _ => none
theorem ve_rev {k : Nat} {p1 p2 p3 pos : Pos} (he : VE Tb X W e fe) : VE Tb X W (.Subscript e (.Slice none none (some (.UnaryOp .USub (.Constant (.int 1) k p1) p2)) p3) pos) (vUn revD fe) := by
  refine PE.wk (pe_revA he) fun σ H Q h => ?_
  obtain ⟨O, st, F, h⟩ := h
  refine tV.bind F h fun ra s1 v H1 S1 E1 h => ?_
  obtain ⟨x, Rx, h⟩ := h.rd S1.fr E1
  obtain ⟨z, ez, h⟩ := h.opt1
  cases x with
  | list xs =>
    cases ez
    obtain ⟨a, vs, rfl, g, r⟩ := Rx.list
    exact ⟨a, vs, rfl, .inl ⟨.of g, fun p hp => h _ _ (S1.trans (Step.ext S1.fr (Same.upd hp))) ((NR.er S1.fr (Same.upd hp) (NR.lst r.reverse hp)).back S1.dom)⟩⟩
  | tuple xs =>
    cases ez
    obtain ⟨a, vs, rfl, g, r⟩ := Rx.tupT
    exact ⟨a, vs, rfl, .inr ⟨g, fun p hp => h _ _ (S1.trans (Step.ext S1.fr (Same.upd hp))) ((NR.er S1.fr (Same.upd hp) (NR.tup S1.fr.avdom r.reverse hp)).back S1.dom)⟩⟩
  | _ => cases ez
/-! three at once; name = [..] -/
theorem vs_par3 {i j l : Nat} {x y z : Str} {px py pz pt pos : Pos} {kt k2 pt2} (hc : X.calm = true) (hN : X.N.Nodup) (hi : X.N[i]? = some x) (hj : X.N[j]? = some y) (hl : X.N[l]? = some z) (hij : i ≠ j) (hil : i ≠ l) (hjl : j ≠ l)
    (hx : X.env.scope.names.lookup x = some .local) (hy : X.env.scope.names.lookup y = some .local) (hz : X.env.scope.names.lookup z = some .local) (ha : VP Tb X W [a, b, c] fs)
    (hw : swappedStores [.Tuple [.Name x px, .Name y py, .Name z pz] kt pt] (.Tuple [a, b, c] k2 pt2) X.env = pure (some [x, y, z]))
    (hs : swapsWithSole [.Tuple [.Name x px, .Name y py, .Name z pz] kt pt] (.Tuple [a, b, c] k2 pt2) pos.line X.env = pure false := by rfl) :
    VSt Tb X W (.Assign [.Tuple [.Name x px, .Name y py, .Name z pz] kt pt] (.Tuple [a, b, c] k2 pt2) pos) (vPar [i, j, l] fs) := by
  refine PS.wk (ps_par3 hc hN hi hj hl hij hil hjl hx hy hz ha hw hs) fun D σ H h => ?_
  obtain ⟨O, st, F, h⟩ := h
  refine ⟨O, st, F, (vrun_vb h).mono fun rs s q vs H1 P SP hp => ?_⟩
  obtain ⟨hl, hn⟩ := vPar_ok SP hp q
  match vs, hl, hn with
  | [v, w, u], _, hn => exact ⟨v, w, u, rfl, hn⟩
theorem vs_setLc {i k : Nat} {y : Str} {py pos spos : Pos} {elt tg iter : Expr} {ifs : List Expr} {scope : Scope} {own : List (Str × Nat)} {fi : VM (List Da × Lks)} {f : Da → VM Unit} {tt : VM Bool} {te : VM EV} (c : VC X W k) (hy : X.N[i]? = some y) (hyl : X.env.scope.names.lookup y = some .local)
    (hsw : swapsWith (.ListComp elt [⟨tg, iter, ifs, 0⟩] scope pos) (some (.Name y py)) spos.line X.env = pure true) (hi : VI Tb X W tg iter fi) (ok : BlkOk X.N X.env.scope scope own)
    (hg : ∀ (s : Shared) (H : Hp) (C : Addr) (cl : List (Str × Addr)) (fp : List Addr), VGD Tb (X.blk s H scope (compEnvC scope cl C X.env) fp) (own.map (·.2)) tg f)
    (ht : ∀ (s : Shared) (H : Hp) (C : Addr) (cl : List (Str × Addr)) (fp : List Addr), VC (X.blk s H scope (compEnvC scope cl C X.env) fp) W0 k → VTs Tb (X.blk s H scope (compEnvC scope cl C X.env) fp) W0 ifs tt)
    (he : ∀ (s : Shared) (H : Hp) (C : Addr) (cl : List (Str × Addr)) (fp : List Addr), VC (X.blk s H scope (compEnvC scope cl C X.env) fp) W0 k → VE Tb (X.blk s H scope (compEnvC scope cl C X.env) fp) W0 elt te) (hs : ∀ x, foldedSetIterable iter X.env x = pure x := by intro _; rfl) :
    VSt Tb X W (.Assign [.Name y py] (.ListComp elt [⟨tg, iter, ifs, 0⟩] scope pos) spos) (vAsg (vLc (own.map (·.2)) fi f tt te) (vSet i)) := by
  have cb : ∀ (s : Shared) (H : Hp) (C : Addr) (cl : List (Str × Addr)) (fp : List Addr), VC (X.blk s H scope (compEnvC scope cl C X.env) fp) W0 k := fun s H C cl fp => ⟨c.calm, c.nd, takes0, c.rm⟩
  refine PS.wk (ps_setLc (wi := tVI Tb X.K X.mg W fi) (g := gVD Tb X.K (own.map (·.2)) f) (tt := tVT Tb X.K X.mg W0 tt) (te := tV Tb X.K X.mg W0 te) c.calm c.nd hy hyl hsw hi ok hg (fun s H C cl fp => ht s H C cl fp (cb s H C cl fp)) (fun s H C cl fp => he s H C cl fp (cb s H C cl fp)) hs) fun D σ H h => ?_
  have h2 := asg_wk h
  exact lc_wk (h2.imp fun O ⟨st, F, q⟩ => ⟨st, F, q.mono fun r s z v H' S E => (z v H' S E).name⟩)
end
end VL
set_option Elab.async false
set_option linter.all false
set_option maxRecDepth 100000
namespace VL
open PySem PySem.Spec PyProof.Rows L2
/-! ### the law's end -/
theorem walk_v {l : PySem.W.OpenLaw} {n k : Nat} {q : Program} {loose : List Str} {XP : (Str → Option Value) → Heap → Prop} {YP : World → Heap → Prop} {d : DefRec} {x : Str}
    (hn : l.most = some n) (hn2 : n ≤ sizeLine) (hdf : d.params.defaults = []) (hr : Room k callerA) {m : FM}
    (F : ∀ (w : World) (mg : Str → Option Value) (fa : Addr) (h : Heap), YP w h → h.Ns mainGlobals mg → mg d.name = some (.ref fa) →
      ∃ (K : PySem.W.Frag) (fd : FuncData), K.In h ∧ (∀ (s : Shared) (u : Value), BindsTo s fd ⟨[u], []⟩ [(x, u)]) ∧
        ∀ base : Heap, K.In base → base.Ns mainGlobals mg → FnOk l.prog w K mg base (L2.CX l.prog w) k fa fd [x] (spV [] K mg 1 m))
    (hm : ∀ ns : List Int, ns.length ≤ n → ∃ st', m [.rd (ns.map PyData.int)] = .ok (.d (.bool true), st')) :
    PySem.W.WalkO q loose XP YP l.row.toRowW d [] (fun f vs => PySem.call f vs) := by
  refine Att.attach_call hn hdf fun w s₀ s₁ mg mb fa o pm cd doc a vs ns G Y ho hd hcd hmg hobj hints hlen hg => ?_
  obtain ⟨K, fd, KX, hb, hF⟩ := F w mg fa _ Y G.T.g hmg
  refine law_call KX G.T.g G.T.b G.T.builtins G.T.nolimit hg hobj hints (Nat.le_trans hlen hn2) hr hF hb (fun H hO hS => ?_) fun H e s' => ?_
  · obtain ⟨st', e⟩ := hm ns hlen
    refine ⟨rfl, fun _ => False, [.rd (ns.map PyData.int)], ⟨rfl, fun i sv h => ?_, fun i j p h => ?_, fun p ⟨i, h⟩ => ?_, fun p h => h.elim, fun p hp => by cases hp⟩, fun i c h => ?_, ?_⟩
    · match i, h with
      | 0, h =>
        cases h
        exact ⟨_, rfl, a, ns.map V.int, rfl, hS.imp (fun r => ⟨r, fun z => z.elim id fun ⟨i, z⟩ => by
          obtain ⟨_, c, z⟩ := z
          match i, z with
          | 0, z => rcases z with z | z | z <;> cases z
          | i + 1, z => simp at z⟩) id, RpL.ofInts ns⟩
      | i + 1, h => simp at h
    · obtain ⟨_, c, z⟩ := h
      match i, z with
      | 0, z => rcases z with z | z | z <;> cases z
      | i + 1, z => simp at z
    · obtain ⟨_, c, z⟩ := h
      match i, z with
      | 0, z => rcases z with z | z | z <;> cases z
      | i + 1, z => simp at z
    · match i, h with
      | 0, h => cases h
      | i + 1, h => simp at h
    · rw [e]
      intro v H' S E
      simpa only [ER, Rp] using E
  · rintro ⟨_, _, _, _, _, _, _, _, _, _, _, _, z⟩
    exact z
end VL
set_option Elab.async false
set_option linter.all false
set_option maxRecDepth 100000
namespace VL
open PySem PySem.Spec PyProof.Rows L2
/-- a def of the top, by its name -/
structure Fx (K : PySem.W.Frag) (mg : Str → Option Value) (x : Str) (st : Stmt) (ps : List Str) (f : Addr) (fd : FuncData) : Prop where
  F : Fun K x x st f fd
  b : Binds K fd ps []
  m : mg x = some (.ref f)
section
variable {X : Cx} {W : WX} {x : Str} {pos : Pos}
theorem ve_gint {i : Int} (hm : ∃ t, X.mg x = some (.int i t)) (hg : Gl X x := by rfl) (hd : (x == ("__debug__" : Str)) = false := by decide) : VE Tb X W (.Name x pos) (vC (.int i)) := by
  obtain ⟨t, hm⟩ := hm
  exact ve_c (v := .int i) (pe_glob hg hm ⟨t, rfl⟩ hd) fun _ _ => by simp only [Rp]
theorem ve_gstr {z : Str} (hm : ∃ t, X.mg x = some (.str z t)) (hg : Gl X x := by rfl) (hd : (x == ("__debug__" : Str)) = false := by decide) : VE Tb X W (.Name x pos) (vC (.str z)) := by
  obtain ⟨t, hm⟩ := hm
  exact ve_c (v := .str z) (pe_glob hg hm ⟨t, rfl⟩ hd) fun _ _ => by simp only [Rp]
end
end VL
set_option Elab.async false
set_option linter.all false
set_option maxRecDepth 100000
namespace VL
open PySem PySem.Spec PyProof.Rows L2
section
variable {K : PySem.W.Frag} {mg : Str → Option Value} {W : WX} {O O' : AS} {P Pl : List Addr} {st s s1 s2 : VS} {σ σ0 σ1 : L2.St} {H H0 H1 H2 : Hp} {v : V} {r : EV} {vs : List V} {rs : List EV}
theorem Cont.ext {p : Addr} {c : OC} (h : Cont K O H p c) (k : Same H H1) : Cont K O H1 p c := by
  refine h.mono (fun _ h => .inl h) (fun a o e _ _ => k a o e) ?_
  cases e : H p with
  | none => exact absurd e h.there
  | some o => exact k _ _ e
theorem PR.ext (k : Same H H1) (h : PR Tb K O' s σ H Pl vs rs) : PR Tb K O' s σ H1 Pl vs rs := by
  induction rs generalizing vs Pl with
  | nil =>
    cases vs with
    | nil => exact h
    | cons v vs => exact h.elim
  | cons r rs ih =>
    cases vs with
    | nil => cases r <;> exact h.elim
    | cons v vs =>
      cases r with
      | d x => exact ⟨Rp.mono (fun _ h => .inl h) (fun a o e _ _ => k a o e) _ _ h.1, ih h.2⟩
      | own c =>
        cases Pl with
        | nil => exact h.elim
        | cons p Pl => exact ⟨h.1, h.2.1.ext k, ih h.2.2⟩
      | loan j =>
        have h' : σ[j]? = some (some v) ∧ PR Tb K O' s σ H Pl vs rs := by cases Pl <;> exact h
        have g : σ[j]? = some (some v) ∧ PR Tb K O' s σ H1 Pl vs rs := ⟨h'.1, ih h'.2⟩
        cases Pl <;> exact g
theorem StepP.ext (SP : StepP Tb K O P st σ0 H0 s σ H) (k : Same H H1) : StepP Tb K O P st σ0 H0 s σ H1 :=
  ⟨SP.S.trans (Step.ext SP.S.fr k), SP.F.ext k, SP.p, SP.nd⟩
end
/-- names in their order -/
def gN (is : List Nat) : TGs := fun vs σ H Q => vs.length = is.length ∧ Q (setσ is vs σ) H
section
variable {X : Cx} {W : WX} {a b c e : Expr} {es ts : List Expr} {pos p : Pos} {fe : VM EV} {fs : VM (List EV)} {is : List Nat}
theorem gn_nil : PGs X [] (gN []) := PGs.wk pgs_nil fun vs σ H Q h => by
  obtain ⟨h1, h2⟩ := h
  cases vs with
  | nil => exact ⟨rfl, h2⟩
  | cons v vs => cases h1
theorem gn_cons {i : Nat} {x : Str} {p : Pos} (hN : X.N.Nodup) (hi : X.N[i]? = some x) (hx : Loc X.env.scope x) (h : PGs X ts (gN is)) (hs : (assignEach (.Name x p :: ts) X.env).map (·.2) = assign (.Name x p) X.env :: (assignEach ts X.env).map (·.2) := by rfl) (hf : X.fn x = true ∨ X.env.scope.names.lookup x = some .local := by first | exact .inl rfl | exact .inr rfl | assumption) :
    PGs X (.Name x p :: ts) (gN (i :: is)) := by
  refine PGs.wk (pgs_cons (pg_name hN hi hx hf) h hs) fun vs σ H Q g => ?_
  obtain ⟨h1, h2⟩ := g
  cases vs with
  | nil => cases h1
  | cons v vs => exact ⟨v, vs, rfl, by simpa using h1, h2⟩
theorem vs_parT {kt k2 : Nat} {pt pt2 : Pos} (hc : X.calm = true) (hg : PGs X ts (gN is)) (ha : VP Tb X W es fs) (hl : is.length ≤ 16 := by decide)
    (hn : (assignEach ts X.env).length = is.length := by rfl) (hst : (assignEach ts X.env).findIdx? (·.1) = none := by rfl)
    (hs : swapsWithSole [.Tuple ts kt pt] (.Tuple es k2 pt2) pos.line X.env = pure false := by rfl) (hw : swappedStores [.Tuple ts kt pt] (.Tuple es k2 pt2) X.env = pure none := by rfl)
    (h1 : (assignEach [.Tuple ts kt pt] X.env).map (·.2) = [assign (.Tuple ts kt pt) X.env] := by rfl) : VSt Tb X W (.Assign [.Tuple ts kt pt] (.Tuple es k2 pt2) pos) (vPar is fs) := by
  refine PS.wk (ps_asg (pe_tup ha) (pg_tup hc hg hn hst) hs hw h1) fun D σ H h => ?_
  obtain ⟨O, st, F, h⟩ := h
  refine ⟨O, st, F, (vrun_vb h).mono fun rs s q vs H1 P SP hp => ?_⟩
  have hlen := (vPar_ok (mg := X.mg) (W := W) (D := { D with nx := fun _ _ => True }) (O9 := O) (st9 := st) (σ9 := σ) (H9 := H) SP hp (by
    revert q
    dsimp only
    intro q
    cases e : vRelease rs s with
    | none => rw [e] at q; exact q.elim
    | some q' =>
      obtain ⟨rs', s2⟩ := q'
      rw [e] at q
      dsimp only at q ⊢
      cases e2 : vStore is rs' s2 with
      | none => rw [e2] at q; exact q.elim
      | some s3 => exact fun _ _ _ => trivial)).1
  refine ⟨by rw [hlen, sizeLine_eq]; omega, fun p hp' => ?_⟩
  have k := Same.upd (o := .tup vs) hp'
  refine ⟨p, vs, rfl, .of upd_same, hlen, hlen, ?_⟩
  exact (vPar_ok (D := D) (SP.ext k) (hp.ext k) q).2
end
end VL
set_option Elab.async false
set_option linter.all false
set_option maxRecDepth 100000
namespace VL
open PySem PySem.Spec PyProof.Rows L2
/-! ### quicker mirrors -/
mutual
/-- data without dicts, no deeper than n -/
def shF : Nat → Da → Bool
  | _, .none => true
  | _, .bool _ => true
  | _, .int _ => true
  | _, .str x => PyData.canLay0 (.str x)
  | 0, .list _ => false
  | n + 1, .list xs => shFs n xs
  | 0, .tuple _ => false
  | n + 1, .tuple xs => shFs n xs
  | _, .dict _ => false
def shFs : Nat → List Da → Bool
  | _, [] => true
  | n, x :: xs => shF n x && shFs n xs
end
mutual
theorem shF_ok : ∀ (n : Nat) (d : Da), shF n d = true → d.canLay0 = true ∧ d.depth ≤ n
  | _, .none, _ => ⟨rfl, Nat.zero_le _⟩
  | _, .bool _, _ => ⟨rfl, Nat.zero_le _⟩
  | _, .int _, _ => ⟨rfl, Nat.zero_le _⟩
  | _, .str x, h => by simp only [shF] at h; exact ⟨h, Nat.zero_le _⟩
  | 0, .list _, h => by simp only [shF] at h; cases h
  | n + 1, .list xs, h => by
    simp only [shF] at h
    obtain ⟨a, b⟩ := shFs_ok n xs h
    exact ⟨by simp only [PyData.canLay0]; exact a, by simp only [PyData.depth]; omega⟩
  | 0, .tuple _, h => by simp only [shF] at h; cases h
  | n + 1, .tuple xs, h => by
    simp only [shF] at h
    obtain ⟨a, b⟩ := shFs_ok n xs h
    exact ⟨by simp only [PyData.canLay0]; exact a, by simp only [PyData.depth]; omega⟩
  | _, .dict _, h => by simp only [shF] at h; cases h
theorem shFs_ok : ∀ (n : Nat) (ds : List Da), shFs n ds = true → PyData.canLayAll0 ds = true ∧ PyData.depthAll ds ≤ n
  | n, [], _ => ⟨rfl, by simp only [PyData.depthAll]; exact Nat.zero_le _⟩
  | n, x :: xs, h => by
    simp only [shFs, Bool.and_eq_true] at h
    obtain ⟨a, b⟩ := shF_ok n x h.1
    obtain ⟨c, d⟩ := shFs_ok n xs h.2
    exact ⟨by simp only [PyData.canLayAll0, a, c, Bool.and_self], by simp only [PyData.depthAll]; omega⟩
end
theorem shF_shaped {d : Da} (h : shF 64 d = true) : SeqAt.shaped d = true := by
  obtain ⟨a, b⟩ := shF_ok 64 d h
  unfold SeqAt.shaped
  rw [a, decide_eq_true b]; rfl
theorem Op2.le {X : Cx} {f : Value → Value → Sem Value} {g g' : Da → Da → Option EV} (h : Op2 X f g) (hg : ∀ x y z, g' x y = some z → g x y = some z) : Op2 X f g' := by
  obtain ⟨r, h1, h2⟩ := h
  exact ⟨r, h1, fun O H x y v w z Q hd hx hy e q => h2 O H x y v w z Q hd hx hy (hg x y z e) q⟩
def eqF (x y : Da) : Option EV := match x, y with
  | .int i, .int j => some (.d (.bool (i == j)))
  | x, y => if shF 64 x = true ∧ shF 64 y = true then some (.d (.bool (PyData.eqv x y))) else none
def neF (x y : Da) : Option EV := match x, y with
  | .int i, .int j => some (.d (.bool (!(i == j))))
  | x, y => if shF 64 x = true ∧ shF 64 y = true then some (.d (.bool (!PyData.eqv x y))) else none
theorem o_eqF {X : Cx} (hu : X.A.units + 64 < cLine) : Op2 X (compareOp .Eq) eqF := (o_eq hu).le fun x y z e => by
  unfold eqF at e
  split at e
  · exact e
  · split at e
    · rename_i h
      unfold eqD
      rw [if_pos ⟨shF_shaped h.1, shF_shaped h.2⟩]; exact e
    · cases e
theorem o_neF {X : Cx} (hu : X.A.units + 64 < cLine) : Op2 X (compareOp .NotEq) neF := (o_ne hu).le fun x y z e => by
  unfold neF at e
  split at e
  · exact e
  · split at e
    · rename_i h
      unfold neD
      rw [if_pos ⟨shF_shaped h.1, shF_shaped h.2⟩]; exact e
    · cases e
def inF' (neg : Bool) (x y : Da) : Option EV := (seqD y).bind fun xs => if shF 64 x = true ∧ shFs 63 xs = true then some (.d (.bool (if neg = true then !inB x xs else inB x xs))) else none
def inF : Da → Da → Option EV := inF' false
def notinF : Da → Da → Option EV := inF' true
theorem inF_le {neg : Bool} {x y : Da} {z : EV} (e : inF' neg x y = some z) : inD' neg x y = some z := by
  unfold inF' at e
  unfold inD'
  obtain ⟨xs, e1, e⟩ := Option.bind_eq_some_iff.mp e
  rw [e1]
  split at e
  · rename_i h
    have : shF 64 (.list xs) = true := by simp only [shF]; exact h.2
    show (if _ then _ else _) = _
    rw [if_pos ⟨shF_shaped h.1, shF_shaped this⟩]; exact e
  · cases e
section
variable {X : Cx} {W : WX} {elt tg iter : Expr} {ifs : List Expr} {scope : Scope} {own : List (Str × Nat)} {pos : Pos} {fi : VM (List Da × Lks)} {f : Da → VM Unit} {tt : VM Bool} {te : VM EV}
theorem o_inF {k : Nat} (c : VC X W k) : Op2 X (compareOp .In) inF := (o_in c).le fun _ _ _ => inF_le
theorem o_notinF {k : Nat} (c : VC X W k) : Op2 X (compareOp .NotIn) notinF := (o_notin c).le fun _ _ _ => inF_le
/-! comprehensions -/
def vLcG (ix : List Nat) (gt : Da → VM Unit) (tt : VM Bool) (te : VM EV) : List Da → VM (List Da)
  | [] => vr []
  | x :: xs => vb (gt x) fun _ => vb tt fun b => if b = true then vb te fun r => vb (vOpt (evD r)) fun y => vb (vWipe ix) fun _ => vb (vLcG ix gt tt te xs) fun ys => vr (y :: ys)
      else vb (vWipe ix) fun _ => vLcG ix gt tt te xs
def vLcF (ix : List Nat) (fi : VM (List Da × Lks)) (gt : Da → VM Unit) (tt : VM Bool) (te : VM EV) : VM EV := vb fi fun p => fun s =>
  if ix.all (fun j => flatS s[j]?) = true then
    match vLcG ix gt tt te p.1 (wipeV ix s) with
    | .ok (ys, s2) => if ys.length ≤ 16777216 then .ok (.own (.l ys), unlock p.2 (restV s ix s2)) else .error .stuck
    | .error _ => .error .stuck
  else .error .stuck
def noX {α : Type} : Res α → Option α
  | .ok a => some a
  | .error _ => none
theorem noX_vb {α β : Type} {g : VM α} {h : α → VM β} {s : VS} : noX (vb g h s) = (noX (g s)).bind fun p => noX (h p.1 p.2) := by
  unfold vb
  cases g s with
  | ok p => rfl
  | error e => rfl
theorem lcG_eq (ix : List Nat) (gt : Da → VM Unit) (tt : VM Bool) (te : VM EV) : ∀ (xs acc : List Da) (s : VS), acc.length ≤ 16777216 →
    noX (vLcL ix gt tt te xs acc s) = (noX (vLcG ix gt tt te xs s)).bind fun p => if acc.length + p.1.length ≤ 16777216 then some (acc ++ p.1, p.2) else none
  | [], acc, s, h => by
    show some (acc, s) = (if acc.length + 0 ≤ 16777216 then some (acc ++ [], s) else none)
    rw [Nat.add_zero, if_pos h, List.append_nil]
  | x :: xs, acc, s, h => by
    simp only [vLcL, vLcG, noX_vb]
    cases e1 : noX (gt x s) with
    | none => rfl
    | some p1 =>
      simp only [Option.bind_some]
      cases e2 : noX (tt p1.2) with
      | none => rfl
      | some p2 =>
        simp only [Option.bind_some]
        by_cases hb : p2.1 = true
        · simp only [hb, if_true, noX_vb]
          cases e3 : noX (te p2.2) with
          | none => rfl
          | some p3 =>
            simp only [Option.bind_some]
            cases e4 : noX (vOpt (evD p3.1) p3.2) with
            | none => rfl
            | some p4 =>
              simp only [Option.bind_some]
              by_cases hl : acc.length < 16777216
              · rw [if_pos hl]
                simp only [noX_vb]
                cases e5 : noX (vWipe ix p4.2) with
                | none => rfl
                | some p5 =>
                  simp only [Option.bind_some]
                  rw [lcG_eq ix gt tt te xs (acc ++ [p4.1]) p5.2 (by rw [List.length_append]; show acc.length + 1 ≤ _; omega)]
                  cases noX (vLcG ix gt tt te xs p5.2) with
                  | none => rfl
                  | some p6 =>
                    simp only [Option.bind_some]
                    show _ = (if acc.length + (p4.1 :: p6.1).length ≤ 16777216 then some (acc ++ (p4.1 :: p6.1), p6.2) else none)
                    have e : (acc ++ [p4.1]).length + p6.1.length = acc.length + (p4.1 :: p6.1).length := by simp; omega
                    rw [e, List.append_assoc]; rfl
              · rw [if_neg hl]
                cases e5 : noX (vWipe ix p4.2) with
                | none => rfl
                | some p5 =>
                  simp only [Option.bind_some]
                  cases noX (vLcG ix gt tt te xs p5.2) with
                  | none => rfl
                  | some p6 =>
                    simp only [Option.bind_some]
                    show none = (if acc.length + (p4.1 :: p6.1).length ≤ 16777216 then some (acc ++ (p4.1 :: p6.1), p6.2) else none)
                    rw [if_neg (by rw [List.length_cons]; omega)]
        · simp only [hb, Bool.false_eq_true, if_false, noX_vb]
          cases e5 : noX (vWipe ix p2.2) with
          | none => rfl
          | some p5 =>
            simp only [Option.bind_some]
            exact lcG_eq ix gt tt te xs acc p5.2 h
theorem lc_F (ix : List Nat) (fi : VM (List Da × Lks)) (f : Da → VM Unit) (tt : VM Bool) (te : VM EV) : vLc ix fi f tt te = vLcF ix fi f tt te := by
  funext s
  show vb fi _ s = vb fi _ s
  unfold vb
  cases fi s with
  | error e => rfl
  | ok p =>
    obtain ⟨p, s1⟩ := p
    dsimp only
    by_cases hf : ix.all (fun j => flatS s1[j]?) = true
    · rw [if_pos hf, if_pos hf]
      have h := lcG_eq ix f tt te p.1 [] (wipeV ix s1) (Nat.zero_le _)
      cases e1 : vLcG ix f tt te p.1 (wipeV ix s1) with
      | error e =>
        rw [e1] at h
        cases e2 : vLcL ix f tt te p.1 [] (wipeV ix s1) with
        | error e => rfl
        | ok q => rw [e2] at h; cases h
      | ok q =>
        obtain ⟨ys, s2⟩ := q
        rw [e1] at h
        have h : noX (vLcL ix f tt te p.1 [] (wipeV ix s1)) = if 0 + ys.length ≤ 16777216 then some ([] ++ ys, s2) else none := h
        rw [Nat.zero_add, List.nil_append] at h
        dsimp only
        split at h
        · rename_i hl
          cases e2 : vLcL ix f tt te p.1 [] (wipeV ix s1) with
          | error e => rw [e2] at h; cases h
          | ok q => rw [e2] at h; cases h; dsimp only; rw [if_pos hl]
        · rename_i hl
          cases e2 : vLcL ix f tt te p.1 [] (wipeV ix s1) with
          | error e => dsimp only; rw [if_neg hl]
          | ok q => rw [e2] at h; cases h
    · rw [if_neg hf, if_neg hf]
theorem ve_lcF {e : Expr} {ix : List Nat} (h : VE Tb X W e (vLc ix fi f tt te)) : VE Tb X W e (vLcF ix fi f tt te) := lc_F ix fi f tt te ▸ h
theorem vs_lcF {s : Stmt} {ix : List Nat} {g : EV → VM Unit} (h : VSt Tb X W s (vAsg (vLc ix fi f tt te) g)) : VSt Tb X W s (vAsg (vLcF ix fi f tt te) g) := lc_F ix fi f tt te ▸ h
/-! what is forgotten -/
def fgt1 (i : Nat) (s : VS) : VS := match s[i]? with
  | some (.io _) => s
  | some (.lk _) => s
  | _ => s.set i .un
def vFgt {α : Type} (is : List Nat) (g : VM α) : VM α := fun s => g (is.foldl (fun s i => fgt1 i s) s)
theorem Step.fgt1 {K : PySem.W.Frag} {O : AS} {st : VS} {σ : L2.St} {H : Hp} (F : FR Tb K O st σ H) (i : Nat) : Step Tb K O st σ H (fgt1 i st) σ H := by
  have gen : ∀ sv, st[i]? = some sv → (∀ c, sv ≠ .io c ∧ sv ≠ .lk c) → (∀ c, sv ≠ .own c) → Step Tb K O st σ H (st.set i .un) σ H := fun sv hs h1 h2 => by
    obtain ⟨v, ev, _⟩ := F.slot i sv hs
    have e : σ.set i v = σ := by
      apply List.ext_getElem?
      intro j
      by_cases hj : j = i
      · subst hj; rw [List.getElem?_set_self (by rw [← F.len]; exact lt_of_get hs), ev]
      · rw [List.getElem?_set_ne (Ne.symm hj)]
    have := Step.setN (i := i) (sv := .un) (ov := v) (Step.refl F) (by
      rw [hs]
      cases sv with
      | io c => exact absurd rfl (h1 c).1
      | lk c => exact absurd rfl (h1 c).2
      | own c => rfl
      | un => rfl
      | d x => rfl
      | rd x => rfl) trivial (fun c => ⟨(fun z => by cases z), (fun z => by cases z), (fun z => by cases z)⟩)
    rw [e] at this
    exact this
  unfold VL.fgt1
  split
  · exact Step.refl F
  · exact Step.refl F
  · rename_i h1 h2
    cases hs : st[i]? with
    | none =>
      have e : st.set i .un = st := by
        apply List.ext_getElem?
        intro j
        by_cases hj : j = i
        · subst hj; rw [hs, List.getElem?_eq_none (by rw [List.length_set]; exact List.getElem?_eq_none_iff.mp hs)]
        · rw [List.getElem?_set_ne (Ne.symm hj)]
      rw [e]; exact Step.refl F
    | some sv =>
      by_cases ho : ∃ c, sv = .own c
      · obtain ⟨c, rfl⟩ := ho
        exact (Step.refl F).drop hs
      · exact gen sv hs (fun c => ⟨fun z => h1 c (z ▸ hs), fun z => h2 c (z ▸ hs)⟩) fun c z => ho ⟨c, z⟩
theorem Step.fgts {K : PySem.W.Frag} {O : AS} {σ : L2.St} {H : Hp} : ∀ (is : List Nat) {st : VS}, FR Tb K O st σ H → Step Tb K O st σ H (is.foldl (fun s i => VL.fgt1 i s) st) σ H
  | [], st, F => Step.refl F
  | i :: is, st, F => (Step.fgt1 F i).trans (Step.fgts is (Step.fgt1 F i).fr)
theorem vs_fgts {ss : List Stmt} {g : VM Ctl} (is : List Nat) (h : VSs Tb X W ss g) : VSs Tb X W ss (vFgt is g) := PSs.wk h fun D σ H ⟨O, st, F, q⟩ => by
  have S := Step.fgts is F
  exact ⟨O, _, S.fr, (VRun.step S q).mono fun c s z => z.step S⟩
end
end VL
set_option Elab.async false
set_option linter.all false
set_option maxRecDepth 100000
set_option maxHeartbeats 0
/-! an own exception's __init__ that begins with super().__init__(..) -/
namespace VL
open PySem PySem.Spec PyProof.Rows L2 LamX NdefX PySem.Calls
/-- super().__init__(es), then rest -/
abbrev supBody (p0 p1 p2 p3 p4 : Pos) (es : List Expr) (rest : List Stmt) : List Stmt := .Expr (.Call (.Attribute (.Call (.Name "super" p0) [] [] p1) "__init__" p2) es [] p3) p4 :: rest
/-- the object at u is ValueError.__init__ bound to x -/
def MwO (u x : Addr) : HO := .ext fun h => h.get? u = some (PySem.W.kxs_mw "ValueError.__init__" x)
theorem mwO_ok {P : Program} {w : World} {H : Hp} {h : Heap} {u x : Addr} (hu : h.get? u = some (PySem.W.kxs_mw "ValueError.__init__" x)) : ObjOk P w H h u (MwO u x) :=
  ⟨hu, ⟨_, hu⟩, fun h1 h2 z k => k _ z⟩
theorem mwO_at {P : Program} {w : World} {H : Hp} {h : Heap} {u x : Addr} (hok : HOk P w H h) (he : H u = some (MwO u x)) : h.get? u = some (PySem.W.kxs_mw "ValueError.__init__" x) := by
  have z : ObjOk P w H h u (.ext fun h => h.get? u = some (PySem.W.kxs_mw "ValueError.__init__" x)) := hok u _ he
  exact z.1
/-- the wrapper called -/
theorem call_mw {X : Cx} {pins : List (Addr × Obj)} {σ : L2.St} {H : Hp} {s : Shared} {A : Around} {E : Value → Shared → Prop} {u a C : Addr} {us : List Value} {Q : Value → Shared → Prop} (T : OexC X.K C) (I : Inv X pins σ H s) (hu : H u = some (MwO u a)) (e : H a = some (exo a C none)) (hl : us.length ≤ sizeLine)
    (h : ∀ s', Inv X pins σ H s' → Q .none s') : wpAny (model X.prog X.w) A (call (.ref u) us) Q E s := by
  obtain ⟨nm, q, N, bs, bm, sn, sub, ab, col, dd, k0, k1, k2, k3, k5, hC, hbm⟩ := T.cls
  obtain ⟨t1, ho⟩ := exo_at I.hok e
  have hmu := mwO_at I.hok hu
  have hkC := I.kIn _ _ hC
  have J : ∀ {t : Nat} {h' : Heap}, (∀ b o, b ≠ a → s.heap.get? b = some o → h'.get? b = some o) → ∀ t2, h'.get? a = some ({ cls := .ref C, dict := none, data := .fields #[.ref t2, .none, .none, .none, .bool false, .none] } : Obj) → Inv X pins σ H { s with heap := h', toks := t } := fun {t h'} k t2 hx => by
    have J := I.write (t' := t) (x := a) (e := a) (o := exo a C none) (by rw [e]; exact True.intro) (.inl rfl) k ⟨_, hx⟩ (exo_ok hx)
    have eu : upd H a (exo a C none) = H := by
      funext b
      by_cases hb : b = a
      · rw [hb, upd_same, e]
      · rw [upd_ne hb]
    rw [eu] at J
    exact J
  obtain ⟨hp, g, d, tk, os⟩ := s
  refine wpAny_call (codeAny_of_tree ?_)
  show wpAny _ A.in1 (callAny (.ref u) ⟨us, []⟩) _ _ _
  simp only [callAny]
  refine wpAny_bind (wpAny_load hmu ?_)
  simp only [PySem.W.kxs_mw, show (Value.type "method-wrapper" == Value.type "method" || Value.type "method-wrapper" == Value.type "builtin_function_or_method" || Value.type "method-wrapper" == Value.type "method-wrapper") = true by decide, if_true]
  refine W.KFB.if_so (by decide) ?_
  refine wpAny_bind (PySem.W.check_bound_init F.excBase_ValueError.toExcCallFacts hkC ho rfl ?_)
  refine wpAny_bind (wpAny_pure (wpAny_pure ?_))
  refine ⟨PySem.plainId_quiet F.excBase_ValueError.init.plain _, codeAny_builtin F.excBase_ValueError.initEntry ?_⟩
  exact PySem.W.exc_init_tree (cls := .ref C) (t0 := t1) (dv := none) (c2 := .none) (c3 := .none) (b4 := .bool false) ho hl fun h' k hx _ => h _ (J (t := tk) k _ hx)
end VL
set_option Elab.async false
set_option linter.all false
set_option maxRecDepth 100000
set_option maxHeartbeats 0
namespace VL
open PySem PySem.Spec PyProof.Rows L2 LamX NdefX PySem.Calls
theorem callWith_mw {M : Model} {A : Around} {E : Value → Shared → Prop} {s : Shared} {u x : Addr} {pos : Pos} {env : Env} {e : Expr} {rest : List Expr} {Q : Value → Shared → Prop}
    (h : wpAny M A (spliced (backTo pos (starEach (e :: rest) env))) (fun vs s₁ => PySem.W.KxsAt "ValueError.__init__" u x s₁.heap ∧ wpAny M A (call (.ref u) vs) Q E s₁) E s)
    (he : starEach (e :: rest) env = (false, eval e env) :: starEach rest env) (hplain : (backTo pos (starEach rest env)).any (·.1) = false) :
    wpAny M A (callWith pos (.ref u) [] (backTo pos (starEach (e :: rest) env)) []) Q E s := by
  rw [he] at h ⊢
  refine PySem.W.kxs_callWith (i := "ValueError.__init__") (x := x) (by show (false || (backTo pos (starEach rest env)).any (·.1)) = false; rw [hplain]; rfl) ?_
  exact evalArgs_plain h
theorem hint (env : Env) (h : env.scope.kind = .function) : interactive env = false := by
  unfold interactive
  rw [h]
  rfl
/-- what the written part says of a class whose __init__ says super().__init__ -/
structure SupC (K : PySem.W.Frag) (C : Addr) : Prop where
  ox : OexC K C
  own : ∃ cd, PySem.W.clsIn K C = some cd
  mro : PySem.W.mroIn K C (.ref C) = some true
  sup : PySem.W.ks_superIn K C C "__init__" = some (some (.builtin "ValueError.__init__"))
  ve : PySem.W.subIn K (.ref C) (.type "ValueError") = some true
  op : PySem.W.nsIn K cStatics "thirdparty.any" = some none
section
variable {CX : CXT} {P : Program} {w : World} {K : PySem.W.Frag} {mg : Str → Option Value} {base : Heap} {k : Nat} {f : Addr} {name qual sf : Str} {params : Arguments} {rest : List Stmt} {scope : Scope} {dV kV doc pm ct oc : Value} {an od : Option Addr}
  {osl : Array (Option Value)} {N ps : List Str} {cc C c : Addr} {cl ccl : Value} {cld cdd : Option Addr} {csl ccs : Array (Option Value)} {ar : Arg} {vsC : Array Value} {file : Str} {tf : Tok} {p0 p1 p2 p3 p4 : Pos} {e : Expr} {es : List Expr}
abbrev supNF (name qual : Str) (params : Arguments) (body : List Stmt) (scope : Scope) (cc c : Addr) : NF := ⟨name, qual, params, body, scope, [("__class__", cc)], c⟩
theorem fn_sup {sp : Sp} {pl : Sem Bool} (lk : K.lookup f = some ⟨oc, od, .func (PySem.W.ksFn name qual params (supBody p0 p1 p2 p3 p4 (e :: es) rest) scope dV kV doc pm an (.ref c) ct cc), osl⟩) (hcd : PySem.W.codeIn K (.ref c) qual = true) (S : NScope N ps ["__class__"] scope)
    (hcell : K.lookup cc = some ⟨cl, cld, .cell (some (.ref C)), csl⟩) (hp : (params.posonlyargs ++ params.args).head? = some ar) (har : ps[0]? = some ar.arg) (hpn : ps.Nodup)
    (hcode : K.lookup c = some ⟨ccl, cdd, .fields vsC, ccs⟩) (hvs : vsC[2]? = some (.str file tf)) (hfile : ((P.main.file : Str) == file) = true) (hsuper : mg "super" = none) (htop : (P.main.scope.names.lookup ("super" : Str)).isSome = false)
    (hks : scope.names.lookup ("super" : Str) = some .globalImplicit) (T : SupC K C) (len : ∀ vs H Q E, sp vs H Q E → vs.length = ps.length)
    (hb : ∀ (A : Around) (outer : List Env) (s : Shared) (H : Hp) (vs : List V) (Q : VK) (E : XK), Room k (A.deeper (envF (supNF name qual params (supBody p0 p1 p2 p3 p4 (e :: es) rest) scope cc c) f s.heap.objs.size)) → sp vs H Q E →
      ∃ (a : Addr) (ws : List V) (us : List V) (t : TS), vs = .ref a :: ws ∧ H a = some (exo a C none) ∧ us.length ≤ 1000 ∧
        PA (ncx CX P w K mg base N (supNF name qual params (supBody p0 p1 p2 p3 p4 (e :: es) rest) scope cc c) f A outer s H E) (e :: es) (fun σ H' Q' => σ = startF N vs [some (.ref C)] ∧ Q' us H') ∧
        PSs (ncx CX P w K mg base N (supNF name qual params (supBody p0 p1 p2 p3 p4 (e :: es) rest) scope cc c) f A outer s H E) rest t ∧
        ∀ u, H u = none → t { nx := fun _ H' => Q .non H', rt := Q } (startF N vs [some (.ref C)]) (upd H u (MwO u a)))
    (he : ∀ env : Env, starEach (e :: es) env = (false, eval e env) :: starEach es env := by intro _; rfl) (hpl : ∀ (env : Env) (pos : Pos), (backTo pos (starEach es env)).any (·.1) = false := by intro _ _; rfl)
    (hcall : ∀ env : Env, eval (.Call (.Attribute (.Call (.Name "super" p0) [] [] p1) "__init__" p2) (e :: es) [] p3) env = (do
      let ov ← attributeBase (.Call (.Name "super" p0) [] [] p1) "__init__" env (eval (.Call (.Name "super" p0) [] [] p1) env)
      standAt p2.atName
      let (f, first) ← holding [ov] (getMethod ov "__init__" pl)
      callWith p3 f first (backTo p3 (starEach (e :: es) env)) []) := by intro _; rfl) :
    FnOk P w K mg base CX (k + 1) f (PySem.W.ksFn name qual params (supBody p0 p1 p2 p3 p4 (e :: es) rest) scope dV kV doc pm an (.ref c) ct cc) ps sp := by
  refine ⟨len, fun A outer s H args us vs Q E hr e0 hbd r hsp => ?_⟩
  have hl := len _ _ _ _ hsp
  have KX : K.In s.heap := e0.mod.kin.keeps fun b o e => (e0.bs b o e).1
  have lim : s.heap.NoLimit := e0.mod.nolimit.keeps fun b o e => (e0.bs b o e).1
  have hcc : H cc = none := (e0.bs cc _ (e0.mod.kin _ _ hcell)).2
  have CE0 : CellsAt [("__class__", cc)] ["__class__"] [some (V.ref C)] s.heap H := by
    refine ⟨rfl, fun y d hy => ?_, fun x y d hx hy => ?_, fun i y hy => ?_⟩
    · by_cases hyc : y = "__class__"
      · subst hyc
        have : d = cc := by simpa [List.lookup] using hy.symm
        subst this
        exact ⟨hcc, _, ⟨_, KX _ _ hcell, rfl⟩⟩
      · have : (y == ("__class__" : Str)) = false := by simpa using hyc
        simp [List.lookup, this] at hy
    · by_cases h1 : x = "__class__"
      · by_cases h2 : y = "__class__"
        · rw [h1, h2]
        · have : (y == ("__class__" : Str)) = false := by simpa using h2
          simp [List.lookup, this] at hy
      · have : (x == ("__class__" : Str)) = false := by simpa using h1
        simp [List.lookup, this] at hx
    · match i, hy with
      | 0, hy =>
        cases hy
        exact ⟨cc, by simp [List.lookup], fun v hv => by cases hv; exact ⟨_, rfl, ⟨_, KX _ _ hcell, rfl⟩⟩⟩
      | i + 1, hy => simp at hy
  refine PySem.ks_codeAny_call_defAt (fd := PySem.W.ksFn name qual params (supBody p0 p1 p2 p3 p4 (e :: es) rest) scope dV kV doc pm an (.ref c) ct cc) (body := supBody p0 p1 p2 p3 p4 (e :: es) rest) (binds := ps.zip us) hr.depth (KX _ _ lk) rfl lim (PySem.W.codeRec_of KX hcd) rfl hbd
    S.nocell (fun ⟨n, _⟩ hy => S.par n (List.of_mem_zip hy).1) (fun h₁ hns kp => ?_) S.co S.gen S.kind
  obtain ⟨a, ws, as, t, ev, ha, hlen, hA, hS, hT⟩ := hb A outer s H vs Q E (hr.deeper _) hsp
  have I : Inv (ncx CX P w K mg base N (supNF name qual params (supBody p0 p1 p2 p3 p4 (e :: es) rest) scope cc c) f A outer s H E) [] (startF N vs [some (.ref C)]) H { s with heap := h₁, toks := s.toks + (ps.zip us).length } :=
    inv_startN (F := supNF name qual params (supBody p0 p1 p2 p3 p4 (e :: es) rest) scope cc c) S hr.hd e0 hl r CE0 hns kp
  subst ev
  obtain ⟨ua, uws, rfl, hra, rws⟩ : ∃ ua uws, us = ua :: uws ∧ L2.RelV (.ref a) ua ∧ Vals ws uws := by
    cases r with
    | cons h1 h2 => exact ⟨_, _, rfl, h1, h2⟩
  obtain rfl : ua = Value.ref a := hra
  obtain ⟨cdC, hcdC⟩ := T.own
  have hself : ((ps.zip (Value.ref a :: uws)).reverse.lookup ar.arg) = some (Value.ref a) := zip_look (i := 0) hpn har rfl
  have hka : scope.names.lookup ar.arg = some .local := S.par _ (List.mem_of_getElem? har)
  have hkc : scope.names.lookup ("__class__" : Str) = some .free := S.frk _ (by simp)
  obtain ⟨t1, hoa⟩ := exo_at I.hok ha
  obtain ⟨oC, hC1, hC2⟩ : ∃ oC, h₁.get? C = some oC ∧ oC.data = .cls cdC := by
    have z := hcdC
    unfold PySem.W.clsIn at z
    split at z
    · rename_i c' d' cd' sl ho
      cases z
      exact ⟨_, I.kIn _ _ ho, rfl⟩
    · cases z
  obtain ⟨mb, hb1, hb2⟩ := I.mod.blt
  have hfin : ∀ {σ' : L2.St} {H' : Hp} {v : V} {u : Value} {s' : Shared}, Inv (ncx CX P w K mg base N (supNF name qual params (supBody p0 p1 p2 p3 p4 (e :: es) rest) scope cc c) f A outer s H E) [] σ' H' s' → L2.RelV v u → Q v H' → CE outer P w H s Q u s' :=
    fun {σ' H' v u s'} J rv q => ⟨v, H', J.os, J.bare, J.base, J.hok, rv, q⟩
  refine PySem.ks_wpAt_execs_cons (PySem.ks_wpAt_Expr_any (PySem.ks_wpAt_MethodCall (pl := pl) ?_ (hcall _)) (hint _ S.kind))
  refine PySem.ks_wpAt_super_base (env := envF (supNF name qual params (supBody p0 p1 p2 p3 p4 (e :: es) rest) scope cc c) f s.heap.objs.size) hks hkc (by decide) rfl (I.kIn _ _ lk) rfl hp rfl (I.kIn _ _ hcode) rfl hvs hfile htop ?_
  refine PySem.W.ks_loadName_global S.kind hks (Calls.loadGlobal_builtin (env := envF (supNF name qual params (supBody p0 p1 p2 p3 p4 (e :: es) rest) scope cc c) f s.heap.objs.size) (I.mod.glob.keeps I.bk) hsuper (hb1.keeps I.bk) ((hb2 _ (by decide)).trans (by decide +kernel)) ⟨rfl, ?_⟩)
  refine wpAny_loadName_free S.kind hkc (by rfl) ⟨_, I.kIn _ _ hcell, rfl⟩ ?_
  refine wpAny_loadName_local S.kind hka hns hself ?_
  refine PySem.ks_wpAny_isType_cls hC1 hC2 ⟨rfl, ?_⟩
  refine PySem.ks_wpAny_call_super hC1 hC2 hoa rfl (fun c' z => by cases z) (PySem.W.looks_mroIn I.kIn T.mro) (fun h2 so k2 => ?_)
  have I2 := I.kept (t' := s.toks + (ps.zip (Value.ref a :: uws)).length) k2
  obtain ⟨t2, hoa2⟩ := exo_at I2.hok ha
  have IA : PySem.W.InstAt h2 a _ C none := ⟨hoa2, rfl, rfl, trivial⟩
  have hI : PySem.W.Looks (model P w) h2 (isInstance (.ref a) (.type "ValueError")) true := IA.type.andThen (PySem.W.looks_subIn I2.kIn T.ve)
  have hsup := T.sup
  unfold PySem.W.ks_superIn at hsup
  rw [hcdC] at hsup
  have hlook : PySem.W.Looks (model P w) h2 (mroOf (.ref C)) cdC.mro := fun A Q E s k q => wpAny_bind ((PySem.W.looks_clsIn I2.kIn hcdC) A _ E s k (wpAny_pure q))
  refine PySem.W.kxs_getMethod PySem.W.kxs_ValueError so (PySem.W.looks_opaque I2.kIn T.op) hlook rfl I2.kIn hsup hI (PySem.W.ks_ne I2.kIn IA hcdC) (by decide) ?_
  have hn2 : H h2.objs.size = none := I2.hok.fresh (Nat.le_refl _)
  have I3 := I2.laid (t' := s.toks + (ps.zip (Value.ref a :: uws)).length + 1) (a := h2.objs.size) (o := MwO h2.objs.size a) (h' := h2.push (PySem.W.kxs_mw "ValueError.__init__" a)) (fun b o z => Heap.get?_push_of_some _ z) (Nat.le_refl _) (mwO_ok (Heap.get?_push_size _ rfl))
  show wpAny _ _ (callWith p3 (.ref h2.objs.size) [] (backTo p3 (starEach (e :: es) _)) []) _ _ _
  have hna : a ≠ h2.objs.size := fun z => by rw [z, hn2] at ha; cases ha
  refine callWith_mw (x := a) ?_ (he _) (hpl _ _)
  refine thn (hA.run p3 [] _ _ _ (fun vs4 H4 => vs4 = as ∧ H4 = upd H h2.objs.size (MwO h2.objs.size a)) I3 ⟨rfl, rfl, rfl⟩) fun us2 s4 ⟨vs4, H4, I4, r4, e4, e5⟩ => ?_
  subst e4 e5
  refine ⟨mwO_at I4.hok upd_same, ?_⟩
  refine call_mw T.ox I4 upd_same (by rw [upd_ne hna]; exact ha) (by rw [← r4.length, sizeLine_eq]; omega) fun s5 I5 => ?_
  refine PySem.wpAt_of_wpAny (wpAny_mono (hS.run [] s5 _ _ _ I5 (hT _ hn2)) (fun fl s' hs => ?_) fun e s' hs => hs)
  cases fl with
  | ret u =>
    obtain ⟨v, σ', H', J, rv, q⟩ := hs
    exact hfin J rv q
  | next =>
    obtain ⟨σ', H', J, q⟩ := hs
    exact hfin (v := V.non) (u := Value.none) J rfl q
  | brk =>
    obtain ⟨_, _, _, q⟩ := hs
    exact False.elim q
  | cont =>
    obtain ⟨_, _, _, q⟩ := hs
    exact False.elim q
end
end VL
set_option Elab.async false
set_option linter.all false
set_option maxRecDepth 100000
set_option maxHeartbeats 0
namespace VL
open PySem PySem.Spec PyProof.Rows L2 LamX NdefX PySem.Calls
/-- how super().__init__(es) is read: by its position alone -/
def SupCall (p0 p1 p2 p3 : Pos) (es : List Expr) : Prop := ∃ pl : Sem Bool, ∀ env : Env, eval (.Call (.Attribute (.Call (.Name "super" p0) [] [] p1) "__init__" p2) es [] p3) env = (do
      let ov ← attributeBase (.Call (.Name "super" p0) [] [] p1) "__init__" env (eval (.Call (.Name "super" p0) [] [] p1) env)
      standAt p2.atName
      let (f, first) ← holding [ov] (getMethod ov "__init__" pl)
      callWith p3 f first (backTo p3 (starEach es env)) [])
/-- what an __init__ promises that lays its parameters under the names nm -/
def spI (C : Addr) (nm : List Str) : Sp := fun vs H Q E => ∃ (a : Addr) (ws : List V), vs = .ref a :: ws ∧ ws.length = nm.length ∧ H a = some (exo a C none) ∧ ∀ (u dx : Addr) (H2 : Hp), u ≠ a → dx ≠ a → dx ≠ u → H u = none → H dx = none →
  H2 a = some (exo a C (some dx)) → H2 dx = some (exd dx (nm.zip ws).reverse) → H2 u ≠ none → (∀ b, b ≠ a → b ≠ dx → b ≠ u → H2 b = H b) → Q .non H2
section
variable {P : Program} {w : World} {K : PySem.W.Frag} {mg : Str → Option Value} {base : Heap} {k : Nat} {f : Addr} {name qual sf x1 x2 f1 f2 : Str} {params : Arguments} {scope : Scope} {dV kV doc pm ct oc : Value} {an od : Option Addr}
  {osl : Array (Option Value)} {cc C c : Addr} {cl ccl : Value} {cld cdd : Option Addr} {csl ccs : Array (Option Value)} {ar : Arg} {vsC : Array Value} {file : Str} {tf : Tok} {p0 p1 p2 p3 p4 q1 q2 q3 q4 q5 q6 q7 q8 q9 q10 : Pos}
abbrev iBody1 (sf x1 f1 : Str) (p0 p1 p2 p3 p4 q1 q2 q3 q4 q5 : Pos) : List Stmt := supBody p0 p1 p2 p3 p4 [.Name x1 q1] [.Assign [.Attribute (.Name sf q2) f1 q3] (.Name x1 q4) q5]
abbrev iBody2 (sf x1 x2 f1 f2 : Str) (p0 p1 p2 p3 p4 q1 q2 q3 q4 q5 q6 q7 q8 q9 q10 : Pos) : List Stmt := supBody p0 p1 p2 p3 p4 [.Name x1 q1, .Name x2 q2] [.Assign [.Attribute (.Name sf q3) f1 q4] (.Name x1 q5) q6, .Assign [.Attribute (.Name sf q7) f2 q8] (.Name x2 q9) q10]
theorem init1 (lk : K.lookup f = some ⟨oc, od, .func (PySem.W.ksFn name qual params (iBody1 sf x1 f1 p0 p1 p2 p3 p4 q1 q2 q3 q4 q5) scope dV kV doc pm an (.ref c) ct cc), osl⟩) (hcd : PySem.W.codeIn K (.ref c) qual = true) (S : NScope [sf, x1, "__class__"] [sf, x1] ["__class__"] scope)
    (hcell : K.lookup cc = some ⟨cl, cld, .cell (some (.ref C)), csl⟩) (hp : (params.posonlyargs ++ params.args).head? = some ar) (har : sf = ar.arg)
    (hcode : K.lookup c = some ⟨ccl, cdd, .fields vsC, ccs⟩) (hvs : vsC[2]? = some (.str file tf)) (hfile : ((P.main.file : Str) == file) = true) (hsuper : mg "super" = none) (htop : (P.main.scope.names.lookup ("super" : Str)).isSome = false)
    (hks : scope.names.lookup ("super" : Str) = some .globalImplicit) (T : SupC K C) (hcall : SupCall p0 p1 p2 p3 [.Name x1 q1]) (n1 : PySem.W.findIn K (.ref C) f1 = some none) (d0 : (sf == ("__debug__" : Str)) = false ∧ (sf == ("__classdict__" : Str)) = false) (d1 : (x1 == ("__debug__" : Str)) = false ∧ (x1 == ("__classdict__" : Str)) = false) :
    FnOk P w K mg base (L2.CX P w) (k + 1) f (PySem.W.ksFn name qual params (iBody1 sf x1 f1 p0 p1 p2 p3 p4 q1 q2 q3 q4 q5) scope dV kV doc pm an (.ref c) ct cc) [sf, x1] (spI C [f1]) := by
  obtain ⟨pl, hcall⟩ := hcall
  refine fn_sup (pl := pl) (hcall := hcall) (rest := [.Assign [.Attribute (.Name sf q2) f1 q3] (.Name x1 q4) q5]) lk hcd S hcell hp (by rw [har]; rfl) (by
    have := S.nd.sublist (List.take_sublist 2 _); exact this) hcode hvs hfile hsuper htop hks T (fun vs H Q E ⟨a, ws, e, hl, _⟩ => by rw [e]; simp [hl]) (fun A outer s H vs Q E hr ⟨a, ws, e, hl, ha, h⟩ => ?_)
  obtain ⟨w1, rfl⟩ : ∃ w1, ws = [w1] := by
    match ws, hl with
    | [w1], _ => exact ⟨w1, rfl⟩
  subst e
  have v0 : Vis scope sf := .inl (S.par _ (by simp))
  have v1 : Vis scope x1 := .inl (S.par _ (by simp))
  refine ⟨a, [w1], [w1], _, rfl, ha, by simp, ?_, pss_one (ps_ost (pe_var (i := 0) rfl v0 d0.1 d0.2) (pe_var (i := 1) rfl v1 d1.1 d1.2)), fun u hu => ?_⟩
  · refine ⟨fun pos pins s' σ H' Q' I ⟨e, q⟩ => (pa_cons (pe_var (i := 1) rfl v1 d1.1 d1.2) pa_nil).run pos pins s' σ H' Q' I ?_⟩
    subst e
    exact ⟨w1, rfl, q⟩
  · have hua : u ≠ a := fun z => by rw [z, ha] at hu; cases hu
    refine ⟨w1, rfl, .ref a, rfl, a, C, rfl, T.ox, n1, .inl ⟨by rw [upd_ne (Ne.symm hua)]; exact ha, fun dx hdx hda => ?_⟩⟩
    have hdu : dx ≠ u := fun z => by rw [z, upd_same] at hdx; cases hdx
    rw [upd_ne hdu] at hdx
    refine h u dx _ hua hda hdu hu hdx upd_same (by rw [upd_ne hda, upd_same]; rfl) ?_ (fun b h1 h2 h3 => by rw [upd_ne h1, upd_ne h2, upd_ne h3])
    rw [upd_ne hua, upd_ne (Ne.symm hdu), upd_same]
    exact fun z => nomatch z
theorem init2 (lk : K.lookup f = some ⟨oc, od, .func (PySem.W.ksFn name qual params (iBody2 sf x1 x2 f1 f2 p0 p1 p2 p3 p4 q1 q2 q3 q4 q5 q6 q7 q8 q9 q10) scope dV kV doc pm an (.ref c) ct cc), osl⟩) (hcd : PySem.W.codeIn K (.ref c) qual = true) (S : NScope [sf, x1, x2, "__class__"] [sf, x1, x2] ["__class__"] scope)
    (hcell : K.lookup cc = some ⟨cl, cld, .cell (some (.ref C)), csl⟩) (hp : (params.posonlyargs ++ params.args).head? = some ar) (har : sf = ar.arg)
    (hcode : K.lookup c = some ⟨ccl, cdd, .fields vsC, ccs⟩) (hvs : vsC[2]? = some (.str file tf)) (hfile : ((P.main.file : Str) == file) = true) (hsuper : mg "super" = none) (htop : (P.main.scope.names.lookup ("super" : Str)).isSome = false)
    (hks : scope.names.lookup ("super" : Str) = some .globalImplicit) (T : SupC K C) (hcall : SupCall p0 p1 p2 p3 [.Name x1 q1, .Name x2 q2]) (n1 : PySem.W.findIn K (.ref C) f1 = some none) (n2 : PySem.W.findIn K (.ref C) f2 = some none) (d0 : (sf == ("__debug__" : Str)) = false ∧ (sf == ("__classdict__" : Str)) = false) (d1 : (x1 == ("__debug__" : Str)) = false ∧ (x1 == ("__classdict__" : Str)) = false) (d2 : (x2 == ("__debug__" : Str)) = false ∧ (x2 == ("__classdict__" : Str)) = false) :
    FnOk P w K mg base (L2.CX P w) (k + 1) f (PySem.W.ksFn name qual params (iBody2 sf x1 x2 f1 f2 p0 p1 p2 p3 p4 q1 q2 q3 q4 q5 q6 q7 q8 q9 q10) scope dV kV doc pm an (.ref c) ct cc) [sf, x1, x2] (spI C [f1, f2]) := by
  obtain ⟨pl, hcall⟩ := hcall
  refine fn_sup (pl := pl) (hcall := hcall) (rest := [.Assign [.Attribute (.Name sf q3) f1 q4] (.Name x1 q5) q6, .Assign [.Attribute (.Name sf q7) f2 q8] (.Name x2 q9) q10]) lk hcd S hcell hp (by rw [har]; rfl) (by
    have := S.nd.sublist (List.take_sublist 3 _); exact this) hcode hvs hfile hsuper htop hks T (fun vs H Q E ⟨a, ws, e, hl, _⟩ => by rw [e]; simp [hl]) (fun A outer s H vs Q E hr ⟨a, ws, e, hl, ha, h⟩ => ?_)
  obtain ⟨w1, w2, rfl⟩ : ∃ w1 w2, ws = [w1, w2] := by
    match ws, hl with
    | [w1, w2], _ => exact ⟨w1, w2, rfl⟩
  subst e
  have v0 : Vis scope sf := .inl (S.par _ (by simp))
  have v1 : Vis scope x1 := .inl (S.par _ (by simp))
  have v2 : Vis scope x2 := .inl (S.par _ (by simp))
  refine ⟨a, [w1, w2], [w1, w2], _, rfl, ha, by simp, ?_, pss_cons (ps_ost (pe_var (i := 0) rfl v0 d0.1 d0.2) (pe_var (i := 1) rfl v1 d1.1 d1.2)) (pss_one (ps_ost (pe_var (i := 0) rfl v0 d0.1 d0.2) (pe_var (i := 2) rfl v2 d2.1 d2.2))), fun u hu => ?_⟩
  · refine ⟨fun pos pins s' σ H' Q' I ⟨e, q⟩ => (pa_cons (pe_var (i := 1) rfl v1 d1.1 d1.2) (pa_cons (pe_var (i := 2) rfl v2 d2.1 d2.2) pa_nil)).run pos pins s' σ H' Q' I ?_⟩
    subst e
    exact ⟨w1, rfl, w2, rfl, q⟩
  · have hua : u ≠ a := fun z => by rw [z, ha] at hu; cases hu
    refine ⟨w1, rfl, .ref a, rfl, a, C, rfl, T.ox, n1, .inl ⟨by rw [upd_ne (Ne.symm hua)]; exact ha, fun dx hdx hda => ?_⟩⟩
    have hdu : dx ≠ u := fun z => by rw [z, upd_same] at hdx; cases hdx
    rw [upd_ne hdu] at hdx
    refine ⟨w2, rfl, .ref a, rfl, a, C, rfl, T.ox, n2, .inr ⟨dx, [(f1, w1)], upd_same, by rw [upd_ne hda, upd_same], by simp, ?_⟩⟩
    refine h u dx _ hua hda hdu hu hdx (by rw [upd_ne (Ne.symm hda), upd_same]) upd_same ?_ (fun b h1 h2 h3 => by rw [upd_ne h2, upd_ne h1, upd_ne h2, upd_ne h3])
    rw [upd_ne (Ne.symm hdu), upd_ne hua, upd_ne (Ne.symm hdu), upd_same]
    exact fun z => nomatch z
end
end VL
set_option Elab.async false
set_option linter.all false
set_option maxRecDepth 100000
set_option maxHeartbeats 0
namespace VL
open PySem PySem.Spec PyProof.Rows L2 LamX NdefX PySem.Calls
/-! ### raise -/
/-- what is known of an exception class x whose __init__ lays its parameters under nm -/
def ExF (P : Program) (w : World) (K : PySem.W.Frag) (mg : Str → Option Value) (base : Heap) (k : Nat) (x : Str) (nm : List Str) : Prop :=
  ∃ (C fI : Addr) (fd : FuncData) (ps : List Str), OexC K C ∧ PySem.W.findIn K (.ref C) "__init__" = some (some (.ref fI)) ∧ PySem.W.typeIn K (.ref fI) = some (.type "function") ∧
    FnOk P w K mg base (L2.CX P w) k fI fd ps (spI C nm) ∧ L2.Binds K fd ps [] ∧ mg x = some (.ref C)
def vRaise (C : Str) (nm : List Str) (fs : VM (List EV)) : VM Ctl := vb fs fun rs => vb (vOpt (dts rs)) fun xs => fun s => if xs.length = nm.length then .error (.exc C (nm.zip xs).reverse s) else .error .stuck
theorem zip_snd {α β : Type} : ∀ {l : List α} {m : List β}, l.length = m.length → (l.zip m).map (·.2) = m
  | [], [], _ => rfl
  | a :: l, b :: m, h => by rw [List.zip_cons_cons, List.map_cons, zip_snd (by simpa using h)]
theorem zip_fst {α β : Type} : ∀ {l : List α} {m : List β}, l.length = m.length → (l.zip m).map (·.1) = l
  | [], [], _ => rfl
  | a :: l, b :: m, h => by rw [List.zip_cons_cons, List.map_cons, zip_fst (by simpa using h)]
theorem vs_raise {X : Cx} {W : WX} {j k : Nat} {x : Str} {nm : List Str} {e : Expr} {es : List Expr} {p pos pos' : Pos} {fs : VM (List EV)} (c : VC X W k) (T : ExF X.prog X.w X.K X.mg X.base j x nm) (hj : j + 1 ≤ k) (hn : nm.length ≤ 1000) (ha : VA Tb X W (e :: es) fs) (hg : Gl X x := by rfl)
    (hdb : (x == ("__debug__" : Str)) = false := by decide) (he : starEach (e :: es) X.env = (false, eval e X.env) :: starEach es X.env := by rfl) (hpl : (backTo pos (starEach es X.env)).any (·.1) = false := by rfl) :
    VSt Tb X W (.Raise (some (.Call (.Name x p) (e :: es) [] pos)) none pos') (vRaise x nm fs) := by
  obtain ⟨C, fI, fd, ps, T1, iC, tI, F1, hb, hm⟩ := T
  refine PS.wk (ps_raise c.calm c.tk (pmk_oex T1 iC tI F1 (c.rm.mono hj) hb .nil (fun pins σ H s e s' I z => ?_) hg hm ha hdb he hpl)) fun D σ H h => ?_
  · exact c.tk e s' (XE.of_call I (fun _ _ _ z => z.elim) z)
  obtain ⟨O, st, F, h⟩ := h
  refine tVA.bind F h fun rs s1 vs H1 S1 E1 h => ?_
  obtain ⟨xs, ex, h⟩ := h.opt
  have R := E1.dts ex
  split at h
  · rename_i hl
    have hlv : vs.length = nm.length := by rw [← R.length]; exact hl
    refine ⟨by omega, fun a ha => ⟨a, vs, by rw [List.append_nil], hlv, upd_same, fun u dx H2 hua hda hdu hu hdx e1 e2 e3 e4 => ?_⟩⟩
    rw [upd_ne hua] at hu
    rw [upd_ne hda] at hdx
    refine ⟨rfl, dx, _, e1, e2, hdx, ?_⟩
    have sm : Same H1 (upd (del H2 a) dx (.xd (nm.zip vs).reverse)) := fun b o z => by
      have hba : b ≠ a := ne_of_none z ha
      have hbd : b ≠ dx := ne_of_none z hdx
      have hbu : b ≠ u := ne_of_none z hu
      rw [upd_ne hbd, del_ne hba, e4 b hba hbd hbu, upd_ne hba]
      exact z
    have h : XW Tb X.K X.mg W O s1 σ H1 x (nm.zip xs).reverse s1 := h
    refine h C (some dx) σ _ _ hm (Step.ext S1.fr sm) upd_same ?_ ?_
    · rw [List.map_reverse, List.map_reverse, zip_snd hl.symm, zip_snd hlv.symm]
      exact (R.same sm).reverse
    · rw [List.map_reverse, List.map_reverse, zip_fst hl.symm, zip_fst hlv.symm]
  · exact h.elim
end VL
set_option Elab.async false
set_option linter.all false
set_option maxRecDepth 100000
set_option maxHeartbeats 0
/-! a lambda without parameters that is handed to a def -/
namespace VL
open PySem PySem.Spec PyProof.Rows L2 LamX NdefX PySem.Calls
/-- all but the object at P stays, what is free was free -/
structure ButP (P : Addr) (H H1 : Hp) : Prop where
  keep : ∀ b o, b ≠ P → H b = some o → H1 b = some o
  free : ∀ b, H1 b = none → H b = none
theorem ButP.refl (P : Addr) (H : Hp) : ButP P H H := ⟨fun _ _ _ h => h, fun _ h => h⟩
/-- a table with one code object more -/
theorem tab_more {H H1 : Hp} {P c' : Addr} {q : Str} {ps : Array Value} {pos : Pos} (B : ButP P H H1) (ht : TriplesOk ps.toList) (ha : ∀ (p : Pos) (cv : Value), codeAmong p ps.toList = some cv → ∃ c, cv = .ref c ∧ H c = some (CodeO c q))
    (nt : ∀ c, H c = some (CodeO c q) → c ≠ P) (e1 : H1 P = some (.tbl (ps ++ #[rawInt pos.line, rawInt pos.col, .ref c']))) (e2 : H1 c' = some (CodeO c' q)) : TabS H1 P q := by
  have eL : (ps ++ #[rawInt pos.line, rawInt pos.col, Value.ref c']).toList = ps.toList ++ [rawInt pos.line, rawInt pos.col, .ref c'] := by simp
  refine ⟨_, e1, eL ▸ PySem.TriplesOk_snoc _ _ _ _ ht, fun p cv h => ?_⟩
  rw [eL] at h
  cases among_app _ ht h with
  | inl z =>
    obtain ⟨d, rfl, hd⟩ := ha p cv z
    exact ⟨d, rfl, B.keep d _ (nt d hd) hd⟩
  | inr z => exact ⟨c', z, e2⟩
section
variable {X : Cx} {pins : List (Addr × Obj)} {σ : L2.St} {H : Hp} {s : Shared}
theorem lam_mk {c P : Addr} {params : Arguments} {body : Expr} {scope : Scope} {pos : Pos} {E : Value → Shared → Prop} {Q : Value → Shared → Prop} (I : Inv X pins σ H s) (TB : TabB X.base X.mg c P) (hcode : X.env.code = .ref c)
    (t : TabS H P (X.env.qual ++ "<lambda>")) (hdef : defaultsOf params X.env = ([], [])) (hfree : ∀ y ∈ scope.names, y.2 = .free → ∃ c, X.env.cells.lookup y.1 = some c)
    (h : ∀ (f c' : Addr) (pm ctv : Value) (H1 : Hp) (s' : Shared), Inv X pins σ H1 s' → ButP P H H1 → TabS H1 P (X.env.qual ++ "<lambda>") →
      s'.heap.get? f = some (PySem.W.kla_obj "<lambda>" (X.env.qual ++ "<lambda>") params body scope (cloFrom X.env.cells scope.names []) pm c' ctv) → H1 f = none → f ∉ frs X.stack →
      H1 c' = some (CodeO c' (X.env.qual ++ "<lambda>")) → Q (.ref f) s') :
    wpAny (model X.prog X.w) X.A (eval (.Lambda params body scope pos) X.env) Q E s := by
  obtain ⟨ps, hP, ht, ha⟩ := t
  have out : ∀ f, s.heap.objs.size ≤ f → f ∉ frs X.stack := fun f hf hm => by
    cases List.mem_cons.mp (I.stkSub _ hm) with
    | inl e => exact Nat.lt_irrefl _ (Nat.lt_of_lt_of_le (e ▸ I.lt : f < s.heap.objs.size) hf)
    | inr e => exact I.nofs hf e
  have nt : ∀ d, H d = some (CodeO d (X.env.qual ++ "<lambda>")) → d ≠ P := fun d hd e => by
    rw [e, hP] at hd
    exact codeO_ne ps (Option.some.inj hd).symm
  have tabAt : s.heap.get? P = some { cls := .none, data := .fields ps } := I.hok P _ hP
  have base : X.env.globals = mainGlobals := I.ok.glob
  have glob := I.mod.glob.keeps I.bk
  have bmP := TB.bm.keeps I.bk
  have hdP := TB.code.keeps I.bk
  apply PySem.W.kla_eval hdef
  by_cases hc : codeAmong pos ps.toList = none
  · apply PySem.W.kla_makeFunction (closure_ok hfree) base glob hcode hdP tabAt ht hc TB.gP bmP
    intro c' ctv h' tk hx hge hlt hrec htb
    obtain ⟨d, oc, vs, u, e, hoc, hd, hv⟩ := hrec
    cases e
    have nC : H c' = none := I.hok.fresh hge
    have nF : H h'.objs.size = none := I.hok.fresh (by omega)
    have I1 := inv_table (q := X.env.qual ++ "<lambda>") (t' := tk) (more := #[rawInt pos.line, rawInt pos.col, .ref c']) (h' := h'.push (PySem.W.kla_obj "<lambda>" (X.env.qual ++ "<lambda>") params body scope (cloFrom X.env.cells scope.names []) ((X.mg "__name__").getD .none) c' ctv)) I hP
      (fun b o n e => Heap.get?_push_of_some _ (hx b o n e)) (Heap.get?_push_of_some _ htb) hge ⟨oc, vs, u, Heap.get?_push_of_some _ hoc, hd, hv⟩
    have pc : P ≠ c' := ne_of_none hP nC
    have B : ButP P H (L2.upd (L2.upd H P (.tbl (ps ++ #[rawInt pos.line, rawInt pos.col, .ref c']))) c' (CodeO c' (X.env.qual ++ "<lambda>"))) := by
      constructor
      · intro b o n e
        rw [upd_ne (ne_of_none e nC), upd_ne n]; exact e
      · intro b e
        by_cases h1 : b = c'
        · rw [h1, upd_same] at e; cases e
        · by_cases h2 : b = P
          · rw [h2, upd_ne pc, upd_same] at e; cases e
          · rwa [upd_ne h1, upd_ne h2] at e
    refine h _ c' _ ctv _ _ I1 B (tab_more B ht ha nt ((upd_ne pc).trans upd_same) upd_same) (Heap.get?_push_size _ rfl) ?_ (out _ (by omega)) upd_same
    have e1 : h'.objs.size ≠ c' := by omega
    have e2 : h'.objs.size ≠ P := fun z => by rw [z] at nF; rw [nF] at hP; cases hP
    rw [upd_ne e1, upd_ne e2]; exact nF
  · obtain ⟨cv, hc⟩ := Option.ne_none_iff_exists'.mp hc
    obtain ⟨c', rfl, hco⟩ := ha pos cv hc
    apply PySem.W.kla_makeFunctionHit (closure_ok hfree) base glob hcode hdP tabAt ht hc bmP
    intro ctv h' tk hx hsz
    exact h _ c' _ ctv H _ (I.kept fun b o e => Heap.get?_push_of_some _ (hx b o e)) (.refl P H) ⟨ps, hP, ht, ha⟩ (Heap.get?_push_size _ rfl) (I.hok.fresh hsz) (out _ hsz) hco
/-- x(lambda: body), x a def of one parameter -/
theorem pe_lam {TT : (XK → Hp → VK → Prop) → Hp → VK → Prop} {x a : Str} {g c P : Addr} {k : Nat} {pg : Arguments} {bg : List Stmt} {sg : Scope} {dV kV doc pm cdv ct oc : Value} {an od : Option Addr} {osl : Array (Option Value)} {Ng : List Str}
    {params : Arguments} {body : Expr} {scope : Scope} {t : XK → TE} {p lpos pos : Pos} (hg : Gl X x) (hm : X.mg x = some (.ref g)) (hk : PySem.W.keepIn X.K (.ref g) = true)
    (lk : X.K.lookup g = some ⟨oc, od, .func (PySem.W.fnOf x x pg bg sg dV kV doc pm an cdv ct), osl⟩) (hcg : PySem.W.codeIn X.K cdv x = true) (hb : L2.Binds X.K (PySem.W.fnOf x x pg bg sg dV kV doc pm an cdv ct) [a] []) (Sg : FnScope Ng [a] sg) (hNg : Ng[0]? = some a) (hva : Vis sg a)
    (hG : GivesTo X Ng x sg g cdv bg a (X.env.qual ++ "<lambda>") TT) (TB : TabB X.base X.mg c P) (hcode : X.env.code = .ref c) (hr : Room (k + 2) X.A) (L : LamS X.env.scope scope) (hdef : defaultsOf params X.env = ([], []))
    (hbind : ∀ (q : Str) (cl : List (Str × Addr)) (pm cv ctv : Value), bindArgs (PySem.W.kla_fn "<lambda>" q params body scope cl pm cv ctv) ⟨[], []⟩ = pure [])
    (hbody : ∀ (A : Around) (outer : List Env) (s : Shared) (H : Hp) (E : XK) (f c' : Addr), Room k (A.deeper (lamEnv X scope s.heap.objs.size f c')) → PE (lamCx X A outer s H E scope f c') body (t E))
    (hdb : (x == ("__debug__" : Str)) = false) (hd : (a == ("__debug__" : Str)) = false) (hcd : (a == ("__classdict__" : Str)) = false) :
    PE X (.Call (.Name x p) [.Lambda params body scope lpos] [] pos) (fun σ H Q => TabS H P (X.env.qual ++ "<lambda>") ∧ ∀ H1, ButP P H H1 → TabS H1 P (X.env.qual ++ "<lambda>") → TT (fun E H' Q' => t E σ H' Q') H1 Q) := by
  constructor
  rintro pins s σ H Q I ⟨hT, h⟩
  apply wpAny_Call_Name_kw
  apply ld_glob I hg hm _ hdb
  refine PySem.W.callWith_K (h₀ := X.base) I.ok.mod.kin hk ?_ (by rfl) (by rfl)
  show wpAny _ _ (spliced ((false, eval (.Lambda params body scope lpos) X.env) :: backTo pos (starEach [] X.env))) _ _ s
  apply Calls.spliced_cons
  apply lam_mk I TB hcode hT hdef (L.has I.ok)
  intro f c' pm' ctv H1 s1 I1 B T1 hf hfn hfr hco
  refine Calls.spliced_nil ⟨I1.kIn, wpAny_call (codeAny_mono (R := CR C8.CX0 X.stack X.prog X.w H1 s1 Q C8.E0) ?_ ?_)⟩
  · refine run_ofS (N := Ng) (ps := [a]) (us := [.ref f]) (vs := [.ref f]) lk hcg Sg hr I1.env0 (hb s1 [.ref f] I1.kIn rfl) (.cons rfl .nil) rfl fun hr' => ?_
    obtain ⟨t', ht', hq'⟩ := hG f c' s1 H1 Q (fun E H' Q' => t E σ H' Q') (fun W pn xe E p1 p2 tk hW => pe_act (i := 0) I1 L hf hfn hfr (hbind _ _ _ _ _) tk hW hr' (fun A outer s H hr2 => hbody A outer s H E f c' hr2) hNg hva hd hcd) hco (h H1 B T1)
    exact ⟨t', ht'.nox, hq'⟩
  · intro r s2 hq
    match r, hq with
    | .ok (.ret u), hq => exact I1.after hq
    | .ok .next, hq => exact hq.elim
    | .ok .brk, hq => exact hq.elim
    | .ok .cont, hq => exact hq.elim
    | .error e, hq => exact (show False from hq).elim
end
end VL
set_option Elab.async false
set_option linter.all false
set_option maxRecDepth 100000
set_option maxHeartbeats 0
/-! what a def hears of a lambda: its value told, or its exception's fields -/
namespace VL
open PySem PySem.Spec PyProof.Rows L2 LamX NdefX PySem.Calls
/-! ### a lambda's body sees the frame's lists as a def sees its arguments -/
def io1 : SV → SV
  | .own c => .io c
  | x => x
def ioS (s : VS) : VS := s.map io1
def mrg1 : SV → SV → SV
  | .own _, .io c => .own c
  | .io _, .io c => .io c
  | x, _ => x
def mrg (st s : VS) : VS := List.zipWith mrg1 st s
section
variable {K : PySem.W.Frag} {O : AS} {Tb : List (Addr × Str)} {st s : VS} {σ σ' : L2.St} {H H' : Hp} {i : Nat} {p : Addr}
theorem ioS_get {x : SV} (h : st[i]? = some x) : (ioS st)[i]? = some (io1 x) := by unfold ioS; rw [List.getElem?_map, h]; rfl
theorem ioS_of {y : SV} (h : (ioS st)[i]? = some y) : ∃ x, st[i]? = some x ∧ io1 x = y := by
  unfold ioS at h
  rw [List.getElem?_map] at h
  exact Option.map_eq_some_iff.mp h
theorem ownAt_io : OwnAt (ioS st) σ i p ↔ OwnAt st σ i p := by
  constructor
  · rintro ⟨e, c, h⟩
    refine ⟨e, c, ?_⟩
    rcases h with h | h | h
    · obtain ⟨x, e1, e2⟩ := ioS_of h; cases x <;> cases e2
    · obtain ⟨x, e1, e2⟩ := ioS_of h
      cases x <;> cases e2
      · exact .inl e1
      · exact .inr (.inl e1)
    · obtain ⟨x, e1, e2⟩ := ioS_of h; cases x <;> cases e2; exact .inr (.inr e1)
  · rintro ⟨e, c, h⟩
    refine ⟨e, c, ?_⟩
    rcases h with h | h | h
    · exact .inr (.inl (ioS_get h))
    · exact .inr (.inl (ioS_get h))
    · exact .inr (.inr (ioS_get h))
theorem mutAt_io : MutAt (ioS st) σ i p ↔ MutAt st σ i p := by
  constructor
  · rintro ⟨e, c, h⟩
    refine ⟨e, c, ?_⟩
    rcases h with h | h
    · obtain ⟨x, e1, e2⟩ := ioS_of h; cases x <;> cases e2
    · obtain ⟨x, e1, e2⟩ := ioS_of h
      cases x <;> cases e2
      · exact .inl e1
      · exact .inr e1
  · rintro ⟨e, c, h⟩
    exact ⟨e, c, .inr (h.elim ioS_get ioS_get)⟩
theorem own_io : Own (ioS st) σ p ↔ Own st σ p := ⟨fun ⟨i, h⟩ => ⟨i, ownAt_io.mp h⟩, fun ⟨i, h⟩ => ⟨i, ownAt_io.mpr h⟩⟩
theorem FR.toIo (F : FR Tb K O st σ H) : FR Tb K O (ioS st) σ H := by
  have av : ∀ a, Av O (ioS st) σ a → Av O st σ a := fun a h => h.imp id own_io.mp
  refine ⟨by unfold ioS; rw [List.length_map]; exact F.len, fun i sv h => ?_, fun i j p a b => F.inj i j p (ownAt_io.mp a) (ownAt_io.mp b), fun p h => F.avoid p (own_io.mp h), F.odom, F.tabs⟩
  obtain ⟨x, e1, e2⟩ := ioS_of h
  obtain ⟨v, ev, sl⟩ := F.slot i x e1
  refine ⟨v, ev, SlotOk.sub av ?_⟩
  cases x <;> (cases e2; exact sl)
theorem mrg_get (hl : s.length = st.length) {x : SV} (h : st[i]? = some x) : ∃ y, s[i]? = some y ∧ (mrg st s)[i]? = some (mrg1 x y) := by
  have hi : i < s.length := by
    rw [hl]
    exact (List.getElem?_eq_some_iff.mp h).1
  refine ⟨s[i], List.getElem?_eq_getElem hi, ?_⟩
  unfold mrg
  rw [List.getElem?_zipWith, h, List.getElem?_eq_getElem hi]
theorem mrg_of {z : SV} (h : (mrg st s)[i]? = some z) : ∃ x y, st[i]? = some x ∧ s[i]? = some y ∧ mrg1 x y = z := by
  unfold mrg at h
  rw [List.getElem?_zipWith] at h
  cases e1 : st[i]? with
  | none => rw [e1] at h; cases h
  | some x =>
    cases e2 : s[i]? with
    | none => rw [e1, e2] at h; cases h
    | some y => rw [e1, e2] at h; exact ⟨x, y, rfl, rfl, Option.some.inj h⟩
/-- a slot of the merged state: what the frame had, or its list as it is now -/
theorem mrg_kind (S : Step Tb K O (ioS st) σ H s σ' H') {z : SV} (h : (mrg st s)[i]? = some z) :
    (st[i]? = some z ∧ ∀ c, z ≠ .own c ∧ z ≠ .io c ∧ z ≠ .lk c) ∨ (∃ c, z = .lk c ∧ st[i]? = some (.lk c) ∧ s[i]? = some (.lk c) ∧ σ'[i]? = σ[i]?) ∨ (∃ c c0, z = .own c ∧ st[i]? = some (.own c0) ∧ s[i]? = some (.io c) ∧ σ'[i]? = σ[i]?) ∨ (∃ c c0, z = .io c ∧ st[i]? = some (.io c0) ∧ s[i]? = some (.io c) ∧ σ'[i]? = σ[i]?) := by
  obtain ⟨x, y, e1, e2, e3⟩ := mrg_of h
  cases x with
  | own c0 =>
    obtain ⟨⟨c, hc⟩, e⟩ := S.io i c0 (ioS_get e1)
    rw [hc] at e2; cases e2; cases e3
    exact .inr (.inr (.inl ⟨c, c0, rfl, e1, hc, e⟩))
  | io c0 =>
    obtain ⟨⟨c, hc⟩, e⟩ := S.io i c0 (ioS_get e1)
    rw [hc] at e2; cases e2; cases e3
    exact .inr (.inr (.inr ⟨c, c0, rfl, e1, hc, e⟩))
  | lk c0 =>
    obtain ⟨hc, e⟩ := S.lk i c0 (ioS_get e1)
    rw [hc] at e2; cases e2; cases e3
    exact .inr (.inl ⟨c0, rfl, e1, hc, e⟩)
  | un => cases e3; exact .inl ⟨e1, fun c => ⟨(fun z => nomatch z), (fun z => nomatch z), (fun z => nomatch z)⟩⟩
  | d x => cases e3; exact .inl ⟨e1, fun c => ⟨(fun z => nomatch z), (fun z => nomatch z), (fun z => nomatch z)⟩⟩
  | rd x => cases e3; exact .inl ⟨e1, fun c => ⟨(fun z => nomatch z), (fun z => nomatch z), (fun z => nomatch z)⟩⟩
theorem mrg_own (S : Step Tb K O (ioS st) σ H s σ' H') (h : OwnAt (mrg st s) σ i p) : OwnAt st σ i p ∧ OwnAt s σ' i p := by
  obtain ⟨e, c, h⟩ := h
  have : ∃ z, (mrg st s)[i]? = some z ∧ (z = .own c ∨ z = .io c ∨ z = .lk c) := by
    rcases h with h | h | h
    · exact ⟨_, h, .inl rfl⟩
    · exact ⟨_, h, .inr (.inl rfl)⟩
    · exact ⟨_, h, .inr (.inr rfl)⟩
  obtain ⟨z, hz, hk⟩ := this
  rcases mrg_kind S hz with ⟨_, n⟩ | ⟨c1, rfl, e1, e2, e3⟩ | ⟨c1, c0, rfl, e1, e2, e3⟩ | ⟨c1, c0, rfl, e1, e2, e3⟩
  · rcases hk with k | k | k
    · exact absurd k (n c).1
    · exact absurd k (n c).2.1
    · exact absurd k (n c).2.2
  · exact ⟨⟨e, _, .inr (.inr e1)⟩, ⟨e3.trans e, _, .inr (.inr e2)⟩⟩
  · exact ⟨⟨e, _, .inl e1⟩, ⟨e3.trans e, _, .inr (.inl e2)⟩⟩
  · exact ⟨⟨e, _, .inr (.inl e1)⟩, ⟨e3.trans e, _, .inr (.inl e2)⟩⟩
theorem mrg_mut (S : Step Tb K O (ioS st) σ H s σ' H') (h : MutAt (mrg st s) σ i p) : MutAt st σ i p := by
  obtain ⟨e, c, h⟩ := h
  have : ∃ z, (mrg st s)[i]? = some z ∧ (z = .own c ∨ z = .io c) := by
    rcases h with h | h
    · exact ⟨_, h, .inl rfl⟩
    · exact ⟨_, h, .inr rfl⟩
  obtain ⟨z, hz, hk⟩ := this
  rcases mrg_kind S hz with ⟨_, n⟩ | ⟨c1, rfl, e1, e2, e3⟩ | ⟨c1, c0, rfl, e1, e2, e3⟩ | ⟨c1, c0, rfl, e1, e2, e3⟩
  · rcases hk with k | k
    · exact absurd k (n c).1
    · exact absurd k (n c).2.1
  · rcases hk with k | k <;> cases k
  · exact ⟨e, _, .inl e1⟩
  · exact ⟨e, _, .inr e1⟩
theorem mrg_av (S : Step Tb K O (ioS st) σ H s σ' H') : ∀ a, Av O (mrg st s) σ a → Av O s σ' a := fun a h => h.imp id fun ⟨i, h⟩ => ⟨i, (mrg_own S h).2⟩
theorem Step.merge (F : FR Tb K O st σ H) (S : Step Tb K O (ioS st) σ H s σ' H') : Step Tb K O st σ H (mrg st s) σ H' := by
  have hl : s.length = st.length := by rw [S.fr.len, S.len, ← F.len]
  have mo : ∀ a, Av O (mrg st s) σ a → Av O st σ a ∨ H a = none := fun a h => .inl (h.imp id fun ⟨i, h⟩ => ⟨i, (mrg_own S h).1⟩)
  have kp : ∀ a o, H a = some o → NTb o → ¬ MutO st σ a → H' a = some o := fun a o e t n => S.keep a o e t fun ⟨i, z⟩ => n ⟨i, mutAt_io.mp z⟩
  have ke : ∀ a o, H a = some o → NTb o → ¬ Av O st σ a → H' a = some o := fun a o e t n => kp a o e t fun z => n (.inr z.own)
  have av := mrg_av S
  refine ⟨⟨?_, fun i z h => ?_, fun i j p a b => F.inj i j p (mrg_own S a).1 (mrg_own S b).1, fun p ⟨i, h⟩ => F.avoid p ⟨i, (mrg_own S h).1⟩, S.fr.odom, S.fr.tabs⟩, kp, fun a ⟨i, h⟩ => .inl ⟨i, (mrg_own S h).1⟩, fun a ⟨i, h⟩ => .inl ⟨i, mrg_mut S h⟩, S.dom, rfl, fun i c h => ?_, fun i c h => ?_⟩
  · unfold mrg
    rw [List.length_zipWith, hl, Nat.min_self]
    exact F.len
  · have fromS : ∀ (c : OC) (w : SV), s[i]? = some w → (w = .io c ∨ w = .lk c) → σ'[i]? = σ[i]? → ∃ v, σ[i]? = some v ∧ ∃ p, v = some (.ref p) ∧ Cont K (Av O (mrg st s) σ) H' p c := fun c w e2 hw e3 => by
      obtain ⟨v, ev, sl⟩ := S.fr.slot i w e2
      refine ⟨v, e3.symm.trans ev, ?_⟩
      rcases hw with rfl | rfl
      · obtain ⟨p, ep, C⟩ := sl; exact ⟨p, ep, C.sub av⟩
      · obtain ⟨p, ep, C⟩ := sl; exact ⟨p, ep, C.sub av⟩
    rcases mrg_kind S h with ⟨e1, n⟩ | ⟨c, rfl, e1, e2, e3⟩ | ⟨c, c0, rfl, e1, e2, e3⟩ | ⟨c, c0, rfl, e1, e2, e3⟩
    · obtain ⟨v, ev, sl⟩ := F.slot i z e1
      refine ⟨v, ev, ?_⟩
      cases z with
      | un => trivial
      | d x => obtain ⟨w, ew, R⟩ := sl; exact ⟨w, ew, Rp.mono mo ke _ _ R⟩
      | rd xs => obtain ⟨a, vs, ew, R, Rl⟩ := sl; exact ⟨a, vs, ew, R.mono mo ke, RpL.mono mo ke _ _ Rl⟩
      | own c => exact absurd rfl (n c).1
      | io c => exact absurd rfl (n c).2.1
      | lk c => exact absurd rfl (n c).2.2
    · exact fromS c _ e2 (.inr rfl) e3
    · exact fromS c _ e2 (.inl rfl) e3
    · exact fromS c _ e2 (.inl rfl) e3
  · obtain ⟨⟨c', hc⟩, e⟩ := S.io i c (ioS_get h)
    obtain ⟨y, e1, e2⟩ := mrg_get hl h
    rw [hc] at e1; cases e1
    exact ⟨⟨c', e2⟩, rfl⟩
  · obtain ⟨hc, e⟩ := S.lk i c (ioS_get h)
    obtain ⟨y, e1, e2⟩ := mrg_get hl h
    rw [hc] at e1; cases e1
    exact ⟨e2, rfl⟩
end
/-! ### the def that hears -/
theorem takes_len {X : Cx} {W : WX} (t : Takes X W) : Takes X (fun cls d σ H => σ.length = X.N.length → W cls d σ H) := fun u s' ⟨a, B, sI, pins, σ, H, cls, d, e, I, nb, up, sky, na, os, ag, w⟩ => t u s' ⟨a, B, sI, pins, σ, H, cls, d, e, I, nb, up, sky, na, os, ag, w I.len⟩
/-- what it makes of the lambda's reading -/
def TTh (CS : Addr) (told c : Str) (fl : List Str) : (XK → Hp → VK → Prop) → Hp → VK → Prop := fun tl H Q =>
  tl (fun cls d H' => cls = .ref CS ∧ ∃ (dd : Addr) (fs : List (Str × V)) (vs : List V), d = some dd ∧ H' dd = some (.xd fs) ∧ fl.map (fun f => fs.lookup f) = vs.map some ∧ ∀ p, H' p = none → Q (.ref p) (L2.upd H' p (.tup (.str c :: vs)))) H
    (fun v H1 => 2 ≤ sizeLine ∧ ∀ p, H1 p = none → Q (.ref p) (L2.upd H1 p (.tup [.str told, v])))
section
variable {X : Cx} {Ng : List Str} {x xc a n q told c f1 f2 : Str} {sg : Scope} {g CS : Addr} {cdg : Value} {k1 k2 k3 k4 : Nat} {p1 p2 p3 p4 p5 p6 p7 p8 p9 q1 q2 q3 q4 q5 q6 q7 : Pos} {b : Stmt}
abbrev hTry (a xc n told : Str) (k1 k2 : Nat) (p1 p2 p3 p4 p5 p6 p7 p8 : Pos) (b : Stmt) : List Stmt :=
  [.Try [.Return (some (.Tuple [.Constant (.str told) k1 p1, .Call (.Name a p2) [] [] p3] k2 p4)) p5] [.ExceptHandler (some (.Name xc p6)) (some n) [b] p7] [] [] p8]
/-- one clause, the suite given -/
theorem gives_as {fl : List Str} {ts : Addr → Value → Option Addr → TS} (hN : Ng.Nodup) (h0 : Ng[0]? = some a) (h1 : Ng[1]? = some n) (hl : Ng.length = 2) (hln : sg.names.lookup n = some .local) (hge : sg.names.lookup xc = some .globalImplicit) (hme : X.mg xc = some (.ref CS)) (hde : (xc == ("__debug__" : Str)) = false)
    (hex : PySem.W.exmOne X.K (.ref CS) (.ref CS) = some true)
    (hsu : ∀ (Z : Cx), Z.K = X.K → Z.N = Ng → Z.env.scope = sg → ∀ (e : Addr) (oe : Obj) (cls : Value) (d : Option Addr) (pn : List (Addr × Obj)), Zc cls d oe → (∃ vs, oe.data = .fields vs) → PSs (Z.suite e ((e, oe) :: pn)) [b] (ts e cls d))
    (hts : ∀ (e dd : Addr) (fs : List (Str × V)) (vs : List V) (D : Ends) (v0 : Option V) (H : Hp), H dd = some (.xd fs) → fl.map (fun f => fs.lookup f) = vs.map some → (∀ p, H p = none → D.rt (.ref p) (L2.upd H p (.tup (.str c :: vs)))) → ts e (.ref CS) (some dd) D [v0, some (.ref e)] H) :
    GivesTo X Ng x sg g cdg (hTry a xc n told k1 k2 p1 p2 p3 p4 p5 p6 p7 p8 b) a q (TTh CS told c fl) := by
  intro f c' s H Q tl act hc h
  have hgl : Gl (cxOf C8.CX0 X.prog X.w X.K X.mg X.base Ng x sg g cdg X.A X.stack s H C8.E0).nox xc := hge
  obtain ⟨y, z, rfl⟩ : ∃ y z, Ng = [y, z] := by
    match Ng, hl with
    | [y, z], _ => exact ⟨y, z, rfl⟩
  cases h0; cases h1
  refine ⟨_, pss_one (ps_try_as (X := (cxOf C8.CX0 X.prog X.w X.K X.mg X.base [a, n] x sg g cdg X.A X.stack s H C8.E0).nox) (c := .ref CS) (i := 1)
      (tb := fun W D σ H => ∃ Ech : XK, (∀ cls d v0 v1 H', Ech cls d H' → W cls d [v0, v1] H') ∧ (∃ v1, σ = [some (.ref f), v1]) ∧ H c' = some (CodeO c' q) ∧ tl Ech H (fun v H1 => 2 ≤ sizeLine ∧ ∀ p, H1 p = none → D.rt (.ref p) (L2.upd H1 p (.tup [.str told, v]))))
      rfl rfl hN rfl hln ⟨hgl, hde, .inl hme⟩ LamX.takes0 (fun W pn xe tk _ => ?_) (hsu _ rfl rfl rfl)), ?_⟩
  · refine ⟨fun pins s' σ H' D I h' => ?_⟩
    obtain ⟨Ech, hW, ⟨v1, hσ⟩, hc2, ht⟩ := h'
    have hp := act (fun cls d σ' H' => σ'.length = [a, n].length → W cls d σ' H') pn xe Ech p2 p3 (takes_len tk) (fun cls d σ' H' e hl2 => by
      match σ', hl2 with
      | [v0, v1], _ => exact hW cls d v0 v1 H' e)
    have hq := pss_one (ps_ret (pos := p5) (pe_tup (x1 := k2) (pos := p4) (pa_cons (pe_str (x := told) (j := k1) (pos := p1)) (pa_cons hp pa_nil))))
    exact hq.run pins s' σ H' D I ⟨by rw [hσ]; rfl, hc2, ht⟩
  · refine ⟨_, fun cls d v0 v1 H' hE => ?_, ⟨none, rfl⟩, hc, h⟩
    obtain ⟨rfl, dd, fs, vs, rfl, e1, e2, e3⟩ := hE
    exact ⟨true, hex, fun _ e he => hts e dd fs vs _ _ H' e1 e2 e3, fun z => by cases z⟩
/-- the suite: return (c, n.f1) -/
theorem suite1 {Z : Cx} (hK : Z.K = X.K) (hN : Z.N = [a, n]) (hsc : Z.env.scope = sg) (T : XfC X.K CS) (n1 : PySem.W.findIn X.K (.ref CS) f1 = some none) (hln : sg.names.lookup n = some .local) (hd : (n == ("__debug__" : Str)) = false) (hcd : (n == ("__classdict__" : Str)) = false)
    (hb1 : attributeBase (.Name n q2) f1 Z.env (eval (.Name n q2) Z.env) = eval (.Name n q2) Z.env) (e : Addr) (oe : Obj) (cls : Value) (d : Option Addr) (pn : List (Addr × Obj)) (hz : Zc cls d oe) (hv : ∃ vs, oe.data = .fields vs) :
    PSs (Z.suite e ((e, oe) :: pn)) [.Return (some (.Tuple [.Constant (.str c) k3 q1, .Attribute (.Name n q2) f1 q3] k4 q4)) q5]
      (fun D σ H => tTup (tCons (tC (.str c)) (tCons (tXf e cls d CS f1 (tVar 1)) tNil)) σ H D.rt) := by
  have hvis : Vis (Z.suite e ((e, oe) :: pn)).env.scope n := .inl (by show Z.env.scope.names.lookup n = _; rw [hsc]; exact hln)
  exact pss_one (ps_ret (pe_tup (pa_cons pe_str (pa_cons (pe_xf (X := Z) (hK ▸ T) (hK ▸ n1) hz hv (pe_var (i := 1) (by show Z.N[1]? = _; rw [hN]; rfl) hvis hd hcd) hb1) pa_nil))))
end
end VL
set_option Elab.async false
set_option linter.all false
set_option maxRecDepth 100000
set_option maxHeartbeats 0
namespace VL
open PySem PySem.Spec PyProof.Rows L2 LamX NdefX PySem.Calls
section
variable {X : Cx} {x xc a n q told c f1 f2 : Str} {sg : Scope} {g CS : Addr} {cdg : Value} {k1 k2 k3 k4 : Nat} {p1 p2 p3 p4 p5 p6 p7 p8 p9 q1 q2 q3 q4 q5 q6 q7 : Pos}
theorem suite2 {Z : Cx} (hK : Z.K = X.K) (hN : Z.N = [a, n]) (hsc : Z.env.scope = sg) (T : XfC X.K CS) (n1 : PySem.W.findIn X.K (.ref CS) f1 = some none) (n2 : PySem.W.findIn X.K (.ref CS) f2 = some none) (hln : sg.names.lookup n = some .local) (hd : (n == ("__debug__" : Str)) = false) (hcd : (n == ("__classdict__" : Str)) = false)
    (hb1 : attributeBase (.Name n q2) f1 Z.env (eval (.Name n q2) Z.env) = eval (.Name n q2) Z.env) (hb2 : attributeBase (.Name n q4) f2 Z.env (eval (.Name n q4) Z.env) = eval (.Name n q4) Z.env) (e : Addr) (oe : Obj) (cls : Value) (d : Option Addr) (pn : List (Addr × Obj)) (hz : Zc cls d oe) (hv : ∃ vs, oe.data = .fields vs) :
    PSs (Z.suite e ((e, oe) :: pn)) [.Return (some (.Tuple [.Constant (.str c) k3 q1, .Attribute (.Name n q2) f1 q3, .Attribute (.Name n q4) f2 q5] k4 q6)) q7]
      (fun D σ H => tTup (tCons (tC (.str c)) (tCons (tXf e cls d CS f1 (tVar 1)) (tCons (tXf e cls d CS f2 (tVar 1)) tNil))) σ H D.rt) := by
  have hvis : Vis (Z.suite e ((e, oe) :: pn)).env.scope n := .inl (by show Z.env.scope.names.lookup n = _; rw [hsc]; exact hln)
  have pv := fun {pos : Pos} => pe_var (X := Z.suite e ((e, oe) :: pn)) (pos := pos) (i := 1) (by show Z.N[1]? = _; rw [hN]; rfl) hvis hd hcd
  exact pss_one (ps_ret (pe_tup (pa_cons pe_str (pa_cons (pe_xf (X := Z) (hK ▸ T) (hK ▸ n1) hz hv pv hb1) (pa_cons (pe_xf (X := Z) (hK ▸ T) (hK ▸ n2) hz hv pv hb2) pa_nil)))))
theorem gives1 (hna : a ≠ n) (hln : sg.names.lookup n = some .local) (hge : sg.names.lookup xc = some .globalImplicit) (hme : X.mg xc = some (.ref CS)) (hde : (xc == ("__debug__" : Str)) = false)
    (hex : PySem.W.exmOne X.K (.ref CS) (.ref CS) = some true) (T : XfC X.K CS) (n1 : PySem.W.findIn X.K (.ref CS) f1 = some none) (hd : (n == ("__debug__" : Str)) = false) (hcd : (n == ("__classdict__" : Str)) = false) :
    GivesTo X [a, n] x sg g cdg (hTry a xc n told k1 k2 p1 p2 p3 p4 p5 p6 p7 p8 (.Return (some (.Tuple [.Constant (.str c) k3 q1, .Attribute (.Name n q2) f1 q3] k4 q4)) q5)) a q (TTh CS told c [f1]) := by
  refine gives_as (by simp [hna]) rfl rfl rfl hln hge hme hde hex (fun Z hK hN hsc e oe cls d pn hz hv => suite1 (X := X) hK hN hsc T n1 hln hd hcd rfl e oe cls d pn hz hv) fun e dd fs vs D v0 H e1 e2 e3 => ?_
  obtain ⟨v, rfl, l1⟩ : ∃ v, vs = [v] ∧ fs.lookup f1 = some v := by
    match vs, e2 with
    | [v], e2 => exact ⟨v, rfl, by simpa using e2⟩
    | [], e2 => simp at e2
    | _ :: _ :: _, e2 => simp at e2
  exact ⟨.ref e, rfl, rfl, rfl, dd, fs, v, rfl, e1, l1, by rw [sizeLine_eq]; simp, e3⟩
theorem gives2 (hna : a ≠ n) (hln : sg.names.lookup n = some .local) (hge : sg.names.lookup xc = some .globalImplicit) (hme : X.mg xc = some (.ref CS)) (hde : (xc == ("__debug__" : Str)) = false)
    (hex : PySem.W.exmOne X.K (.ref CS) (.ref CS) = some true) (T : XfC X.K CS) (n1 : PySem.W.findIn X.K (.ref CS) f1 = some none) (n2 : PySem.W.findIn X.K (.ref CS) f2 = some none) (hd : (n == ("__debug__" : Str)) = false) (hcd : (n == ("__classdict__" : Str)) = false) :
    GivesTo X [a, n] x sg g cdg (hTry a xc n told k1 k2 p1 p2 p3 p4 p5 p6 p7 p8 (.Return (some (.Tuple [.Constant (.str c) k3 q1, .Attribute (.Name n q2) f1 q3, .Attribute (.Name n q4) f2 q5] k4 q6)) q7)) a q (TTh CS told c [f1, f2]) := by
  refine gives_as (by simp [hna]) rfl rfl rfl hln hge hme hde hex (fun Z hK hN hsc e oe cls d pn hz hv => suite2 (X := X) hK hN hsc T n1 n2 hln hd hcd rfl rfl e oe cls d pn hz hv) fun e dd fs vs D v0 H e1 e2 e3 => ?_
  obtain ⟨v, v', rfl, l1, l2⟩ : ∃ v v', vs = [v, v'] ∧ fs.lookup f1 = some v ∧ fs.lookup f2 = some v' := by
    match vs, e2 with
    | [v, v'], e2 => exact ⟨v, v', rfl, by simpa using e2⟩
    | [], e2 => simp at e2
    | [_], e2 => simp at e2
    | _ :: _ :: _ :: _, e2 => simp at e2
  exact ⟨.ref e, rfl, rfl, rfl, dd, fs, v, rfl, e1, l1, .ref e, rfl, rfl, rfl, dd, fs, v', rfl, e1, l2, by rw [sizeLine_eq]; simp, e3⟩
end
/-! ### the frame behind the making of a lambda -/
theorem FR.but {Tb : List (Addr × Str)} {K : PySem.W.Frag} {O : AS} {st : VS} {σ : L2.St} {H H1 : Hp} {P : Addr} {q : Str} (F : FR Tb K O st σ H) (B : ButP P H H1) (hT : (P, q) ∈ Tb) (hu : ∀ p ∈ Tb, p.1 = P → p.2 = q) (t1 : TabS H1 P q) : Step Tb K O st σ H st σ H1 := by
  obtain ⟨ps, hP, _, _⟩ := F.tabs _ hT
  have kp : ∀ a o, H a = some o → NTb o → H1 a = some o := fun a o e t => B.keep a o (fun z => by rw [z, hP] at e; exact t ps (Option.some.inj e).symm) e
  have ke : ∀ {O' : AS} (a o), H a = some o → NTb o → ¬ O' a → H1 a = some o := fun a o e t _ => kp a o e t
  have hc : ∀ p c, Cont K (Av O st σ) H p c → Cont K (Av O st σ) H1 p c := fun p c C => by
    refine C.mono (fun _ h => .inl h) ke ?_
    cases e : H p with
    | none => exact absurd e C.there
    | some o => exact kp p o e (C.ntb e)
  refine ⟨⟨F.len, fun i sv h => ?_, F.inj, F.avoid, fun p h z => F.odom p h (B.free p z), fun p hp => ?_⟩, fun a o e t _ => kp a o e t, fun _ h => .inl h, fun _ h => .inl h, B.free, rfl, fun _ c h => ⟨⟨c, h⟩, rfl⟩, fun _ _ h => ⟨h, rfl⟩⟩
  · obtain ⟨v, ev, sl⟩ := F.slot i sv h
    refine ⟨v, ev, ?_⟩
    cases sv with
    | un => trivial
    | d x => obtain ⟨w, ew, R⟩ := sl; exact ⟨w, ew, Rp.mono (fun _ h => .inl h) ke _ _ R⟩
    | own c => obtain ⟨p, ep, C⟩ := sl; exact ⟨p, ep, hc p c C⟩
    | io c => obtain ⟨p, ep, C⟩ := sl; exact ⟨p, ep, hc p c C⟩
    | lk c => obtain ⟨p, ep, C⟩ := sl; exact ⟨p, ep, hc p c C⟩
    | rd xs => obtain ⟨a, vs, ew, R, Rl⟩ := sl; exact ⟨a, vs, ew, R.mono (fun _ h => .inl h) ke, RpL.mono (fun _ h => .inl h) ke _ _ Rl⟩
  · by_cases h : p.1 = P
    · rw [h, hu p hp h]; exact t1
    · obtain ⟨ps', e1, e2, e3⟩ := F.tabs p hp
      refine ⟨ps', B.keep _ _ h e1, e2, fun pos cv hc => ?_⟩
      obtain ⟨d, e4, e5⟩ := e3 pos cv hc
      exact ⟨d, e4, kp _ _ e5 (codeO_ne)⟩
/-! ### the mirror -/
def lks (fs : List (Str × Da)) : List Str → Option (List Da)
  | [] => some []
  | f :: r => (fs.lookup f).bind fun x => (lks fs r).map (x :: ·)
def vHeard (x told c : Str) (fl : List Str) (f : VM EV) : VM EV := fun s => match f (ioS s) with
  | .ok (r, s') => match evD r with
    | some v => .ok (.d (.tuple [.str told, v]), mrg s s')
    | none => .error .stuck
  | .error (.exc C fs s') => if C = x then match lks fs fl with
    | some vs => .ok (.d (.tuple (.str c :: vs)), mrg s s')
    | none => .error .stuck
    else .error .stuck
  | .error .stuck => .error .stuck
theorem lookup_rel {K : PySem.W.Frag} {O : AS} {H : Hp} {f : Str} {x : Da} : ∀ {fs : List (Str × Da)} {ws : List (Str × V)}, fs.map (·.1) = ws.map (·.1) → RpL K O H (fs.map (·.2)) (ws.map (·.2)) → fs.lookup f = some x → ∃ w, ws.lookup f = some w ∧ Rp K O H x w
  | [], ws, _, _, h => by cases h
  | (g, y) :: fs, [], e, _, _ => by cases e
  | (g, y) :: fs, (g', w) :: ws, e, R, h => by
    simp only [List.map_cons, List.cons.injEq] at e
    obtain ⟨rfl, e⟩ := e
    simp only [List.map_cons, RpL] at R
    obtain ⟨w1, ws1, e1, r1, r2⟩ := R
    cases e1
    simp only [List.lookup] at h ⊢
    split at h
    · cases h; exact ⟨_, rfl, r1⟩
    · exact lookup_rel e r2 h
theorem lks_rel {K : PySem.W.Frag} {O : AS} {H : Hp} {fs : List (Str × Da)} {ws : List (Str × V)} (e : fs.map (·.1) = ws.map (·.1)) (R : RpL K O H (fs.map (·.2)) (ws.map (·.2))) : ∀ {fl : List Str} {vs : List Da}, lks fs fl = some vs → ∃ us : List V, fl.map (fun f => ws.lookup f) = us.map some ∧ RpL K O H vs us
  | [], vs, h => by cases h; exact ⟨[], rfl, .nil⟩
  | f :: fl, vs, h => by
    obtain ⟨x, h1, h⟩ := Option.bind_eq_some_iff.mp (show (fs.lookup f).bind _ = some vs from h)
    obtain ⟨vs', h2, rfl⟩ := Option.map_eq_some_iff.mp h
    obtain ⟨w, e1, r⟩ := lookup_rel e R h1
    obtain ⟨us, e2, r2⟩ := lks_rel e R h2
    exact ⟨w :: us, by rw [List.map_cons, e1, e2]; rfl, .cons r r2⟩
theorem ve_heard {Tb : List (Addr × Str)} {X : Cx} {W : WX} {x xc a told c : Str} {fl : List Str} {g cc P CS : Addr} {k : Nat} {pg : Arguments} {bg : List Stmt} {sg : Scope} {dV kV doc pm cdv ct oc : Value} {an od : Option Addr} {osl : Array (Option Value)} {Ng : List Str}
    {params : Arguments} {body : Expr} {scope : Scope} {fm : VM EV} {p lpos pos : Pos} (hfl : fl ≠ []) (hT : (P, X.env.qual ++ "<lambda>") ∈ Tb) (hu : ∀ p ∈ Tb, p.1 = P → p.2 = X.env.qual ++ "<lambda>") (hme : X.mg xc = some (.ref CS)) (hg : Gl X x) (hm : X.mg x = some (.ref g)) (hk : PySem.W.keepIn X.K (.ref g) = true)
    (lk : X.K.lookup g = some ⟨oc, od, .func (PySem.W.fnOf x x pg bg sg dV kV doc pm an cdv ct), osl⟩) (hcg : PySem.W.codeIn X.K cdv x = true) (hb : L2.Binds X.K (PySem.W.fnOf x x pg bg sg dV kV doc pm an cdv ct) [a] []) (Sg : FnScope Ng [a] sg) (hNg : Ng[0]? = some a) (hva : Vis sg a)
    (hG : GivesTo X Ng x sg g cdv bg a (X.env.qual ++ "<lambda>") (TTh CS told c fl)) (TB : TabB X.base X.mg cc P) (hcode : X.env.code = .ref cc) (hr : Room (k + 2) X.A) (L : LamS X.env.scope scope) (hdef : defaultsOf params X.env = ([], []))
    (hbind : ∀ (q : Str) (cl : List (Str × Addr)) (pm cv ctv : Value), bindArgs (PySem.W.kla_fn "<lambda>" q params body scope cl pm cv ctv) ⟨[], []⟩ = pure [])
    (hbody : ∀ (A : Around) (outer : List Env) (s : Shared) (H : Hp) (E : XK) (f c' : Addr), Room k (A.deeper (lamEnv X scope s.heap.objs.size f c')) → VE Tb (lamCx X A outer s H E scope f c') (WN E) body fm)
    (hdb : (x == ("__debug__" : Str)) = false) (hd : (a == ("__debug__" : Str)) = false) (hcd : (a == ("__classdict__" : Str)) = false) :
    VE Tb X W (.Call (.Name x p) [.Lambda params body scope lpos] [] pos) (vHeard xc told c fl fm) := by
  refine PE.wk (pe_lam (t := fun E => tV Tb X.K X.mg (WN E) fm) hg hm hk lk hcg hb Sg hNg hva hG TB hcode hr L hdef hbind hbody hdb hd hcd) fun σ H Q h => ?_
  obtain ⟨O, st, F, h⟩ := h
  refine ⟨F.tabs _ hT, fun H1 B T1 => ?_⟩
  have S0 := F.but B hT hu T1
  refine ⟨O, ioS st, S0.fr.toIo, ?_⟩
  unfold vHeard at h
  cases e : fm (ioS st) with
  | ok rs =>
    obtain ⟨r, s'⟩ := rs
    rw [e] at h
    dsimp only at h
    cases ev : evD r with
    | none => rw [ev] at h; exact h.elim
    | some v =>
      rw [ev] at h
      intro w H2 S ER
      have SM := S.merge S0.fr
      have R : RpL X.K (Av O (mrg st s') σ) H2 [.str told, v] [V.str told, w] := .cons (by simp only [Rp]) (.one (Rp.sub (mrg_av S) (ER.evD ev)))
      refine ⟨by rw [sizeLine_eq]; decide, fun p hp => ?_⟩
      exact h _ _ ((S0.trans SM).trans (Step.ext SM.fr (Same.upd hp))) ((NR.er SM.fr (Same.upd hp) (NR.tup SM.fr.avdom R hp)).back fun a z => S0.dom a (SM.dom a z))
  | error er =>
    rw [e] at h
    cases er with
    | stuck => exact h.elim
    | exc C fs s' =>
      dsimp only at h
      split at h
      · rename_i hC
        cases el : lks fs fl with
        | none => rw [el] at h; exact h.elim
        | some vs =>
          rw [el] at h
          intro Ca d σ' H2 ws hmC S hd2 hr2 he2
          rw [hC, hme] at hmC
          cases hmC
          have SM := S.merge S0.fr
          obtain ⟨us, eu, Ru⟩ := lks_rel he2 hr2 el
          have hd3 : ∃ dd, d = some dd ∧ H2 dd = some (.xd ws) := by
            cases d with
            | some dd => exact ⟨dd, rfl, hd2⟩
            | none =>
              have : ws = [] := hd2
              subst this
              cases fl with
              | nil => exact absurd rfl hfl
              | cons f fl =>
                cases us with
                | nil => cases eu
                | cons u us => rw [List.map_cons, List.map_cons] at eu; cases (List.cons.inj eu).1
          obtain ⟨dd, rfl, hdd⟩ := hd3
          refine ⟨rfl, dd, ws, us, rfl, hdd, eu, fun p hp => ?_⟩
          have R : RpL X.K (Av O (mrg st s') σ) H2 (.str c :: vs) (V.str c :: us) := .cons (by simp only [Rp]) (Ru.sub (mrg_av S))
          exact h _ _ ((S0.trans SM).trans (Step.ext SM.fr (Same.upd hp))) ((NR.er SM.fr (Same.upd hp) (NR.tup SM.fr.avdom R hp)).back fun a z => S0.dom a (SM.dom a z))
      · exact h.elim
end VL
set_option Elab.async false
set_option linter.all false
set_option maxRecDepth 100000
set_option maxHeartbeats 0
/-! the head: defs, own exceptions, tables of code objects -/
namespace VL
open PySem PySem.Spec PyProof.Rows L2 LamX NdefX PySem.Calls He
/-- an own exception class: its __init__ -/
structure SupD where
  cls : Str
  qual : Str
  params : Arguments
  body : List Stmt
  scope : Scope
  fields : List Str
abbrev SupW : Type := Option (Str × Str × Arguments × FuncBody × Scope × Addr × List Str × Addr)
def supA (K : PySem.W.Frag) (d : SupD) : Addr := ma K (ga K d.cls) "__init__"
def supW (K : PySem.W.Frag) (d : SupD) : SupW := match K.lookup (supA K d) with
  | some ⟨_, _, .func fd, _⟩ => some (fd.name, fd.qualname, fd.params, fd.body, fd.scope, fd.globals, fd.closure.map (·.1), fd.builtins)
  | _ => none
def SupD.val (d : SupD) : SupW := some ("__init__", d.qual, d.params, .stmts d.body, d.scope, mainGlobals, ["__class__"], builtinsNs)
def oexB (K : PySem.W.Frag) (C : Addr) : Bool := (match K.lookup C with
  | some ⟨.type "type", _, .cls cd, sl⟩ => (match cd.mro, sl.toList with
    | .ref C' :: bm, [_, _, _, _, some (.builtin n), _] => decide (C' = C) && decide (n = "ValueError.__new__") && !cd.hasDel && cd.hasDict && HandSPX.refsVE bm
    | _, _ => false)
  | _ => false) && eqO (PySem.W.findIn K (.ref C) "__setattr__") (some (some (.builtin "object.__setattr__"))) && decide (PySem.W.subIn K (.ref C) (.type "BaseException") = some true) && decide (PySem.W.typeIn K (.ref C) = some (.type "type")) && PySem.W.keepIn K (.ref C)
def clsB (K : PySem.W.Frag) (C : Addr) : Bool := (PySem.W.clsIn K C).isSome && decide (PySem.W.mroIn K C (.ref C) = some true) && decide (PySem.W.ks_superIn K C C "__init__" = some (some (.builtin "ValueError.__init__"))) && decide (PySem.W.subIn K (.ref C) (.type "ValueError") = some true) && decide (PySem.W.nsIn K cStatics "thirdparty.any" = some none)
def cellB (K : PySem.W.Frag) (cc C : Addr) : Bool := match K.lookup cc with
  | some ⟨_, _, .cell (some (.ref D)), _⟩ => decide (D = C)
  | _ => false
def fileB (file : Str) (K : PySem.W.Frag) (cd : Value) : Bool := match cd with
  | .ref c => (match K.lookup c with
    | some ⟨_, _, .fields vs, _⟩ => (match (vs[2]? : Option Value) with
      | some (.str f _) => file == f
      | _ => false)
    | _ => false)
  | _ => false
def noneB : Value → Bool
  | .none => true
  | _ => false
theorem noneB_eq {v : Value} (h : noneB v = true) : v = .none := by cases v <;> first | rfl | cases h
def SupD.ok (file : Str) (K : PySem.W.Frag) (d : SupD) : Bool := oexB K (ga K d.cls) && clsB K (ga K d.cls) && xfB K (ga K d.cls) && decide (PySem.W.exmOne K (.ref (ga K d.cls)) (.ref (ga K d.cls)) = some true) && eqO (PySem.W.nsIn K mainGlobals d.cls) (some (some (.ref (ga K d.cls)))) && (d.fields.all fun f => decide (PySem.W.findIn K (.ref (ga K d.cls)) f = some none)) &&
  decide (PySem.W.findIn K (.ref (ga K d.cls)) "__init__" = some (some (.ref (supA K d)))) && decide (PySem.W.typeIn K (.ref (supA K d)) = some (.type "function")) && (match K.lookup (supA K d) with
  | some ⟨_, _, .func fd, _⟩ => PySem.W.codeIn K fd.code d.qual && fileB file K fd.code && noneB fd.defaults && noneB fd.kwdefaults && (match fd.closure with
    | [(_, cc)] => cellB K cc (ga K d.cls)
    | _ => false)
  | _ => false)
theorem dec {p : Prop} [Decidable p] (h : decide p = true) : p := of_decide_eq_true h
theorem oex_of {K : PySem.W.Frag} {C : Addr} (h : oexB K C = true) : OexC K C := by
  unfold oexB at h
  simp only [Bool.and_eq_true] at h
  obtain ⟨⟨⟨⟨h1, h2⟩, h3⟩, h4⟩, h5⟩ := h
  refine ⟨?_, eqO_ok h2, dec h3, dec h4, h5⟩
  split at h1
  · rename_i dd cd sl ho
    split at h1
    · rename_i C' bm k0 k1 k2 k3 n k5 hm hs
      simp only [Bool.and_eq_true, decide_eq_true_eq, Bool.not_eq_true'] at h1
      obtain ⟨⟨⟨⟨rfl, rfl⟩, hdel⟩, hdict⟩, hbm⟩ := h1
      obtain ⟨nm, bs, mro, ns, qn, hd, sn, sub, ab, col, del⟩ := cd
      dsimp only at hm hdel hdict
      subst hm hdel hdict
      have hsl : sl = #[k0, k1, k2, k3, some (.builtin "ValueError.__new__"), k5] := by
        obtain ⟨l⟩ := sl
        simp only at hs
        rw [hs]
      subst hsl
      exact ⟨nm, qn, ns, bs, bm, sn, sub, ab, col, dd, k0, k1, k2, k3, k5, ho, hbm⟩
    · cases h1
  · cases h1
/-- what the head knows of a class -/
structure SupOk (file : Str) (K : PySem.W.Frag) (mg : Str → Option Value) (d : SupD) : Prop where
  ex : ∃ (C fI : Addr) (oc : Value) (od : Option Addr) (osl : Array (Option Value)) (doc pm ct : Value) (an : Option Addr) (cc c : Addr) (cl ccl : Value) (cld cdd : Option Addr) (csl ccs : Array (Option Value)) (vsC : Array Value) (tf : Tok),
    mg d.cls = some (.ref C) ∧ SupC K C ∧ XfC K C ∧ PySem.W.exmOne K (.ref C) (.ref C) = some true ∧ (∀ f ∈ d.fields, PySem.W.findIn K (.ref C) f = some none) ∧
      PySem.W.findIn K (.ref C) "__init__" = some (some (.ref fI)) ∧ PySem.W.typeIn K (.ref fI) = some (.type "function") ∧
      K.lookup fI = some ⟨oc, od, .func (PySem.W.ksFn "__init__" d.qual d.params d.body d.scope .none .none doc pm an (.ref c) ct cc), osl⟩ ∧ PySem.W.codeIn K (.ref c) d.qual = true ∧
      K.lookup cc = some ⟨cl, cld, .cell (some (.ref C)), csl⟩ ∧ K.lookup c = some ⟨ccl, cdd, .fields vsC, ccs⟩ ∧ ∃ f, vsC[2]? = some (.str f tf) ∧ (file == f) = true
theorem SupD.sup {file : Str} {K : PySem.W.Frag} {h : Heap} {mg : Str → Option Value} (X : K.In h) (G : h.Ns mainGlobals mg) {d : SupD} (e : supW K d = d.val) (ok : d.ok file K = true) : SupOk file K mg d := by
  unfold SupD.ok at ok
  simp only [Bool.and_eq_true] at ok
  obtain ⟨⟨⟨⟨⟨⟨⟨⟨h1, h2⟩, h3⟩, h4⟩, h5⟩, h6⟩, h7⟩, h8⟩, h9⟩ := ok
  unfold clsB at h2
  simp only [Bool.and_eq_true] at h2
  obtain ⟨⟨⟨⟨c1, c2⟩, c3⟩, c4⟩, c5⟩ := h2
  unfold supW at e
  split at h9
  · rename_i oc od fd osl ho
    rw [ho] at e
    dsimp only at e
    obtain ⟨n1, n2, n3, n4, n5, n6, n7, n8, n9, n10, n11, n12, n13, n14, n15⟩ := fd
    have e2 : (some (n1, n2, n3, n4, n5, n6, n7.map (·.1), n15) : SupW) = some (("__init__" : Str), d.qual, d.params, FuncBody.stmts d.body, d.scope, mainGlobals, [("__class__" : Str)], builtinsNs) := e
    simp only [Option.some.injEq, Prod.mk.injEq] at e2
    obtain ⟨rfl, rfl, rfl, rfl, rfl, rfl, e7, rfl⟩ := e2
    simp only [Bool.and_eq_true] at h9
    obtain ⟨⟨⟨⟨g1, g2⟩, gd⟩, gk⟩, g3⟩ := h9
    obtain rfl := noneB_eq gd
    obtain rfl := noneB_eq gk
    split at g3
    · rename_i _ nm cc
      have : nm = "__class__" := by simpa using e7
      subst this
      obtain ⟨c, rfl⟩ := codeIn_ref g1
      unfold cellB at g3
      split at g3
      · rename_i cl cld D csl hcell
        have := dec g3
        subst this
        unfold fileB at g2
        dsimp only at g2
        split at g2
        · rename_i ccl cdd vsC ccs hc
          split at g2
          · rename_i f tf hf
            exact ⟨⟨ga K d.cls, supA K d, oc, od, osl, n10, n11, n14, n12, cc, c, cl, ccl, cld, cdd, csl, ccs, vsC, tf, PySem.W.mg_of X G (eqO_ok h5), ⟨oex_of h1, Option.isSome_iff_exists.mp c1, dec c2, dec c3, dec c4, dec c5⟩, xfB_ok h3, dec h4,
              fun f hf => dec (List.all_eq_true.mp h6 f hf), dec h7, dec h8, ho, g1, hcell, hc, f, hf, g2⟩⟩
          · cases g2
        · cases g2
      · cases g3
    · cases g3
  · cases h9
/-! ### the Hook -/
abbrev AlV : Type := Bool × List FnW × List SupW
def tbB (g : Addr → Option Obj) (K : PySem.W.Frag) (tf : List Defn) : Bool := (tf.all fun p => PySem.W.codeHdIn K (cT K p).1 (cT K p).2 && (match g (cT K p).2 with
  | some o => emptyTab o
  | none => false)) && decide ((tf.map fun p => (cT K p).2).Nodup)
def obsV0 (file : Str) (fa : List Fa) (fn : List DefD) (sd : List SupD) (tf : List Defn) (g : Addr → Option Obj) (K : PySem.W.Frag) : AlV :=
  ((fa.all fun f => f.ok K) && (fn.all fun d => d.ok K) && (sd.all fun d => d.ok file K) && tbB g K tf, fn.map (fun d => fnW K d.at_), sd.map fun d => supW K d)
def valV (fn : List DefD) (sd : List SupD) : AlV := (true, fn.map DefD.val, sd.map SupD.val)
def frV (n : Nat) (g : Addr → Option Obj) : PySem.W.Frag := frT g (cStatics :: asD g n)
def obsVG (file : Str) (n : Nat) (fa : List Fa) (fn : List DefD) (sd : List SupD) (tf : List Defn) (g : Addr → Option Obj) : AlV := obsV0 file fa fn sd tf g (frV n g)
/-- what is told of K, of the heap h -/
structure SaysV (file : Str) (fa : List Fa) (fn : List DefD) (sd : List SupD) (tf : List Defn) (h : Heap) (K : PySem.W.Frag) : Prop where
  d : SaysD fa fn K
  supB : ∀ d ∈ sd, d.ok file K = true
  supE : sd.map (fun d => supW K d) = sd.map SupD.val
  hd : ∀ p ∈ tf, PySem.W.codeHdIn K (cT K p).1 (cT K p).2 = true
  out : ∀ p ∈ tf, K.lookup (cT K p).2 = none
  empty : ∀ p ∈ tf, h.get? (cT K p).2 = some { cls := .none, data := .fields #[] }
  nd : (tf.map fun p => (cT K p).2).Nodup
theorem saysV_of {file : Str} {n : Nat} {fa : List Fa} {fn : List DefD} {sd : List SupD} {tf : List Defn} {h : Heap} (e : obsVG file n fa fn sd tf h.get? = valV fn sd) : SaysV file fa fn sd tf h (frV n h.get?) := by
  have e1 := congrArg (fun z : AlV => z.1) e
  have e2 := congrArg (fun z : AlV => z.2.1) e
  have e3 := congrArg (fun z : AlV => z.2.2) e
  simp only [obsVG, obsV0, valV, Bool.and_eq_true] at e1 e2 e3
  obtain ⟨⟨⟨h1, h2⟩, h3⟩, h4⟩ := e1
  unfold tbB at h4
  simp only [Bool.and_eq_true] at h4
  obtain ⟨h5, h6⟩ := h4
  have key : ∀ p ∈ tf, PySem.W.codeHdIn (frV n h.get?) (cT (frV n h.get?) p).1 (cT (frV n h.get?) p).2 = true ∧ ∃ o, h.get? (cT (frV n h.get?) p).2 = some o ∧ emptyTab o = true := fun p hp => by
    have z := List.all_eq_true.mp h5 p hp
    simp only [Bool.and_eq_true] at z
    refine ⟨z.1, ?_⟩
    have z2 := z.2
    split at z2
    · rename_i o ho; exact ⟨o, ho, z2⟩
    · cases z2
  refine ⟨?_, fun d hd => List.all_eq_true.mp h3 d hd, e3, fun p hp => (key p hp).1, fun p hp => ?_, fun p hp => ?_, dec h6⟩
  · show obsD fa fn (frV n h.get?) = valD fn
    unfold obsD valD
    rw [h1, h2, e2]; rfl
  · obtain ⟨_, o, q, z⟩ := key p hp
    exact frT_none q z
  · obtain ⟨_, o, q, z⟩ := key p hp
    rw [q, emptyTab_eq z]
def hookV (file : Str) (n : Nat) (fa : List Fa) (fn : List DefD) (sd : List SupD) (tf : List Defn) : PySem.W.Hook where
  α := AlV
  obs := fun s => obsVG file n fa fn sd tf s.heap.get?
  val := fun _ => valV fn sd
  says := fun _ h => ∃ K : PySem.W.Frag, K.In h ∧ SaysV file fa fn sd tf h K
  of := fun _ _ e => ⟨_, frT_in, saysV_of e⟩
  keeps := fun _ _ _ ⟨K, hK, c⟩ k => ⟨K, PySem.W.Frag.In.keeps hK k, ⟨c.d, c.supB, c.supE, c.hd, c.out, fun p hp => k _ _ (c.empty p hp), c.nd⟩⟩
theorem obsVG_eq {file : Str} {n : Nat} {fa : List Fa} {fn : List DefD} {sd : List SupD} {tf : List Defn} {g : Addr → Option Obj} {s : Shared} (h : ∀ a, g a = s.heap.get? a) : obsVG file n fa fn sd tf g = (hookV file n fa fn sd tf).obs s := by
  have e : g = s.heap.get? := funext h
  rw [e]; rfl
theorem SaysV.sup {file : Str} {fa : List Fa} {fn : List DefD} {sd : List SupD} {tf : List Defn} {h h0 : Heap} {K : PySem.W.Frag} {mg : Str → Option Value} (c : SaysV file fa fn sd tf h0 K) (X : K.In h) (G : h.Ns mainGlobals mg) (i : Nat) {d : SupD} (hi : sd[i]? = some d) : SupOk file K mg d := by
  have e2 : (sd.map fun d => supW K d)[i]? = (sd.map SupD.val)[i]? := by rw [c.supE]
  rw [List.getElem?_map, List.getElem?_map, hi] at e2
  exact SupD.sup X G (Option.some.inj e2) (c.supB d (List.mem_of_getElem? hi))
end VL
set_option Elab.async false
set_option linter.all false
set_option maxRecDepth 100000
set_option maxHeartbeats 0
namespace VL
open PySem PySem.Spec PyProof.Rows L2 LamX NdefX PySem.Calls He
/-! ### an own exception by its class's text -/
section
variable {P : Program} {w : World} {K : PySem.W.Frag} {mg : Str → Option Value} {base : Heap} {k : Nat} {sf x1 x2 f1 f2 : Str} {ar : Arg} {p0 p1 p2 p3 p4 q1 q2 q3 q4 q5 q6 q7 q8 q9 q10 : Pos} {d : SupD}
def dunder (x : Str) : Bool := (x == ("__debug__" : Str)) || (x == ("__classdict__" : Str))
theorem dun {x : Str} (h : dunder x = false) : (x == ("__debug__" : Str)) = false ∧ (x == ("__classdict__" : Str)) = false := by
  unfold dunder at h
  exact Bool.or_eq_false_iff.mp h
theorem exf1 (S : SupOk P.main.file K mg d) (hd : d.body = iBody1 sf x1 f1 p0 p1 p2 p3 p4 q1 q2 q3 q4 q5) (hf : d.fields = [f1]) (N : NScope [sf, x1, "__class__"] [sf, x1] ["__class__"] d.scope) (hp : (d.params.posonlyargs ++ d.params.args).head? = some ar) (har : sf = ar.arg)
    (hsuper : mg "super" = none) (htop : (P.main.scope.names.lookup ("super" : Str)).isSome = false) (hks : d.scope.names.lookup ("super" : Str) = some .globalImplicit) (hcall : SupCall p0 p1 p2 p3 [.Name x1 q1]) (d0 : dunder sf = false) (d1 : dunder x1 = false)
    (hb : ∀ (doc pm ct : Value) (an : Option Addr) (cdv : Value) (cc : Addr) (us : List Value), us.length = 2 → bindArgs (PySem.W.ksFn "__init__" d.qual d.params d.body d.scope .none .none doc pm an cdv ct cc) ⟨us, []⟩ = pure ([sf, x1].zip us)) :
    ExF P w K mg base (k + 1) d.cls [f1] := by
  obtain ⟨C, fI, oc, od, osl, doc, pm, ct, an, cc, c, cl, ccl, cld, cdd, csl, ccs, vsC, tf, hm, T, _, _, hn, iC, tI, lk, hcd, hcell, hcode, f, hvs, hfile⟩ := S.ex
  have hb2 := hb doc pm ct an (.ref c) cc
  rw [hd] at lk hb2
  exact ⟨C, fI, _, [sf, x1], T.ox, iC, tI, init1 lk hcd N hcell hp har hcode hvs hfile hsuper htop hks T hcall (hn f1 (by rw [hf]; simp)) (dun d0) (dun d1), .all fun us hl => hb2 us hl, hm⟩
theorem exf2 (S : SupOk P.main.file K mg d) (hd : d.body = iBody2 sf x1 x2 f1 f2 p0 p1 p2 p3 p4 q1 q2 q3 q4 q5 q6 q7 q8 q9 q10) (hf : d.fields = [f1, f2]) (N : NScope [sf, x1, x2, "__class__"] [sf, x1, x2] ["__class__"] d.scope) (hp : (d.params.posonlyargs ++ d.params.args).head? = some ar) (har : sf = ar.arg)
    (hsuper : mg "super" = none) (htop : (P.main.scope.names.lookup ("super" : Str)).isSome = false) (hks : d.scope.names.lookup ("super" : Str) = some .globalImplicit) (hcall : SupCall p0 p1 p2 p3 [.Name x1 q1, .Name x2 q2]) (d0 : dunder sf = false) (d1 : dunder x1 = false) (d2 : dunder x2 = false)
    (hb : ∀ (doc pm ct : Value) (an : Option Addr) (cdv : Value) (cc : Addr) (us : List Value), us.length = 3 → bindArgs (PySem.W.ksFn "__init__" d.qual d.params d.body d.scope .none .none doc pm an cdv ct cc) ⟨us, []⟩ = pure ([sf, x1, x2].zip us)) :
    ExF P w K mg base (k + 1) d.cls [f1, f2] := by
  obtain ⟨C, fI, oc, od, osl, doc, pm, ct, an, cc, c, cl, ccl, cld, cdd, csl, ccs, vsC, tf, hm, T, _, _, hn, iC, tI, lk, hcd, hcell, hcode, f, hvs, hfile⟩ := S.ex
  have hb2 := hb doc pm ct an (.ref c) cc
  rw [hd] at lk hb2
  exact ⟨C, fI, _, [sf, x1, x2], T.ox, iC, tI, init2 lk hcd N hcell hp har hcode hvs hfile hsuper htop hks T hcall (hn f1 (by rw [hf]; simp)) (hn f2 (by rw [hf]; simp)) (dun d0) (dun d1) (dun d2), .all fun us hl => hb2 us hl, hm⟩
end
/-! ### what is heard, by the texts of the def and of the class -/
section
variable {Tb : List (Addr × Str)} {X : Cx} {W : WX} {x a n told c f1 f2 : Str} {st : Stmt} {g cc P : Addr} {fd : FuncData} {k k1 k2 k3 k4 : Nat} {file : Str} {d : SupD} {params : Arguments} {body : Expr} {scope : Scope} {fm : VM EV} {p lpos pos p1 p2 p3 p4 p5 p6 p7 p8 q1 q2 q3 q4 q5 q6 q7 : Pos}
/-- where lambdas are made: the maker's code object, its table -/
structure LamAt (Tb : List (Addr × Str)) (X : Cx) (P cc : Addr) : Prop where
  mem : (P, X.env.qual ++ "<lambda>") ∈ Tb
  uni : ∀ p ∈ Tb, p.1 = P → p.2 = X.env.qual ++ "<lambda>"
  tb : TabB X.base X.mg cc P
  code : X.env.code = .ref cc
theorem ve_heard1 (A : LamAt Tb X P cc) (S : SupOk file X.K X.mg d) (xh : Fx X.K X.mg x st [a] g fd)
    (hst : defBody st = hTry a d.cls n told k1 k2 p1 p2 p3 p4 p5 p6 p7 p8 (.Return (some (.Tuple [.Constant (.str c) k3 q1, .Attribute (.Name n q2) f1 q3] k4 q4)) q5)) (hf : d.fields = [f1]) (Sg : FnScope [a, n] [a] (defScope st)) (hva : Vis (defScope st) a)
    (hna : (a == n) = false) (hln : (defScope st).names.lookup n = some .local) (hge : (defScope st).names.lookup d.cls = some .globalImplicit) (hr : Room (k + 2) X.A) (L : LamS X.env.scope scope)
    (hbody : ∀ (A : Around) (outer : List Env) (s : Shared) (H : Hp) (E : XK) (f c' : Addr), Room k (A.deeper (lamEnv X scope s.heap.objs.size f c')) → VE Tb (lamCx X A outer s H E scope f c') (WN E) body fm)
    (hg : Gl X x := by rfl) (hdef : defaultsOf params X.env = ([], []) := by rfl) (hbind : ∀ (q : Str) (cl : List (Str × Addr)) (pm cv ctv : Value), bindArgs (PySem.W.kla_fn "<lambda>" q params body scope cl pm cv ctv) ⟨[], []⟩ = pure [] := by intros; rfl)
    (hd : dunder a = false := by decide) (hdx : dunder x = false := by decide) (hdn : dunder n = false := by decide) (hdc : dunder d.cls = false := by decide) :
    VE Tb X W (.Call (.Name x p) [.Lambda params body scope lpos] [] pos) (vHeard d.cls told c [f1] fm) := by
  obtain ⟨C, fI, oc, od, osl, doc, pm, ct, an, c1, c2, cl, ccl, cld, cdd, csl, ccs, vsC, tf, hm, T, Xf, hex, hn, iC, tI, _⟩ := S.ex
  obtain ⟨oc2, od2, kV2, doc2, pm2, an2, cdv2, ct2, osl2, rfl, lk, hcg⟩ := xh.F.ex
  have hb := xh.b
  rw [hst] at lk hb
  exact ve_heard (by simp) A.mem A.uni hm hg xh.m xh.F.kp lk hcg hb Sg rfl hva (gives1 (fun z => by rw [z] at hna; simp at hna) hln hge hm (dun hdc).1 hex Xf (hn f1 (by rw [hf]; simp)) (dun hdn).1 (dun hdn).2) A.tb A.code hr L hdef hbind hbody (dun hdx).1 (dun hd).1 (dun hd).2
theorem ve_heard2 (A : LamAt Tb X P cc) (S : SupOk file X.K X.mg d) (xh : Fx X.K X.mg x st [a] g fd)
    (hst : defBody st = hTry a d.cls n told k1 k2 p1 p2 p3 p4 p5 p6 p7 p8 (.Return (some (.Tuple [.Constant (.str c) k3 q1, .Attribute (.Name n q2) f1 q3, .Attribute (.Name n q4) f2 q5] k4 q6)) q7)) (hf : d.fields = [f1, f2]) (Sg : FnScope [a, n] [a] (defScope st)) (hva : Vis (defScope st) a)
    (hna : (a == n) = false) (hln : (defScope st).names.lookup n = some .local) (hge : (defScope st).names.lookup d.cls = some .globalImplicit) (hr : Room (k + 2) X.A) (L : LamS X.env.scope scope)
    (hbody : ∀ (A : Around) (outer : List Env) (s : Shared) (H : Hp) (E : XK) (f c' : Addr), Room k (A.deeper (lamEnv X scope s.heap.objs.size f c')) → VE Tb (lamCx X A outer s H E scope f c') (WN E) body fm)
    (hg : Gl X x := by rfl) (hdef : defaultsOf params X.env = ([], []) := by rfl) (hbind : ∀ (q : Str) (cl : List (Str × Addr)) (pm cv ctv : Value), bindArgs (PySem.W.kla_fn "<lambda>" q params body scope cl pm cv ctv) ⟨[], []⟩ = pure [] := by intros; rfl)
    (hd : dunder a = false := by decide) (hdx : dunder x = false := by decide) (hdn : dunder n = false := by decide) (hdc : dunder d.cls = false := by decide) :
    VE Tb X W (.Call (.Name x p) [.Lambda params body scope lpos] [] pos) (vHeard d.cls told c [f1, f2] fm) := by
  obtain ⟨C, fI, oc, od, osl, doc, pm, ct, an, c1, c2, cl, ccl, cld, cdd, csl, ccs, vsC, tf, hm, T, Xf, hex, hn, iC, tI, _⟩ := S.ex
  obtain ⟨oc2, od2, kV2, doc2, pm2, an2, cdv2, ct2, osl2, rfl, lk, hcg⟩ := xh.F.ex
  have hb := xh.b
  rw [hst] at lk hb
  exact ve_heard (by simp) A.mem A.uni hm hg xh.m xh.F.kp lk hcg hb Sg rfl hva (gives2 (fun z => by rw [z] at hna; simp at hna) hln hge hm (dun hdc).1 hex Xf (hn f1 (by rw [hf]; simp)) (hn f2 (by rw [hf]; simp)) (dun hdn).1 (dun hdn).2) A.tb A.code hr L hdef hbind hbody (dun hdx).1 (dun hd).1 (dun hd).2
end
/-! ### a def that makes lambdas -/
section
variable {P : Program} {w : World} {K : PySem.W.Frag} {mg : Str → Option Value} {base : Heap} {Tb : List (Addr × Str)}
theorem fn_vC {x qual : Str} {st : Stmt} {f cc : Addr} {fd : FuncData} {N ps : List Str} {k : Nat} {g : VM Ctl} (F : Fun K x qual st f fd) (hc : fd.code = .ref cc) (S : FnScope N ps (defScope st))
    (hb : ∀ (A : Around) (outer : List Env) (s : Shared) (H : Hp) (E : XK), VC (cxOf (L2.CX P w) P w K mg base N qual (defScope st) f (.ref cc) A outer s H E) (WN E) k →
      VSs Tb (cxOf (L2.CX P w) P w K mg base N qual (defScope st) f (.ref cc) A outer s H E) (WN E) (defBody st) g) :
    FnOk P w K mg base (L2.CX P w) (k + 1) f fd ps (spV Tb K mg ps.length (runF N.length g)) := by
  obtain ⟨oc, od, kV, doc, pm, an, cdv, ct, osl, rfl, lk, hcd⟩ := F.ex
  obtain rfl : cdv = .ref cc := hc
  refine fn_of lk hcd S (fun vs H Q E h => h.1) fun A outer s H vs Q E hr h => ⟨_, hb A outer s H E ⟨rfl, S.nd, takes_of rfl rfl rfl rfl, hr⟩, ?_⟩
  have hl := h.1
  rw [← hl] at h
  exact run_body h
end
/-! ### the law's end, with tables -/
theorem walk_vT {l : PySem.W.OpenLaw} {n k : Nat} {q : Program} {loose : List Str} {XP : (Str → Option Value) → Heap → Prop} {YP : World → Heap → Prop} {d : DefRec} {x : Str}
    (hn : l.most = some n) (hn2 : n ≤ sizeLine) (hdf : d.params.defaults = []) (hr : Room k callerA) {m : FM}
    (F : ∀ (w : World) (mg : Str → Option Value) (fa : Addr) (h : Heap), YP w h → h.Ns mainGlobals mg → mg d.name = some (.ref fa) →
      ∃ (K : PySem.W.Frag) (fd : FuncData) (cs : List (Addr × Addr)) (Tb : List (Addr × Str)), K.In h ∧ (∀ p ∈ cs, h.get? p.2 = some { cls := .none, data := .fields #[] }) ∧ (∀ p ∈ cs, K.lookup p.2 = none) ∧ (∀ p ∈ cs, PySem.W.CodeHd h p.1 p.2) ∧
        (∀ p ∈ Tb, ∃ c ∈ cs, c.2 = p.1) ∧ (∀ (s : Shared) (u : Value), BindsTo s fd ⟨[u], []⟩ [(x, u)]) ∧
        ∀ base : Heap, K.In base → base.Ns mainGlobals mg → (∀ p ∈ cs, TabB base mg p.1 p.2) → FnOk l.prog w K mg base (L2.CX l.prog w) k fa fd [x] (spV Tb K mg 1 m))
    (hm : ∀ ns : List Int, ns.length ≤ n → ∃ st', m [.rd (ns.map PyData.int)] = .ok (.d (.bool true), st')) :
    PySem.W.WalkO q loose XP YP l.row.toRowW d [] (fun f vs => PySem.call f vs) := by
  refine LamX.walk_ofTsE (x := x) (CX := fun w => L2.CX l.prog w) hn hn2 hdf hr (fun w mg fa h Y G hmg => ?_) ?_
  · obtain ⟨K, fd, cs, Tb, KX, hT, nT, C, hTb, hb, hF⟩ := F w mg fa h Y G hmg
    refine ⟨K, KX, fd, cs, _, hT, nT, C, hb, fun H a ns hlen _ hH hS => ?_, hF⟩
    obtain ⟨st', e⟩ := hm ns hlen
    have no : ∀ {i : Nat} {p : Addr}, ¬ OwnAt [SV.rd (ns.map PyData.int)] [some (V.ref a)] i p := fun {i p} ⟨_, c, z⟩ => by
      match i, z with
      | 0, z => rcases z with z | z | z <;> cases z
      | i + 1, z => simp at z
    refine ⟨rfl, fun _ => False, [.rd (ns.map PyData.int)], ⟨rfl, fun i sv h => ?_, fun i j p h => absurd h no, fun p ⟨i, h⟩ => absurd h no, fun p h => h.elim, fun p hp => ?_⟩, fun i c h => ?_, ?_⟩
    · match i, h with
      | 0, h =>
        cases h
        exact ⟨_, rfl, a, ns.map V.int, rfl, hS.imp (fun r => ⟨r, fun z => z.elim id fun ⟨i, z⟩ => no z⟩) id, RpL.ofInts ns⟩
      | i + 1, h => simp at h
    · obtain ⟨c, hc, e1⟩ := hTb p hp
      exact TabS.nil (e1 ▸ hH c hc)
    · match i, h with
      | 0, h => cases h
      | i + 1, h => simp at h
    · rw [e]
      intro v H' S E
      simpa only [ER, Rp] using E
  · rintro w H s e s' ⟨_, _, _, _, _, _, _, _, _, _, _, _, z⟩
    exact z
end VL
set_option Elab.async false
set_option linter.all false
set_option maxRecDepth 100000
set_option maxHeartbeats 0
namespace VL
open PySem PySem.Spec PyProof.Rows L2
/-! ### sorted of a tuple of ints -/
def rSortedTI (K : PySem.W.Frag) : List V → Hp → VK → Prop := fun vs H Q => ∃ (a : Addr) (ns : List Int), vs = [V.ref a] ∧ SqT K H a (ns.map V.int) ∧
  ∀ (ns' : List Int) (p : Addr), ns'.Perm ns → ns'.Pairwise (· ≤ ·) → H p = none → Q (.ref p) (upd H p (.lst (ns'.map V.int)))
theorem cr_sortedTI {X : Cx} : CallR X (.builtin "sorted") (rSortedTI X.K) := by
  intro pins s σ H vs us Q I r h
  obtain ⟨a, ns, rfl, hs, q⟩ := h
  obtain ⟨its, rv, ⟨o, ho, hc, n, hd⟩, hz⟩ := I.tuple hs
  rw [Vals.ref1 r]
  have hi := rv.ints
  have hlen0 : its.length = ns.length := by rw [← rv.length, List.length_map]
  rw [List.length_map] at hz
  refine Calls.call_function_entry kind_sorted plain_sorted entry_sorted (args_sorted1 _) ?_
  unfold Builtin.«sorted»
  refine wpAny_bind (m := checkCount "sorted" 1 1 _) (wpAny_pure ?_)
  refine wpAny_bind (wpAny_collect_seq a (.inr rfl) ho hc hd (fun h1 k1 => ?_) (by rw [List.size_toArray, hlen0]; exact hz))
  rw [List.toList_toArray]
  refine wpAny_bind (wpAny_newList ?_ (by rw [hlen0]; exact hz))
  have hoL : (h1.push (seqObj "list" its.toArray 0)).get? h1.objs.size = some (seqObj "list" its.toArray 0) := Heap.get?_push_size _ rfl
  refine wpAny_bind (wpAny_holding (wpAny_call_entry slot_list_sort ⟨_, hoL, rfl⟩ entry_list_sort (SrtO.list_sort_ord SrtO.swo_int hoL (by rw [hlen0]; exact hz) (fun h2 => SrtO.ints_sortable hi h2) fun out hs2 hb => ⟨_, rfl, ?_⟩) (args_list_sort _)))
  refine wpAny_pure ⟨_, rfl, ?_⟩
  obtain ⟨k1', k2, k3⟩ := SrtO.ints_out hi hs2 hb
  obtain ⟨ep, he'⟩ := PyProof.Rows.sortedHeap_at (vs := its) (out := out.toArray) hoL
  have hlen : ((out.map SrtO.iv).map V.int).length ≤ sizeLine := by
    rw [List.length_map, k2.length_eq]
    exact hz
  have I1 : Inv X pins σ H { s with heap := h1 } := I.kept (t' := s.toks) k1
  refine ⟨.ref _, upd H h1.objs.size (.lst ((out.map SrtO.iv).map V.int)), I1.laid (t' := s.toks) (fun b ob e => ?_) (Nat.le_refl _) ⟨hlen, out, ep, vals_of_ints k1', he'⟩, rfl, q _ _ k2 k3 (I1.hok.fresh (Nat.le_refl _))⟩
  have hlt : b < h1.objs.size := Heap.lt_size e
  rw [PyProof.Rows.sortedHeap_old (Nat.ne_of_lt hlt) (by rw [Heap.size_push]; exact Nat.lt_succ_of_lt hlt)]
  exact Heap.get?_push_of_some _ e
theorem Ro.tupI {K : PySem.W.Frag} {O : AS} {H : Hp} {xs : List Da} {v : V} {ns : List Int} (r : Ro K O H (.tuple xs) v) (e : ints? xs = some ns) : ∃ a, v = .ref a ∧ SqT K H a (ns.map V.int) := by
  obtain ⟨a, vs, rfl, h, r⟩ := r.tupT
  rw [ints_map e] at r
  rw [r.ints] at h
  exact ⟨a, rfl, h⟩
def sortedE : List Da → Option EV
  | [.list xs] => (ints? xs).map fun ns => .own (.l ((sortI ns).map PyData.int))
  | [.tuple xs] => (ints? xs).map fun ns => .own (.l ((sortI ns).map PyData.int))
  | _ => none
theorem c_sortedE {X : Cx} : CallV X (.builtin "sorted") sortedE := by
  refine ⟨_, CallR.or cr_sortedI cr_sortedTI, fun O H xs vs z Q hd R e q => ?_⟩
  match xs, e, R with
  | [.list xs], e, R =>
    obtain ⟨ns, e1, rfl⟩ := Option.map_eq_some_iff.mp (show (ints? xs).map _ = some z from e)
    obtain ⟨v, rfl, r⟩ := R.one; obtain ⟨a, rfl, h⟩ := r.listI e1
    refine .inl ⟨a, ns, rfl, h, fun ns' p hp hs hn => ?_⟩
    rw [sorted_uniq (hp.trans (sortI_perm ns).symm) hs (sortI_sorted ns)]
    exact q _ _ (Same.upd hn) (NR.lst (RpL.ofInts _) hn)
  | [.tuple xs], e, R =>
    obtain ⟨ns, e1, rfl⟩ := Option.map_eq_some_iff.mp (show (ints? xs).map _ = some z from e)
    obtain ⟨v, rfl, r⟩ := R.one; obtain ⟨a, rfl, h⟩ := Ro.tupI r e1
    refine .inr ⟨a, ns, rfl, h, fun ns' p hp hs hn => ?_⟩
    rw [sorted_uniq (hp.trans (sortI_perm ns).symm) hs (sortI_sorted ns)]
    exact q _ _ (Same.upd hn) (NR.lst (RpL.ofInts _) hn)
/-! ### all, any -/
def bls? : List Da → Option (List Bool)
  | [] => some []
  | .bool b :: r => (bls? r).map (b :: ·)
  | _ :: _ => none
theorem bls_map : ∀ {ds : List Da} {bs : List Bool}, bls? ds = some bs → ds = bs.map PyData.bool
  | [], bs, h => by cases h; rfl
  | .bool b :: ds, bs, h => by
    obtain ⟨ms, e, rfl⟩ := Option.map_eq_some_iff.mp (show (bls? ds).map (b :: ·) = some bs from h)
    rw [bls_map e]; rfl
  | .none :: _, _, h => by cases h
  | .int _ :: _, _, h => by cases h
  | .str _ :: _, _, h => by cases h
  | .list _ :: _, _, h => by cases h
  | .tuple _ :: _, _, h => by cases h
  | .dict _ :: _, _, h => by cases h
theorem RpL.bools {K : PySem.W.Frag} {O : AS} {H : Hp} : ∀ {bs : List Bool} {vs : List V}, RpL K O H (bs.map PyData.bool) vs → vs = bs.map V.bl
  | [], vs, h => by simpa only [List.map_nil, RpL] using h
  | b :: bs, vs, h => by
    simp only [List.map_cons, RpL, Rp] at h
    obtain ⟨w, ws, rfl, rfl, q⟩ := h
    rw [RpL.bools q]; rfl
def allD : List Da → Option EV
  | [.list xs] => (bls? xs).map fun bs => .d (.bool (bs.all id))
  | _ => none
def anyD : List Da → Option EV
  | [.list xs] => (bls? xs).map fun bs => .d (.bool (bs.any id))
  | _ => none
theorem c_all {X : Cx} (hc : X.calm = true) : CallV X (.builtin "all") allD := by
  refine ⟨_, cr_all hc, fun O H xs vs z Q hd R e q => ?_⟩
  match xs, e, R with
  | [.list xs], e, R =>
    obtain ⟨bs, e1, rfl⟩ := Option.map_eq_some_iff.mp (show (bls? xs).map _ = some z from e)
    obtain ⟨v, rfl, r⟩ := R.one; obtain ⟨a, vs, rfl, h, r⟩ := r.list
    rw [bls_map e1] at r
    rw [r.bools] at h
    exact ⟨a, bs, rfl, .of h, q _ H (Same.refl H) (by show Rp _ _ _ _ _; simp only [Rp])⟩
theorem c_any {X : Cx} (hc : X.calm = true) : CallV X (.builtin "any") anyD := by
  refine ⟨_, cr_any hc, fun O H xs vs z Q hd R e q => ?_⟩
  match xs, e, R with
  | [.list xs], e, R =>
    obtain ⟨bs, e1, rfl⟩ := Option.map_eq_some_iff.mp (show (bls? xs).map _ = some z from e)
    obtain ⟨v, rfl, r⟩ := R.one; obtain ⟨a, vs, rfl, h, r⟩ := r.list
    rw [bls_map e1] at r
    rw [r.bools] at h
    exact ⟨a, bs, rfl, .of h, q _ H (Same.refl H) (by show Rp _ _ _ _ _; simp only [Rp])⟩
/-! ### list(range(..)) -/
def rgD (a b : Int) : List Da := (List.range (b - a).toNat).map fun i => .int (a + (i : Nat))
def rgOkB (a b : Int) : Bool := decide (-(2 ^ 62) ≤ a) && decide (a < 2 ^ 62) && decide (-(2 ^ 62) ≤ b) && decide (b < 2 ^ 62) && decide ((b - a).toNat ≤ 2 ^ 24)
theorem rgOk_of {a b : Int} (h : rgOkB a b = true) : RgOk a b := by
  unfold rgOkB at h
  simp only [Bool.and_eq_true, decide_eq_true_eq] at h
  exact ⟨h.1.1.1.1, h.1.1.1.2, h.1.1.2, h.1.2, h.2⟩
theorem rgV_rel {K : PySem.W.Frag} {O : AS} {H : Hp} (a b : Int) : RpL K O H (rgD a b) (rgV a b) := by
  unfold rgD rgV
  have e1 : (List.range (b - a).toNat).map (fun i => PyData.int (a + (i : Nat))) = ((List.range (b - a).toNat).map fun i => a + ((i : Nat) : Int)).map PyData.int := by rw [List.map_map]; rfl
  have e2 : (List.range (b - a).toNat).map (fun i => V.int (a + (i : Nat))) = ((List.range (b - a).toNat).map fun i => a + ((i : Nat) : Int)).map V.int := by rw [List.map_map]; rfl
  rw [e1, e2]
  exact .ofInts _
def lstRgD (x y : Da) : Option EV := match x, y with
  | .int a, .int b => if rgOkB a b = true then some (.own (.l (rgD a b))) else none
  | _, _ => none
section
variable {Tb : List (Addr × Str)} {X : Cx} {W : WX} {a b e : Expr} {pos pos2 p p2 : Pos} {fa fb fe : VM EV}
def vListRg (fa : VM EV) : VM EV := vb fa fun r => vb (vRd r) fun x => vOpt (lstRgD (.int 0) x)
theorem ve_listRg1 {k : Nat} (c : VC X W k) (hm : X.mg "range" = none) (hm2 : X.mg "list" = none) (ha : VE Tb X W a fa) (hg : Gl X "range" := by rfl) (hg2 : Gl X "list" := by rfl)
    (hs : starEach [a] X.env = (false, eval a X.env) :: starEach [] X.env := by rfl)
    (hs2 : starEach [.Call (.Name "range" p) [a] [] pos] X.env = (false, eval (.Call (.Name "range" p) [a] [] pos) X.env) :: starEach [] X.env := by rfl) :
    VE Tb X W (.Call (.Name "list" p2) [.Call (.Name "range" p) [a] [] pos] [] pos2) (vListRg fa) := by
  refine PE.wk (pe_listRg c.calm hg2 hm2 (prg_1 hg hm ha hs) hs2) fun σ H Q h => ?_
  obtain ⟨O, st, F, h⟩ := h
  refine tV.bind F h fun r s1 v H1 S1 E1 h => ?_
  obtain ⟨x, R, h⟩ := h.rd S1.fr E1
  obtain ⟨z, ez, h⟩ := h.opt1
  cases x with
  | int n =>
    obtain rfl := R.int
    unfold lstRgD at ez
    dsimp only at ez
    split at ez
    · rename_i hr
      cases ez
      exact ⟨n, rfl, rgOk_of hr, fun q hq => h _ _ (S1.trans (Step.ext S1.fr (Same.upd hq))) ((NR.er S1.fr (Same.upd hq) (NR.lst (rgV_rel 0 n) hq)).back S1.dom)⟩
    · cases ez
  | _ => cases ez
/-! ### and, or as values -/
def vAndV (fa fb : VM EV) : VM EV := vb fa fun r => vb (vOpt (evD r)) fun x => vb (vOpt (truD x)) fun k => if k = true then fb else vr (.d x)
def vOrV (fa fb : VM EV) : VM EV := vb fa fun r => vb (vOpt (evD r)) fun x => vb (vOpt (truD x)) fun k => if k = true then vr (.d x) else fb
theorem ve_and {rest : List Expr} (ha : VE Tb X W a fa) (hb : VE Tb X W (.BoolOp .And (b :: rest) pos) fb) : VE Tb X W (.BoolOp .And (a :: b :: rest) pos) (vAndV fa fb) := by
  refine PE.wk (pe_andT ha hb) fun σ H Q h => ?_
  obtain ⟨O, st, F, h⟩ := h
  refine tV.bind F h fun r s1 v H1 S1 E1 h => ?_
  obtain ⟨x, ex, h⟩ := h.opt
  obtain ⟨k, ek, h⟩ := h.opt
  have R := E1.evD ex
  refine ⟨k, truV_of (.inl R) ek, ?_⟩
  cases k with
  | true => rw [if_pos rfl] at h ⊢; exact ⟨O, s1, S1.fr, h.mono fun r s q v H' S' E => q v H' (S1.trans S') (E.back S1.dom)⟩
  | false => rw [if_neg Bool.false_ne_true] at h ⊢; exact h v H1 S1 R
theorem ve_or {rest : List Expr} (ha : VE Tb X W a fa) (hb : VE Tb X W (.BoolOp .Or (b :: rest) pos) fb) : VE Tb X W (.BoolOp .Or (a :: b :: rest) pos) (vOrV fa fb) := by
  refine PE.wk (pe_orT ha hb) fun σ H Q h => ?_
  obtain ⟨O, st, F, h⟩ := h
  refine tV.bind F h fun r s1 v H1 S1 E1 h => ?_
  obtain ⟨x, ex, h⟩ := h.opt
  obtain ⟨k, ek, h⟩ := h.opt
  have R := E1.evD ex
  refine ⟨k, truV_of (.inl R) ek, ?_⟩
  cases k with
  | false => rw [if_neg Bool.false_ne_true] at h ⊢; exact ⟨O, s1, S1.fr, h.mono fun r s q v H' S' E => q v H' (S1.trans S') (E.back S1.dom)⟩
  | true => rw [if_pos rfl] at h ⊢; exact h v H1 S1 R
theorem ve_one {op : BoolOp} (ha : VE Tb X W a fa) : VE Tb X W (.BoolOp op [a] pos) fa := pe_one ha
/-- not e as a value -/
def vNotV (ga : VM Bool) : VM EV := vb ga fun c => vC (.bool (!c))
end
end VL
set_option Elab.async false
set_option linter.all false
set_option maxRecDepth 100000
set_option maxHeartbeats 0
namespace VL
open PySem PySem.Spec PyProof.Rows L2
open AutoSeq1 (wpAny_loadPart')
/-! ### tuple * k, k at most 1 -/
theorem tuple_mul0 (l : Addr) (items : Array Value) (n : Nat) (dd : Option Addr) (sl : Array (Option Value)) (x : Int) (u : Tok) (c0 : (decide (x < -(2 ^ 63)) || decide (x ≥ 2 ^ 63)) = false) (c1 : (items.isEmpty || x == 1) = false) (c2 : (decide (x ≤ 0) || items.isEmpty) = true) :
    Meets (Builtin.«tuple.__mul__» ⟨[.ref l, .int x u], []⟩) (fun _ R s => s.heap.get? l = some { cls := .type "tuple", dict := dd, data := .seq items n, slots := sl } ∧
      R (.ok (.ret (Value.ref s.heap.objs.size))) { s with heap := s.heap.push { cls := Value.type "tuple", data := Data.seq #[] }, toks := s.toks }) :=
  .of_wp fun prog w A R s h => by
    obtain ⟨hp, g, d, tk, os⟩ := s
    obtain ⟨hl, h⟩ := h
    have f1 := AutoSeq1.idx_int
    wp_walk using wpAny_loadPart' hl
    repeat (first
      | (refine wpAny_ite_false (decide_eq_false (by rw [c0]; exact Bool.false_ne_true)) ?_; wp_walk using wpAny_loadPart' hl)
      | (refine wpAny_ite_false (decide_eq_false (by rw [c1]; exact Bool.false_ne_true)) ?_; wp_walk using wpAny_loadPart' hl)
      | (refine wpAny_ite_true (decide_eq_true (by rw [c2])) ?_; wp_walk using wpAny_loadPart' hl))
    exact ⟨_, rfl, h⟩
theorem tuple_mul1 (l : Addr) (items : Array Value) (n : Nat) (dd : Option Addr) (sl : Array (Option Value)) (x : Int) (u : Tok) (c0 : (decide (x < -(2 ^ 63)) || decide (x ≥ 2 ^ 63)) = false) (c1 : (items.isEmpty || x == 1) = true) :
    Meets (Builtin.«tuple.__mul__» ⟨[.ref l, .int x u], []⟩) (fun _ R s => s.heap.get? l = some { cls := .type "tuple", dict := dd, data := .seq items n, slots := sl } ∧
      R (.ok (.ret (Value.ref l))) s) :=
  .of_wp fun prog w A R s h => by
    obtain ⟨hp, g, d, tk, os⟩ := s
    obtain ⟨hl, h⟩ := h
    have f1 := AutoSeq1.idx_int
    wp_walk using wpAny_loadPart' hl
    repeat (first
      | (refine wpAny_ite_false (decide_eq_false (by rw [c0]; exact Bool.false_ne_true)) ?_; wp_walk using wpAny_loadPart' hl)
      | (refine wpAny_ite_true (decide_eq_true (by rw [c1])) ?_; wp_walk using wpAny_loadPart' hl))
    all_goals first | exact ⟨_, rfl, h⟩ | skip
def rRepT0 (K : PySem.W.Frag) : R2 := fun x y H Q => ∃ l k xs, x = .ref l ∧ y = .int k ∧ SqT K H l xs ∧ xs ≠ [] ∧ k ≤ 0 ∧ -1000000 ≤ k ∧ ∀ p, H p = none → Q (.ref p) (upd H p (.tup []))
def rRepT1 (K : PySem.W.Frag) : R2 := fun x y H Q => ∃ l k xs, x = .ref l ∧ y = .int k ∧ SqT K H l xs ∧ k = 1 ∧ Q (.ref l) H
section
variable {X : Cx}
theorem op_repT0 : OpR X (binaryOp .Mult) (rRepT0 X.K) := by
  intro pins s σ H x y v u Q I rx ry h
  obtain ⟨l, k, xs, rfl, rfl, hT, hne, h1, h2, q⟩ := h
  cases rx
  obtain ⟨t, rfl⟩ := ry
  obtain ⟨its, r, ⟨⟨cls, dd, data, sl⟩, ho, hc, n, hd⟩, hs⟩ := I.tuple hT
  simp only at hc hd
  subst hc hd
  have hle : its.length = xs.length := r.length.symm
  have hn : its ≠ [] := fun e => hne (by
    rw [e] at hle
    exact List.eq_nil_of_length_eq_zero hle.symm)
  have hi : its.toArray.isEmpty = false := by
    cases its with
    | nil => exact absurd rfl hn
    | cons a b => rfl
  have c0 : (decide (k < -(2 ^ 63)) || decide (k ≥ 2 ^ 63)) = false := by
    rw [decide_eq_false (by omega), decide_eq_false (by omega)] <;> rfl
  have c1 : (its.toArray.isEmpty || k == 1) = false := by
    rw [hi, Bool.false_or]
    exact beq_eq_false_iff_ne.mpr (by omega)
  have c2 : (decide (k ≤ 0) || its.toArray.isEmpty) = true := by
    rw [hi, Bool.or_false]
    exact decide_eq_true h1
  refine wpAny_binaryOp_repeat_ref (T := "tuple") (U := "int") (by decide) ⟨_, ho, rfl⟩ (fun s' => typeIs_int s' k t) noFill_tuple_mul F.fills_int_mul F.slot_int_rmul repeat_tuple F.slot_int_index.lookup
    (call_meets F.slot_int_rmul (typeIs_int s k t) F.entry_int_rmul (F.args_int_rmul_2 _ _) (int_rmul_tuple k t l its.toArray n dd sl)
      ⟨ho, rfl, ⟨_, ho, rfl⟩, call_meets F.slot_tuple_mul ⟨_, ho, rfl⟩ F.entry_tuple_mul (F.args_tuple_mul_2 _ _) (tuple_mul0 l its.toArray n dd sl k t c0 c1 c2) ⟨ho, ?_⟩⟩)
  refine ⟨.ref s.heap.objs.size, _, I.laid (t' := s.toks) (o := .tup []) (fun b ob q => Heap.get?_push_of_some _ q) (Nat.le_refl _) ?_, rfl, q _ (I.hok.fresh (Nat.le_refl _))⟩
  exact ⟨Nat.zero_le _, [], .nil, IsTup.new _ _⟩
theorem op_repT1 : OpR X (binaryOp .Mult) (rRepT1 X.K) := by
  intro pins s σ H x y v u Q I rx ry h
  obtain ⟨l, k, xs, rfl, rfl, hT, h1, q⟩ := h
  cases rx
  obtain ⟨t, rfl⟩ := ry
  obtain ⟨its, r, ⟨⟨cls, dd, data, sl⟩, ho, hc, n, hd⟩, hs⟩ := I.tuple hT
  simp only at hc hd
  subst hc hd
  have c0 : (decide (k < -(2 ^ 63)) || decide (k ≥ 2 ^ 63)) = false := by
    rw [decide_eq_false (by omega), decide_eq_false (by omega)] <;> rfl
  have c1 : (its.toArray.isEmpty || k == 1) = true := by
    rw [h1]; simp
  refine wpAny_binaryOp_repeat_ref (T := "tuple") (U := "int") (by decide) ⟨_, ho, rfl⟩ (fun s' => typeIs_int s' k t) noFill_tuple_mul F.fills_int_mul F.slot_int_rmul repeat_tuple F.slot_int_index.lookup
    (call_meets F.slot_int_rmul (typeIs_int s k t) F.entry_int_rmul (F.args_int_rmul_2 _ _) (int_rmul_tuple k t l its.toArray n dd sl)
      ⟨ho, rfl, ⟨_, ho, rfl⟩, call_meets F.slot_tuple_mul ⟨_, ho, rfl⟩ F.entry_tuple_mul (F.args_tuple_mul_2 _ _) (tuple_mul1 l its.toArray n dd sl k t c0 c1) ⟨ho, ?_⟩⟩)
  exact ⟨.ref l, H, I, rfl, q⟩
/-- every tuple * int -/
def mulE : Da → Da → Option EV
  | .tuple xs, .int k => if xs ≠ [] ∧ -1000000 ≤ k ∧ k ≤ 1000 ∧ xs.length ≤ 1000 then some (.d (.tuple (List.replicate k.toNat xs).flatten)) else none
  | x, y => mulD x y
theorem o_mulE : Op2 X (binaryOp .Mult) mulE := by
  obtain ⟨r, hr, hg⟩ := o_mul (X := X)
  refine ⟨_, OpR.or hr (OpR.or op_repT0 op_repT1), fun O H x y v w z Q hd hx hy e q => ?_⟩
  have lo : mulD x y = some z → r v w H Q ∨ rRepT0 X.K v w H Q ∨ rRepT1 X.K v w H Q := fun e => .inl (hg O H x y v w z Q hd hx hy e q)
  cases x with
  | tuple a =>
    cases y with
    | int k =>
      unfold mulE at e; dsimp only at e
      split at e
      · rename_i hc; cases e
        by_cases h2 : 2 ≤ k
        · refine lo ?_
          unfold mulD; dsimp only
          rw [if_pos ⟨hc.1, h2, hc.2.2.1, hc.2.2.2⟩]
        · obtain rfl := hy.int
          have Rt := hx.tup
          obtain ⟨l, vs, rfl, h1, r1⟩ := hx.tupT
          by_cases h0 : k ≤ 0
          · refine .inr (.inl ⟨l, k, vs, rfl, rfl, h1, fun z => hc.1 (List.eq_nil_of_length_eq_zero (by rw [r1.length, z]; rfl)), h0, hc.2.1, fun p hp => ?_⟩)
            have e0 : k.toNat = 0 := by omega
            rw [e0] at q
            exact q _ _ (Same.upd hp) (NR.tup hd .nil hp)
          · have e1 : k = 1 := by omega
            subst e1
            refine .inr (.inr ⟨l, 1, vs, rfl, rfl, h1, rfl, ?_⟩)
            have e2 : (List.replicate (1 : Int).toNat a).flatten = a := by
              show [a].flatten = a
              simp
            rw [e2] at q
            exact q _ H (Same.refl H) Rt
      · cases e
    | _ => exact lo e
  | _ => exact lo e
end
/-! ### not e as a value -/
section
variable {Tb : List (Addr × Str)} {X : Cx} {W : WX} {a : Expr} {pos : Pos} {fa : VM EV}
def vNotE (fa : VM EV) : VM EV := vb fa fun r => vb (vRd r) fun x => vb (vOpt (truD x)) fun k => vr (.d (.bool (!k)))
theorem ve_not (ha : VE Tb X W a fa) : VE Tb X W (.UnaryOp .Not a pos) (vNotE fa) := by
  refine PE.wk (pe_notT ha) fun σ H Q h => ?_
  obtain ⟨O, st, F, h⟩ := h
  refine tV.bind F h fun r s1 v H1 S1 E1 h => ?_
  obtain ⟨x, R, h⟩ := h.rd S1.fr E1
  obtain ⟨k, ek, h⟩ := h.opt
  exact ⟨k, truV_of R ek, h _ H1 S1 (by show Rp _ _ _ _ _; simp only [Rp])⟩
end
end VL
set_option Elab.async false
set_option linter.all false
set_option maxRecDepth 100000
set_option maxHeartbeats 0
namespace VL
open PySem PySem.Spec PyProof.Rows L2 LamX NdefX PySem.Calls He
theorem codeOf_fd {K : PySem.W.Frag} {p : Str × Option Str} {x qual : Str} {params : Arguments} {body : List Stmt} {scope : Scope} {dvs : List V} {kws : List (Str × V)} {fd : FuncData} (H : FunD K x qual params body scope dvs kws (fAd K p) fd) : fd.code = .ref (codeOf K p) := by
  obtain ⟨oc, od, dV, kV, doc, pm, an, cdv, ct, osl, rfl, lk, hcd, _, _⟩ := H.ex
  obtain ⟨c, rfl⟩ := codeIn_ref hcd
  rw [codeOf_eq lk rfl]
theorem SaysV.tabs {file : Str} {fa : List Fa} {fn : List DefD} {sd : List SupD} {tf : List Defn} {h : Heap} {K : PySem.W.Frag} (c : SaysV file fa fn sd tf h K) (X : K.In h) :
    (∀ p ∈ tf.map (cT K), h.get? p.2 = some { cls := .none, data := .fields #[] }) ∧ (∀ p ∈ tf.map (cT K), K.lookup p.2 = none) ∧ ∀ p ∈ tf.map (cT K), PySem.W.CodeHd h p.1 p.2 := by
  refine ⟨fun p hp => ?_, fun p hp => ?_, fun p hp => ?_⟩
  all_goals
    obtain ⟨q, hq, rfl⟩ := List.mem_map.mp hp
  · exact c.empty q hq
  · exact c.out q hq
  · exact PySem.W.codeHd_of_K X (c.hd q hq)
theorem lam_body {Tb : List (Addr × Str)} {X : Cx} {W : WX} {scope : Scope} {fm : VM EV} {body : Expr} {k j : Nat} (c : VC X W j)
    (h : ∀ (A : Around) (outer : List Env) (s : Shared) (H : Hp) (E : XK) (f c' : Addr), VC (lamCx X A outer s H E scope f c') (WN E) k → VE Tb (lamCx X A outer s H E scope f c') (WN E) body fm) :
    ∀ (A : Around) (outer : List Env) (s : Shared) (H : Hp) (E : XK) (f c' : Addr), Room k (A.deeper (lamEnv X scope s.heap.objs.size f c')) → VE Tb (lamCx X A outer s H E scope f c') (WN E) body fm :=
  fun A outer s H E f c' hr => h A outer s H E f c' ⟨rfl, c.nd, takes_of rfl rfl rfl rfl, hr⟩
/-- one table -/
theorem lamAt_one {X : Cx} {P cc : Addr} {q : Str} (hq : q = X.env.qual ++ "<lambda>") (tb : TabB X.base X.mg cc P) (hc : X.env.code = .ref cc) : LamAt [(P, q)] X P cc := by
  subst hq
  refine ⟨List.mem_cons_self, fun p hp _ => ?_, tb, hc⟩
  cases hp with
  | head => rfl
  | tail _ h => cases h
theorem tab_one {cs : List (Addr × Addr)} {c : Addr × Addr} {q : Str} (h : c ∈ cs) : ∀ p ∈ [(c.2, q)], ∃ c ∈ cs, c.2 = p.1 := fun p hp => by
  cases hp with
  | head => exact ⟨c, h, rfl⟩
  | tail _ h => cases h
/-! ### what is forgotten behind -/
def vFgtE (is : List Nat) (g : VM Ctl) : VM Ctl := fun s => match g s with
  | .ok (.nx, s') => .ok (.nx, is.foldl (fun s i => fgt1 i s) s')
  | .ok (.ct, s') => .ok (.ct, is.foldl (fun s i => fgt1 i s) s')
  | r => r
theorem tVS.fgtE {Tb : List (Addr × Str)} {K : PySem.W.Frag} {mg : Str → Option Value} {W : WX} {g : VM Ctl} {D : Ends} {σ : L2.St} {H : Hp} (is : List Nat) (h : tVS Tb K mg W (vFgtE is g) D σ H) : tVS Tb K mg W g D σ H := by
  obtain ⟨O, st, F, q⟩ := h
  refine ⟨O, st, F, ?_⟩
  unfold vFgtE at q
  cases e : g st with
  | error er => rw [e] at q; exact q
  | ok p =>
    obtain ⟨c, s'⟩ := p
    rw [e] at q
    cases c with
    | nx => exact fun σ' H' S => q σ' H' (S.trans (Step.fgts is S.fr))
    | ct => exact fun σ' H' S => q σ' H' (S.trans (Step.fgts is S.fr))
    | bk => exact q
    | rt r => exact q
theorem vs_fgtE {Tb : List (Addr × Str)} {X : Cx} {W : WX} {ss : List Stmt} {g : VM Ctl} (is : List Nat) (h : VSs Tb X W ss g) : VSs Tb X W ss (vFgtE is g) := PSs.wk h fun D σ H q => tVS.fgtE is q
theorem vs_fgtE1 {Tb : List (Addr × Str)} {X : Cx} {W : WX} {st : Stmt} {g : VM Ctl} (is : List Nat) (h : VSt Tb X W st g) : VSt Tb X W st (vFgtE is g) := PS.wk h fun D σ H q => tVS.fgtE is q
end VL
set_option Elab.async false
set_option linter.all false
set_option maxRecDepth 100000
/-! running a mirror, step by step -/
namespace VL
open PySem PySem.Spec PyProof.Rows L2
section
variable {α β : Type} {s s1 s2 : VS} {x y z : Da} {i j : Int} {k n : Nat} {c : OC} {f : VM EV} {fs : VM (List EV)} {g : VM Ctl} {r : EV} {rs : List EV} {e : Err} {b : Bool}
def bnd (r : Res (α × VS)) (g : α → VM β) : Res (β × VS) := match r with
  | .ok (a, s) => g a s
  | .error e => .error e
theorem m_vb {f : VM α} {g : α → VM β} : vb f g s = bnd (f s) g := rfl
theorem bnd_ok {a : α} {g : α → VM β} : bnd (.ok (a, s)) g = g a s := rfl
theorem bnd_er {g : α → VM β} : bnd (.error e) g = .error e := rfl
theorem m_vr {a : α} : vr a s = .ok (a, s) := rfl
theorem m_stuck : (vStuck : VM α) s = .error .stuck := rfl
def bS (r : Res (Ctl × VS)) (g : VM Ctl) : Res (Ctl × VS) := match r with
  | .ok (.nx, s) => g s
  | r => r
theorem m_seq {f g : VM Ctl} : vSeq f g s = bS (f s) g := by
  unfold vSeq vb bS
  cases f s with
  | ok p => obtain ⟨c, s1⟩ := p; cases c <;> rfl
  | error e => rfl
theorem bS_nx : bS (.ok (.nx, s)) g = g s := rfl
theorem bS_bk : bS (.ok (.bk, s)) g = .ok (.bk, s) := rfl
theorem bS_ct : bS (.ok (.ct, s)) g = .ok (.ct, s) := rfl
theorem bS_rt : bS (.ok (.rt r, s)) g = .ok (.rt r, s) := rfl
theorem bS_er : bS (.error e) g = .error e := rfl
def bI (r : Res (Bool × VS)) (a b : VM α) : Res (α × VS) := match r with
  | .ok (true, s) => a s
  | .ok (false, s) => b s
  | .error e => .error e
theorem m_if {c : VM Bool} {a b : VM Ctl} : vIf c a b s = bI (c s) a b := by
  unfold vIf vb bI
  cases c s with
  | ok p => obtain ⟨k, s1⟩ := p; cases k <;> rfl
  | error e => rfl
theorem m_ite {c : VM Bool} {a b : VM EV} : vIte c a b s = bI (c s) a b := by
  unfold vIte vb bI
  cases c s with
  | ok p => obtain ⟨k, s1⟩ := p; cases k <;> rfl
  | error e => rfl
theorem bI_t {a b : VM α} : bI (.ok (true, s)) a b = a s := rfl
theorem bI_f {a b : VM α} : bI (.ok (false, s)) a b = b s := rfl
theorem bI_er {a b : VM α} : bI (.error e) a b = .error e := rfl
theorem bI_b {a b : VM α} {k : Bool} : bI (.ok (k, s)) a b = if k = true then a s else b s := by cases k <;> rfl
theorem m_and {c d : VM Bool} : vAnd c d s = bI (c s) d (vr false) := by
  unfold vAnd vb bI
  cases c s with
  | ok p => obtain ⟨k, s1⟩ := p; cases k <;> rfl
  | error e => rfl
theorem m_or {c d : VM Bool} : vOr c d s = bI (c s) (vr true) d := by
  unfold vOr vb bI
  cases c s with
  | ok p => obtain ⟨k, s1⟩ := p; cases k <;> rfl
  | error e => rfl
theorem m_not {c : VM Bool} : vNot c s = bnd (c s) fun k => vr (!k) := rfl
theorem m_bool : vBool f s = bnd (f s) fun r => vOpt (evB r) := rfl
theorem evB_b : evB (.d (.bool b)) = some b := rfl
theorem m_opt {a : α} : vOpt (some a) s = .ok (a, s) := rfl
theorem m_optn : vOpt (none : Option α) s = .error .stuck := rfl
theorem m_tru : vTru f s = bnd (f s) fun r => vb (vRd r) fun x => vOpt (truD x) := rfl
theorem tru_b : truD (.bool b) = some b := rfl
theorem tru_i : truD (.int i) = some (i != 0) := rfl
theorem tru_n : truD .none = some false := rfl
theorem tru_l {xs : List Da} : truD (.list xs) = some (!xs.isEmpty) := rfl
theorem tru_t {xs : List Da} : truD (.tuple xs) = some (!xs.isEmpty) := rfl
/-! names, constants -/
def varR (i : Nat) (s : VS) : Option SV → Res (EV × VS)
  | some (.d x) => .ok (.d x, s)
  | some (.own _) => .ok (.loan i, s)
  | some (.io _) => .ok (.loan i, s)
  | some (.lk _) => .ok (.loan i, s)
  | some (.rd _) => .ok (.loan i, s)
  | _ => .error .stuck
theorem m_var : vVar k s = varR k s s[k]? := by
  unfold vVar varR
  cases s[k]? with
  | none => rfl
  | some v => cases v <;> rfl
theorem var_d : varR k s (some (.d x)) = .ok (.d x, s) := rfl
theorem var_own : varR k s (some (.own c)) = .ok (.loan k, s) := rfl
theorem var_io : varR k s (some (.io c)) = .ok (.loan k, s) := rfl
theorem var_lk : varR k s (some (.lk c)) = .ok (.loan k, s) := rfl
theorem var_rd {xs : List Da} : varR k s (some (.rd xs)) = .ok (.loan k, s) := rfl
theorem m_c : vC x s = .ok (.d x, s) := rfl
theorem st_d : VL.settle (.d x) = .d x := rfl
theorem st_o : VL.settle (.own c) = .d c.data := rfl
theorem st_l : VL.settle (.loan k) = .loan k := rfl
theorem oc_l {xs : List Da} : OC.data (.l xs) = .list xs := rfl
theorem oc_m {xs : List (Da × Da)} : OC.data (.m xs) = .dict xs := rfl
def rdR (s : VS) : Option SV → Res (Da × VS)
  | some (.own c) => .ok (c.data, s)
  | some (.io c) => .ok (c.data, s)
  | some (.lk c) => .ok (c.data, s)
  | _ => .error .stuck
theorem rd_d : vRd (.d x) s = .ok (x, s) := rfl
theorem rd_o : vRd (.own c) s = .ok (c.data, s) := rfl
theorem rd_l : vRd (.loan k) s = rdR s s[k]? := by
  unfold vRd rdR
  dsimp only
  all_goals rcases s[k]? with _ | v
  all_goals first | rfl | (cases v <;> first | rfl | (rename_i c; cases c <;> rfl))
theorem rdR_own : rdR s (some (.own c)) = .ok (c.data, s) := rfl
theorem rdR_io : rdR s (some (.io c)) = .ok (c.data, s) := rfl
theorem rdR_lk : rdR s (some (.lk c)) = .ok (c.data, s) := rfl
/-! operators -/
theorem m_bin {g : Da → Da → Option EV} {fa fb : VM EV} : vBin g fa fb s = bnd (fa s) fun ra => vb fb fun rb => vb (vRd (VL.settle ra)) fun x => vb (vRd rb) fun y => vOpt (g x y) := rfl
theorem m_un {g : Da → Option EV} {fa : VM EV} : vUn g fa s = bnd (fa s) fun ra => vb (vRd ra) fun x => vOpt (g x) := rfl
theorem m_call {g : List Da → Option EV} : vCall g fs s = bnd (fs s) fun rs => vb (vRds rs) fun xs => vOpt (g xs) := rfl
theorem m_rdn : vRds [] s = .ok ([], s) := rfl
theorem m_rdc : vRds (r :: rs) s = bnd (vRd r s) fun x => vb (vRds rs) fun xs => vr (x :: xs) := rfl
theorem m_cons : vCons f fs s = bnd (f s) fun r => vb fs fun rs => vr (VL.settle r :: rs) := rfl
theorem m_conss : vConsS f fs s = bnd (f s) fun r => vb (vRd r) fun x => vb (vOpt (seqD x)) fun xs => vb fs fun rs => vr (xs.map .d ++ rs) := rfl
theorem m_tup : vTuple fs s = bnd (fs s) fun rs => vb (vOpt (dts rs)) fun xs => if xs.length ≤ 16777216 then vr (.d (.tuple xs)) else vStuck := rfl
theorem m_lst : vList fs s = bnd (fs s) fun rs => vb (vOpt (dts rs)) fun xs => if xs.length ≤ 16777216 then vr (.own (.l xs)) else vStuck := rfl
theorem dts_n : dts [] = some [] := rfl
theorem dts_c : dts (.d x :: rs) = (dts rs).map (x :: ·) := rfl
theorem o_map {γ : Type} {a : α} {h : α → γ} : Option.map h (some a) = some (h a) := rfl
theorem o_bind {γ : Type} {a : α} {h : α → Option γ} : Option.bind (some a) h = h a := rfl
theorem add_i : addD (.int i) (.int j) = some (.d (.int (i + j))) := rfl
theorem sub_i : subD (.int i) (.int j) = some (.d (.int (i - j))) := rfl
theorem mul_i : mulD (.int i) (.int j) = if i.natAbs.log2 + j.natAbs.log2 < 1000000 then some (.d (.int (i * j))) else none := rfl
theorem mod_i : modD (.int i) (.int j) = if 0 < j then some (.d (.int (i % j))) else none := rfl
theorem fdiv_i : fdivD (.int i) (.int j) = if 0 < j ∧ j.natAbs.log2 < 9000 then some (.d (.int (i / j))) else none := rfl
theorem pow_i : powD (.int i) (.int j) = if 0 ≤ j ∧ j ≤ 1000000 ∧ i.natAbs < 2 ^ 64 then some (.d (.int (i ^ j.toNat))) else none := rfl
theorem neg_i : negD (.int i) = some (.d (.int (-i))) := rfl
theorem iadd_i : iaddD (.int i) (.int j) = some (.d (.int (i + j))) := rfl
theorem abs_i : absD [.int i] = some (.d (.int (if i < 0 then -i else i))) := rfl
theorem int_i : toIntD [.int i] = some (.d (.int i)) := rfl
theorem int_b : toIntD [.bool b] = some (.d (.int (if b then 1 else 0))) := rfl
theorem len_l {xs : List Da} : lenD [.list xs] = some (.d (.int xs.length)) := rfl
theorem len_t {xs : List Da} : lenD [.tuple xs] = some (.d (.int xs.length)) := rfl
theorem add_l {xs ys : List Da} : addD (.list xs) (.list ys) = if xs.length + ys.length ≤ 16777216 then some (.own (.l (xs ++ ys))) else none := rfl
theorem add_t {xs ys : List Da} : addD (.tuple xs) (.tuple ys) = if xs.length + ys.length ≤ 16777216 then some (.d (.tuple (xs ++ ys))) else none := rfl
theorem lt_i : ltD (.int i) (.int j) = some (.d (.bool (decide (i < j)))) := rfl
theorem le_i : leD (.int i) (.int j) = some (.d (.bool (decide (i ≤ j)))) := rfl
theorem gt_i : gtD (.int i) (.int j) = some (.d (.bool (decide (j < i)))) := rfl
theorem ge_i : geD (.int i) (.int j) = some (.d (.bool (decide (j ≤ i)))) := rfl
theorem eq_i : eqD (.int i) (.int j) = some (.d (.bool (decide (i = j)))) := by
  show (if SeqAt.shaped (.int i) = true ∧ SeqAt.shaped (.int j) = true then some (EV.d (.bool (PyData.eqv (.int i) (.int j)))) else none) = _
  rw [if_pos ⟨rfl, rfl⟩]
  congr 3
theorem ne_i : neD (.int i) (.int j) = some (.d (.bool (!decide (i = j)))) := by
  show (if SeqAt.shaped (.int i) = true ∧ SeqAt.shaped (.int j) = true then some (EV.d (.bool (!PyData.eqv (.int i) (.int j)))) else none) = _
  rw [if_pos ⟨rfl, rfl⟩]
  congr 4
theorem eqF_i : eqF (.int i) (.int j) = some (.d (.bool (decide (i = j)))) := rfl
theorem neF_i : neF (.int i) (.int j) = some (.d (.bool (!decide (i = j)))) := rfl
theorem tuple_l {xs : List Da} : tupleD [.list xs] = some (.d (.tuple xs)) := rfl
theorem tuple_t {xs : List Da} : tupleD [.tuple xs] = some (.d (.tuple xs)) := rfl
theorem list_l {xs : List Da} : listD [.list xs] = some (.own (.l xs)) := rfl
theorem list_t {xs : List Da} : listD [.tuple xs] = some (.own (.l xs)) := rfl
theorem ix_l {xs : List Da} : ixD (.list xs) (.int i) = (atI xs i).map .d := rfl
theorem ix_t {xs : List Da} : ixD (.tuple xs) (.int i) = (atI xs i).map .d := rfl
theorem at_nat {xs : List Da} (h : 0 ≤ i) : atI xs i = xs[i.toNat]? := by
  unfold atI ixN
  rw [if_pos h]
  by_cases hi : i < xs.length
  · rw [if_pos hi]; rfl
  · rw [if_neg hi, List.getElem?_eq_none (by omega)]; rfl
/-! statements -/
theorem m_ret : vRet f s = bnd (f s) fun r => vr (.rt r) := rfl
theorem m_drop : vDrop f s = bnd (f s) fun _ => vNx := rfl
theorem m_nx : vNx s = .ok (.nx, s) := rfl
theorem m_asg {g : EV → VM Unit} : vAsg f g s = bnd (f s) fun r => vb (vNoX (g r)) fun _ => vNx := rfl
def nxR (r : Res (α × VS)) : Res (α × VS) := match r with
  | .ok p => .ok p
  | .error _ => .error .stuck
theorem m_nox {f : VM α} : vNoX f s = nxR (f s) := by
  unfold vNoX nxR
  cases f s <;> rfl
theorem nx_ok {p : α × VS} : nxR (.ok p) = .ok p := rfl
theorem set_d : vSet k (.d x) s = if wrOk s[k]? = true then .ok ((), s.set k (.d x)) else .error .stuck := rfl
theorem set_o : vSet k (.own c) s = if wrOk s[k]? = true then .ok ((), s.set k (.own c)) else .error .stuck := rfl
theorem setD_ : vSetD k x s = if wrOk s[k]? = true then .ok ((), s.set k (.d x)) else .error .stuck := rfl
theorem wr_un : wrOk (some .un) = true := rfl
theorem wr_d : wrOk (some (.d x)) = true := rfl
theorem wr_o : wrOk (some (.own c)) = true := rfl
theorem wr_rd {xs : List Da} : wrOk (some (.rd xs)) = true := rfl
theorem m_aug {g : Da → Da → Option EV} : vAug k g f s = bnd (vVar k s) fun r0 => vb f fun r => vb (vRd r0) fun x => vb (vRd r) fun y => vb (vOpt (g x y)) fun z => vb (vNoX (vSet k z)) fun _ => vNx := rfl
theorem m_asgD {g : Da → VM Unit} : vAsgD f g s = bnd (f s) fun r => vb (vOpt (evD r)) fun x => vb (vNoX (g x)) fun _ => vNx := rfl
theorem evD_d : evD (.d x) = some x := rfl
theorem evD_o : evD (.own c) = some c.data := rfl
theorem m_frzn {g : VM α} : vFrz [] g s = g s := rfl
theorem m_frzc {k : Nat} {is : List Nat} {g : VM α} : vFrz (k :: is) g s = vFrz is g (frz1 k s) := rfl
def frzR (k : Nat) (s : VS) : Option SV → VS
  | some (.own c) => s.set k (.d c.data)
  | _ => s
theorem m_frz1 : frz1 k s = frzR k s s[k]? := by
  unfold frz1 frzR
  cases s[k]? with
  | none => rfl
  | some v => cases v <;> rfl
theorem fz_d : frzR k s (some (.d x)) = s := rfl
theorem fz_un : frzR k s (some .un) = s := rfl
theorem fz_io : frzR k s (some (.io c)) = s := rfl
theorem fz_lk : frzR k s (some (.lk c)) = s := rfl
theorem fz_rd {xs : List Da} : frzR k s (some (.rd xs)) = s := rfl
theorem fz_o : frzR k s (some (.own c)) = s.set k (.d c.data) := rfl
theorem m_sub {fo fi : VM EV} : vSub fo fi x s = bnd (fo s) fun ro => vb fi fun ri => vb (vRd ri) fun i => vb (vApp setD ro [i, x]) fun _ => vr () := rfl
theorem m_augS {g : Da → Da → Option EV} {fo fi fe : VM EV} : vAugS g fo fi fe s = bnd (fo s) fun ro => vb fi fun ri => vb (vRd ri) fun i => vb (vOpt (intD i)) fun k => vb (vCt ro) fun xs => vb (vOpt (atI xs k)) fun old => vb fe fun re => vb (vRd re) fun y =>
  vb (vOpt ((g old y).bind evD)) fun new => vb (vApp setD ro [.int k, new]) fun _ => vNx := rfl
def apR (k : Nat) (g : List Da → List Da → Option (List Da × Da)) (as : List Da) (s : VS) : Option SV → Res (EV × VS)
  | some (.own (.l xs)) => match g xs as with
    | some (ys, z) => .ok (.d z, s.set k (.own (.l ys)))
    | none => .error .stuck
  | some (.io (.l xs)) => match g xs as with
    | some (ys, z) => .ok (.d z, s.set k (.io (.l ys)))
    | none => .error .stuck
  | _ => .error .stuck
theorem m_app {g : List Da → List Da → Option (List Da × Da)} {as : List Da} : vApp g (.loan k) as s = apR k g as s s[k]? := by
  unfold vApp mutL apR putC
  dsimp only
  cases h : s[k]? with
  | none => rfl
  | some v =>
    cases v with
    | own c => cases c with
      | l xs =>
        dsimp only
        cases g xs as with
        | none => rfl
        | some q => obtain ⟨ys, z⟩ := q; dsimp only; rw [h]
      | m _ => rfl
    | io c => cases c with
      | l xs =>
        dsimp only
        cases g xs as with
        | none => rfl
        | some q => obtain ⟨ys, z⟩ := q; dsimp only; rw [h]
      | m _ => rfl
    | _ => rfl
theorem ap_o {g : List Da → List Da → Option (List Da × Da)} {as xs : List Da} : apR k g as s (some (.own (.l xs))) = match g xs as with
    | some (ys, z) => .ok (.d z, s.set k (.own (.l ys)))
    | none => .error .stuck := rfl
theorem ap_io {g : List Da → List Da → Option (List Da × Da)} {as xs : List Da} : apR k g as s (some (.io (.l xs))) = match g xs as with
    | some (ys, z) => .ok (.d z, s.set k (.io (.l ys)))
    | none => .error .stuck := rfl
def ctR (s : VS) : Option SV → Res (List Da × VS)
  | some (.own (.l xs)) => .ok (xs, s)
  | some (.io (.l xs)) => .ok (xs, s)
  | _ => .error .stuck
theorem m_ct : vCt (.loan k) s = ctR s s[k]? := by
  unfold vCt mutL ctR
  dsimp only
  cases s[k]? with
  | none => rfl
  | some v =>
    cases v with
    | own c => cases c <;> rfl
    | io c => cases c <;> rfl
    | _ => rfl
theorem ct_o {xs : List Da} : ctR s (some (.own (.l xs))) = .ok (xs, s) := rfl
theorem ct_io {xs : List Da} : ctR s (some (.io (.l xs))) = .ok (xs, s) := rfl
def isR (s : VS) : Option SV → Res (Unit × VS)
  | some (.own (.l xs)) => .ok ((), s)
  | some (.io (.l xs)) => .ok ((), s)
  | _ => .error .stuck
theorem m_isl : vIsL (.loan k) s = isR s s[k]? := by
  unfold vIsL isR
  cases h : s[k]? with
  | none => simp [mutL, h]
  | some v =>
    cases v with
    | own c => cases c <;> simp [mutL, h]
    | io c => cases c <;> simp [mutL, h]
    | _ => simp [mutL, h]
theorem is_o {xs : List Da} : isR s (some (.own (.l xs))) = .ok ((), s) := rfl
theorem is_io {xs : List Da} : isR s (some (.io (.l xs))) = .ok ((), s) := rfl
theorem m_mut {g : List Da → List Da → Option (List Da × Da)} {fo : VM EV} : vMut g fo fs s = bnd (fo s) fun ro => vb (vIsL ro) fun _ => vb fs fun rs => vb (vOpt (dts rs)) fun as => vApp g ro as := rfl
theorem m_mutB {g : List Da → List Da → Option (List Da × Da)} {fo : VM EV} : vMutB g fo fs s = bnd (fo s) fun ro => vb (vIsL ro) fun _ => vb fs fun rs => vb (vRds rs) fun as => vApp g ro as := rfl
theorem m_mut0 {g : List Da → List Da → Option (List Da × Da)} {fo : VM EV} : vMut0 g fo s = bnd (fo s) fun ro => vb (vIsL ro) fun _ => vApp g ro [] := rfl
theorem setD_i {xs : List Da} (h : 0 ≤ i) (h2 : i < xs.length) : setD xs [.int i, x] = some (xs.set i.toNat x, .none) := by
  show (ixN xs.length i).map _ = _
  unfold ixN
  rw [if_pos h, if_pos h2]; rfl
theorem intD_i : intD (.int i) = some i := rfl
/-! slices -/
theorem m_sl {fe : VM EV} {lo hi : VM (Option Int)} : vSl fe lo hi s = bnd (fe s) fun r => vb lo fun l => vb hi fun h => vb (vRdS (VL.settle r)) fun x => vOpt (slD x l h) := rfl
theorem m_pn : vPart none s = .ok (none, s) := rfl
theorem m_ps : vPart (some f) s = bnd (f s) fun r => match r with
    | .d (.int i) => vr (some i)
    | _ => vStuck := rfl
theorem rs_d : vRdS (.d x) s = .ok (x, s) := rfl
def rsR (k : Nat) (s : VS) : Option SV → Res (Da × VS)
  | some (.rd xs) => .ok (.list xs, s)
  | o => rdR s o
theorem rs_l : vRdS (.loan k) s = rsR k s s[k]? := by
  unfold vRdS rsR
  dsimp only
  rw [rd_l]
  cases s[k]? with
  | none => rfl
  | some v => cases v <;> rfl
theorem rsR_rd {xs : List Da} : rsR k s (some (.rd xs)) = .ok (.list xs, s) := rfl
theorem rsR_o : rsR k s (some (.own c)) = .ok (c.data, s) := rfl
theorem rsR_io : rsR k s (some (.io c)) = .ok (c.data, s) := rfl
theorem sl_l {xs : List Da} {lo hi : Option Int} : slD (.list xs) lo hi = some (.own (.l (cutD xs lo hi))) := rfl
theorem sl_t {xs : List Da} {lo hi : Option Int} : slD (.tuple xs) lo hi = some (.d (.tuple (cutD xs lo hi))) := rfl
/-! calls -/
theorem m_callF {m : FM} : vCallF m fs s = bnd (fs s) fun rs => callF m rs := rfl
def argR : List EV → VS → Option VS := fun rs s => argSV s rs
theorem arg_n : argSV s [] = some [] := rfl
theorem arg_c : argSV s (r :: rs) = (argSV1 s r).bind fun a => (argSV s rs).map (a :: ·) := rfl
theorem arg_d : argSV1 s (.d x) = some (.d x) := rfl
def arR : Option SV → Option SV
  | some (.own c) => some (.io c)
  | some (.io c) => some (.io c)
  | some (.lk c) => some (.lk c)
  | some (.rd xs) => some (.rd xs)
  | _ => none
theorem arg_l : argSV1 s (.loan k) = arR s[k]? := by
  unfold argSV1 arR
  dsimp only
  all_goals rcases s[k]? with _ | v
  all_goals first | rfl | (cases v <;> first | rfl | (rename_i c; cases c <;> rfl))
theorem ar_o : arR (some (.own c)) = some (.io c) := rfl
theorem ar_io : arR (some (.io c)) = some (.io c) := rfl
theorem ar_lk : arR (some (.lk c)) = some (.lk c) := rfl
theorem ar_rd {xs : List Da} : arR (some (.rd xs)) = some (.rd xs) := rfl
theorem callF_ok {m : FM} {st0 o : VS} {r : EV} (nd : (loans rs).Nodup) (ha : argSV s rs = some st0) (hm : m st0 = .ok (r, o)) (hr : ∀ i, r ≠ .loan i) : callF m rs s = .ok (r, putOuts rs o s) := by
  unfold callF
  rw [if_pos nd, ha]
  dsimp only
  rw [hm]
  cases r with
  | loan i => exact absurd rfl (hr i)
  | d x => rfl
  | own c => rfl
theorem put_n {o : VS} : putOuts [] o s = s := by unfold putOuts; cases o <;> rfl
theorem put_d {o : VS} {v : SV} : putOuts (.d x :: rs) (v :: o) s = putOuts rs o s := by
  rw [putOuts]
  intro i c h; cases h
theorem put_io {o : VS} : putOuts (.loan k :: rs) (.io c :: o) s = putOuts rs o (putC k c s) := rfl
def ptR (k : Nat) (c : OC) (s : VS) : Option SV → VS
  | some (.own _) => s.set k (.own c)
  | some (.io _) => s.set k (.io c)
  | _ => s
theorem m_put : putC k c s = ptR k c s s[k]? := by
  unfold putC ptR
  cases s[k]? with
  | none => rfl
  | some v => cases v <;> rfl
theorem pt_o {c' : OC} : ptR k c s (some (.own c')) = s.set k (.own c) := rfl
theorem pt_io {c' : OC} : ptR k c s (some (.io c')) = s.set k (.io c) := rfl
/-- the run of a def -/
theorem run_ok {N : Nat} {g : VM Ctl} {st0 : VS} {c : Ctl} {s : VS} {r : EV} (h : g (st0 ++ List.replicate (N - st0.length) .un) = .ok (c, s)) (hr : retV c s = some r) : runF N g st0 = .ok (r, outs st0 s) := by
  unfold runF
  rw [h]
  dsimp only
  rw [hr]
end
end VL
set_option Elab.async false
set_option linter.all false
set_option maxRecDepth 100000
/-! loops and comprehensions of a mirror -/
namespace VL
open PySem PySem.Spec PyProof.Rows L2
section
variable {α β : Type} {s s1 s2 s3 : VS} {x y z : Da} {i j : Int} {k n : Nat} {c : OC} {f te : VM EV} {fs : VM (List EV)} {g : VM Ctl} {r : EV} {rs : List EV} {e : Err} {b : Bool} {xs ys : List Da} {ix : List Nat} {gt : Da → VM Unit} {tt : VM Bool} {fi : VM (List Da × Lks)} {L : Lks}
/-! sources -/
theorem i_seq : vItSeq f s = bnd (f s) vSrc := rfl
theorem src_l : vSrc (.d (.list xs)) s = .ok ((xs, []), s) := rfl
theorem src_t : vSrc (.d (.tuple xs)) s = .ok ((xs, []), s) := rfl
theorem src_o : vSrc (.own (.l xs)) s = .ok ((xs, []), s) := rfl
def srR (i : Nat) (s : VS) : Option SV → Res ((List Da × Lks) × VS)
  | some (.own (.l xs)) => .ok ((xs, [(i, false)]), s.set i (.lk (.l xs)))
  | some (.io (.l xs)) => .ok ((xs, [(i, true)]), s.set i (.lk (.l xs)))
  | some (.lk (.l xs)) => .ok ((xs, []), s)
  | _ => .error .stuck
theorem src_n : vSrc (.loan k) s = srR k s s[k]? := by
  unfold vSrc srR
  dsimp only
  all_goals rcases s[k]? with _ | v
  all_goals first | rfl | (cases v <;> first | rfl | (rename_i c; cases c <;> rfl))
theorem sr_o : srR k s (some (.own (.l xs))) = .ok ((xs, [(k, false)]), s.set k (.lk (.l xs))) := rfl
theorem sr_io : srR k s (some (.io (.l xs))) = .ok ((xs, [(k, true)]), s.set k (.lk (.l xs))) := rfl
theorem sr_lk : srR k s (some (.lk (.l xs))) = .ok ((xs, []), s) := rfl
theorem i_rng : vItRng fs s = bnd (fs s) fun rs => vb (vRds rs) fun xs => vb (vOpt (rangeD xs)) fun ys => vr (ys, []) := rfl
theorem i_enum : vItEnum fs s = bnd (fs s) fun rs => match rs with
  | [r] => vb (vSrc r) fun q => vr (enumD 0 q.1, q.2)
  | _ => vStuck := rfl
theorem i_zip : vItZip fs s = bnd (fs s) fun rs => match rs with
  | [r, r2] => vb (vSrc r) fun q => vb (vSrc r2) fun q2 => vr (zipD q.1 q2.1, q.2 ++ q2.2)
  | _ => vStuck := rfl
theorem i_rev : vItRev f s = bnd (f s) fun r => vb (vSrc r) fun q => vr (q.1.reverse, q.2) := rfl
theorem unl_n : unlock [] s = s := rfl
theorem unl_c {L : Lks} : unlock ((k, b) :: L) s = unlock1 k b (unlock L s) := rfl
def ulR (k : Nat) (b : Bool) (s : VS) : Option SV → VS
  | some (.lk c) => s.set k (ownB b c)
  | _ => s
theorem unl_1 : unlock1 k b s = ulR k b s s[k]? := by
  unfold unlock1 ulR
  cases s[k]? with
  | none => rfl
  | some v => cases v <;> rfl
theorem ul_lk : ulR k b s (some (.lk c)) = s.set k (ownB b c) := rfl
theorem ob_t : ownB true c = .io c := rfl
theorem ob_f : ownB false c = .own c := rfl
/-! for -/
theorem m_for : vFor fi gt g s = bnd (fi s) fun p => fun s => match vForL gt g p.1 s with
  | .ok (c, s2) => .ok (c, unlock p.2 s2)
  | .error (.exc C fs s2) => .error (.exc C fs (unlock p.2 s2))
  | .error .stuck => .error .stuck := rfl
/-- a loop whose turns all go on -/
theorem forL_inv (R : List Da → VS → Prop) (step : ∀ x xs s, R (x :: xs) s → ∃ s1 c s2, gt x s = .ok ((), s1) ∧ g s1 = .ok (c, s2) ∧ (c = .nx ∨ c = .ct) ∧ R xs s2) :
    ∀ xs s, R xs s → ∃ s', vForL gt g xs s = .ok (.nx, s') ∧ R [] s'
  | [], s, h => ⟨s, rfl, h⟩
  | x :: xs, s, h => by
    obtain ⟨s1, c, s2, h1, h2, hc, h3⟩ := step x xs s h
    obtain ⟨s', h4, h5⟩ := forL_inv R step xs s2 h3
    refine ⟨s', ?_, h5⟩
    show vb (vNoX (gt x)) _ s = _
    rw [m_vb, m_nox, h1, nx_ok, bnd_ok, m_vb, h2, bnd_ok]
    rcases hc with rfl | rfl <;> exact h4
theorem for_inv (R : List Da → VS → Prop) (step : ∀ x xs s, R (x :: xs) s → ∃ s1 c s2, gt x s = .ok ((), s1) ∧ g s1 = .ok (c, s2) ∧ (c = .nx ∨ c = .ct) ∧ R xs s2)
    (hi : fi s = .ok ((xs, L), s1)) (h0 : R xs s1) : ∃ s', vFor fi gt g s = .ok (.nx, unlock L s') ∧ R [] s' := by
  obtain ⟨s', h1, h2⟩ := forL_inv R step xs s1 h0
  exact ⟨s', by rw [m_for, hi, bnd_ok]; dsimp only; rw [h1], h2⟩
/-! comprehensions -/
theorem lcG_inv (R : List Da → List Da → VS → Prop) (step : ∀ x xs acc s, R (x :: xs) acc s → ∃ s1 b s2, gt x s = .ok ((), s1) ∧ tt s1 = .ok (b, s2) ∧
      (b = false → ix.all (fun j => flatS s2[j]?) = true ∧ R xs acc (wipeV ix s2)) ∧ (b = true → ∃ r y s3, te s2 = .ok (r, s3) ∧ evD r = some y ∧ ix.all (fun j => flatS s3[j]?) = true ∧ R xs (acc ++ [y]) (wipeV ix s3))) :
    ∀ xs acc s, R xs acc s → ∃ ys s', vLcG ix gt tt te xs s = .ok (ys, s') ∧ R [] (acc ++ ys) s'
  | [], acc, s, h => ⟨[], s, rfl, by rw [List.append_nil]; exact h⟩
  | x :: xs, acc, s, h => by
    obtain ⟨s1, b, s2, h1, h2, hf, ht⟩ := step x xs acc s h
    cases b with
    | false =>
      obtain ⟨fl, h3⟩ := hf rfl
      obtain ⟨ys, s', h4, h5⟩ := lcG_inv R step xs acc _ h3
      refine ⟨ys, s', ?_, h5⟩
      show vb (gt x) _ s = _
      rw [m_vb, h1, bnd_ok, m_vb, h2, bnd_ok, if_neg Bool.false_ne_true, m_vb]
      unfold vWipe
      rw [if_pos fl, bnd_ok]
      exact h4
    | true =>
      obtain ⟨r, y, s3, h3, h4, fl, h5⟩ := ht rfl
      obtain ⟨ys, s', h6, h7⟩ := lcG_inv R step xs _ _ h5
      refine ⟨y :: ys, s', ?_, by rw [List.append_assoc] at h7; exact h7⟩
      show vb (gt x) _ s = _
      rw [m_vb, h1, bnd_ok, m_vb, h2, bnd_ok, if_pos rfl, m_vb, h3, bnd_ok, m_vb, h4, m_opt, bnd_ok, m_vb]
      unfold vWipe
      rw [if_pos fl, bnd_ok, m_vb, h6, bnd_ok]
      rfl
theorem lcF_of (hi : fi s = .ok ((xs, L), s1)) (fl : ix.all (fun j => flatS s1[j]?) = true) (hG : vLcG ix gt tt te xs (wipeV ix s1) = .ok (ys, s2)) (hl : ys.length ≤ 16777216) :
    vLcF ix fi gt tt te s = .ok (.own (.l ys), unlock L (restV s1 ix s2)) := by
  show vb fi _ s = _
  rw [m_vb, hi, bnd_ok]
  dsimp only
  rw [if_pos fl, hG]
  dsimp only
  rw [if_pos hl]
/-- one that changes nothing: p, h of each item -/
theorem lcG_pure {γ : Type} {enc : γ → Da} {base : VS} (p : γ → Bool) (h : γ → Da) (xs : List γ) (step : ∀ x ∈ xs, ∃ s1 s2, gt (enc x) base = .ok ((), s1) ∧ tt s1 = .ok (p x, s2) ∧
      (p x = false → ix.all (fun j => flatS s2[j]?) = true ∧ wipeV ix s2 = base) ∧ (p x = true → ∃ r s3, te s2 = .ok (r, s3) ∧ evD r = some (h x) ∧ ix.all (fun j => flatS s3[j]?) = true ∧ wipeV ix s3 = base)) :
    vLcG ix gt tt te (xs.map enc) base = .ok ((xs.filter p).map h, base) := by
  induction xs with
  | nil => rfl
  | cons x xs ih =>
    have ih := ih fun y hy => step y (List.mem_cons_of_mem _ hy)
    obtain ⟨s1, s2, h1, h2, hf, ht⟩ := step x List.mem_cons_self
    show vb (gt (enc x)) _ base = _
    cases hp : p x with
    | false =>
      obtain ⟨fl, h3⟩ := hf hp
      rw [m_vb, h1, bnd_ok, m_vb, h2, hp, bnd_ok, if_neg Bool.false_ne_true, m_vb]
      unfold vWipe
      rw [if_pos fl, bnd_ok, h3, List.filter_cons_of_neg (by rw [hp]; exact Bool.false_ne_true)]
      exact ih
    | true =>
      obtain ⟨r, s3, h3, h4, fl, h5⟩ := ht hp
      rw [m_vb, h1, bnd_ok, m_vb, h2, hp, bnd_ok, if_pos rfl, m_vb, h3, bnd_ok, m_vb, h4, m_opt, bnd_ok, m_vb]
      unfold vWipe
      rw [if_pos fl, bnd_ok, h5, m_vb, ih, bnd_ok, List.filter_cons_of_pos hp]
      rfl
theorem wp_n : wipeV [] s = s := rfl
theorem wp_c : wipeV (k :: ix) s = (wipeV ix s).set k .un := rfl
theorem rt_n {s0 : VS} : restV s0 [] s = s := rfl
theorem rt_c {s0 : VS} : restV s0 (k :: ix) s = (restV s0 ix s).set k (s0[k]?.getD .un) := rfl
theorem fl_un : flatS (some .un) = true := rfl
theorem fl_d : flatS (some (.d x)) = true := rfl
theorem m_unpT {fl : List (Da → VM Unit)} : vUnpT fl x s = bnd (vOpt (tupD x) s) fun xs => vUnp fl xs := rfl
theorem tupD_t : tupD (.tuple xs) = some xs := rfl
theorem unp_n : vUnp [] [] s = .ok ((), s) := rfl
theorem unp_c {fn : Da → VM Unit} {fl : List (Da → VM Unit)} : vUnp (fn :: fl) (x :: xs) s = bnd (fn x s) fun _ => vUnp fl xs := rfl
theorem range_1 : rangeD [.int i] = if -1000000000 ≤ i ∧ i ≤ 1000000000 then some (rngD 0 i.toNat 1) else none := rfl
theorem range_2 : rangeD [.int i, .int j] = if -1000000000 ≤ i ∧ i ≤ 1000000000 ∧ -1000000000 ≤ j ∧ j ≤ 1000000000 then some (rngD i (j - i).toNat 1) else none := rfl
theorem ext_l {zs : List Da} : extendD xs [.list zs] = if xs.length + zs.length ≤ 16777216 then some (xs ++ zs, .none) else none := rfl
theorem ext_t {zs : List Da} : extendD xs [.tuple zs] = if xs.length + zs.length ≤ 16777216 then some (xs ++ zs, .none) else none := rfl
theorem app_1 : appendD xs [x] = if xs.length < 16777216 then some (xs ++ [x], .none) else none := rfl
theorem m_pc : vPc f fs s = bnd (f s) fun r => vb fs fun rs => vr (r :: rs) := rfl
theorem m_par {is : List Nat} : vPar is fs s = bnd (fs s) fun rs => fun s => match vRelease rs s with
  | some (rs', s2) => match vStore is rs' s2 with
    | some s3 => .ok (.nx, s3)
    | none => .error .stuck
  | none => .error .stuck := rfl
theorem rl_n : vRelease [] s = some ([], s) := rfl
theorem rl_d : vRelease (.d x :: rs) s = (vRelease rs s).map fun q => (.d x :: q.1, q.2) := rfl
theorem rl_o : vRelease (.own c :: rs) s = (vRelease rs s).map fun q => (.own c :: q.1, q.2) := rfl
def rlR (k : Nat) (rs : List EV) (s : VS) : Option SV → Option (List EV × VS)
  | some (.own c) => (vRelease rs (s.set k .un)).map fun q => (.own c :: q.1, q.2)
  | _ => none
theorem rl_l : vRelease (.loan k :: rs) s = rlR k rs s s[k]? := by
  rw [vRelease]
  unfold rlR
  cases s[k]? with
  | none => rfl
  | some v => cases v <;> rfl
theorem rlR_o : rlR k rs s (some (.own c)) = (vRelease rs (s.set k .un)).map fun q => (.own c :: q.1, q.2) := rfl
theorem sr_n : vStore [] [] s = some s := rfl
theorem sto_d {is : List Nat} : vStore (k :: is) (.d x :: rs) s = if wrOk s[k]? = true then vStore is rs (s.set k (.d x)) else none := rfl
theorem sto_o {is : List Nat} : vStore (k :: is) (.own c :: rs) s = if wrOk s[k]? = true then vStore is rs (s.set k (.own c)) else none := rfl
end
end VL
set_option Elab.async false
set_option linter.all false
set_option maxRecDepth 100000
/-! stepping, later constructs -/
namespace VL
open PySem PySem.Spec PyProof.Rows L2
section
variable {α β : Type} {s s1 s2 s3 : VS} {x y z : Da} {i j : Int} {k n : Nat} {c : OC} {f fa fb te : VM EV} {fs : VM (List EV)} {r : EV} {rs : List EV} {e : Err} {b : Bool} {xs ys : List Da}
theorem mulE_i : mulE (.int i) (.int j) = if i.natAbs.log2 + j.natAbs.log2 < 1000000 then some (.d (.int (i * j))) else none := rfl
theorem mulE_t : mulE (.tuple xs) (.int i) = if xs ≠ [] ∧ -1000000 ≤ i ∧ i ≤ 1000 ∧ xs.length ≤ 1000 then some (.d (.tuple (List.replicate i.toNat xs).flatten)) else none := rfl
theorem m_andV : vAndV fa fb s = bnd (fa s) fun r => vb (vOpt (evD r)) fun x => vb (vOpt (truD x)) fun k => if k = true then fb else vr (.d x) := rfl
theorem m_orV : vOrV fa fb s = bnd (fa s) fun r => vb (vOpt (evD r)) fun x => vb (vOpt (truD x)) fun k => if k = true then vr (.d x) else fb := rfl
theorem m_notE : vNotE fa s = bnd (fa s) fun r => vb (vRd r) fun x => vb (vOpt (truD x)) fun k => vr (.d (.bool (!k))) := rfl
theorem m_listRg : vListRg fa s = bnd (fa s) fun r => vb (vRd r) fun x => vOpt (lstRgD (.int 0) x) := rfl
theorem ite_t {γ : Type} {a b : γ} : (if true = true then a else b) = a := rfl
theorem ite_f {γ : Type} {a b : γ} : (if false = true then a else b) = b := rfl
theorem m_chain {g g' : Da → Da → Option EV} {fc : VM EV} : vChain g g' fa fb fc s = bnd (fa s) fun ra => vb fb fun rb => vb (vRd (VL.settle ra)) fun x => vb (vRd (VL.settle rb)) fun y => vb (vOpt ((g x y).bind evB)) fun k => if k = true then vb fc fun rc => vb (vRd (VL.settle rb)) fun y => vb (vRd rc) fun z => vOpt (g' y z) else vC (.bool false) := rfl
def fgts (is : List Nat) (s : VS) : VS := is.foldl (fun s i => fgt1 i s) s
def fgE (is : List Nat) (r : Res (Ctl × VS)) : Res (Ctl × VS) := match r with
  | .ok (.nx, s') => .ok (.nx, fgts is s')
  | .ok (.ct, s') => .ok (.ct, fgts is s')
  | r => r
variable {is : List Nat} {g : VM Ctl}
theorem m_fgt {g : VM α} : vFgt is g s = g (fgts is s) := rfl
theorem m_fgtE : vFgtE is g s = fgE is (g s) := rfl
theorem fgE_nx : fgE is (.ok (.nx, s)) = .ok (.nx, fgts is s) := rfl
theorem fgE_ct : fgE is (.ok (.ct, s)) = .ok (.ct, fgts is s) := rfl
theorem fgE_bk : fgE is (.ok (.bk, s)) = .ok (.bk, s) := rfl
theorem fgE_rt : fgE is (.ok (.rt r, s)) = .ok (.rt r, s) := rfl
theorem fgE_er : fgE is (.error e) = .error e := rfl
theorem fgts_n : fgts [] s = s := rfl
theorem fgts_c : fgts (k :: is) s = fgts is (fgt1 k s) := rfl
def fgR (k : Nat) (s : VS) : Option SV → VS
  | some (.io _) => s
  | some (.lk _) => s
  | _ => s.set k .un
theorem m_fgt1 : fgt1 k s = fgR k s s[k]? := by
  unfold fgt1 fgR
  cases s[k]? with
  | none => rfl
  | some v => cases v <;> rfl
theorem fg_d : fgR k s (some (.d x)) = s.set k .un := rfl
theorem fg_o : fgR k s (some (.own c)) = s.set k .un := rfl
theorem fg_un : fgR k s (some .un) = s.set k .un := rfl
theorem fg_rd {xs : List Da} : fgR k s (some (.rd xs)) = s.set k .un := rfl
theorem fg_io : fgR k s (some (.io c)) = s := rfl
theorem fg_lk : fgR k s (some (.lk c)) = s := rfl
end
/-! calls of defs that change none of their arguments -/
section
variable {m : FM} {s : VS} {r : EV} {x y z w : Da}
theorem callF_1 (h : m [.d x] = .ok (r, [.d x])) (hr : ∀ i, r ≠ .loan i) : callF m [.d x] s = .ok (r, s) := by
  rw [callF_ok (by simp [loans]) (by rfl) h hr, put_d, put_n]
theorem callF_2 (h : m [.d x, .d y] = .ok (r, [.d x, .d y])) (hr : ∀ i, r ≠ .loan i) : callF m [.d x, .d y] s = .ok (r, s) := by
  rw [callF_ok (by simp [loans]) (by rfl) h hr, put_d, put_d, put_n]
theorem callF_3 (h : m [.d x, .d y, .d z] = .ok (r, [.d x, .d y, .d z])) (hr : ∀ i, r ≠ .loan i) : callF m [.d x, .d y, .d z] s = .ok (r, s) := by
  rw [callF_ok (by simp [loans]) (by rfl) h hr, put_d, put_d, put_d, put_n]
theorem callF_4 (h : m [.d x, .d y, .d z, .d w] = .ok (r, [.d x, .d y, .d z, .d w])) (hr : ∀ i, r ≠ .loan i) : callF m [.d x, .d y, .d z, .d w] s = .ok (r, s) := by
  rw [callF_ok (by simp [loans]) (by rfl) h hr, put_d, put_d, put_d, put_d, put_n]
theorem dl {x : Da} : ∀ i, EV.d x ≠ .loan i := fun i h => by cases h
theorem ol {c : OC} : ∀ i, EV.own c ≠ .loan i := fun i h => by cases h
end
/-! loops as folds -/
section
variable {γ ρ : Type} {enc : γ → Da} {St : ρ → VS} {f : ρ → γ → ρ} {gt : Da → VM Unit} {g : VM Ctl} {fi : VM (List Da × Lks)} {L : Lks}
theorem forL_fold (Ok : List γ → ρ → Prop) (step : ∀ x xs a, Ok (x :: xs) a → ∃ s1 c, gt (enc x) (St a) = .ok ((), s1) ∧ g s1 = .ok (c, St (f a x)) ∧ (c = .nx ∨ c = .ct) ∧ Ok xs (f a x)) :
    ∀ xs a, Ok xs a → vForL gt g (xs.map enc) (St a) = .ok (.nx, St (xs.foldl f a))
  | [], a, _ => rfl
  | x :: xs, a, h => by
    obtain ⟨s1, c, h1, h2, hc, h3⟩ := step x xs a h
    have ih := forL_fold Ok step xs _ h3
    show vb (vNoX (gt (enc x))) _ (St a) = _
    rw [m_vb, m_nox, h1, nx_ok, bnd_ok, m_vb, h2, bnd_ok]
    rcases hc with rfl | rfl <;> exact ih
/-- a loop that a turn leaves by an exception -/
theorem forL_exc (Ok : List γ → ρ → Prop) {C : Str} {fs : List (Str × Da)} {se : VS} {z : γ} {zs : List γ} (step : ∀ x xs a, Ok (x :: xs) a → ∃ s1 c, gt (enc x) (St a) = .ok ((), s1) ∧ g s1 = .ok (c, St (f a x)) ∧ (c = .nx ∨ c = .ct) ∧ Ok xs (f a x))
    (hz : ∀ a, Ok [] a → ∃ s1, gt (enc z) (St a) = .ok ((), s1) ∧ g s1 = .error (.exc C fs se)) : ∀ xs a, Ok xs a → vForL gt g ((xs ++ z :: zs).map enc) (St a) = .error (.exc C fs se)
  | [], a, h => by
    obtain ⟨s1, h1, h2⟩ := hz a h
    show vb (vNoX (gt (enc z))) _ (St a) = _
    rw [m_vb, m_nox, h1, nx_ok, bnd_ok, m_vb, h2, bnd_er]
  | x :: xs, a, h => by
    obtain ⟨s1, c, h1, h2, hc, h3⟩ := step x xs a h
    have ih := forL_exc (zs := zs) Ok step hz xs _ h3
    show vb (vNoX (gt (enc x))) _ (St a) = _
    rw [m_vb, m_nox, h1, nx_ok, bnd_ok, m_vb, h2, bnd_ok]
    rcases hc with rfl | rfl <;> exact ih
theorem for_exc (Ok : List γ → ρ → Prop) {C : Str} {fs : List (Str × Da)} {se : VS} {z : γ} {zs : List γ} (step : ∀ x xs a, Ok (x :: xs) a → ∃ s1 c, gt (enc x) (St a) = .ok ((), s1) ∧ g s1 = .ok (c, St (f a x)) ∧ (c = .nx ∨ c = .ct) ∧ Ok xs (f a x))
    (hz : ∀ a, Ok [] a → ∃ s1, gt (enc z) (St a) = .ok ((), s1) ∧ g s1 = .error (.exc C fs se)) {xs : List γ} {a : ρ} {s : VS} (hi : fi s = .ok (((xs ++ z :: zs).map enc, L), St a)) (h0 : Ok xs a) : vFor fi gt g s = .error (.exc C fs (unlock L se)) := by
  rw [m_for, hi, bnd_ok]; dsimp only; rw [forL_exc Ok step hz xs a h0]
theorem run_exc {N : Nat} {g : VM Ctl} {st0 s : VS} {C : Str} {fs : List (Str × Da)} (h : g (st0 ++ List.replicate (N - st0.length) .un) = .error (.exc C fs s)) : runF N g st0 = .error (.exc C fs (outs st0 s)) := by
  unfold runF
  rw [h]
theorem run_d {N : Nat} {g : VM Ctl} {st0 st s o : VS} {x : Da} (h : g st = .ok (.rt (.d x), s)) (hst : st0 ++ List.replicate (N - st0.length) .un = st := by rfl) (ho : outs st0 s = o := by rfl) : runF N g st0 = .ok (.d x, o) := by
  subst hst; subst ho; exact run_ok h rfl
theorem run_own {N : Nat} {g : VM Ctl} {st0 st s o : VS} {c : OC} (h : g st = .ok (.rt (.own c), s)) (hst : st0 ++ List.replicate (N - st0.length) .un = st := by rfl) (ho : outs st0 s = o := by rfl) : runF N g st0 = .ok (.own c, o) := by
  subst hst; subst ho; exact run_ok h rfl
/-- what a name holds is given back -/
theorem run_loan {N : Nat} {g : VM Ctl} {st0 st s o : VS} {c : OC} {i : Nat} (h : g st = .ok (.rt (.loan i), s)) (hi : s[i]? = some (.own c) := by rfl) (hst : st0 ++ List.replicate (N - st0.length) .un = st := by rfl) (ho : outs st0 s = o := by rfl) : runF N g st0 = .ok (.own c, o) := by
  subst hst; subst ho
  exact run_ok h (by unfold retV; dsimp only; simp only [hi])
theorem run_e {N : Nat} {g : VM Ctl} {st0 st s o : VS} {C : Str} {fs : List (Str × Da)} (h : g st = .error (.exc C fs s)) (hst : st0 ++ List.replicate (N - st0.length) .un = st := by rfl) (ho : outs st0 s = o := by rfl) : runF N g st0 = .error (.exc C fs o) := by
  subst hst; subst ho; exact run_exc h
theorem callF_e {m : FM} {rs : List EV} {st0 o s : VS} {C : Str} {fs : List (Str × Da)} (nd : (loans rs).Nodup) (ha : argSV s rs = some st0) (hm : m st0 = .error (.exc C fs o)) : callF m rs s = .error (.exc C fs (putOuts rs o s)) := by
  unfold callF
  rw [if_pos nd, ha]
  dsimp only
  rw [hm]
theorem m_raise {C : Str} {nm : List Str} {fs : VM (List EV)} {s : VS} : vRaise C nm fs s = bnd (fs s) fun rs => vb (vOpt (dts rs)) fun xs => fun s => if xs.length = nm.length then .error (.exc C (nm.zip xs).reverse s) else .error .stuck := rfl
theorem for_fold (Ok : List γ → ρ → Prop) (step : ∀ x xs a, Ok (x :: xs) a → ∃ s1 c, gt (enc x) (St a) = .ok ((), s1) ∧ g s1 = .ok (c, St (f a x)) ∧ (c = .nx ∨ c = .ct) ∧ Ok xs (f a x))
    {xs : List γ} {a : ρ} {s : VS} (hi : fi s = .ok ((xs.map enc, L), St a)) (h0 : Ok xs a) : vFor fi gt g s = .ok (.nx, unlock L (St (xs.foldl f a))) := by
  rw [m_for, hi, bnd_ok]; dsimp only; rw [forL_fold Ok step xs a h0]
end
end VL
set_option Elab.async false
set_option linter.all false
set_option maxRecDepth 100000
namespace LB
open PySem PySem.Spec PyProof.Rows L2 VL
/-- _law_bag -/
def g__law_bag : VM Ctl :=
  (vRet ((vList ((vCons (vC (.int 0)) ((vCons (vC (.int 1234567891)) ((vCons (vC (.int 0)) ((vCons ((vLcF [1] (vItSeq ((vSl (vVar 0) (vPart none) (vPart (some (vC (.int 63))))))) (vSetD 1) (vr true) ((vCall absD ((vCons (vVar 1) (vr []))))))) (vr []))))))))))))
def F__law_bag : FM := runF 2 g__law_bag
/-- _law_take -/
def law_take_s1 : VM Ctl :=
  (vIf ((vBool (vBin gtD ((vBin ixD (vVar 0) (vC (.int 0)))) (vC (.int 0))))) (vSeq (vAsg ((vBin modD ((vCall toIntD ((vCons ((vBin ixD (vVar 0) (vC (.int 0)))) (vr []))))) (vVar 1))) (vSet 4))
      (vSeq (vAsgD ((vBin fdivD ((vCall toIntD ((vCons ((vBin ixD (vVar 0) (vC (.int 0)))) (vr []))))) (vVar 1))) (vSub (vVar 0) (vC (.int 0))))
      (vFrz [4] (vRet (vVar 4))))) vNx)
def law_take_s2 : VM Ctl :=
  (vIf ((vBool (vBin geD (vVar 2) ((vBin powD (vC (.int 10)) (vC (.int 18))))))) (vFrz [2] (vAsgD (vVar 2) (vSub (vVar 0) (vC (.int 0))))) vNx)
def law_take_s3 : VM Ctl :=
  (vIf ((vBool (vBin eqF ((vBin ixD (vVar 0) (vC (.int 0)))) (vC (.int 0))))) (vSeq (vAsg ((vBin ixD ((vBin addD ((vSl ((vBin ixD (vVar 0) (vC (.int 3)))) (vPart (some ((vBin ixD (vVar 0) (vC (.int 2)))))) (vPart none))) ((vList ((vCons (vC (.int 0)) (vr []))))))) (vC (.int 0)))) (vSet 2))
      (vSeq (vAugS iaddD (vVar 0) (vC (.int 2)) (vC (.int 1)))
      (vSeq (vFrz [2] law_take_s2)
      (vSeq (vFrz [2] (vAsg ((vBin addD ((vBin addD ((vBin mulE ((vBin ixD (vVar 0) (vC (.int 1)))) (vC (.int 48271)))) ((vBin modD ((vCall toIntD ((vCons (vVar 2) (vr []))))) (vC (.int 2147483647)))))) ((vBin mulE (vC (.int 7919)) ((vBin ixD (vVar 0) (vC (.int 2)))))))) (vSet 3)))
      (vFrz [3] (vAsgD ((vBin modD ((vCall toIntD ((vCons (vVar 3) (vr []))))) (vC (.int 2147483647)))) (vSub (vVar 0) (vC (.int 1))))))))) vNx)
def g__law_take : VM Ctl :=
  (vSeq law_take_s3
      (vSeq law_take_s1
      (vSeq (vAsg ((vBin modD ((vCall toIntD ((vCons ((vBin mulE ((vBin addD ((vBin ixD (vVar 0) (vC (.int 1)))) (vC (.int 1)))) (vC (.int 39373)))) (vr []))))) (vC (.int 1000000007)))) (vSet 5))
      (vSeq (vFrz [5] (vAsg ((vBin modD ((vCall toIntD ((vCons ((vBin mulE ((vBin modD ((vCall toIntD ((vCons ((vBin mulE (vVar 5) (vVar 5))) (vr []))))) (vC (.int 998244353)))) (vC (.int 30011)))) (vr []))))) (vC (.int 998244353)))) (vSet 6)))
      (vFrz [6] (vRet ((vBin modD ((vCall toIntD ((vCons ((vBin fdivD (vVar 6) (vC (.int 7)))) (vr []))))) (vVar 1)))))))))
def F__law_take : FM := runF 7 g__law_take
/-- _law_alike -/
def law_alike_s1 : VM Ctl :=
  (vIf ((vOr ((vBool (vBin neF ((vIsi [.tuple] (vVar 4))) ((vIsi [.tuple] (vVar 5)))))) ((vBool (vBin neF ((vCall lenD ((vCons (vVar 4) (vr []))))) ((vCall lenD ((vCons (vVar 5) (vr [])))))))))) (vRet (vC (.bool false))) vNx)
def law_alike_s2 : VM Ctl :=
  (vIf ((vBool (vBin neF (vVar 4) (vVar 5)))) (vRet (vC (.bool false))) vNx)
def law_alike_s3 : VM Ctl :=
  (vIf ((vTru ((vIsi [.tuple, .list] (vVar 4))))) (vSeq (vFrz [4, 5] law_alike_s1)
      (vFrz [4, 5] (vDrop ((vMutB extendD (vVar 2) ((vCons ((vCall zipL ((vCons (vVar 4) ((vCons (vVar 5) (vr []))))))) (vr [])))))))) (vFrz [4, 5] law_alike_s2))
def law_alike_s4 : VM Ctl :=
  (vIf ((vBool (vBin neF ((vIsi [.tuple, .list] (vVar 4))) ((vIsi [.tuple, .list] (vVar 5)))))) (vRet (vC (.bool false))) vNx)
def law_alike_s5 : VM Ctl :=
  (vIf ((vOr ((vBool (vBin neF ((vIsi [.bool] (vVar 4))) ((vIsi [.bool] (vVar 5)))))) ((vBool (vBin neF ((vIsi [.str] (vVar 4))) ((vIsi [.str] (vVar 5)))))))) (vRet (vC (.bool false))) vNx)
def law_alike_s6 : VM Ctl :=
  (vWhile ((vBool (vBin ltD (vVar 3) ((vCall lenD ((vCons (vVar 2) (vr [])))))))) (vSeq (vFrz [3] (vAsgD ((vBin ixD (vVar 2) (vVar 3))) (vUnpT [(vSetD 4), (vSetD 5)])))
      (vSeq (vAug 3 iaddD (vC (.int 1)))
      (vSeq (vFrz [4, 5] law_alike_s5)
      (vSeq (vFrz [4, 5] law_alike_s4)
      (vFrz [4] law_alike_s3))))))
def g__law_alike : VM Ctl :=
  (vSeq (vPar [2, 3] (vPc ((vList ((vCons ((vTuple ((vCons (vVar 0) ((vCons (vVar 1) (vr []))))))) (vr []))))) ((vPc (vC (.int 0)) (vr [])))))
      (vSeq (vFrz [3] law_alike_s6)
      (vRet (vC (.bool true)))))
def F__law_alike : FM := runF 6 g__law_alike
/-- _law_yard -/
def g__law_yard : VM Ctl :=
  (vRet ((vCall tupleD ((vCons ((vLcF [2] (vItRng ((vCons ((vBin addD (vC (.int 1)) ((vCallF F__law_take ((vCons (vVar 0) ((vCons (vVar 1) (vr []))))))))) (vr [])))) (vSetD 2) (vr true) ((vCallF F__law_take ((vCons (vVar 0) ((vCons (vC (.int 2)) (vr []))))))))) (vr []))))))
def F__law_yard : FM := runF 3 g__law_yard
/-- _law_codes -/
def law_codes_s1 : VM Ctl :=
  (vFor (vItSeq (vVar 2)) (vSetD 5) (vFrz [5] (vDrop ((vMutB extendD (vVar 4) ((vCons ((vLcF [6] (vItRng ((vCons ((vCall lenD ((vCons (vVar 0) (vr []))))) (vr [])))) (vSetD 6) (vr true) ((vBin addD (vVar 5) ((vTuple ((vCons (vVar 6) (vr []))))))))) (vr []))))))))
def law_codes_s2 : VM Ctl :=
  (vFor (vItRng ((vCons (vVar 1) (vr [])))) (vSetD 3) (vSeq (vAsg ((vList (vr []))) (vSet 4))
      (vSeq (vFrz [2] law_codes_s1)
      (vPar [2] (vPc (vVar 4) (vr []))))))
def g__law_codes : VM Ctl :=
  (vSeq (vAsg ((vList ((vCons ((vTuple (vr []))) (vr []))))) (vSet 2))
      (vSeq law_codes_s2
      (vFrz [2] (vRet (vVar 2)))))
def F__law_codes : FM := runF 7 g__law_codes
/-- _law_rolled -/
def g__law_rolled : VM Ctl :=
  (vRet ((vLcF [3] (vItRng ((vCons ((vCall lenD ((vCons (vVar 0) (vr []))))) (vr [])))) (vSetD 3) (vr true) ((vLcF [4] (vItSeq (vVar 1)) (vSetD 4) (vBool (vBin eqF ((vBin ixD (vVar 2) (vVar 4))) (vVar 3))) (vVar 4))))))
def F__law_rolled : FM := runF 5 g__law_rolled
/-- _law_pass -/
def law_pass_s1 : VM Ctl :=
  (vFor (vItZip ((vCons (vVar 0) ((vCons ((vCallF F__law_rolled ((vCons (vVar 0) ((vCons (vVar 1) ((vCons (vVar 2) (vr []))))))))) (vr [])))))) (vUnpT [(vSetD 4), (vSetD 5)]) (vFrz [4, 5] (vDrop ((vMutB extendD (vVar 3) ((vCons ((vIte ((vBool (vBin eqF (vVar 4) (vC (.int 0))))) (vVar 5) ((vUn revD (vVar 5))))) (vr []))))))))
def g__law_pass : VM Ctl :=
  (vSeq (vAsg ((vList (vr []))) (vSet 3))
      (vSeq law_pass_s1
      (vRet (vVar 3))))
def F__law_pass : FM := runF 6 g__law_pass
/-- _law_some -/
def g__law_some : VM Ctl :=
  (vRet ((vBin ixD (vVar 1) ((vCallF F__law_take ((vCons (vVar 0) ((vCons ((vCall lenD ((vCons (vVar 1) (vr []))))) (vr []))))))))))
def F__law_some : FM := runF 2 g__law_some
/-- _law_mixed -/
def law_mixed_s1 : VM Ctl :=
  (vWhile ((vBool (vBin neF (vVar 2) ((vList (vr [])))))) (vDrop ((vMut appendD (vVar 3) ((vCons ((vMut popAtD (vVar 2) ((vCons ((vCallF F__law_take ((vCons (vVar 0) ((vCons ((vCall lenD ((vCons (vVar 2) (vr []))))) (vr []))))))) (vr []))))) (vr [])))))))
def g__law_mixed : VM Ctl :=
  (vSeq (vPar [2, 3] (vPc ((vCall listD ((vCons (vVar 1) (vr []))))) ((vPc ((vList (vr []))) (vr [])))))
      (vSeq law_mixed_s1
      (vRet (vVar 3))))
def F__law_mixed : FM := runF 4 g__law_mixed
/-- _law_is_int -/
def g__law_is_int : VM Ctl :=
  (vRet ((vAndV ((vIsi [.int] (vVar 0))) ((vNotE ((vIsi [.bool] (vVar 0))))))))
def F__law_is_int : FM := runF 1 g__law_is_int
end LB
set_option Elab.async false
set_option linter.all false
set_option maxRecDepth 100000
namespace LB
open PySem PySem.Spec PyProof.Rows L2 VL
theorem seq_then {f g : VM Ctl} {s s1 : VS} {r : Res (Ctl × VS)} (h : f s = .ok (.nx, s1)) (h2 : g s1 = r) : vSeq f g s = r := by rw [m_seq, h]; exact h2
theorem at_0 {x : Da} {xs : List Da} : atI (x :: xs) 0 = some x := by rw [at_nat (by decide)]; rfl
theorem at_1 {x y : Da} {xs : List Da} : atI (x :: y :: xs) 1 = some y := by rw [at_nat (by decide)]; rfl
theorem at_2 {x y z : Da} {xs : List Da} : atI (x :: y :: z :: xs) 2 = some z := by rw [at_nat (by decide)]; rfl
theorem at_3 {x y z w : Da} {xs : List Da} : atI (x :: y :: z :: w :: xs) 3 = some w := by rw [at_nat (by decide)]; rfl
theorem sd_0 {x y : Da} {xs : List Da} : setD (x :: xs) [.int 0, y] = some (y :: xs, .none) := by rw [setD_i (by decide) (by simp only [List.length_cons]; omega)]; rfl
theorem sd_1 {x y z : Da} {xs : List Da} : setD (x :: y :: xs) [.int 1, z] = some (x :: z :: xs, .none) := by rw [setD_i (by decide) (by simp only [List.length_cons]; omega)]; rfl
theorem sd_2 {x y z w : Da} {xs : List Da} : setD (x :: y :: z :: xs) [.int 2, w] = some (x :: y :: w :: xs, .none) := by rw [setD_i (by decide) (by simp only [List.length_cons]; omega)]; rfl
theorem cut_from {xs : List Da} {i : Int} (h : 0 ≤ i) : VL.cutD xs (some i) none = xs.drop i.toNat := by
  obtain ⟨k, rfl⟩ := Int.eq_ofNat_of_zero_le h
  unfold VL.cutD
  rw [show HT.sIx xs.length 0 (some (k : Int)) = min k xs.length from HT.sIx_nat xs.length 0 k, HT.sIx_none]
  show List.take _ _ = List.drop k xs
  by_cases hk : k ≤ xs.length
  · rw [Nat.min_eq_left hk, List.take_of_length_le (by rw [List.length_drop]; exact Nat.le_refl _)]
  · rw [Nat.min_eq_right (by omega), List.drop_of_length_le (Nat.le_refl _), List.drop_of_length_le (by omega), List.take_nil]
def bagL (b0 b1 b2 : Int) (cs : List Int) : List Da := [.int b0, .int b1, .int b2, .list (cs.map PyData.int)]
/-- a bag of which n more numbers may be drawn -/
def BagOk (n : Nat) (bag : List Da) : Prop := ∃ (b0 b1 b2 : Int) (cs : List Int), bag = bagL b0 b1 b2 cs ∧ 0 ≤ b0 ∧ 0 ≤ b1 ∧ b1 < 4294967296 ∧ 0 ≤ b2 ∧ b2 + n ≤ 4611686018427387904 ∧ (∀ c ∈ cs, 0 ≤ c) ∧ cs.length ≤ 100000
theorem BagOk.mono {m n : Nat} {bag : List Da} (h : BagOk n bag) (hm : m ≤ n) : BagOk m bag := by
  obtain ⟨b0, b1, b2, cs, e, h0, h1, h2, h3, h4, h5, h6⟩ := h
  exact ⟨b0, b1, b2, cs, e, h0, h1, h2, h3, by omega, h5, h6⟩
theorem lg {i : Int} (h0 : 0 ≤ i) (h1 : i < 9223372036854775808) : i.natAbs.log2 < 64 := by
  by_cases h : i.natAbs = 0
  · rw [h]; decide
  · exact (Nat.log2_lt h).mpr (by omega)
theorem mulg {i j : Int} (h0 : 0 ≤ i) (h1 : i < 9223372036854775808) (g0 : 0 ≤ j) (g1 : j < 9223372036854775808) : i.natAbs.log2 + j.natAbs.log2 < 1000000 := by
  have := lg h0 h1
  have := lg g0 g1
  omega
theorem head_cell (cs : List Int) (k : Nat) (h : ∀ c ∈ cs, 0 ≤ c) : ∃ c : Int, 0 ≤ c ∧ atI ((cs.map PyData.int).drop k ++ [.int 0]) 0 = some (.int c) := by
  rw [at_nat (by decide)]
  by_cases hk : k < cs.length
  · refine ⟨cs[k], h _ (List.getElem_mem hk), ?_⟩
    have : (0 : Int).toNat = 0 := rfl
    rw [this, List.getElem?_append_left (by rw [List.length_drop, List.length_map]; omega), List.getElem?_drop, List.getElem?_map, Nat.add_zero, List.getElem?_eq_getElem hk]; rfl
  · refine ⟨0, by decide, ?_⟩
    rw [List.drop_of_length_le (by rw [List.length_map]; omega)]; rfl
theorem take_ok {n : Nat} {bag : List Da} {m : Int} (hb : BagOk (n + 1) bag) (hm : 0 < m) (hm2 : m < 9223372036854775808) :
    ∃ (v : Int) (bag' : List Da), F__law_take [.io (.l bag), .d (.int m)] = .ok (.d (.int v), [.io (.l bag'), .d (.int m)]) ∧ 0 ≤ v ∧ v < m ∧ BagOk n bag' := by
  obtain ⟨b0, b1, b2, cs, rfl, h0, h1, h2, h3, h4, h5, h6⟩ := hb
  have key : ∃ (v : Int) (b0' b1' b2' : Int) (s : VS), g__law_take ([.io (.l (bagL b0 b1 b2 cs)), .d (.int m)] ++ List.replicate (7 - 2) .un) = .ok (.rt (.d (.int v)), .io (.l (bagL b0' b1' b2' cs)) :: s) ∧ s ≠ [] ∧ 0 ≤ v ∧ v < m ∧ BagOk n (bagL b0' b1' b2' cs) := by
    have e : ([.io (.l (bagL b0 b1 b2 cs)), .d (.int m)] ++ List.replicate (7 - 2) .un : VS) = [.io (.l (bagL b0 b1 b2 cs)), .d (.int m), .un, .un, .un, .un, .un] := rfl
    rw [e]
    unfold g__law_take law_take_s3 law_take_s2 law_take_s1 bagL
    have hml := lg (Int.le_of_lt hm) hm2
    -- the second half
    have fin : ∀ (b0 b1 b2 : Int) (x2 x3 : SV), 0 ≤ b0 → 0 ≤ b1 → b1 < 4294967296 → 0 ≤ b2 → b2 + n ≤ 4611686018427387904 → ∃ (v : Int) (b0' b1' b2' : Int) (s : VS), (vSeq (vIf ((VL.vBool (vBin gtD ((vBin ixD (vVar 0) (vC (.int 0)))) (vC (.int 0))))) (vSeq (vAsg ((vBin modD ((vCall toIntD ((vCons ((vBin ixD (vVar 0) (vC (.int 0)))) (vr []))))) (vVar 1))) (vSet 4))
      (vSeq (vAsgD ((vBin fdivD ((vCall toIntD ((vCons ((vBin ixD (vVar 0) (vC (.int 0)))) (vr []))))) (vVar 1))) (vSub (vVar 0) (vC (.int 0))))
      (vFrz [4] (vRet (vVar 4))))) vNx)
      (vSeq (vAsg ((vBin modD ((vCall toIntD ((vCons ((vBin mulE ((vBin addD ((vBin ixD (vVar 0) (vC (.int 1)))) (vC (.int 1)))) (vC (.int 39373)))) (vr []))))) (vC (.int 1000000007)))) (vSet 5))
      (vSeq (vFrz [5] (vAsg ((vBin modD ((vCall toIntD ((vCons ((vBin mulE ((vBin modD ((vCall toIntD ((vCons ((vBin mulE (vVar 5) (vVar 5))) (vr []))))) (vC (.int 998244353)))) (vC (.int 30011)))) (vr []))))) (vC (.int 998244353)))) (vSet 6)))
      (vFrz [6] (vRet ((vBin modD ((vCall toIntD ((vCons ((vBin fdivD (vVar 6) (vC (.int 7)))) (vr []))))) (vVar 1))))))))
        [.io (.l [.int b0, .int b1, .int b2, .list (cs.map PyData.int)]), .d (.int m), x2, x3, .un, .un, .un] = .ok (.rt (.d (.int v)), .io (.l [.int b0', .int b1', .int b2', .list (cs.map PyData.int)]) :: s) ∧ s ≠ [] ∧ 0 ≤ v ∧ v < m ∧ BagOk n [.int b0', .int b1', .int b2', .list (cs.map PyData.int)] := by
      intro b0 b1 b2 x2 x3 h0 h1 h2 h3 h4
      by_cases hb : 0 < b0
      · simp only [m_vb, bnd_ok, bnd_er, m_vr, m_stuck, m_seq, bS_nx, bS_bk, bS_ct, bS_rt, bS_er, m_if, m_ite, bI_t, bI_f, bI_er, m_and, m_or, m_not, m_bool, evB_b, m_opt, m_optn, m_tru, tru_b, tru_i, tru_n, tru_l, tru_t, m_var, var_d, var_own, var_io, var_lk, var_rd, m_c, st_d, st_o, st_l, oc_l, oc_m, rd_d, rd_o, rd_l, rdR_own, rdR_io, rdR_lk, m_bin, m_un, m_call, m_rdn, m_rdc, m_cons, m_conss, m_tup, m_lst, dts_n, dts_c, o_map, o_bind, add_i, sub_i, mul_i, mod_i, fdiv_i, pow_i, neg_i, iadd_i, abs_i, int_i, int_b, len_l, len_t, add_l, add_t, lt_i, le_i, gt_i, ge_i, eq_i, ne_i, eqF_i, neF_i, tuple_l, tuple_t, list_l, list_t, ix_l, ix_t, m_ret, m_drop, m_nx, m_asg, m_nox, nx_ok, set_d, set_o, setD_, wr_un, wr_d, wr_o, wr_rd, m_aug, m_asgD, evD_d, evD_o, m_frzn, m_frzc, m_frz1, fz_d, fz_un, fz_io, fz_lk, fz_rd, fz_o, m_sub, m_augS, m_app, ap_o, ap_io, m_ct, ct_o, ct_io, m_isl, is_o, is_io, m_mut, m_mutB, m_mut0, intD_i, m_sl, m_pn, m_ps, rs_d, rs_l, rsR_rd, rsR_o, rsR_io, sl_l, sl_t, arg_n, arg_c, arg_d, arg_l, ar_o, ar_io, ar_lk, ar_rd, put_n, put_d, put_io, m_put, pt_o, pt_io, i_seq, src_l, src_t, src_o, src_n, sr_o, sr_io, sr_lk, i_rng, i_enum, i_zip, i_rev, unl_n, unl_c, unl_1, ul_lk, ob_t, ob_f, wp_n, wp_c, rt_n, rt_c, fl_un, fl_d, m_unpT, tupD_t, unp_n, unp_c, range_1, range_2, ext_l, ext_t, app_1, m_pc, m_par, rl_n, rl_d, rl_o, rl_l, rlR_o, sr_n, sto_d, sto_o, mulE_i, mulE_t, m_andV, m_orV, m_notE, m_listRg, ite_t, ite_f, m_chain, m_fgt, m_fgtE, fgE_nx, fgE_ct, fgE_bk, fgE_rt, fgE_er, fgts_n, fgts_c, m_fgt1, fg_d, fg_o, fg_un, fg_rd, fg_io, fg_lk, m_raise, List.getElem?_cons_zero, List.getElem?_cons_succ, List.set_cons_zero, List.set_cons_succ, Option.map_some, Option.bind_some, if_true, and_self, at_0, at_1, at_2, at_3, sd_0, sd_1, sd_2, hm, hb, decide_true]
        rw [if_pos ⟨trivial, by omega⟩]
        simp only [m_vb, bnd_ok, bnd_er, m_vr, m_stuck, m_seq, bS_nx, bS_bk, bS_ct, bS_rt, bS_er, m_if, m_ite, bI_t, bI_f, bI_er, m_and, m_or, m_not, m_bool, evB_b, m_opt, m_optn, m_tru, tru_b, tru_i, tru_n, tru_l, tru_t, m_var, var_d, var_own, var_io, var_lk, var_rd, m_c, st_d, st_o, st_l, oc_l, oc_m, rd_d, rd_o, rd_l, rdR_own, rdR_io, rdR_lk, m_bin, m_un, m_call, m_rdn, m_rdc, m_cons, m_conss, m_tup, m_lst, dts_n, dts_c, o_map, o_bind, add_i, sub_i, mul_i, mod_i, fdiv_i, pow_i, neg_i, iadd_i, abs_i, int_i, int_b, len_l, len_t, add_l, add_t, lt_i, le_i, gt_i, ge_i, eq_i, ne_i, eqF_i, neF_i, tuple_l, tuple_t, list_l, list_t, ix_l, ix_t, m_ret, m_drop, m_nx, m_asg, m_nox, nx_ok, set_d, set_o, setD_, wr_un, wr_d, wr_o, wr_rd, m_aug, m_asgD, evD_d, evD_o, m_frzn, m_frzc, m_frz1, fz_d, fz_un, fz_io, fz_lk, fz_rd, fz_o, m_sub, m_augS, m_app, ap_o, ap_io, m_ct, ct_o, ct_io, m_isl, is_o, is_io, m_mut, m_mutB, m_mut0, intD_i, m_sl, m_pn, m_ps, rs_d, rs_l, rsR_rd, rsR_o, rsR_io, sl_l, sl_t, arg_n, arg_c, arg_d, arg_l, ar_o, ar_io, ar_lk, ar_rd, put_n, put_d, put_io, m_put, pt_o, pt_io, i_seq, src_l, src_t, src_o, src_n, sr_o, sr_io, sr_lk, i_rng, i_enum, i_zip, i_rev, unl_n, unl_c, unl_1, ul_lk, ob_t, ob_f, wp_n, wp_c, rt_n, rt_c, fl_un, fl_d, m_unpT, tupD_t, unp_n, unp_c, range_1, range_2, ext_l, ext_t, app_1, m_pc, m_par, rl_n, rl_d, rl_o, rl_l, rlR_o, sr_n, sto_d, sto_o, mulE_i, mulE_t, m_andV, m_orV, m_notE, m_listRg, ite_t, ite_f, m_chain, m_fgt, m_fgtE, fgE_nx, fgE_ct, fgE_bk, fgE_rt, fgE_er, fgts_n, fgts_c, m_fgt1, fg_d, fg_o, fg_un, fg_rd, fg_io, fg_lk, m_raise, List.getElem?_cons_zero, List.getElem?_cons_succ, List.set_cons_zero, List.set_cons_succ, Option.map_some, Option.bind_some, if_true, and_self, at_0, at_1, at_2, at_3, sd_0, sd_1, sd_2]
        exact ⟨_, _, _, _, _, rfl, by simp, Int.emod_nonneg _ (by omega), Int.emod_lt_of_pos _ hm, _, _, _, cs, rfl, Int.ediv_nonneg h0 (by omega), h1, h2, h3, h4, h5, h6⟩
      · have g1 : (b1 + 1).natAbs.log2 + (39373 : Int).natAbs.log2 < 1000000 := mulg (by omega) (by omega) (by decide) (by decide)
        simp only [m_vb, bnd_ok, bnd_er, m_vr, m_stuck, m_seq, bS_nx, bS_bk, bS_ct, bS_rt, bS_er, m_if, m_ite, bI_t, bI_f, bI_er, m_and, m_or, m_not, m_bool, evB_b, m_opt, m_optn, m_tru, tru_b, tru_i, tru_n, tru_l, tru_t, m_var, var_d, var_own, var_io, var_lk, var_rd, m_c, st_d, st_o, st_l, oc_l, oc_m, rd_d, rd_o, rd_l, rdR_own, rdR_io, rdR_lk, m_bin, m_un, m_call, m_rdn, m_rdc, m_cons, m_conss, m_tup, m_lst, dts_n, dts_c, o_map, o_bind, add_i, sub_i, mul_i, mod_i, fdiv_i, pow_i, neg_i, iadd_i, abs_i, int_i, int_b, len_l, len_t, add_l, add_t, lt_i, le_i, gt_i, ge_i, eq_i, ne_i, eqF_i, neF_i, tuple_l, tuple_t, list_l, list_t, ix_l, ix_t, m_ret, m_drop, m_nx, m_asg, m_nox, nx_ok, set_d, set_o, setD_, wr_un, wr_d, wr_o, wr_rd, m_aug, m_asgD, evD_d, evD_o, m_frzn, m_frzc, m_frz1, fz_d, fz_un, fz_io, fz_lk, fz_rd, fz_o, m_sub, m_augS, m_app, ap_o, ap_io, m_ct, ct_o, ct_io, m_isl, is_o, is_io, m_mut, m_mutB, m_mut0, intD_i, m_sl, m_pn, m_ps, rs_d, rs_l, rsR_rd, rsR_o, rsR_io, sl_l, sl_t, arg_n, arg_c, arg_d, arg_l, ar_o, ar_io, ar_lk, ar_rd, put_n, put_d, put_io, m_put, pt_o, pt_io, i_seq, src_l, src_t, src_o, src_n, sr_o, sr_io, sr_lk, i_rng, i_enum, i_zip, i_rev, unl_n, unl_c, unl_1, ul_lk, ob_t, ob_f, wp_n, wp_c, rt_n, rt_c, fl_un, fl_d, m_unpT, tupD_t, unp_n, unp_c, range_1, range_2, ext_l, ext_t, app_1, m_pc, m_par, rl_n, rl_d, rl_o, rl_l, rlR_o, sr_n, sto_d, sto_o, mulE_i, mulE_t, m_andV, m_orV, m_notE, m_listRg, ite_t, ite_f, m_chain, m_fgt, m_fgtE, fgE_nx, fgE_ct, fgE_bk, fgE_rt, fgE_er, fgts_n, fgts_c, m_fgt1, fg_d, fg_o, fg_un, fg_rd, fg_io, fg_lk, m_raise, List.getElem?_cons_zero, List.getElem?_cons_succ, List.set_cons_zero, List.set_cons_succ, Option.map_some, Option.bind_some, if_true, and_self, at_0, at_1, at_2, at_3, sd_0, sd_1, sd_2, hm, hb, decide_false, g1]
        have p1 : (0 : Int) < 1000000007 := by decide
        have p2 : (0 : Int) < 998244353 := by decide
        simp only [m_vb, bnd_ok, bnd_er, m_vr, m_stuck, m_seq, bS_nx, bS_bk, bS_ct, bS_rt, bS_er, m_if, m_ite, bI_t, bI_f, bI_er, m_and, m_or, m_not, m_bool, evB_b, m_opt, m_optn, m_tru, tru_b, tru_i, tru_n, tru_l, tru_t, m_var, var_d, var_own, var_io, var_lk, var_rd, m_c, st_d, st_o, st_l, oc_l, oc_m, rd_d, rd_o, rd_l, rdR_own, rdR_io, rdR_lk, m_bin, m_un, m_call, m_rdn, m_rdc, m_cons, m_conss, m_tup, m_lst, dts_n, dts_c, o_map, o_bind, add_i, sub_i, mul_i, mod_i, fdiv_i, pow_i, neg_i, iadd_i, abs_i, int_i, int_b, len_l, len_t, add_l, add_t, lt_i, le_i, gt_i, ge_i, eq_i, ne_i, eqF_i, neF_i, tuple_l, tuple_t, list_l, list_t, ix_l, ix_t, m_ret, m_drop, m_nx, m_asg, m_nox, nx_ok, set_d, set_o, setD_, wr_un, wr_d, wr_o, wr_rd, m_aug, m_asgD, evD_d, evD_o, m_frzn, m_frzc, m_frz1, fz_d, fz_un, fz_io, fz_lk, fz_rd, fz_o, m_sub, m_augS, m_app, ap_o, ap_io, m_ct, ct_o, ct_io, m_isl, is_o, is_io, m_mut, m_mutB, m_mut0, intD_i, m_sl, m_pn, m_ps, rs_d, rs_l, rsR_rd, rsR_o, rsR_io, sl_l, sl_t, arg_n, arg_c, arg_d, arg_l, ar_o, ar_io, ar_lk, ar_rd, put_n, put_d, put_io, m_put, pt_o, pt_io, i_seq, src_l, src_t, src_o, src_n, sr_o, sr_io, sr_lk, i_rng, i_enum, i_zip, i_rev, unl_n, unl_c, unl_1, ul_lk, ob_t, ob_f, wp_n, wp_c, rt_n, rt_c, fl_un, fl_d, m_unpT, tupD_t, unp_n, unp_c, range_1, range_2, ext_l, ext_t, app_1, m_pc, m_par, rl_n, rl_d, rl_o, rl_l, rlR_o, sr_n, sto_d, sto_o, mulE_i, mulE_t, m_andV, m_orV, m_notE, m_listRg, ite_t, ite_f, m_chain, m_fgt, m_fgtE, fgE_nx, fgE_ct, fgE_bk, fgE_rt, fgE_er, fgts_n, fgts_c, m_fgt1, fg_d, fg_o, fg_un, fg_rd, fg_io, fg_lk, m_raise, List.getElem?_cons_zero, List.getElem?_cons_succ, List.set_cons_zero, List.set_cons_succ, Option.map_some, Option.bind_some, if_true, and_self, p1, p2]
        generalize hx : (b1 + 1) * 39373 % 1000000007 = x
        have x0 : 0 ≤ x := by rw [← hx]; exact Int.emod_nonneg _ (by decide)
        have x1 : x < 1000000007 := by rw [← hx]; exact Int.emod_lt_of_pos _ (by decide)
        have g2 : x.natAbs.log2 + x.natAbs.log2 < 1000000 := mulg x0 (by omega) x0 (by omega)
        simp only [m_vb, bnd_ok, bnd_er, m_vr, m_stuck, m_seq, bS_nx, bS_bk, bS_ct, bS_rt, bS_er, m_if, m_ite, bI_t, bI_f, bI_er, m_and, m_or, m_not, m_bool, evB_b, m_opt, m_optn, m_tru, tru_b, tru_i, tru_n, tru_l, tru_t, m_var, var_d, var_own, var_io, var_lk, var_rd, m_c, st_d, st_o, st_l, oc_l, oc_m, rd_d, rd_o, rd_l, rdR_own, rdR_io, rdR_lk, m_bin, m_un, m_call, m_rdn, m_rdc, m_cons, m_conss, m_tup, m_lst, dts_n, dts_c, o_map, o_bind, add_i, sub_i, mul_i, mod_i, fdiv_i, pow_i, neg_i, iadd_i, abs_i, int_i, int_b, len_l, len_t, add_l, add_t, lt_i, le_i, gt_i, ge_i, eq_i, ne_i, eqF_i, neF_i, tuple_l, tuple_t, list_l, list_t, ix_l, ix_t, m_ret, m_drop, m_nx, m_asg, m_nox, nx_ok, set_d, set_o, setD_, wr_un, wr_d, wr_o, wr_rd, m_aug, m_asgD, evD_d, evD_o, m_frzn, m_frzc, m_frz1, fz_d, fz_un, fz_io, fz_lk, fz_rd, fz_o, m_sub, m_augS, m_app, ap_o, ap_io, m_ct, ct_o, ct_io, m_isl, is_o, is_io, m_mut, m_mutB, m_mut0, intD_i, m_sl, m_pn, m_ps, rs_d, rs_l, rsR_rd, rsR_o, rsR_io, sl_l, sl_t, arg_n, arg_c, arg_d, arg_l, ar_o, ar_io, ar_lk, ar_rd, put_n, put_d, put_io, m_put, pt_o, pt_io, i_seq, src_l, src_t, src_o, src_n, sr_o, sr_io, sr_lk, i_rng, i_enum, i_zip, i_rev, unl_n, unl_c, unl_1, ul_lk, ob_t, ob_f, wp_n, wp_c, rt_n, rt_c, fl_un, fl_d, m_unpT, tupD_t, unp_n, unp_c, range_1, range_2, ext_l, ext_t, app_1, m_pc, m_par, rl_n, rl_d, rl_o, rl_l, rlR_o, sr_n, sto_d, sto_o, mulE_i, mulE_t, m_andV, m_orV, m_notE, m_listRg, ite_t, ite_f, m_chain, m_fgt, m_fgtE, fgE_nx, fgE_ct, fgE_bk, fgE_rt, fgE_er, fgts_n, fgts_c, m_fgt1, fg_d, fg_o, fg_un, fg_rd, fg_io, fg_lk, m_raise, List.getElem?_cons_zero, List.getElem?_cons_succ, List.set_cons_zero, List.set_cons_succ, Option.map_some, Option.bind_some, if_true, and_self, g2, p2]
        generalize hy : x * x % 998244353 = y
        have y0 : 0 ≤ y := by rw [← hy]; exact Int.emod_nonneg _ (by decide)
        have y1 : y < 998244353 := by rw [← hy]; exact Int.emod_lt_of_pos _ (by decide)
        have g3 : y.natAbs.log2 + (30011 : Int).natAbs.log2 < 1000000 := mulg y0 (by omega) (by decide) (by decide)
        have p3 : (0 : Int) < 7 ∧ (7 : Int).natAbs.log2 < 9000 := by decide
        simp only [m_vb, bnd_ok, bnd_er, m_vr, m_stuck, m_seq, bS_nx, bS_bk, bS_ct, bS_rt, bS_er, m_if, m_ite, bI_t, bI_f, bI_er, m_and, m_or, m_not, m_bool, evB_b, m_opt, m_optn, m_tru, tru_b, tru_i, tru_n, tru_l, tru_t, m_var, var_d, var_own, var_io, var_lk, var_rd, m_c, st_d, st_o, st_l, oc_l, oc_m, rd_d, rd_o, rd_l, rdR_own, rdR_io, rdR_lk, m_bin, m_un, m_call, m_rdn, m_rdc, m_cons, m_conss, m_tup, m_lst, dts_n, dts_c, o_map, o_bind, add_i, sub_i, mul_i, mod_i, fdiv_i, pow_i, neg_i, iadd_i, abs_i, int_i, int_b, len_l, len_t, add_l, add_t, lt_i, le_i, gt_i, ge_i, eq_i, ne_i, eqF_i, neF_i, tuple_l, tuple_t, list_l, list_t, ix_l, ix_t, m_ret, m_drop, m_nx, m_asg, m_nox, nx_ok, set_d, set_o, setD_, wr_un, wr_d, wr_o, wr_rd, m_aug, m_asgD, evD_d, evD_o, m_frzn, m_frzc, m_frz1, fz_d, fz_un, fz_io, fz_lk, fz_rd, fz_o, m_sub, m_augS, m_app, ap_o, ap_io, m_ct, ct_o, ct_io, m_isl, is_o, is_io, m_mut, m_mutB, m_mut0, intD_i, m_sl, m_pn, m_ps, rs_d, rs_l, rsR_rd, rsR_o, rsR_io, sl_l, sl_t, arg_n, arg_c, arg_d, arg_l, ar_o, ar_io, ar_lk, ar_rd, put_n, put_d, put_io, m_put, pt_o, pt_io, i_seq, src_l, src_t, src_o, src_n, sr_o, sr_io, sr_lk, i_rng, i_enum, i_zip, i_rev, unl_n, unl_c, unl_1, ul_lk, ob_t, ob_f, wp_n, wp_c, rt_n, rt_c, fl_un, fl_d, m_unpT, tupD_t, unp_n, unp_c, range_1, range_2, ext_l, ext_t, app_1, m_pc, m_par, rl_n, rl_d, rl_o, rl_l, rlR_o, sr_n, sto_d, sto_o, mulE_i, mulE_t, m_andV, m_orV, m_notE, m_listRg, ite_t, ite_f, m_chain, m_fgt, m_fgtE, fgE_nx, fgE_ct, fgE_bk, fgE_rt, fgE_er, fgts_n, fgts_c, m_fgt1, fg_d, fg_o, fg_un, fg_rd, fg_io, fg_lk, m_raise, List.getElem?_cons_zero, List.getElem?_cons_succ, List.set_cons_zero, List.set_cons_succ, Option.map_some, Option.bind_some, if_true, and_self, g3, p2, p3, hm]
        exact ⟨_, _, _, _, _, rfl, by simp, Int.emod_nonneg _ (by omega), Int.emod_lt_of_pos _ hm, _, _, _, cs, rfl, h0, h1, h2, h3, h4, h5, h6⟩
    by_cases hz : b0 = 0
    · subst hz
      obtain ⟨cell, c0, hc⟩ := head_cell cs b2.toNat h5
      have pw : (0 : Int) ≤ 18 ∧ (18 : Int) ≤ 1000000 ∧ (10 : Int).natAbs < 2 ^ 64 := by decide
      have q1 := mulg h1 (by omega) (show (0 : Int) ≤ 48271 by decide) (by decide)
      have q2 := mulg (show (0 : Int) ≤ 7919 by decide) (by decide) (show 0 ≤ b2 + 1 by omega) (by omega)
      have p1 : (0 : Int) < 2147483647 := by decide
      have l2 : ([PyData.int 0] : List Da).length ≤ 16777216 := by decide
      have l3 : ((cs.map PyData.int).drop b2.toNat).length + ([PyData.int 0] : List Da).length ≤ 16777216 := by rw [List.length_drop, List.length_map]; show _ + 1 ≤ _; omega
      generalize hst : b1 * 48271 + cell % 2147483647 + 7919 * (b2 + 1) = stir
      have s0 : 0 ≤ stir % 2147483647 := Int.emod_nonneg _ (by decide)
      have s1 : stir % 2147483647 < 4294967296 := by have := Int.emod_lt_of_pos stir p1; omega
      by_cases hw : 10 ^ (18 : Int).toNat ≤ cell
      · obtain ⟨v, b0', b1', b2', s, e, r⟩ := fin cell (stir % 2147483647) (b2 + 1) (.d (.int cell)) (.d (.int stir)) c0 s0 s1 (by omega) (by omega)
        refine ⟨v, b0', b1', b2', s, seq_then ?_ e, r⟩
        simp only [m_vb, bnd_ok, bnd_er, m_vr, m_stuck, m_seq, bS_nx, bS_bk, bS_ct, bS_rt, bS_er, m_if, m_ite, bI_t, bI_f, bI_er, m_and, m_or, m_not, m_bool, evB_b, m_opt, m_optn, m_tru, tru_b, tru_i, tru_n, tru_l, tru_t, m_var, var_d, var_own, var_io, var_lk, var_rd, m_c, st_d, st_o, st_l, oc_l, oc_m, rd_d, rd_o, rd_l, rdR_own, rdR_io, rdR_lk, m_bin, m_un, m_call, m_rdn, m_rdc, m_cons, m_conss, m_tup, m_lst, dts_n, dts_c, o_map, o_bind, add_i, sub_i, mul_i, mod_i, fdiv_i, pow_i, neg_i, iadd_i, abs_i, int_i, int_b, len_l, len_t, add_l, add_t, lt_i, le_i, gt_i, ge_i, eq_i, ne_i, eqF_i, neF_i, tuple_l, tuple_t, list_l, list_t, ix_l, ix_t, m_ret, m_drop, m_nx, m_asg, m_nox, nx_ok, set_d, set_o, setD_, wr_un, wr_d, wr_o, wr_rd, m_aug, m_asgD, evD_d, evD_o, m_frzn, m_frzc, m_frz1, fz_d, fz_un, fz_io, fz_lk, fz_rd, fz_o, m_sub, m_augS, m_app, ap_o, ap_io, m_ct, ct_o, ct_io, m_isl, is_o, is_io, m_mut, m_mutB, m_mut0, intD_i, m_sl, m_pn, m_ps, rs_d, rs_l, rsR_rd, rsR_o, rsR_io, sl_l, sl_t, arg_n, arg_c, arg_d, arg_l, ar_o, ar_io, ar_lk, ar_rd, put_n, put_d, put_io, m_put, pt_o, pt_io, i_seq, src_l, src_t, src_o, src_n, sr_o, sr_io, sr_lk, i_rng, i_enum, i_zip, i_rev, unl_n, unl_c, unl_1, ul_lk, ob_t, ob_f, wp_n, wp_c, rt_n, rt_c, fl_un, fl_d, m_unpT, tupD_t, unp_n, unp_c, range_1, range_2, ext_l, ext_t, app_1, m_pc, m_par, rl_n, rl_d, rl_o, rl_l, rlR_o, sr_n, sto_d, sto_o, mulE_i, mulE_t, m_andV, m_orV, m_notE, m_listRg, ite_t, ite_f, m_chain, m_fgt, m_fgtE, fgE_nx, fgE_ct, fgE_bk, fgE_rt, fgE_er, fgts_n, fgts_c, m_fgt1, fg_d, fg_o, fg_un, fg_rd, fg_io, fg_lk, m_raise, List.getElem?_cons_zero, List.getElem?_cons_succ, List.set_cons_zero, List.set_cons_succ, Option.map_some, Option.bind_some, if_true, and_self, at_0, at_1, at_2, at_3, sd_0, sd_1, sd_2, decide_true, cut_from h3, l2, l3, hc, pw, q1, q2, p1, hw, hst]
      · obtain ⟨v, b0', b1', b2', s, e, r⟩ := fin 0 (stir % 2147483647) (b2 + 1) (.d (.int cell)) (.d (.int stir)) (by decide) s0 s1 (by omega) (by omega)
        refine ⟨v, b0', b1', b2', s, seq_then ?_ e, r⟩
        simp only [m_vb, bnd_ok, bnd_er, m_vr, m_stuck, m_seq, bS_nx, bS_bk, bS_ct, bS_rt, bS_er, m_if, m_ite, bI_t, bI_f, bI_er, m_and, m_or, m_not, m_bool, evB_b, m_opt, m_optn, m_tru, tru_b, tru_i, tru_n, tru_l, tru_t, m_var, var_d, var_own, var_io, var_lk, var_rd, m_c, st_d, st_o, st_l, oc_l, oc_m, rd_d, rd_o, rd_l, rdR_own, rdR_io, rdR_lk, m_bin, m_un, m_call, m_rdn, m_rdc, m_cons, m_conss, m_tup, m_lst, dts_n, dts_c, o_map, o_bind, add_i, sub_i, mul_i, mod_i, fdiv_i, pow_i, neg_i, iadd_i, abs_i, int_i, int_b, len_l, len_t, add_l, add_t, lt_i, le_i, gt_i, ge_i, eq_i, ne_i, eqF_i, neF_i, tuple_l, tuple_t, list_l, list_t, ix_l, ix_t, m_ret, m_drop, m_nx, m_asg, m_nox, nx_ok, set_d, set_o, setD_, wr_un, wr_d, wr_o, wr_rd, m_aug, m_asgD, evD_d, evD_o, m_frzn, m_frzc, m_frz1, fz_d, fz_un, fz_io, fz_lk, fz_rd, fz_o, m_sub, m_augS, m_app, ap_o, ap_io, m_ct, ct_o, ct_io, m_isl, is_o, is_io, m_mut, m_mutB, m_mut0, intD_i, m_sl, m_pn, m_ps, rs_d, rs_l, rsR_rd, rsR_o, rsR_io, sl_l, sl_t, arg_n, arg_c, arg_d, arg_l, ar_o, ar_io, ar_lk, ar_rd, put_n, put_d, put_io, m_put, pt_o, pt_io, i_seq, src_l, src_t, src_o, src_n, sr_o, sr_io, sr_lk, i_rng, i_enum, i_zip, i_rev, unl_n, unl_c, unl_1, ul_lk, ob_t, ob_f, wp_n, wp_c, rt_n, rt_c, fl_un, fl_d, m_unpT, tupD_t, unp_n, unp_c, range_1, range_2, ext_l, ext_t, app_1, m_pc, m_par, rl_n, rl_d, rl_o, rl_l, rlR_o, sr_n, sto_d, sto_o, mulE_i, mulE_t, m_andV, m_orV, m_notE, m_listRg, ite_t, ite_f, m_chain, m_fgt, m_fgtE, fgE_nx, fgE_ct, fgE_bk, fgE_rt, fgE_er, fgts_n, fgts_c, m_fgt1, fg_d, fg_o, fg_un, fg_rd, fg_io, fg_lk, m_raise, List.getElem?_cons_zero, List.getElem?_cons_succ, List.set_cons_zero, List.set_cons_succ, Option.map_some, Option.bind_some, if_true, and_self, at_0, at_1, at_2, at_3, sd_0, sd_1, sd_2, decide_true, decide_false, cut_from h3, l2, l3, hc, pw, q1, q2, p1, hw, hst]
    · obtain ⟨v, b0', b1', b2', s, e, r⟩ := fin b0 b1 b2 .un .un h0 h1 h2 h3 (by omega)
      refine ⟨v, b0', b1', b2', s, seq_then ?_ e, r⟩
      simp only [m_vb, bnd_ok, bnd_er, m_vr, m_stuck, m_seq, bS_nx, bS_bk, bS_ct, bS_rt, bS_er, m_if, m_ite, bI_t, bI_f, bI_er, m_and, m_or, m_not, m_bool, evB_b, m_opt, m_optn, m_tru, tru_b, tru_i, tru_n, tru_l, tru_t, m_var, var_d, var_own, var_io, var_lk, var_rd, m_c, st_d, st_o, st_l, oc_l, oc_m, rd_d, rd_o, rd_l, rdR_own, rdR_io, rdR_lk, m_bin, m_un, m_call, m_rdn, m_rdc, m_cons, m_conss, m_tup, m_lst, dts_n, dts_c, o_map, o_bind, add_i, sub_i, mul_i, mod_i, fdiv_i, pow_i, neg_i, iadd_i, abs_i, int_i, int_b, len_l, len_t, add_l, add_t, lt_i, le_i, gt_i, ge_i, eq_i, ne_i, eqF_i, neF_i, tuple_l, tuple_t, list_l, list_t, ix_l, ix_t, m_ret, m_drop, m_nx, m_asg, m_nox, nx_ok, set_d, set_o, setD_, wr_un, wr_d, wr_o, wr_rd, m_aug, m_asgD, evD_d, evD_o, m_frzn, m_frzc, m_frz1, fz_d, fz_un, fz_io, fz_lk, fz_rd, fz_o, m_sub, m_augS, m_app, ap_o, ap_io, m_ct, ct_o, ct_io, m_isl, is_o, is_io, m_mut, m_mutB, m_mut0, intD_i, m_sl, m_pn, m_ps, rs_d, rs_l, rsR_rd, rsR_o, rsR_io, sl_l, sl_t, arg_n, arg_c, arg_d, arg_l, ar_o, ar_io, ar_lk, ar_rd, put_n, put_d, put_io, m_put, pt_o, pt_io, i_seq, src_l, src_t, src_o, src_n, sr_o, sr_io, sr_lk, i_rng, i_enum, i_zip, i_rev, unl_n, unl_c, unl_1, ul_lk, ob_t, ob_f, wp_n, wp_c, rt_n, rt_c, fl_un, fl_d, m_unpT, tupD_t, unp_n, unp_c, range_1, range_2, ext_l, ext_t, app_1, m_pc, m_par, rl_n, rl_d, rl_o, rl_l, rlR_o, sr_n, sto_d, sto_o, mulE_i, mulE_t, m_andV, m_orV, m_notE, m_listRg, ite_t, ite_f, m_chain, m_fgt, m_fgtE, fgE_nx, fgE_ct, fgE_bk, fgE_rt, fgE_er, fgts_n, fgts_c, m_fgt1, fg_d, fg_o, fg_un, fg_rd, fg_io, fg_lk, m_raise, List.getElem?_cons_zero, List.getElem?_cons_succ, List.set_cons_zero, List.set_cons_succ, Option.map_some, Option.bind_some, if_true, and_self, at_0, decide_false, hz]
  obtain ⟨v, b0', b1', b2', s, e, hs, hv, hv2, hb'⟩ := key
  refine ⟨v, _, ?_, hv, hv2, hb'⟩
  cases s with
  | nil => exact absurd rfl hs
  | cons x s => exact run_ok (c := .rt (.d (.int v))) e rfl
end LB
set_option Elab.async false
set_option linter.all false
set_option maxRecDepth 100000
namespace LB
open PySem PySem.Spec PyProof.Rows L2 VL
/-- ints as a tuple -/
def tupI (xs : List Int) : Da := .tuple (xs.map PyData.int)
theorem cut_to {xs : List Da} {i : Int} (h : 0 ≤ i) : VL.cutD xs none (some i) = xs.take i.toNat := by
  obtain ⟨k, rfl⟩ := Int.eq_ofNat_of_zero_le h
  unfold VL.cutD
  rw [show HT.sIx xs.length xs.length (some (k : Int)) = min k xs.length from HT.sIx_nat xs.length xs.length k, HT.sIx_none]
  show List.take (min k xs.length - 0) (List.drop 0 xs) = List.take k xs
  rw [Nat.sub_zero, List.drop_zero]
  by_cases hk : k ≤ xs.length
  · rw [Nat.min_eq_left hk]
  · rw [Nat.min_eq_right (by omega), List.take_of_length_le (Nat.le_refl _), List.take_of_length_le (by omega)]
theorem bag_ok (ns : List Int) : ∃ cs : List Int, F__law_bag [.rd (ns.map PyData.int)] = .ok (.own (.l (bagL 0 1234567891 0 cs)), [.rd (ns.map PyData.int)]) ∧ (∀ c ∈ cs, 0 ≤ c) ∧ cs.length ≤ 63 := by
  refine ⟨(ns.take 63).map fun i => if i < 0 then -i else i, ?_, ?_, ?_⟩
  · refine run_ok (c := .rt (.own (.l (bagL 0 1234567891 0 ((ns.take 63).map fun i => if i < 0 then -i else i))))) (s := [.rd (ns.map PyData.int), .un]) ?_ rfl
    show g__law_bag [.rd (ns.map PyData.int), .un] = _
    have lc : vLcF [1] (vItSeq (vSl (vVar 0) (vPart none) (vPart (some (vC (.int 63)))))) (vSetD 1) (vr true) (vCall absD (vCons (vVar 1) (vr []))) [.rd (ns.map PyData.int), .un] = .ok (.own (.l (((ns.take 63).filter fun _ => true).map fun i => PyData.int (if i < 0 then -i else i))), [.rd (ns.map PyData.int), .un]) := by
      refine lcF_of (xs := (ns.take 63).map PyData.int) (L := []) (s1 := [.rd (ns.map PyData.int), .un]) (s2 := [.rd (ns.map PyData.int), .un]) ?_ rfl ?_ ?_
      · simp only [m_vb, bnd_ok, bnd_er, m_vr, m_stuck, m_seq, bS_nx, bS_bk, bS_ct, bS_rt, bS_er, m_if, m_ite, bI_t, bI_f, bI_er, m_and, m_or, m_not, m_bool, evB_b, m_opt, m_optn, m_tru, tru_b, tru_i, tru_n, tru_l, tru_t, m_var, var_d, var_own, var_io, var_lk, var_rd, m_c, st_d, st_o, st_l, oc_l, oc_m, rd_d, rd_o, rd_l, rdR_own, rdR_io, rdR_lk, m_bin, m_un, m_call, m_rdn, m_rdc, m_cons, m_conss, m_tup, m_lst, dts_n, dts_c, o_map, o_bind, add_i, sub_i, mul_i, mod_i, fdiv_i, pow_i, neg_i, iadd_i, abs_i, int_i, int_b, len_l, len_t, add_l, add_t, lt_i, le_i, gt_i, ge_i, eq_i, ne_i, eqF_i, neF_i, tuple_l, tuple_t, list_l, list_t, ix_l, ix_t, m_ret, m_drop, m_nx, m_asg, m_nox, nx_ok, set_d, set_o, setD_, wr_un, wr_d, wr_o, wr_rd, m_aug, m_asgD, evD_d, evD_o, m_frzn, m_frzc, m_frz1, fz_d, fz_un, fz_io, fz_lk, fz_rd, fz_o, m_sub, m_augS, m_app, ap_o, ap_io, m_ct, ct_o, ct_io, m_isl, is_o, is_io, m_mut, m_mutB, m_mut0, intD_i, m_sl, m_pn, m_ps, rs_d, rs_l, rsR_rd, rsR_o, rsR_io, sl_l, sl_t, arg_n, arg_c, arg_d, arg_l, ar_o, ar_io, ar_lk, ar_rd, put_n, put_d, put_io, m_put, pt_o, pt_io, i_seq, src_l, src_t, src_o, src_n, sr_o, sr_io, sr_lk, i_rng, i_enum, i_zip, i_rev, unl_n, unl_c, unl_1, ul_lk, ob_t, ob_f, wp_n, wp_c, rt_n, rt_c, fl_un, fl_d, m_unpT, tupD_t, unp_n, unp_c, range_1, range_2, ext_l, ext_t, app_1, m_pc, m_par, rl_n, rl_d, rl_o, rl_l, rlR_o, sr_n, sto_d, sto_o, mulE_i, mulE_t, m_andV, m_orV, m_notE, m_listRg, ite_t, ite_f, m_chain, m_fgt, m_fgtE, fgE_nx, fgE_ct, fgE_bk, fgE_rt, fgE_er, fgts_n, fgts_c, m_fgt1, fg_d, fg_o, fg_un, fg_rd, fg_io, fg_lk, m_raise, List.getElem?_cons_zero, List.getElem?_cons_succ, List.set_cons_zero, List.set_cons_succ, Option.map_some, Option.bind_some, if_true, and_self, cut_to (show (0 : Int) ≤ 63 by decide)]
        rw [List.map_take]; rfl
      · exact lcG_pure (p := fun _ => true) (h := fun i => PyData.int (if i < 0 then -i else i)) (ns.take 63) fun i _ => ⟨[.rd (ns.map PyData.int), .d (.int i)], [.rd (ns.map PyData.int), .d (.int i)], by simp only [m_vb, bnd_ok, bnd_er, m_vr, m_stuck, m_seq, bS_nx, bS_bk, bS_ct, bS_rt, bS_er, m_if, m_ite, bI_t, bI_f, bI_er, m_and, m_or, m_not, m_bool, evB_b, m_opt, m_optn, m_tru, tru_b, tru_i, tru_n, tru_l, tru_t, m_var, var_d, var_own, var_io, var_lk, var_rd, m_c, st_d, st_o, st_l, oc_l, oc_m, rd_d, rd_o, rd_l, rdR_own, rdR_io, rdR_lk, m_bin, m_un, m_call, m_rdn, m_rdc, m_cons, m_conss, m_tup, m_lst, dts_n, dts_c, o_map, o_bind, add_i, sub_i, mul_i, mod_i, fdiv_i, pow_i, neg_i, iadd_i, abs_i, int_i, int_b, len_l, len_t, add_l, add_t, lt_i, le_i, gt_i, ge_i, eq_i, ne_i, eqF_i, neF_i, tuple_l, tuple_t, list_l, list_t, ix_l, ix_t, m_ret, m_drop, m_nx, m_asg, m_nox, nx_ok, set_d, set_o, setD_, wr_un, wr_d, wr_o, wr_rd, m_aug, m_asgD, evD_d, evD_o, m_frzn, m_frzc, m_frz1, fz_d, fz_un, fz_io, fz_lk, fz_rd, fz_o, m_sub, m_augS, m_app, ap_o, ap_io, m_ct, ct_o, ct_io, m_isl, is_o, is_io, m_mut, m_mutB, m_mut0, intD_i, m_sl, m_pn, m_ps, rs_d, rs_l, rsR_rd, rsR_o, rsR_io, sl_l, sl_t, arg_n, arg_c, arg_d, arg_l, ar_o, ar_io, ar_lk, ar_rd, put_n, put_d, put_io, m_put, pt_o, pt_io, i_seq, src_l, src_t, src_o, src_n, sr_o, sr_io, sr_lk, i_rng, i_enum, i_zip, i_rev, unl_n, unl_c, unl_1, ul_lk, ob_t, ob_f, wp_n, wp_c, rt_n, rt_c, fl_un, fl_d, m_unpT, tupD_t, unp_n, unp_c, range_1, range_2, ext_l, ext_t, app_1, m_pc, m_par, rl_n, rl_d, rl_o, rl_l, rlR_o, sr_n, sto_d, sto_o, mulE_i, mulE_t, m_andV, m_orV, m_notE, m_listRg, ite_t, ite_f, m_chain, m_fgt, m_fgtE, fgE_nx, fgE_ct, fgE_bk, fgE_rt, fgE_er, fgts_n, fgts_c, m_fgt1, fg_d, fg_o, fg_un, fg_rd, fg_io, fg_lk, m_raise, List.getElem?_cons_zero, List.getElem?_cons_succ, List.set_cons_zero, List.set_cons_succ, Option.map_some, Option.bind_some, if_true, and_self], rfl, fun h => absurd h (by decide), fun _ => ⟨.d (.int (if i < 0 then -i else i)), [.rd (ns.map PyData.int), .d (.int i)], by simp only [m_vb, bnd_ok, bnd_er, m_vr, m_stuck, m_seq, bS_nx, bS_bk, bS_ct, bS_rt, bS_er, m_if, m_ite, bI_t, bI_f, bI_er, m_and, m_or, m_not, m_bool, evB_b, m_opt, m_optn, m_tru, tru_b, tru_i, tru_n, tru_l, tru_t, m_var, var_d, var_own, var_io, var_lk, var_rd, m_c, st_d, st_o, st_l, oc_l, oc_m, rd_d, rd_o, rd_l, rdR_own, rdR_io, rdR_lk, m_bin, m_un, m_call, m_rdn, m_rdc, m_cons, m_conss, m_tup, m_lst, dts_n, dts_c, o_map, o_bind, add_i, sub_i, mul_i, mod_i, fdiv_i, pow_i, neg_i, iadd_i, abs_i, int_i, int_b, len_l, len_t, add_l, add_t, lt_i, le_i, gt_i, ge_i, eq_i, ne_i, eqF_i, neF_i, tuple_l, tuple_t, list_l, list_t, ix_l, ix_t, m_ret, m_drop, m_nx, m_asg, m_nox, nx_ok, set_d, set_o, setD_, wr_un, wr_d, wr_o, wr_rd, m_aug, m_asgD, evD_d, evD_o, m_frzn, m_frzc, m_frz1, fz_d, fz_un, fz_io, fz_lk, fz_rd, fz_o, m_sub, m_augS, m_app, ap_o, ap_io, m_ct, ct_o, ct_io, m_isl, is_o, is_io, m_mut, m_mutB, m_mut0, intD_i, m_sl, m_pn, m_ps, rs_d, rs_l, rsR_rd, rsR_o, rsR_io, sl_l, sl_t, arg_n, arg_c, arg_d, arg_l, ar_o, ar_io, ar_lk, ar_rd, put_n, put_d, put_io, m_put, pt_o, pt_io, i_seq, src_l, src_t, src_o, src_n, sr_o, sr_io, sr_lk, i_rng, i_enum, i_zip, i_rev, unl_n, unl_c, unl_1, ul_lk, ob_t, ob_f, wp_n, wp_c, rt_n, rt_c, fl_un, fl_d, m_unpT, tupD_t, unp_n, unp_c, range_1, range_2, ext_l, ext_t, app_1, m_pc, m_par, rl_n, rl_d, rl_o, rl_l, rlR_o, sr_n, sto_d, sto_o, mulE_i, mulE_t, m_andV, m_orV, m_notE, m_listRg, ite_t, ite_f, m_chain, m_fgt, m_fgtE, fgE_nx, fgE_ct, fgE_bk, fgE_rt, fgE_er, fgts_n, fgts_c, m_fgt1, fg_d, fg_o, fg_un, fg_rd, fg_io, fg_lk, m_raise, List.getElem?_cons_zero, List.getElem?_cons_succ, List.set_cons_zero, List.set_cons_succ, Option.map_some, Option.bind_some, if_true, and_self], rfl, rfl, rfl⟩⟩
      · rw [List.length_map]
        have := List.length_filter_le (fun _ => true) (ns.take 63)
        have := List.length_take_le 63 ns
        omega
    unfold g__law_bag
    simp only [m_vb, bnd_ok, bnd_er, m_vr, m_stuck, m_seq, bS_nx, bS_bk, bS_ct, bS_rt, bS_er, m_if, m_ite, bI_t, bI_f, bI_er, m_and, m_or, m_not, m_bool, evB_b, m_opt, m_optn, m_tru, tru_b, tru_i, tru_n, tru_l, tru_t, m_var, var_d, var_own, var_io, var_lk, var_rd, m_c, st_d, st_o, st_l, oc_l, oc_m, rd_d, rd_o, rd_l, rdR_own, rdR_io, rdR_lk, m_bin, m_un, m_call, m_rdn, m_rdc, m_cons, m_conss, m_tup, m_lst, dts_n, dts_c, o_map, o_bind, add_i, sub_i, mul_i, mod_i, fdiv_i, pow_i, neg_i, iadd_i, abs_i, int_i, int_b, len_l, len_t, add_l, add_t, lt_i, le_i, gt_i, ge_i, eq_i, ne_i, eqF_i, neF_i, tuple_l, tuple_t, list_l, list_t, ix_l, ix_t, m_ret, m_drop, m_nx, m_asg, m_nox, nx_ok, set_d, set_o, setD_, wr_un, wr_d, wr_o, wr_rd, m_aug, m_asgD, evD_d, evD_o, m_frzn, m_frzc, m_frz1, fz_d, fz_un, fz_io, fz_lk, fz_rd, fz_o, m_sub, m_augS, m_app, ap_o, ap_io, m_ct, ct_o, ct_io, m_isl, is_o, is_io, m_mut, m_mutB, m_mut0, intD_i, m_sl, m_pn, m_ps, rs_d, rs_l, rsR_rd, rsR_o, rsR_io, sl_l, sl_t, arg_n, arg_c, arg_d, arg_l, ar_o, ar_io, ar_lk, ar_rd, put_n, put_d, put_io, m_put, pt_o, pt_io, i_seq, src_l, src_t, src_o, src_n, sr_o, sr_io, sr_lk, i_rng, i_enum, i_zip, i_rev, unl_n, unl_c, unl_1, ul_lk, ob_t, ob_f, wp_n, wp_c, rt_n, rt_c, fl_un, fl_d, m_unpT, tupD_t, unp_n, unp_c, range_1, range_2, ext_l, ext_t, app_1, m_pc, m_par, rl_n, rl_d, rl_o, rl_l, rlR_o, sr_n, sto_d, sto_o, mulE_i, mulE_t, m_andV, m_orV, m_notE, m_listRg, ite_t, ite_f, m_chain, m_fgt, m_fgtE, fgE_nx, fgE_ct, fgE_bk, fgE_rt, fgE_er, fgts_n, fgts_c, m_fgt1, fg_d, fg_o, fg_un, fg_rd, fg_io, fg_lk, m_raise, List.getElem?_cons_zero, List.getElem?_cons_succ, List.set_cons_zero, List.set_cons_succ, Option.map_some, Option.bind_some, if_true, and_self, lc]
    rw [List.filter_eq_self.mpr (by simp)]
    simp only [m_vb, bnd_ok, bnd_er, m_vr, m_stuck, m_seq, bS_nx, bS_bk, bS_ct, bS_rt, bS_er, m_if, m_ite, bI_t, bI_f, bI_er, m_and, m_or, m_not, m_bool, evB_b, m_opt, m_optn, m_tru, tru_b, tru_i, tru_n, tru_l, tru_t, m_var, var_d, var_own, var_io, var_lk, var_rd, m_c, st_d, st_o, st_l, oc_l, oc_m, rd_d, rd_o, rd_l, rdR_own, rdR_io, rdR_lk, m_bin, m_un, m_call, m_rdn, m_rdc, m_cons, m_conss, m_tup, m_lst, dts_n, dts_c, o_map, o_bind, add_i, sub_i, mul_i, mod_i, fdiv_i, pow_i, neg_i, iadd_i, abs_i, int_i, int_b, len_l, len_t, add_l, add_t, lt_i, le_i, gt_i, ge_i, eq_i, ne_i, eqF_i, neF_i, tuple_l, tuple_t, list_l, list_t, ix_l, ix_t, m_ret, m_drop, m_nx, m_asg, m_nox, nx_ok, set_d, set_o, setD_, wr_un, wr_d, wr_o, wr_rd, m_aug, m_asgD, evD_d, evD_o, m_frzn, m_frzc, m_frz1, fz_d, fz_un, fz_io, fz_lk, fz_rd, fz_o, m_sub, m_augS, m_app, ap_o, ap_io, m_ct, ct_o, ct_io, m_isl, is_o, is_io, m_mut, m_mutB, m_mut0, intD_i, m_sl, m_pn, m_ps, rs_d, rs_l, rsR_rd, rsR_o, rsR_io, sl_l, sl_t, arg_n, arg_c, arg_d, arg_l, ar_o, ar_io, ar_lk, ar_rd, put_n, put_d, put_io, m_put, pt_o, pt_io, i_seq, src_l, src_t, src_o, src_n, sr_o, sr_io, sr_lk, i_rng, i_enum, i_zip, i_rev, unl_n, unl_c, unl_1, ul_lk, ob_t, ob_f, wp_n, wp_c, rt_n, rt_c, fl_un, fl_d, m_unpT, tupD_t, unp_n, unp_c, range_1, range_2, ext_l, ext_t, app_1, m_pc, m_par, rl_n, rl_d, rl_o, rl_l, rlR_o, sr_n, sto_d, sto_o, mulE_i, mulE_t, m_andV, m_orV, m_notE, m_listRg, ite_t, ite_f, m_chain, m_fgt, m_fgtE, fgE_nx, fgE_ct, fgE_bk, fgE_rt, fgE_er, fgts_n, fgts_c, m_fgt1, fg_d, fg_o, fg_un, fg_rd, fg_io, fg_lk, m_raise, List.getElem?_cons_zero, List.getElem?_cons_succ, List.set_cons_zero, List.set_cons_succ, Option.map_some, Option.bind_some, if_true, and_self, List.length_cons, List.length_nil]
    unfold bagL
    rw [List.map_map]
    rfl
  · intro c hc
    obtain ⟨i, _, rfl⟩ := List.mem_map.mp hc
    split <;> omega
  · rw [List.length_map]; exact List.length_take_le 63 ns
/-- a list of one's own, or a parameter's -/
theorem arg_ob {s : VS} {k : Nat} {b : Bool} {c : OC} (h : s[k]? = some (ownB b c)) : argSV1 s (.loan k) = some (.io c) := by
  rw [arg_l, h]; cases b <;> rfl
theorem put_ob {s : VS} {k : Nat} {b : Bool} {c c' : OC} (h : s[k]? = some (ownB b c)) : putC k c' s = s.set k (ownB b c') := by
  rw [m_put, h]; cases b <;> rfl
theorem take_at {n k : Nat} {s : VS} {b : Bool} {bag : List Da} {m : Int} (hs : s[k]? = some (ownB b (.l bag))) (hb : BagOk (n + 1) bag) (hm : 0 < m) (hm2 : m < 9223372036854775808) :
    ∃ (v : Int) (bag' : List Da), callF F__law_take [.loan k, .d (.int m)] s = .ok (.d (.int v), s.set k (ownB b (.l bag'))) ∧ 0 ≤ v ∧ v < m ∧ BagOk n bag' := by
  obtain ⟨v, bag', h, h0, h1, hb'⟩ := take_ok hb hm hm2
  refine ⟨v, bag', ?_, h0, h1, hb'⟩
  rw [callF_ok (by simp [loans]) (by rw [arg_c, arg_ob hs]; rfl) h (fun i => by intro z; cases z), put_io, put_ob hs, put_d, put_n]
theorem rngD_map (n : Nat) : rngD 0 n 1 = (List.range n).map fun (i : Nat) => PyData.int (Int.ofNat i) := by
  unfold rngD
  apply List.map_congr_left
  intro i _
  rw [Int.zero_add, Int.mul_one]; rfl
theorem yard_ok {n : Nat} {bag : List Da} {m : Nat} (hb : BagOk (n + m + 1) bag) (hm : 0 < m) (hm2 : m ≤ 1000) :
    ∃ (ys : List Int) (bag' : List Da), F__law_yard [.io (.l bag), .d (.int m)] = .ok (.d (tupI ys), [.io (.l bag'), .d (.int m)]) ∧ 1 ≤ ys.length ∧ ys.length ≤ m ∧ (∀ y ∈ ys, y = 0 ∨ y = 1) ∧ BagOk n bag' := by
  obtain ⟨v, bag1, h1, v0, v1, hb1⟩ := take_at (k := 0) (s := [.io (.l bag), .d (.int m), .un]) (b := true) rfl hb (show (0 : Int) < (m : Int) by omega) (by omega)
  obtain ⟨w, rfl⟩ := Int.eq_ofNat_of_zero_le v0
  have hr : -1000000000 ≤ (1 + (w : Int)) ∧ (1 + (w : Int)) ≤ 1000000000 := by omega
  have hi : vItRng (vCons (vBin addD (vC (.int 1)) (vCallF F__law_take (vCons (vVar 0) (vCons (vVar 1) (vr []))))) (vr [])) [.io (.l bag), .d (.int m), .un] = .ok ((rngD 0 (w + 1) 1, []), [.io (.l bag1), .d (.int m), .un]) := by
    have e : (1 + (w : Int)).toNat = w + 1 := by omega
    simp only [m_vb, bnd_ok, bnd_er, m_vr, m_stuck, m_seq, bS_nx, bS_bk, bS_ct, bS_rt, bS_er, m_if, m_ite, bI_t, bI_f, bI_er, m_and, m_or, m_not, m_bool, evB_b, m_opt, m_optn, m_tru, tru_b, tru_i, tru_n, tru_l, tru_t, m_var, var_d, var_own, var_io, var_lk, var_rd, m_c, st_d, st_o, st_l, oc_l, oc_m, rd_d, rd_o, rd_l, rdR_own, rdR_io, rdR_lk, m_bin, m_un, m_call, m_rdn, m_rdc, m_cons, m_conss, m_tup, m_lst, dts_n, dts_c, o_map, o_bind, add_i, sub_i, mul_i, mod_i, fdiv_i, pow_i, neg_i, iadd_i, abs_i, int_i, int_b, len_l, len_t, add_l, add_t, lt_i, le_i, gt_i, ge_i, eq_i, ne_i, eqF_i, neF_i, tuple_l, tuple_t, list_l, list_t, ix_l, ix_t, m_ret, m_drop, m_nx, m_asg, m_nox, nx_ok, set_d, set_o, setD_, wr_un, wr_d, wr_o, wr_rd, m_aug, m_asgD, evD_d, evD_o, m_frzn, m_frzc, m_frz1, fz_d, fz_un, fz_io, fz_lk, fz_rd, fz_o, m_sub, m_augS, m_app, ap_o, ap_io, m_ct, ct_o, ct_io, m_isl, is_o, is_io, m_mut, m_mutB, m_mut0, intD_i, m_sl, m_pn, m_ps, rs_d, rs_l, rsR_rd, rsR_o, rsR_io, sl_l, sl_t, arg_n, arg_c, arg_d, arg_l, ar_o, ar_io, ar_lk, ar_rd, put_n, put_d, put_io, m_put, pt_o, pt_io, i_seq, src_l, src_t, src_o, src_n, sr_o, sr_io, sr_lk, i_rng, i_enum, i_zip, i_rev, unl_n, unl_c, unl_1, ul_lk, ob_t, ob_f, wp_n, wp_c, rt_n, rt_c, fl_un, fl_d, m_unpT, tupD_t, unp_n, unp_c, range_1, range_2, ext_l, ext_t, app_1, m_pc, m_par, rl_n, rl_d, rl_o, rl_l, rlR_o, sr_n, sto_d, sto_o, mulE_i, mulE_t, m_andV, m_orV, m_notE, m_listRg, ite_t, ite_f, m_chain, m_fgt, m_fgtE, fgE_nx, fgE_ct, fgE_bk, fgE_rt, fgE_er, fgts_n, fgts_c, m_fgt1, fg_d, fg_o, fg_un, fg_rd, fg_io, fg_lk, m_raise, List.getElem?_cons_zero, List.getElem?_cons_succ, List.set_cons_zero, List.set_cons_succ, Option.map_some, Option.bind_some, if_true, and_self, m_callF, h1, ob_t, range_1, hr, e]
  obtain ⟨ys, s', hG, q, bag2, e1, e2, hb2, h01, hl⟩ := lcG_inv (ix := [2]) (gt := vSetD 2) (tt := vr true) (te := vCallF F__law_take (vCons (vVar 0) (vCons (vC (.int 2)) (vr []))))
    (fun xs acc s => ∃ (q : List Int) (bag' : List Da), acc = q.map PyData.int ∧ s = [.io (.l bag'), .d (.int m), .un] ∧ BagOk (n + xs.length) bag' ∧ (∀ y ∈ q, y = 0 ∨ y = 1) ∧ q.length + xs.length = w + 1)
    (fun x xs acc s hR => by
      obtain ⟨q, bag', rfl, rfl, hb', h01, hl⟩ := hR
      obtain ⟨v, bag2, h2, v0, v1, hb2⟩ := take_at (k := 0) (s := [.io (.l bag'), .d (.int m), .d x]) (b := true) (n := n + xs.length) rfl hb' (show (0 : Int) < 2 by decide) (by decide)
      refine ⟨[.io (.l bag'), .d (.int m), .d x], true, _, by simp only [m_vb, bnd_ok, bnd_er, m_vr, m_stuck, m_seq, bS_nx, bS_bk, bS_ct, bS_rt, bS_er, m_if, m_ite, bI_t, bI_f, bI_er, m_and, m_or, m_not, m_bool, evB_b, m_opt, m_optn, m_tru, tru_b, tru_i, tru_n, tru_l, tru_t, m_var, var_d, var_own, var_io, var_lk, var_rd, m_c, st_d, st_o, st_l, oc_l, oc_m, rd_d, rd_o, rd_l, rdR_own, rdR_io, rdR_lk, m_bin, m_un, m_call, m_rdn, m_rdc, m_cons, m_conss, m_tup, m_lst, dts_n, dts_c, o_map, o_bind, add_i, sub_i, mul_i, mod_i, fdiv_i, pow_i, neg_i, iadd_i, abs_i, int_i, int_b, len_l, len_t, add_l, add_t, lt_i, le_i, gt_i, ge_i, eq_i, ne_i, eqF_i, neF_i, tuple_l, tuple_t, list_l, list_t, ix_l, ix_t, m_ret, m_drop, m_nx, m_asg, m_nox, nx_ok, set_d, set_o, setD_, wr_un, wr_d, wr_o, wr_rd, m_aug, m_asgD, evD_d, evD_o, m_frzn, m_frzc, m_frz1, fz_d, fz_un, fz_io, fz_lk, fz_rd, fz_o, m_sub, m_augS, m_app, ap_o, ap_io, m_ct, ct_o, ct_io, m_isl, is_o, is_io, m_mut, m_mutB, m_mut0, intD_i, m_sl, m_pn, m_ps, rs_d, rs_l, rsR_rd, rsR_o, rsR_io, sl_l, sl_t, arg_n, arg_c, arg_d, arg_l, ar_o, ar_io, ar_lk, ar_rd, put_n, put_d, put_io, m_put, pt_o, pt_io, i_seq, src_l, src_t, src_o, src_n, sr_o, sr_io, sr_lk, i_rng, i_enum, i_zip, i_rev, unl_n, unl_c, unl_1, ul_lk, ob_t, ob_f, wp_n, wp_c, rt_n, rt_c, fl_un, fl_d, m_unpT, tupD_t, unp_n, unp_c, range_1, range_2, ext_l, ext_t, app_1, m_pc, m_par, rl_n, rl_d, rl_o, rl_l, rlR_o, sr_n, sto_d, sto_o, mulE_i, mulE_t, m_andV, m_orV, m_notE, m_listRg, ite_t, ite_f, m_chain, m_fgt, m_fgtE, fgE_nx, fgE_ct, fgE_bk, fgE_rt, fgE_er, fgts_n, fgts_c, m_fgt1, fg_d, fg_o, fg_un, fg_rd, fg_io, fg_lk, m_raise, List.getElem?_cons_zero, List.getElem?_cons_succ, List.set_cons_zero, List.set_cons_succ, Option.map_some, Option.bind_some, if_true, and_self], rfl, fun h => absurd h (by decide), fun _ => ⟨.d (.int v), .int v, [.io (.l bag2), .d (.int m), .d x], ?_, rfl, rfl, q ++ [v], bag2, by rw [List.map_append]; rfl, rfl, hb2, fun y hy => ?_, ?_⟩⟩
      · simp only [m_vb, bnd_ok, bnd_er, m_vr, m_stuck, m_seq, bS_nx, bS_bk, bS_ct, bS_rt, bS_er, m_if, m_ite, bI_t, bI_f, bI_er, m_and, m_or, m_not, m_bool, evB_b, m_opt, m_optn, m_tru, tru_b, tru_i, tru_n, tru_l, tru_t, m_var, var_d, var_own, var_io, var_lk, var_rd, m_c, st_d, st_o, st_l, oc_l, oc_m, rd_d, rd_o, rd_l, rdR_own, rdR_io, rdR_lk, m_bin, m_un, m_call, m_rdn, m_rdc, m_cons, m_conss, m_tup, m_lst, dts_n, dts_c, o_map, o_bind, add_i, sub_i, mul_i, mod_i, fdiv_i, pow_i, neg_i, iadd_i, abs_i, int_i, int_b, len_l, len_t, add_l, add_t, lt_i, le_i, gt_i, ge_i, eq_i, ne_i, eqF_i, neF_i, tuple_l, tuple_t, list_l, list_t, ix_l, ix_t, m_ret, m_drop, m_nx, m_asg, m_nox, nx_ok, set_d, set_o, setD_, wr_un, wr_d, wr_o, wr_rd, m_aug, m_asgD, evD_d, evD_o, m_frzn, m_frzc, m_frz1, fz_d, fz_un, fz_io, fz_lk, fz_rd, fz_o, m_sub, m_augS, m_app, ap_o, ap_io, m_ct, ct_o, ct_io, m_isl, is_o, is_io, m_mut, m_mutB, m_mut0, intD_i, m_sl, m_pn, m_ps, rs_d, rs_l, rsR_rd, rsR_o, rsR_io, sl_l, sl_t, arg_n, arg_c, arg_d, arg_l, ar_o, ar_io, ar_lk, ar_rd, put_n, put_d, put_io, m_put, pt_o, pt_io, i_seq, src_l, src_t, src_o, src_n, sr_o, sr_io, sr_lk, i_rng, i_enum, i_zip, i_rev, unl_n, unl_c, unl_1, ul_lk, ob_t, ob_f, wp_n, wp_c, rt_n, rt_c, fl_un, fl_d, m_unpT, tupD_t, unp_n, unp_c, range_1, range_2, ext_l, ext_t, app_1, m_pc, m_par, rl_n, rl_d, rl_o, rl_l, rlR_o, sr_n, sto_d, sto_o, mulE_i, mulE_t, m_andV, m_orV, m_notE, m_listRg, ite_t, ite_f, m_chain, m_fgt, m_fgtE, fgE_nx, fgE_ct, fgE_bk, fgE_rt, fgE_er, fgts_n, fgts_c, m_fgt1, fg_d, fg_o, fg_un, fg_rd, fg_io, fg_lk, m_raise, List.getElem?_cons_zero, List.getElem?_cons_succ, List.set_cons_zero, List.set_cons_succ, Option.map_some, Option.bind_some, if_true, and_self, m_callF, h2, ob_t]
      · rcases List.mem_append.mp hy with hy | hy
        · exact h01 y hy
        · have := List.mem_singleton.mp hy; omega
      · rw [List.length_append]; simp only [List.length_cons, List.length_nil] at hl ⊢; omega) (rngD 0 (w + 1) 1) [] [.io (.l bag1), .d (.int m), .un]
    ⟨[], bag1, rfl, rfl, by rw [rngD_len]; exact hb1.mono (by omega), fun _ h => (by cases h), by rw [rngD_len]; simp⟩
  rw [List.nil_append] at e1
  subst e1 e2
  have hl : q.length = w + 1 := by simpa using hl
  have lc := lcF_of (ix := [2]) (s2 := [.io (.l bag2), .d (.int m), .un]) hi rfl hG (by rw [List.length_map]; omega)
  refine ⟨q, bag2, ?_, by omega, by omega, h01, hb2.mono (by simp)⟩
  refine run_ok (c := .rt (.d (tupI q))) (s := [.io (.l bag2), .d (.int m), .un]) ?_ rfl
  show g__law_yard [.io (.l bag), .d (.int m), .un] = _
  unfold g__law_yard
  simp only [m_vb, bnd_ok, bnd_er, m_vr, m_stuck, m_seq, bS_nx, bS_bk, bS_ct, bS_rt, bS_er, m_if, m_ite, bI_t, bI_f, bI_er, m_and, m_or, m_not, m_bool, evB_b, m_opt, m_optn, m_tru, tru_b, tru_i, tru_n, tru_l, tru_t, m_var, var_d, var_own, var_io, var_lk, var_rd, m_c, st_d, st_o, st_l, oc_l, oc_m, rd_d, rd_o, rd_l, rdR_own, rdR_io, rdR_lk, m_bin, m_un, m_call, m_rdn, m_rdc, m_cons, m_conss, m_tup, m_lst, dts_n, dts_c, o_map, o_bind, add_i, sub_i, mul_i, mod_i, fdiv_i, pow_i, neg_i, iadd_i, abs_i, int_i, int_b, len_l, len_t, add_l, add_t, lt_i, le_i, gt_i, ge_i, eq_i, ne_i, eqF_i, neF_i, tuple_l, tuple_t, list_l, list_t, ix_l, ix_t, m_ret, m_drop, m_nx, m_asg, m_nox, nx_ok, set_d, set_o, setD_, wr_un, wr_d, wr_o, wr_rd, m_aug, m_asgD, evD_d, evD_o, m_frzn, m_frzc, m_frz1, fz_d, fz_un, fz_io, fz_lk, fz_rd, fz_o, m_sub, m_augS, m_app, ap_o, ap_io, m_ct, ct_o, ct_io, m_isl, is_o, is_io, m_mut, m_mutB, m_mut0, intD_i, m_sl, m_pn, m_ps, rs_d, rs_l, rsR_rd, rsR_o, rsR_io, sl_l, sl_t, arg_n, arg_c, arg_d, arg_l, ar_o, ar_io, ar_lk, ar_rd, put_n, put_d, put_io, m_put, pt_o, pt_io, i_seq, src_l, src_t, src_o, src_n, sr_o, sr_io, sr_lk, i_rng, i_enum, i_zip, i_rev, unl_n, unl_c, unl_1, ul_lk, ob_t, ob_f, wp_n, wp_c, rt_n, rt_c, fl_un, fl_d, m_unpT, tupD_t, unp_n, unp_c, range_1, range_2, ext_l, ext_t, app_1, m_pc, m_par, rl_n, rl_d, rl_o, rl_l, rlR_o, sr_n, sto_d, sto_o, mulE_i, mulE_t, m_andV, m_orV, m_notE, m_listRg, ite_t, ite_f, m_chain, m_fgt, m_fgtE, fgE_nx, fgE_ct, fgE_bk, fgE_rt, fgE_er, fgts_n, fgts_c, m_fgt1, fg_d, fg_o, fg_un, fg_rd, fg_io, fg_lk, m_raise, List.getElem?_cons_zero, List.getElem?_cons_succ, List.set_cons_zero, List.set_cons_succ, Option.map_some, Option.bind_some, if_true, and_self, lc]
  rfl
end LB
set_option Elab.async false
set_option linter.all false
set_option maxRecDepth 100000
namespace LB
open PySem PySem.Spec PyProof.Rows L2 VL
def codesX (n : Nat) (A : List (List Int)) : List (List Int) := A.flatMap fun c => (List.range n).map fun (t : Nat) => c ++ [Int.ofNat t]
theorem codesX_len (n : Nat) (A : List (List Int)) : (codesX n A).length = A.length * n := by
  unfold codesX
  rw [List.length_flatMap]
  have : A.map (fun c => ((List.range n).map fun (t : Nat) => c ++ [Int.ofNat t]).length) = A.map fun _ => n := List.map_congr_left fun c _ => by simp
  rw [this, List.map_const', List.sum_replicate_nat]
theorem codesX_snoc (n : Nat) (A : List (List Int)) (c : List Int) : (codesX n (A ++ [c])).map tupI = (codesX n A).map tupI ++ (List.range n).map fun (t : Nat) => tupI (c ++ [Int.ofNat t]) := by
  unfold codesX
  simp only [List.flatMap_append, List.map_append, List.flatMap_cons, List.flatMap_nil, List.append_nil, List.map_map]
  rfl
def codesP (n : Nat) : Nat → List (List Int)
  | 0 => [[]]
  | p + 1 => codesX n (codesP n p)
theorem codesP_len (n : Nat) : ∀ p, (codesP n p).length = n ^ p
  | 0 => rfl
  | p + 1 => by show (codesX n (codesP n p)).length = _; rw [codesX_len, codesP_len n p, Nat.pow_succ]
theorem codesP_mem (n : Nat) : ∀ p, ∀ c ∈ codesP n p, c.length = p
  | 0, c, h => by have := List.mem_singleton.mp h; subst this; rfl
  | p + 1, c, h => by
    obtain ⟨d, hd, h⟩ := List.mem_flatMap.mp h
    obtain ⟨t, _, rfl⟩ := List.mem_map.mp h
    rw [List.length_append, codesP_mem n p d hd]; rfl
theorem codes_s1_ok {ys : List Da} {p : Da} {F : List (List Int)} {x3 x5 x6 : SV} (hn : F.length * ys.length ≤ 16000000) (hc : ∀ c ∈ F, c.length ≤ 16000000) (hy : ys.length ≤ 1000000) (h5 : wrOk (some x5) = true) (h6 : x6 = .un ∨ ∃ d, x6 = .d d) :
    ∃ s', law_codes_s1 [.d (.tuple ys), .d p, .d (.list (F.map tupI)), x3, .own (.l []), x5, x6] = .ok (.nx, s') ∧ ∃ x5', wrOk (some x5') = true ∧
      s' = [.d (.tuple ys), .d p, .d (.list (F.map tupI)), x3, .own (.l ((codesX ys.length F).map tupI)), x5', x6] := by
  have fl6 : flatS (some x6) = true := by rcases h6 with rfl | ⟨d, rfl⟩ <;> rfl
  unfold law_codes_s1
  refine (for_inv (L := []) (xs := F.map tupI) (s1 := [.d (.tuple ys), .d p, .d (.list (F.map tupI)), x3, .own (.l []), x5, x6])
    (fun xs s => ∃ (A B : List (List Int)) (x5' : SV), A ++ B = F ∧ xs = B.map tupI ∧ wrOk (some x5') = true ∧ s = [.d (.tuple ys), .d p, .d (.list (F.map tupI)), x3, .own (.l ((codesX ys.length A).map tupI)), x5', x6]) ?_ (by simp only [m_vb, bnd_ok, bnd_er, m_vr, m_stuck, m_seq, bS_nx, bS_bk, bS_ct, bS_rt, bS_er, m_if, m_ite, bI_t, bI_f, bI_er, m_and, m_or, m_not, m_bool, evB_b, m_opt, m_optn, m_tru, tru_b, tru_i, tru_n, tru_l, tru_t, m_var, var_d, var_own, var_io, var_lk, var_rd, m_c, st_d, st_o, st_l, oc_l, oc_m, rd_d, rd_o, rd_l, rdR_own, rdR_io, rdR_lk, m_bin, m_un, m_call, m_rdn, m_rdc, m_cons, m_conss, m_tup, m_lst, dts_n, dts_c, o_map, o_bind, add_i, sub_i, mul_i, mod_i, fdiv_i, pow_i, neg_i, iadd_i, abs_i, int_i, int_b, len_l, len_t, add_l, add_t, lt_i, le_i, gt_i, ge_i, eq_i, ne_i, eqF_i, neF_i, tuple_l, tuple_t, list_l, list_t, ix_l, ix_t, m_ret, m_drop, m_nx, m_asg, m_nox, nx_ok, set_d, set_o, setD_, wr_un, wr_d, wr_o, wr_rd, m_aug, m_asgD, evD_d, evD_o, m_frzn, m_frzc, m_frz1, fz_d, fz_un, fz_io, fz_lk, fz_rd, fz_o, m_sub, m_augS, m_app, ap_o, ap_io, m_ct, ct_o, ct_io, m_isl, is_o, is_io, m_mut, m_mutB, m_mut0, intD_i, m_sl, m_pn, m_ps, rs_d, rs_l, rsR_rd, rsR_o, rsR_io, sl_l, sl_t, arg_n, arg_c, arg_d, arg_l, ar_o, ar_io, ar_lk, ar_rd, put_n, put_d, put_io, m_put, pt_o, pt_io, i_seq, src_l, src_t, src_o, src_n, sr_o, sr_io, sr_lk, i_rng, i_enum, i_zip, i_rev, unl_n, unl_c, unl_1, ul_lk, ob_t, ob_f, wp_n, wp_c, rt_n, rt_c, fl_un, fl_d, m_unpT, tupD_t, unp_n, unp_c, range_1, range_2, ext_l, ext_t, app_1, m_pc, m_par, rl_n, rl_d, rl_o, rl_l, rlR_o, sr_n, sto_d, sto_o, mulE_i, mulE_t, m_andV, m_orV, m_notE, m_listRg, ite_t, ite_f, m_chain, m_fgt, m_fgtE, fgE_nx, fgE_ct, fgE_bk, fgE_rt, fgE_er, fgts_n, fgts_c, m_fgt1, fg_d, fg_o, fg_un, fg_rd, fg_io, fg_lk, m_raise, List.getElem?_cons_zero, List.getElem?_cons_succ, List.set_cons_zero, List.set_cons_succ, Option.map_some, Option.bind_some, if_true, and_self]) ⟨[], F, x5, rfl, rfl, h5, rfl⟩).imp fun s' ⟨h1, h2⟩ => ⟨h1, ?_⟩
  · rintro x xs s ⟨A, B, x5', e1, e2, h5', rfl⟩
    cases B with
    | nil => cases e2
    | cons c B =>
      cases e2
      have hcF : c ∈ F := by rw [← e1]; simp
      have hn1 : (-1000000000 : Int) ≤ (ys.length : Int) ∧ (ys.length : Int) ≤ 1000000000 := by omega
      have lc : vLcF [6] (vItRng (vCons (vCall lenD (vCons (vVar 0) (vr []))) (vr []))) (vSetD 6) (vr true) (vBin addD (vVar 5) (vTuple (vCons (vVar 6) (vr [])))) [.d (.tuple ys), .d p, .d (.list (F.map tupI)), x3, .own (.l ((codesX ys.length A).map tupI)), .d (tupI c), x6]
          = .ok (.own (.l (((List.range ys.length).filter fun _ => true).map fun (t : Nat) => tupI (c ++ [Int.ofNat t]))), [.d (.tuple ys), .d p, .d (.list (F.map tupI)), x3, .own (.l ((codesX ys.length A).map tupI)), .d (tupI c), x6]) := by
        have hw : wipeV [6] [.d (.tuple ys), .d p, .d (.list (F.map tupI)), x3, .own (.l ((codesX ys.length A).map tupI)), .d (tupI c), x6] = ([.d (.tuple ys), .d p, .d (.list (F.map tupI)), x3, .own (.l ((codesX ys.length A).map tupI)), .d (tupI c), .un] : VS) := rfl
        refine lcF_of (xs := (List.range ys.length).map fun (i : Nat) => PyData.int (Int.ofNat i)) (L := []) (s1 := [.d (.tuple ys), .d p, .d (.list (F.map tupI)), x3, .own (.l ((codesX ys.length A).map tupI)), .d (tupI c), x6])
          (s2 := [.d (.tuple ys), .d p, .d (.list (F.map tupI)), x3, .own (.l ((codesX ys.length A).map tupI)), .d (tupI c), .un]) ?_ (by show ([6].all fun j => flatS _) = true; simp only [List.all_cons, List.all_nil, List.getElem?_cons_succ, List.getElem?_cons_zero, fl6]; rfl) ?_ ?_
        · simp only [m_vb, bnd_ok, bnd_er, m_vr, m_stuck, m_seq, bS_nx, bS_bk, bS_ct, bS_rt, bS_er, m_if, m_ite, bI_t, bI_f, bI_er, m_and, m_or, m_not, m_bool, evB_b, m_opt, m_optn, m_tru, tru_b, tru_i, tru_n, tru_l, tru_t, m_var, var_d, var_own, var_io, var_lk, var_rd, m_c, st_d, st_o, st_l, oc_l, oc_m, rd_d, rd_o, rd_l, rdR_own, rdR_io, rdR_lk, m_bin, m_un, m_call, m_rdn, m_rdc, m_cons, m_conss, m_tup, m_lst, dts_n, dts_c, o_map, o_bind, add_i, sub_i, mul_i, mod_i, fdiv_i, pow_i, neg_i, iadd_i, abs_i, int_i, int_b, len_l, len_t, add_l, add_t, lt_i, le_i, gt_i, ge_i, eq_i, ne_i, eqF_i, neF_i, tuple_l, tuple_t, list_l, list_t, ix_l, ix_t, m_ret, m_drop, m_nx, m_asg, m_nox, nx_ok, set_d, set_o, setD_, wr_un, wr_d, wr_o, wr_rd, m_aug, m_asgD, evD_d, evD_o, m_frzn, m_frzc, m_frz1, fz_d, fz_un, fz_io, fz_lk, fz_rd, fz_o, m_sub, m_augS, m_app, ap_o, ap_io, m_ct, ct_o, ct_io, m_isl, is_o, is_io, m_mut, m_mutB, m_mut0, intD_i, m_sl, m_pn, m_ps, rs_d, rs_l, rsR_rd, rsR_o, rsR_io, sl_l, sl_t, arg_n, arg_c, arg_d, arg_l, ar_o, ar_io, ar_lk, ar_rd, put_n, put_d, put_io, m_put, pt_o, pt_io, i_seq, src_l, src_t, src_o, src_n, sr_o, sr_io, sr_lk, i_rng, i_enum, i_zip, i_rev, unl_n, unl_c, unl_1, ul_lk, ob_t, ob_f, wp_n, wp_c, rt_n, rt_c, fl_un, fl_d, m_unpT, tupD_t, unp_n, unp_c, range_1, range_2, ext_l, ext_t, app_1, m_pc, m_par, rl_n, rl_d, rl_o, rl_l, rlR_o, sr_n, sto_d, sto_o, mulE_i, mulE_t, m_andV, m_orV, m_notE, m_listRg, ite_t, ite_f, m_chain, m_fgt, m_fgtE, fgE_nx, fgE_ct, fgE_bk, fgE_rt, fgE_er, fgts_n, fgts_c, m_fgt1, fg_d, fg_o, fg_un, fg_rd, fg_io, fg_lk, m_raise, List.getElem?_cons_zero, List.getElem?_cons_succ, List.set_cons_zero, List.set_cons_succ, Option.map_some, Option.bind_some, if_true, and_self, range_1, hn1, Int.toNat_natCast, rngD_map]
        · rw [hw]
          refine lcG_pure (p := fun _ => true) (h := fun (t : Nat) => tupI (c ++ [Int.ofNat t])) (List.range ys.length) fun t _ => ⟨_, _, rfl, rfl, fun h => absurd h (by decide), fun _ => ⟨.d (tupI (c ++ [Int.ofNat t])), [.d (.tuple ys), .d p, .d (.list (F.map tupI)), x3, .own (.l ((codesX ys.length A).map tupI)), .d (tupI c), .d (.int (Int.ofNat t))], ?_, rfl, rfl, rfl⟩⟩
          have l1 : (c.map PyData.int).length + ([PyData.int (Int.ofNat t)] : List Da).length ≤ 16777216 := by
            have := hc c hcF
            rw [List.length_map]; show _ + 1 ≤ _; omega
          have l2 : ([PyData.int (Int.ofNat t)] : List Da).length ≤ 16777216 := by show 1 ≤ _; omega
          show vBin addD (vVar 5) (vTuple (vCons (vVar 6) (vr []))) [.d (.tuple ys), .d p, .d (.list (F.map tupI)), x3, .own (.l ((codesX ys.length A).map tupI)), .d (tupI c), .d (.int (Int.ofNat t))] = _
          simp only [m_vb, bnd_ok, bnd_er, m_vr, m_stuck, m_seq, bS_nx, bS_bk, bS_ct, bS_rt, bS_er, m_if, m_ite, bI_t, bI_f, bI_er, m_and, m_or, m_not, m_bool, evB_b, m_opt, m_optn, m_tru, tru_b, tru_i, tru_n, tru_l, tru_t, m_var, var_d, var_own, var_io, var_lk, var_rd, m_c, st_d, st_o, st_l, oc_l, oc_m, rd_d, rd_o, rd_l, rdR_own, rdR_io, rdR_lk, m_bin, m_un, m_call, m_rdn, m_rdc, m_cons, m_conss, m_tup, m_lst, dts_n, dts_c, o_map, o_bind, add_i, sub_i, mul_i, mod_i, fdiv_i, pow_i, neg_i, iadd_i, abs_i, int_i, int_b, len_l, len_t, add_l, add_t, lt_i, le_i, gt_i, ge_i, eq_i, ne_i, eqF_i, neF_i, tuple_l, tuple_t, list_l, list_t, ix_l, ix_t, m_ret, m_drop, m_nx, m_asg, m_nox, nx_ok, set_d, set_o, setD_, wr_un, wr_d, wr_o, wr_rd, m_aug, m_asgD, evD_d, evD_o, m_frzn, m_frzc, m_frz1, fz_d, fz_un, fz_io, fz_lk, fz_rd, fz_o, m_sub, m_augS, m_app, ap_o, ap_io, m_ct, ct_o, ct_io, m_isl, is_o, is_io, m_mut, m_mutB, m_mut0, intD_i, m_sl, m_pn, m_ps, rs_d, rs_l, rsR_rd, rsR_o, rsR_io, sl_l, sl_t, arg_n, arg_c, arg_d, arg_l, ar_o, ar_io, ar_lk, ar_rd, put_n, put_d, put_io, m_put, pt_o, pt_io, i_seq, src_l, src_t, src_o, src_n, sr_o, sr_io, sr_lk, i_rng, i_enum, i_zip, i_rev, unl_n, unl_c, unl_1, ul_lk, ob_t, ob_f, wp_n, wp_c, rt_n, rt_c, fl_un, fl_d, m_unpT, tupD_t, unp_n, unp_c, range_1, range_2, ext_l, ext_t, app_1, m_pc, m_par, rl_n, rl_d, rl_o, rl_l, rlR_o, sr_n, sto_d, sto_o, mulE_i, mulE_t, m_andV, m_orV, m_notE, m_listRg, ite_t, ite_f, m_chain, m_fgt, m_fgtE, fgE_nx, fgE_ct, fgE_bk, fgE_rt, fgE_er, fgts_n, fgts_c, m_fgt1, fg_d, fg_o, fg_un, fg_rd, fg_io, fg_lk, m_raise, List.getElem?_cons_zero, List.getElem?_cons_succ, List.set_cons_zero, List.set_cons_succ, Option.map_some, Option.bind_some, if_true, and_self, tupI, l1, l2, List.map_append, List.map_cons, List.map_nil]
        · rw [List.length_map]
          have := List.length_filter_le (fun _ => true) (List.range ys.length)
          rw [List.length_range] at this
          omega
      rw [List.filter_eq_self.mpr (by simp)] at lc
      have cap : ((codesX ys.length A).map tupI).length + ((List.range ys.length).map fun (t : Nat) => tupI (c ++ [Int.ofNat t])).length ≤ 16777216 := by
        rw [List.length_map, codesX_len, List.length_map, List.length_range]
        have : F.length = A.length + (B.length + 1) := by rw [← e1]; simp
        have : (A.length + 1) * ys.length ≤ F.length * ys.length := Nat.mul_le_mul_right _ (by omega)
        rw [Nat.add_mul, Nat.one_mul] at this
        omega
      refine ⟨[.d (.tuple ys), .d p, .d (.list (F.map tupI)), x3, .own (.l ((codesX ys.length A).map tupI)), .d (tupI c), x6], .nx, [.d (.tuple ys), .d p, .d (.list (F.map tupI)), x3, .own (.l ((codesX ys.length (A ++ [c])).map tupI)), .d (tupI c), x6], ?_, ?_, .inl rfl, A ++ [c], B, .d (tupI c), by rw [← e1]; simp, rfl, rfl, rfl⟩
      · simp only [m_vb, bnd_ok, bnd_er, m_vr, m_stuck, m_seq, bS_nx, bS_bk, bS_ct, bS_rt, bS_er, m_if, m_ite, bI_t, bI_f, bI_er, m_and, m_or, m_not, m_bool, evB_b, m_opt, m_optn, m_tru, tru_b, tru_i, tru_n, tru_l, tru_t, m_var, var_d, var_own, var_io, var_lk, var_rd, m_c, st_d, st_o, st_l, oc_l, oc_m, rd_d, rd_o, rd_l, rdR_own, rdR_io, rdR_lk, m_bin, m_un, m_call, m_rdn, m_rdc, m_cons, m_conss, m_tup, m_lst, dts_n, dts_c, o_map, o_bind, add_i, sub_i, mul_i, mod_i, fdiv_i, pow_i, neg_i, iadd_i, abs_i, int_i, int_b, len_l, len_t, add_l, add_t, lt_i, le_i, gt_i, ge_i, eq_i, ne_i, eqF_i, neF_i, tuple_l, tuple_t, list_l, list_t, ix_l, ix_t, m_ret, m_drop, m_nx, m_asg, m_nox, nx_ok, set_d, set_o, setD_, wr_un, wr_d, wr_o, wr_rd, m_aug, m_asgD, evD_d, evD_o, m_frzn, m_frzc, m_frz1, fz_d, fz_un, fz_io, fz_lk, fz_rd, fz_o, m_sub, m_augS, m_app, ap_o, ap_io, m_ct, ct_o, ct_io, m_isl, is_o, is_io, m_mut, m_mutB, m_mut0, intD_i, m_sl, m_pn, m_ps, rs_d, rs_l, rsR_rd, rsR_o, rsR_io, sl_l, sl_t, arg_n, arg_c, arg_d, arg_l, ar_o, ar_io, ar_lk, ar_rd, put_n, put_d, put_io, m_put, pt_o, pt_io, i_seq, src_l, src_t, src_o, src_n, sr_o, sr_io, sr_lk, i_rng, i_enum, i_zip, i_rev, unl_n, unl_c, unl_1, ul_lk, ob_t, ob_f, wp_n, wp_c, rt_n, rt_c, fl_un, fl_d, m_unpT, tupD_t, unp_n, unp_c, range_1, range_2, ext_l, ext_t, app_1, m_pc, m_par, rl_n, rl_d, rl_o, rl_l, rlR_o, sr_n, sto_d, sto_o, mulE_i, mulE_t, m_andV, m_orV, m_notE, m_listRg, ite_t, ite_f, m_chain, m_fgt, m_fgtE, fgE_nx, fgE_ct, fgE_bk, fgE_rt, fgE_er, fgts_n, fgts_c, m_fgt1, fg_d, fg_o, fg_un, fg_rd, fg_io, fg_lk, m_raise, List.getElem?_cons_zero, List.getElem?_cons_succ, List.set_cons_zero, List.set_cons_succ, Option.map_some, Option.bind_some, if_true, and_self, h5']
      · simp only [m_vb, bnd_ok, bnd_er, m_vr, m_stuck, m_seq, bS_nx, bS_bk, bS_ct, bS_rt, bS_er, m_if, m_ite, bI_t, bI_f, bI_er, m_and, m_or, m_not, m_bool, evB_b, m_opt, m_optn, m_tru, tru_b, tru_i, tru_n, tru_l, tru_t, m_var, var_d, var_own, var_io, var_lk, var_rd, m_c, st_d, st_o, st_l, oc_l, oc_m, rd_d, rd_o, rd_l, rdR_own, rdR_io, rdR_lk, m_bin, m_un, m_call, m_rdn, m_rdc, m_cons, m_conss, m_tup, m_lst, dts_n, dts_c, o_map, o_bind, add_i, sub_i, mul_i, mod_i, fdiv_i, pow_i, neg_i, iadd_i, abs_i, int_i, int_b, len_l, len_t, add_l, add_t, lt_i, le_i, gt_i, ge_i, eq_i, ne_i, eqF_i, neF_i, tuple_l, tuple_t, list_l, list_t, ix_l, ix_t, m_ret, m_drop, m_nx, m_asg, m_nox, nx_ok, set_d, set_o, setD_, wr_un, wr_d, wr_o, wr_rd, m_aug, m_asgD, evD_d, evD_o, m_frzn, m_frzc, m_frz1, fz_d, fz_un, fz_io, fz_lk, fz_rd, fz_o, m_sub, m_augS, m_app, ap_o, ap_io, m_ct, ct_o, ct_io, m_isl, is_o, is_io, m_mut, m_mutB, m_mut0, intD_i, m_sl, m_pn, m_ps, rs_d, rs_l, rsR_rd, rsR_o, rsR_io, sl_l, sl_t, arg_n, arg_c, arg_d, arg_l, ar_o, ar_io, ar_lk, ar_rd, put_n, put_d, put_io, m_put, pt_o, pt_io, i_seq, src_l, src_t, src_o, src_n, sr_o, sr_io, sr_lk, i_rng, i_enum, i_zip, i_rev, unl_n, unl_c, unl_1, ul_lk, ob_t, ob_f, wp_n, wp_c, rt_n, rt_c, fl_un, fl_d, m_unpT, tupD_t, unp_n, unp_c, range_1, range_2, ext_l, ext_t, app_1, m_pc, m_par, rl_n, rl_d, rl_o, rl_l, rlR_o, sr_n, sto_d, sto_o, mulE_i, mulE_t, m_andV, m_orV, m_notE, m_listRg, ite_t, ite_f, m_chain, m_fgt, m_fgtE, fgE_nx, fgE_ct, fgE_bk, fgE_rt, fgE_er, fgts_n, fgts_c, m_fgt1, fg_d, fg_o, fg_un, fg_rd, fg_io, fg_lk, m_raise, List.getElem?_cons_zero, List.getElem?_cons_succ, List.set_cons_zero, List.set_cons_succ, Option.map_some, Option.bind_some, if_true, and_self, lc, cap, codesX_snoc]
  · obtain ⟨A, B, x5', e1, e2, h5', rfl⟩ := h2
    have : B = [] := by cases B with
      | nil => rfl
      | cons _ _ => cases e2
    subst this
    rw [List.append_nil] at e1
    subst e1
    exact ⟨x5', h5', rfl⟩
theorem codes_ok {ys : List Da} {p : Nat} (hp : p ≤ 1000000) (hy : ys.length ≤ 1000000) (hn : ∀ q, q < p → ys.length ^ q * ys.length ≤ 16000000) :
    F__law_codes [.d (.tuple ys), .d (.int p)] = .ok (.d (.list ((codesP ys.length p).map tupI)), [.d (.tuple ys), .d (.int p)]) := by
  have hn1 : (-1000000000 : Int) ≤ (p : Int) ∧ (p : Int) ≤ 1000000000 := by omega
  have loop : ∃ s', law_codes_s2 [.d (.tuple ys), .d (.int p), .own (.l [tupI []]), .un, .un, .un, .un] = .ok (.nx, s') ∧ ∃ x3 x4 x5 : SV, s' = [.d (.tuple ys), .d (.int p), .own (.l ((codesP ys.length p).map tupI)), x3, x4, x5, .un] := by
    unfold law_codes_s2
    refine (for_inv (L := []) (xs := rngD 0 p 1) (s1 := [.d (.tuple ys), .d (.int p), .own (.l [tupI []]), .un, .un, .un, .un])
      (fun xs s => ∃ (q : Nat) (x3 x4 x5 : SV), q + xs.length = p ∧ wrOk (some x3) = true ∧ wrOk (some x4) = true ∧ wrOk (some x5) = true ∧ s = [.d (.tuple ys), .d (.int p), .own (.l ((codesP ys.length q).map tupI)), x3, x4, x5, .un]) ?_ (by simp only [m_vb, bnd_ok, bnd_er, m_vr, m_stuck, m_seq, bS_nx, bS_bk, bS_ct, bS_rt, bS_er, m_if, m_ite, bI_t, bI_f, bI_er, m_and, m_or, m_not, m_bool, evB_b, m_opt, m_optn, m_tru, tru_b, tru_i, tru_n, tru_l, tru_t, m_var, var_d, var_own, var_io, var_lk, var_rd, m_c, st_d, st_o, st_l, oc_l, oc_m, rd_d, rd_o, rd_l, rdR_own, rdR_io, rdR_lk, m_bin, m_un, m_call, m_rdn, m_rdc, m_cons, m_conss, m_tup, m_lst, dts_n, dts_c, o_map, o_bind, add_i, sub_i, mul_i, mod_i, fdiv_i, pow_i, neg_i, iadd_i, abs_i, int_i, int_b, len_l, len_t, add_l, add_t, lt_i, le_i, gt_i, ge_i, eq_i, ne_i, eqF_i, neF_i, tuple_l, tuple_t, list_l, list_t, ix_l, ix_t, m_ret, m_drop, m_nx, m_asg, m_nox, nx_ok, set_d, set_o, setD_, wr_un, wr_d, wr_o, wr_rd, m_aug, m_asgD, evD_d, evD_o, m_frzn, m_frzc, m_frz1, fz_d, fz_un, fz_io, fz_lk, fz_rd, fz_o, m_sub, m_augS, m_app, ap_o, ap_io, m_ct, ct_o, ct_io, m_isl, is_o, is_io, m_mut, m_mutB, m_mut0, intD_i, m_sl, m_pn, m_ps, rs_d, rs_l, rsR_rd, rsR_o, rsR_io, sl_l, sl_t, arg_n, arg_c, arg_d, arg_l, ar_o, ar_io, ar_lk, ar_rd, put_n, put_d, put_io, m_put, pt_o, pt_io, i_seq, src_l, src_t, src_o, src_n, sr_o, sr_io, sr_lk, i_rng, i_enum, i_zip, i_rev, unl_n, unl_c, unl_1, ul_lk, ob_t, ob_f, wp_n, wp_c, rt_n, rt_c, fl_un, fl_d, m_unpT, tupD_t, unp_n, unp_c, range_1, range_2, ext_l, ext_t, app_1, m_pc, m_par, rl_n, rl_d, rl_o, rl_l, rlR_o, sr_n, sto_d, sto_o, mulE_i, mulE_t, m_andV, m_orV, m_notE, m_listRg, ite_t, ite_f, m_chain, m_fgt, m_fgtE, fgE_nx, fgE_ct, fgE_bk, fgE_rt, fgE_er, fgts_n, fgts_c, m_fgt1, fg_d, fg_o, fg_un, fg_rd, fg_io, fg_lk, m_raise, List.getElem?_cons_zero, List.getElem?_cons_succ, List.set_cons_zero, List.set_cons_succ, Option.map_some, Option.bind_some, if_true, and_self, range_1, hn1, Int.toNat_natCast]) ⟨0, .un, .un, .un, by rw [rngD_len]; simp, rfl, rfl, rfl, rfl⟩).imp fun s' ⟨h1, h2⟩ => ⟨h1, ?_⟩
    · rintro x xs s ⟨q, x3, x4, x5, e, h3, h4, h5, rfl⟩
      rw [List.length_cons] at e
      obtain ⟨s', hs, x5', h5', rfl⟩ := codes_s1_ok (ys := ys) (p := .int p) (F := codesP ys.length q) (x3 := .d x) (x5 := x5) (x6 := .un) (by rw [codesP_len]; exact hn q (by omega)) (fun c hc => by rw [codesP_mem _ _ c hc]; omega) hy h5 (.inl rfl)
      refine ⟨[.d (.tuple ys), .d (.int p), .own (.l ((codesP ys.length q).map tupI)), .d x, x4, x5, .un], .nx, [.d (.tuple ys), .d (.int p), .own (.l ((codesP ys.length (q + 1)).map tupI)), .d x, .un, x5', .un], ?_, ?_, .inl rfl, q + 1, .d x, .un, x5', by omega, rfl, rfl, h5', rfl⟩
      · simp only [m_vb, bnd_ok, bnd_er, m_vr, m_stuck, m_seq, bS_nx, bS_bk, bS_ct, bS_rt, bS_er, m_if, m_ite, bI_t, bI_f, bI_er, m_and, m_or, m_not, m_bool, evB_b, m_opt, m_optn, m_tru, tru_b, tru_i, tru_n, tru_l, tru_t, m_var, var_d, var_own, var_io, var_lk, var_rd, m_c, st_d, st_o, st_l, oc_l, oc_m, rd_d, rd_o, rd_l, rdR_own, rdR_io, rdR_lk, m_bin, m_un, m_call, m_rdn, m_rdc, m_cons, m_conss, m_tup, m_lst, dts_n, dts_c, o_map, o_bind, add_i, sub_i, mul_i, mod_i, fdiv_i, pow_i, neg_i, iadd_i, abs_i, int_i, int_b, len_l, len_t, add_l, add_t, lt_i, le_i, gt_i, ge_i, eq_i, ne_i, eqF_i, neF_i, tuple_l, tuple_t, list_l, list_t, ix_l, ix_t, m_ret, m_drop, m_nx, m_asg, m_nox, nx_ok, set_d, set_o, setD_, wr_un, wr_d, wr_o, wr_rd, m_aug, m_asgD, evD_d, evD_o, m_frzn, m_frzc, m_frz1, fz_d, fz_un, fz_io, fz_lk, fz_rd, fz_o, m_sub, m_augS, m_app, ap_o, ap_io, m_ct, ct_o, ct_io, m_isl, is_o, is_io, m_mut, m_mutB, m_mut0, intD_i, m_sl, m_pn, m_ps, rs_d, rs_l, rsR_rd, rsR_o, rsR_io, sl_l, sl_t, arg_n, arg_c, arg_d, arg_l, ar_o, ar_io, ar_lk, ar_rd, put_n, put_d, put_io, m_put, pt_o, pt_io, i_seq, src_l, src_t, src_o, src_n, sr_o, sr_io, sr_lk, i_rng, i_enum, i_zip, i_rev, unl_n, unl_c, unl_1, ul_lk, ob_t, ob_f, wp_n, wp_c, rt_n, rt_c, fl_un, fl_d, m_unpT, tupD_t, unp_n, unp_c, range_1, range_2, ext_l, ext_t, app_1, m_pc, m_par, rl_n, rl_d, rl_o, rl_l, rlR_o, sr_n, sto_d, sto_o, mulE_i, mulE_t, m_andV, m_orV, m_notE, m_listRg, ite_t, ite_f, m_chain, m_fgt, m_fgtE, fgE_nx, fgE_ct, fgE_bk, fgE_rt, fgE_er, fgts_n, fgts_c, m_fgt1, fg_d, fg_o, fg_un, fg_rd, fg_io, fg_lk, m_raise, List.getElem?_cons_zero, List.getElem?_cons_succ, List.set_cons_zero, List.set_cons_succ, Option.map_some, Option.bind_some, if_true, and_self, h3]
      · refine seq_then (s1 := [.d (.tuple ys), .d (.int p), .own (.l ((codesP ys.length q).map tupI)), .d x, .own (.l []), x5, .un]) ?_ (seq_then (s1 := [.d (.tuple ys), .d (.int p), .d (.list ((codesP ys.length q).map tupI)), .d x, .own (.l ((codesX ys.length (codesP ys.length q)).map tupI)), x5', .un]) ?_ ?_)
        · simp only [m_vb, bnd_ok, bnd_er, m_vr, m_stuck, m_seq, bS_nx, bS_bk, bS_ct, bS_rt, bS_er, m_if, m_ite, bI_t, bI_f, bI_er, m_and, m_or, m_not, m_bool, evB_b, m_opt, m_optn, m_tru, tru_b, tru_i, tru_n, tru_l, tru_t, m_var, var_d, var_own, var_io, var_lk, var_rd, m_c, st_d, st_o, st_l, oc_l, oc_m, rd_d, rd_o, rd_l, rdR_own, rdR_io, rdR_lk, m_bin, m_un, m_call, m_rdn, m_rdc, m_cons, m_conss, m_tup, m_lst, dts_n, dts_c, o_map, o_bind, add_i, sub_i, mul_i, mod_i, fdiv_i, pow_i, neg_i, iadd_i, abs_i, int_i, int_b, len_l, len_t, add_l, add_t, lt_i, le_i, gt_i, ge_i, eq_i, ne_i, eqF_i, neF_i, tuple_l, tuple_t, list_l, list_t, ix_l, ix_t, m_ret, m_drop, m_nx, m_asg, m_nox, nx_ok, set_d, set_o, setD_, wr_un, wr_d, wr_o, wr_rd, m_aug, m_asgD, evD_d, evD_o, m_frzn, m_frzc, m_frz1, fz_d, fz_un, fz_io, fz_lk, fz_rd, fz_o, m_sub, m_augS, m_app, ap_o, ap_io, m_ct, ct_o, ct_io, m_isl, is_o, is_io, m_mut, m_mutB, m_mut0, intD_i, m_sl, m_pn, m_ps, rs_d, rs_l, rsR_rd, rsR_o, rsR_io, sl_l, sl_t, arg_n, arg_c, arg_d, arg_l, ar_o, ar_io, ar_lk, ar_rd, put_n, put_d, put_io, m_put, pt_o, pt_io, i_seq, src_l, src_t, src_o, src_n, sr_o, sr_io, sr_lk, i_rng, i_enum, i_zip, i_rev, unl_n, unl_c, unl_1, ul_lk, ob_t, ob_f, wp_n, wp_c, rt_n, rt_c, fl_un, fl_d, m_unpT, tupD_t, unp_n, unp_c, range_1, range_2, ext_l, ext_t, app_1, m_pc, m_par, rl_n, rl_d, rl_o, rl_l, rlR_o, sr_n, sto_d, sto_o, mulE_i, mulE_t, m_andV, m_orV, m_notE, m_listRg, ite_t, ite_f, m_chain, m_fgt, m_fgtE, fgE_nx, fgE_ct, fgE_bk, fgE_rt, fgE_er, fgts_n, fgts_c, m_fgt1, fg_d, fg_o, fg_un, fg_rd, fg_io, fg_lk, m_raise, List.getElem?_cons_zero, List.getElem?_cons_succ, List.set_cons_zero, List.set_cons_succ, Option.map_some, Option.bind_some, if_true, and_self, h4, List.length_nil, Nat.zero_le]
        · simp only [m_vb, bnd_ok, bnd_er, m_vr, m_stuck, m_seq, bS_nx, bS_bk, bS_ct, bS_rt, bS_er, m_if, m_ite, bI_t, bI_f, bI_er, m_and, m_or, m_not, m_bool, evB_b, m_opt, m_optn, m_tru, tru_b, tru_i, tru_n, tru_l, tru_t, m_var, var_d, var_own, var_io, var_lk, var_rd, m_c, st_d, st_o, st_l, oc_l, oc_m, rd_d, rd_o, rd_l, rdR_own, rdR_io, rdR_lk, m_bin, m_un, m_call, m_rdn, m_rdc, m_cons, m_conss, m_tup, m_lst, dts_n, dts_c, o_map, o_bind, add_i, sub_i, mul_i, mod_i, fdiv_i, pow_i, neg_i, iadd_i, abs_i, int_i, int_b, len_l, len_t, add_l, add_t, lt_i, le_i, gt_i, ge_i, eq_i, ne_i, eqF_i, neF_i, tuple_l, tuple_t, list_l, list_t, ix_l, ix_t, m_ret, m_drop, m_nx, m_asg, m_nox, nx_ok, set_d, set_o, setD_, wr_un, wr_d, wr_o, wr_rd, m_aug, m_asgD, evD_d, evD_o, m_frzn, m_frzc, m_frz1, fz_d, fz_un, fz_io, fz_lk, fz_rd, fz_o, m_sub, m_augS, m_app, ap_o, ap_io, m_ct, ct_o, ct_io, m_isl, is_o, is_io, m_mut, m_mutB, m_mut0, intD_i, m_sl, m_pn, m_ps, rs_d, rs_l, rsR_rd, rsR_o, rsR_io, sl_l, sl_t, arg_n, arg_c, arg_d, arg_l, ar_o, ar_io, ar_lk, ar_rd, put_n, put_d, put_io, m_put, pt_o, pt_io, i_seq, src_l, src_t, src_o, src_n, sr_o, sr_io, sr_lk, i_rng, i_enum, i_zip, i_rev, unl_n, unl_c, unl_1, ul_lk, ob_t, ob_f, wp_n, wp_c, rt_n, rt_c, fl_un, fl_d, m_unpT, tupD_t, unp_n, unp_c, range_1, range_2, ext_l, ext_t, app_1, m_pc, m_par, rl_n, rl_d, rl_o, rl_l, rlR_o, sr_n, sto_d, sto_o, mulE_i, mulE_t, m_andV, m_orV, m_notE, m_listRg, ite_t, ite_f, m_chain, m_fgt, m_fgtE, fgE_nx, fgE_ct, fgE_bk, fgE_rt, fgE_er, fgts_n, fgts_c, m_fgt1, fg_d, fg_o, fg_un, fg_rd, fg_io, fg_lk, m_raise, List.getElem?_cons_zero, List.getElem?_cons_succ, List.set_cons_zero, List.set_cons_succ, Option.map_some, Option.bind_some, if_true, and_self]; exact hs
        · simp only [m_vb, bnd_ok, bnd_er, m_vr, m_stuck, m_seq, bS_nx, bS_bk, bS_ct, bS_rt, bS_er, m_if, m_ite, bI_t, bI_f, bI_er, m_and, m_or, m_not, m_bool, evB_b, m_opt, m_optn, m_tru, tru_b, tru_i, tru_n, tru_l, tru_t, m_var, var_d, var_own, var_io, var_lk, var_rd, m_c, st_d, st_o, st_l, oc_l, oc_m, rd_d, rd_o, rd_l, rdR_own, rdR_io, rdR_lk, m_bin, m_un, m_call, m_rdn, m_rdc, m_cons, m_conss, m_tup, m_lst, dts_n, dts_c, o_map, o_bind, add_i, sub_i, mul_i, mod_i, fdiv_i, pow_i, neg_i, iadd_i, abs_i, int_i, int_b, len_l, len_t, add_l, add_t, lt_i, le_i, gt_i, ge_i, eq_i, ne_i, eqF_i, neF_i, tuple_l, tuple_t, list_l, list_t, ix_l, ix_t, m_ret, m_drop, m_nx, m_asg, m_nox, nx_ok, set_d, set_o, setD_, wr_un, wr_d, wr_o, wr_rd, m_aug, m_asgD, evD_d, evD_o, m_frzn, m_frzc, m_frz1, fz_d, fz_un, fz_io, fz_lk, fz_rd, fz_o, m_sub, m_augS, m_app, ap_o, ap_io, m_ct, ct_o, ct_io, m_isl, is_o, is_io, m_mut, m_mutB, m_mut0, intD_i, m_sl, m_pn, m_ps, rs_d, rs_l, rsR_rd, rsR_o, rsR_io, sl_l, sl_t, arg_n, arg_c, arg_d, arg_l, ar_o, ar_io, ar_lk, ar_rd, put_n, put_d, put_io, m_put, pt_o, pt_io, i_seq, src_l, src_t, src_o, src_n, sr_o, sr_io, sr_lk, i_rng, i_enum, i_zip, i_rev, unl_n, unl_c, unl_1, ul_lk, ob_t, ob_f, wp_n, wp_c, rt_n, rt_c, fl_un, fl_d, m_unpT, tupD_t, unp_n, unp_c, range_1, range_2, ext_l, ext_t, app_1, m_pc, m_par, rl_n, rl_d, rl_o, rl_l, rlR_o, sr_n, sto_d, sto_o, mulE_i, mulE_t, m_andV, m_orV, m_notE, m_listRg, ite_t, ite_f, m_chain, m_fgt, m_fgtE, fgE_nx, fgE_ct, fgE_bk, fgE_rt, fgE_er, fgts_n, fgts_c, m_fgt1, fg_d, fg_o, fg_un, fg_rd, fg_io, fg_lk, m_raise, List.getElem?_cons_zero, List.getElem?_cons_succ, List.set_cons_zero, List.set_cons_succ, Option.map_some, Option.bind_some, if_true, and_self]; rfl
    · obtain ⟨q, x3, x4, x5, e, _, _, _, rfl⟩ := h2
      have : q = p := by simpa using e
      subst this
      exact ⟨x3, x4, x5, rfl⟩
  obtain ⟨s', hs, x3, x4, x5, rfl⟩ := loop
  refine run_ok (c := .rt (.d (.list ((codesP ys.length p).map tupI)))) (s := [.d (.tuple ys), .d (.int p), .d (.list ((codesP ys.length p).map tupI)), x3, x4, x5, .un]) ?_ rfl
  show g__law_codes [.d (.tuple ys), .d (.int p), .un, .un, .un, .un, .un] = _
  unfold g__law_codes
  refine seq_then (s1 := [.d (.tuple ys), .d (.int p), .own (.l [tupI []]), .un, .un, .un, .un]) ?_ (seq_then hs ?_)
  · simp only [m_vb, bnd_ok, bnd_er, m_vr, m_stuck, m_seq, bS_nx, bS_bk, bS_ct, bS_rt, bS_er, m_if, m_ite, bI_t, bI_f, bI_er, m_and, m_or, m_not, m_bool, evB_b, m_opt, m_optn, m_tru, tru_b, tru_i, tru_n, tru_l, tru_t, m_var, var_d, var_own, var_io, var_lk, var_rd, m_c, st_d, st_o, st_l, oc_l, oc_m, rd_d, rd_o, rd_l, rdR_own, rdR_io, rdR_lk, m_bin, m_un, m_call, m_rdn, m_rdc, m_cons, m_conss, m_tup, m_lst, dts_n, dts_c, o_map, o_bind, add_i, sub_i, mul_i, mod_i, fdiv_i, pow_i, neg_i, iadd_i, abs_i, int_i, int_b, len_l, len_t, add_l, add_t, lt_i, le_i, gt_i, ge_i, eq_i, ne_i, eqF_i, neF_i, tuple_l, tuple_t, list_l, list_t, ix_l, ix_t, m_ret, m_drop, m_nx, m_asg, m_nox, nx_ok, set_d, set_o, setD_, wr_un, wr_d, wr_o, wr_rd, m_aug, m_asgD, evD_d, evD_o, m_frzn, m_frzc, m_frz1, fz_d, fz_un, fz_io, fz_lk, fz_rd, fz_o, m_sub, m_augS, m_app, ap_o, ap_io, m_ct, ct_o, ct_io, m_isl, is_o, is_io, m_mut, m_mutB, m_mut0, intD_i, m_sl, m_pn, m_ps, rs_d, rs_l, rsR_rd, rsR_o, rsR_io, sl_l, sl_t, arg_n, arg_c, arg_d, arg_l, ar_o, ar_io, ar_lk, ar_rd, put_n, put_d, put_io, m_put, pt_o, pt_io, i_seq, src_l, src_t, src_o, src_n, sr_o, sr_io, sr_lk, i_rng, i_enum, i_zip, i_rev, unl_n, unl_c, unl_1, ul_lk, ob_t, ob_f, wp_n, wp_c, rt_n, rt_c, fl_un, fl_d, m_unpT, tupD_t, unp_n, unp_c, range_1, range_2, ext_l, ext_t, app_1, m_pc, m_par, rl_n, rl_d, rl_o, rl_l, rlR_o, sr_n, sto_d, sto_o, mulE_i, mulE_t, m_andV, m_orV, m_notE, m_listRg, ite_t, ite_f, m_chain, m_fgt, m_fgtE, fgE_nx, fgE_ct, fgE_bk, fgE_rt, fgE_er, fgts_n, fgts_c, m_fgt1, fg_d, fg_o, fg_un, fg_rd, fg_io, fg_lk, m_raise, List.getElem?_cons_zero, List.getElem?_cons_succ, List.set_cons_zero, List.set_cons_succ, Option.map_some, Option.bind_some, if_true, and_self, List.length_nil, List.length_cons, Nat.zero_le, Nat.zero_add, show (1 : Nat) ≤ 16777216 by decide]; rfl
  · simp only [m_vb, bnd_ok, bnd_er, m_vr, m_stuck, m_seq, bS_nx, bS_bk, bS_ct, bS_rt, bS_er, m_if, m_ite, bI_t, bI_f, bI_er, m_and, m_or, m_not, m_bool, evB_b, m_opt, m_optn, m_tru, tru_b, tru_i, tru_n, tru_l, tru_t, m_var, var_d, var_own, var_io, var_lk, var_rd, m_c, st_d, st_o, st_l, oc_l, oc_m, rd_d, rd_o, rd_l, rdR_own, rdR_io, rdR_lk, m_bin, m_un, m_call, m_rdn, m_rdc, m_cons, m_conss, m_tup, m_lst, dts_n, dts_c, o_map, o_bind, add_i, sub_i, mul_i, mod_i, fdiv_i, pow_i, neg_i, iadd_i, abs_i, int_i, int_b, len_l, len_t, add_l, add_t, lt_i, le_i, gt_i, ge_i, eq_i, ne_i, eqF_i, neF_i, tuple_l, tuple_t, list_l, list_t, ix_l, ix_t, m_ret, m_drop, m_nx, m_asg, m_nox, nx_ok, set_d, set_o, setD_, wr_un, wr_d, wr_o, wr_rd, m_aug, m_asgD, evD_d, evD_o, m_frzn, m_frzc, m_frz1, fz_d, fz_un, fz_io, fz_lk, fz_rd, fz_o, m_sub, m_augS, m_app, ap_o, ap_io, m_ct, ct_o, ct_io, m_isl, is_o, is_io, m_mut, m_mutB, m_mut0, intD_i, m_sl, m_pn, m_ps, rs_d, rs_l, rsR_rd, rsR_o, rsR_io, sl_l, sl_t, arg_n, arg_c, arg_d, arg_l, ar_o, ar_io, ar_lk, ar_rd, put_n, put_d, put_io, m_put, pt_o, pt_io, i_seq, src_l, src_t, src_o, src_n, sr_o, sr_io, sr_lk, i_rng, i_enum, i_zip, i_rev, unl_n, unl_c, unl_1, ul_lk, ob_t, ob_f, wp_n, wp_c, rt_n, rt_c, fl_un, fl_d, m_unpT, tupD_t, unp_n, unp_c, range_1, range_2, ext_l, ext_t, app_1, m_pc, m_par, rl_n, rl_d, rl_o, rl_l, rlR_o, sr_n, sto_d, sto_o, mulE_i, mulE_t, m_andV, m_orV, m_notE, m_listRg, ite_t, ite_f, m_chain, m_fgt, m_fgtE, fgE_nx, fgE_ct, fgE_bk, fgE_rt, fgE_er, fgts_n, fgts_c, m_fgt1, fg_d, fg_o, fg_un, fg_rd, fg_io, fg_lk, m_raise, List.getElem?_cons_zero, List.getElem?_cons_succ, List.set_cons_zero, List.set_cons_succ, Option.map_some, Option.bind_some, if_true, and_self]
end LB
set_option Elab.async false
set_option linter.all false
set_option maxRecDepth 100000
namespace LB
open PySem PySem.Spec PyProof.Rows L2 VL
def listI (xs : List Int) : Da := .list (xs.map PyData.int)
def intN (n : Nat) : Da := .int (Int.ofNat n)
theorem ix_seq {x : Da} {xs : List Da} {i : Int} (h : seqD x = some xs) : ixD x (.int i) = (atI xs i).map .d := by
  cases x with
  | list _ => cases h; rfl
  | tuple _ => cases h; rfl
  | _ => cases h
theorem src_seq {x : Da} {xs : List Da} {s : VS} (h : seqD x = some xs) : vSrc (.d x) s = .ok ((xs, []), s) := by
  unfold vSrc; dsimp only; rw [h]
theorem at_get {xs : List Int} {w : Nat} (h : w < xs.length) : atI (xs.map PyData.int) (Int.ofNat w) = some (.int (xs.getD w 0)) := by
  rw [at_nat (show (0 : Int) ≤ Int.ofNat w from Int.natCast_nonneg w)]
  show (xs.map PyData.int)[w]? = _
  rw [List.getElem?_map, List.getElem?_eq_getElem h, List.getD_eq_getElem?_getD, List.getElem?_eq_getElem h]; rfl
/-- the wagons of a track -/
def laneP (ord : List Nat) (rs : List Int) (t : Nat) : List Nat := ord.filter fun w => decide (rs.getD w 0 = Int.ofNat t)
theorem rolled_ok {ys : List Da} {o r : Da} {ord : List Nat} {rs : List Int} (hy : ys.length ≤ 1000000) (ho : seqD o = some (ord.map intN)) (hr : seqD r = some (rs.map PyData.int)) (hw : ∀ w ∈ ord, w < rs.length) (hl : ord.length ≤ 16000000) :
    F__law_rolled [.d (.tuple ys), .d o, .d r] = .ok (.own (.l ((List.range ys.length).map fun t => .list ((laneP ord rs t).map intN))), [.d (.tuple ys), .d o, .d r]) := by
  have hn1 : (-1000000000 : Int) ≤ (ys.length : Int) ∧ (ys.length : Int) ≤ 1000000000 := by omega
  have inner : ∀ t : Nat, vLcF [4] (vItSeq (vVar 1)) (vSetD 4) (VL.vBool (vBin eqF (vBin ixD (vVar 2) (vVar 4)) (vVar 3))) (vVar 4) [.d (.tuple ys), .d o, .d r, .d (intN t), .un]
      = .ok (.own (.l ((laneP ord rs t).map intN)), [.d (.tuple ys), .d o, .d r, .d (intN t), .un]) := fun t => by
    refine lcF_of (xs := ord.map intN) (L := []) (s1 := [.d (.tuple ys), .d o, .d r, .d (intN t), .un]) (s2 := [.d (.tuple ys), .d o, .d r, .d (intN t), .un]) ?_ rfl ?_ ?_
    · simp only [m_vb, bnd_ok, bnd_er, m_vr, m_stuck, m_seq, bS_nx, bS_bk, bS_ct, bS_rt, bS_er, m_if, m_ite, bI_t, bI_f, bI_er, m_and, m_or, m_not, m_bool, evB_b, m_opt, m_optn, m_tru, tru_b, tru_i, tru_n, tru_l, tru_t, m_var, var_d, var_own, var_io, var_lk, var_rd, m_c, st_d, st_o, st_l, oc_l, oc_m, rd_d, rd_o, rd_l, rdR_own, rdR_io, rdR_lk, m_bin, m_un, m_call, m_rdn, m_rdc, m_cons, m_conss, m_tup, m_lst, dts_n, dts_c, o_map, o_bind, add_i, sub_i, mul_i, mod_i, fdiv_i, pow_i, neg_i, iadd_i, abs_i, int_i, int_b, len_l, len_t, add_l, add_t, lt_i, le_i, gt_i, ge_i, eq_i, ne_i, eqF_i, neF_i, tuple_l, tuple_t, list_l, list_t, ix_l, ix_t, m_ret, m_drop, m_nx, m_asg, m_nox, nx_ok, set_d, set_o, setD_, wr_un, wr_d, wr_o, wr_rd, m_aug, m_asgD, evD_d, evD_o, m_frzn, m_frzc, m_frz1, fz_d, fz_un, fz_io, fz_lk, fz_rd, fz_o, m_sub, m_augS, m_app, ap_o, ap_io, m_ct, ct_o, ct_io, m_isl, is_o, is_io, m_mut, m_mutB, m_mut0, intD_i, m_sl, m_pn, m_ps, rs_d, rs_l, rsR_rd, rsR_o, rsR_io, sl_l, sl_t, arg_n, arg_c, arg_d, arg_l, ar_o, ar_io, ar_lk, ar_rd, put_n, put_d, put_io, m_put, pt_o, pt_io, i_seq, src_l, src_t, src_o, src_n, sr_o, sr_io, sr_lk, i_rng, i_enum, i_zip, i_rev, unl_n, unl_c, unl_1, ul_lk, ob_t, ob_f, wp_n, wp_c, rt_n, rt_c, fl_un, fl_d, m_unpT, tupD_t, unp_n, unp_c, range_1, range_2, ext_l, ext_t, app_1, m_pc, m_par, rl_n, rl_d, rl_o, rl_l, rlR_o, sr_n, sto_d, sto_o, mulE_i, mulE_t, m_andV, m_orV, m_notE, m_listRg, ite_t, ite_f, m_chain, m_fgt, m_fgtE, fgE_nx, fgE_ct, fgE_bk, fgE_rt, fgE_er, fgts_n, fgts_c, m_fgt1, fg_d, fg_o, fg_un, fg_rd, fg_io, fg_lk, m_raise, List.getElem?_cons_zero, List.getElem?_cons_succ, List.set_cons_zero, List.set_cons_succ, Option.map_some, Option.bind_some, if_true, and_self, src_seq ho]
    · refine lcG_pure (p := fun w => decide (rs.getD w 0 = Int.ofNat t)) (h := intN) ord fun w hwm => ⟨[.d (.tuple ys), .d o, .d r, .d (intN t), .d (intN w)], [.d (.tuple ys), .d o, .d r, .d (intN t), .d (intN w)], ?_, ?_, fun _ => ⟨rfl, rfl⟩, fun _ => ⟨.d (intN w), [.d (.tuple ys), .d o, .d r, .d (intN t), .d (intN w)], ?_, rfl, rfl, rfl⟩⟩
      · show vSetD 4 (intN w) [.d (.tuple ys), .d o, .d r, .d (intN t), .un] = _
        simp only [m_vb, bnd_ok, bnd_er, m_vr, m_stuck, m_seq, bS_nx, bS_bk, bS_ct, bS_rt, bS_er, m_if, m_ite, bI_t, bI_f, bI_er, m_and, m_or, m_not, m_bool, evB_b, m_opt, m_optn, m_tru, tru_b, tru_i, tru_n, tru_l, tru_t, m_var, var_d, var_own, var_io, var_lk, var_rd, m_c, st_d, st_o, st_l, oc_l, oc_m, rd_d, rd_o, rd_l, rdR_own, rdR_io, rdR_lk, m_bin, m_un, m_call, m_rdn, m_rdc, m_cons, m_conss, m_tup, m_lst, dts_n, dts_c, o_map, o_bind, add_i, sub_i, mul_i, mod_i, fdiv_i, pow_i, neg_i, iadd_i, abs_i, int_i, int_b, len_l, len_t, add_l, add_t, lt_i, le_i, gt_i, ge_i, eq_i, ne_i, eqF_i, neF_i, tuple_l, tuple_t, list_l, list_t, ix_l, ix_t, m_ret, m_drop, m_nx, m_asg, m_nox, nx_ok, set_d, set_o, setD_, wr_un, wr_d, wr_o, wr_rd, m_aug, m_asgD, evD_d, evD_o, m_frzn, m_frzc, m_frz1, fz_d, fz_un, fz_io, fz_lk, fz_rd, fz_o, m_sub, m_augS, m_app, ap_o, ap_io, m_ct, ct_o, ct_io, m_isl, is_o, is_io, m_mut, m_mutB, m_mut0, intD_i, m_sl, m_pn, m_ps, rs_d, rs_l, rsR_rd, rsR_o, rsR_io, sl_l, sl_t, arg_n, arg_c, arg_d, arg_l, ar_o, ar_io, ar_lk, ar_rd, put_n, put_d, put_io, m_put, pt_o, pt_io, i_seq, src_l, src_t, src_o, src_n, sr_o, sr_io, sr_lk, i_rng, i_enum, i_zip, i_rev, unl_n, unl_c, unl_1, ul_lk, ob_t, ob_f, wp_n, wp_c, rt_n, rt_c, fl_un, fl_d, m_unpT, tupD_t, unp_n, unp_c, range_1, range_2, ext_l, ext_t, app_1, m_pc, m_par, rl_n, rl_d, rl_o, rl_l, rlR_o, sr_n, sto_d, sto_o, mulE_i, mulE_t, m_andV, m_orV, m_notE, m_listRg, ite_t, ite_f, m_chain, m_fgt, m_fgtE, fgE_nx, fgE_ct, fgE_bk, fgE_rt, fgE_er, fgts_n, fgts_c, m_fgt1, fg_d, fg_o, fg_un, fg_rd, fg_io, fg_lk, m_raise, List.getElem?_cons_zero, List.getElem?_cons_succ, List.set_cons_zero, List.set_cons_succ, Option.map_some, Option.bind_some, if_true, and_self]
      · unfold intN
        simp only [m_vb, bnd_ok, bnd_er, m_vr, m_stuck, m_seq, bS_nx, bS_bk, bS_ct, bS_rt, bS_er, m_if, m_ite, bI_t, bI_f, bI_er, m_and, m_or, m_not, m_bool, evB_b, m_opt, m_optn, m_tru, tru_b, tru_i, tru_n, tru_l, tru_t, m_var, var_d, var_own, var_io, var_lk, var_rd, m_c, st_d, st_o, st_l, oc_l, oc_m, rd_d, rd_o, rd_l, rdR_own, rdR_io, rdR_lk, m_bin, m_un, m_call, m_rdn, m_rdc, m_cons, m_conss, m_tup, m_lst, dts_n, dts_c, o_map, o_bind, add_i, sub_i, mul_i, mod_i, fdiv_i, pow_i, neg_i, iadd_i, abs_i, int_i, int_b, len_l, len_t, add_l, add_t, lt_i, le_i, gt_i, ge_i, eq_i, ne_i, eqF_i, neF_i, tuple_l, tuple_t, list_l, list_t, ix_l, ix_t, m_ret, m_drop, m_nx, m_asg, m_nox, nx_ok, set_d, set_o, setD_, wr_un, wr_d, wr_o, wr_rd, m_aug, m_asgD, evD_d, evD_o, m_frzn, m_frzc, m_frz1, fz_d, fz_un, fz_io, fz_lk, fz_rd, fz_o, m_sub, m_augS, m_app, ap_o, ap_io, m_ct, ct_o, ct_io, m_isl, is_o, is_io, m_mut, m_mutB, m_mut0, intD_i, m_sl, m_pn, m_ps, rs_d, rs_l, rsR_rd, rsR_o, rsR_io, sl_l, sl_t, arg_n, arg_c, arg_d, arg_l, ar_o, ar_io, ar_lk, ar_rd, put_n, put_d, put_io, m_put, pt_o, pt_io, i_seq, src_l, src_t, src_o, src_n, sr_o, sr_io, sr_lk, i_rng, i_enum, i_zip, i_rev, unl_n, unl_c, unl_1, ul_lk, ob_t, ob_f, wp_n, wp_c, rt_n, rt_c, fl_un, fl_d, m_unpT, tupD_t, unp_n, unp_c, range_1, range_2, ext_l, ext_t, app_1, m_pc, m_par, rl_n, rl_d, rl_o, rl_l, rlR_o, sr_n, sto_d, sto_o, mulE_i, mulE_t, m_andV, m_orV, m_notE, m_listRg, ite_t, ite_f, m_chain, m_fgt, m_fgtE, fgE_nx, fgE_ct, fgE_bk, fgE_rt, fgE_er, fgts_n, fgts_c, m_fgt1, fg_d, fg_o, fg_un, fg_rd, fg_io, fg_lk, m_raise, List.getElem?_cons_zero, List.getElem?_cons_succ, List.set_cons_zero, List.set_cons_succ, Option.map_some, Option.bind_some, if_true, and_self, ix_seq hr, at_get (hw w hwm)]
      · simp only [m_vb, bnd_ok, bnd_er, m_vr, m_stuck, m_seq, bS_nx, bS_bk, bS_ct, bS_rt, bS_er, m_if, m_ite, bI_t, bI_f, bI_er, m_and, m_or, m_not, m_bool, evB_b, m_opt, m_optn, m_tru, tru_b, tru_i, tru_n, tru_l, tru_t, m_var, var_d, var_own, var_io, var_lk, var_rd, m_c, st_d, st_o, st_l, oc_l, oc_m, rd_d, rd_o, rd_l, rdR_own, rdR_io, rdR_lk, m_bin, m_un, m_call, m_rdn, m_rdc, m_cons, m_conss, m_tup, m_lst, dts_n, dts_c, o_map, o_bind, add_i, sub_i, mul_i, mod_i, fdiv_i, pow_i, neg_i, iadd_i, abs_i, int_i, int_b, len_l, len_t, add_l, add_t, lt_i, le_i, gt_i, ge_i, eq_i, ne_i, eqF_i, neF_i, tuple_l, tuple_t, list_l, list_t, ix_l, ix_t, m_ret, m_drop, m_nx, m_asg, m_nox, nx_ok, set_d, set_o, setD_, wr_un, wr_d, wr_o, wr_rd, m_aug, m_asgD, evD_d, evD_o, m_frzn, m_frzc, m_frz1, fz_d, fz_un, fz_io, fz_lk, fz_rd, fz_o, m_sub, m_augS, m_app, ap_o, ap_io, m_ct, ct_o, ct_io, m_isl, is_o, is_io, m_mut, m_mutB, m_mut0, intD_i, m_sl, m_pn, m_ps, rs_d, rs_l, rsR_rd, rsR_o, rsR_io, sl_l, sl_t, arg_n, arg_c, arg_d, arg_l, ar_o, ar_io, ar_lk, ar_rd, put_n, put_d, put_io, m_put, pt_o, pt_io, i_seq, src_l, src_t, src_o, src_n, sr_o, sr_io, sr_lk, i_rng, i_enum, i_zip, i_rev, unl_n, unl_c, unl_1, ul_lk, ob_t, ob_f, wp_n, wp_c, rt_n, rt_c, fl_un, fl_d, m_unpT, tupD_t, unp_n, unp_c, range_1, range_2, ext_l, ext_t, app_1, m_pc, m_par, rl_n, rl_d, rl_o, rl_l, rlR_o, sr_n, sto_d, sto_o, mulE_i, mulE_t, m_andV, m_orV, m_notE, m_listRg, ite_t, ite_f, m_chain, m_fgt, m_fgtE, fgE_nx, fgE_ct, fgE_bk, fgE_rt, fgE_er, fgts_n, fgts_c, m_fgt1, fg_d, fg_o, fg_un, fg_rd, fg_io, fg_lk, m_raise, List.getElem?_cons_zero, List.getElem?_cons_succ, List.set_cons_zero, List.set_cons_succ, Option.map_some, Option.bind_some, if_true, and_self]
    · rw [List.length_map]
      have : (laneP ord rs t).length ≤ ord.length := List.length_filter_le _ _
      omega
  have outer : vLcF [3] (vItRng (vCons (vCall lenD (vCons (vVar 0) (vr []))) (vr []))) (vSetD 3) (vr true) (vLcF [4] (vItSeq (vVar 1)) (vSetD 4) (VL.vBool (vBin eqF (vBin ixD (vVar 2) (vVar 4)) (vVar 3))) (vVar 4)) [.d (.tuple ys), .d o, .d r, .un, .un]
      = .ok (.own (.l (((List.range ys.length).filter fun _ => true).map fun t => .list ((laneP ord rs t).map intN))), [.d (.tuple ys), .d o, .d r, .un, .un]) := by
    refine lcF_of (xs := (List.range ys.length).map intN) (L := []) (s1 := [.d (.tuple ys), .d o, .d r, .un, .un]) (s2 := [.d (.tuple ys), .d o, .d r, .un, .un]) ?_ rfl ?_ ?_
    · simp only [m_vb, bnd_ok, bnd_er, m_vr, m_stuck, m_seq, bS_nx, bS_bk, bS_ct, bS_rt, bS_er, m_if, m_ite, bI_t, bI_f, bI_er, m_and, m_or, m_not, m_bool, evB_b, m_opt, m_optn, m_tru, tru_b, tru_i, tru_n, tru_l, tru_t, m_var, var_d, var_own, var_io, var_lk, var_rd, m_c, st_d, st_o, st_l, oc_l, oc_m, rd_d, rd_o, rd_l, rdR_own, rdR_io, rdR_lk, m_bin, m_un, m_call, m_rdn, m_rdc, m_cons, m_conss, m_tup, m_lst, dts_n, dts_c, o_map, o_bind, add_i, sub_i, mul_i, mod_i, fdiv_i, pow_i, neg_i, iadd_i, abs_i, int_i, int_b, len_l, len_t, add_l, add_t, lt_i, le_i, gt_i, ge_i, eq_i, ne_i, eqF_i, neF_i, tuple_l, tuple_t, list_l, list_t, ix_l, ix_t, m_ret, m_drop, m_nx, m_asg, m_nox, nx_ok, set_d, set_o, setD_, wr_un, wr_d, wr_o, wr_rd, m_aug, m_asgD, evD_d, evD_o, m_frzn, m_frzc, m_frz1, fz_d, fz_un, fz_io, fz_lk, fz_rd, fz_o, m_sub, m_augS, m_app, ap_o, ap_io, m_ct, ct_o, ct_io, m_isl, is_o, is_io, m_mut, m_mutB, m_mut0, intD_i, m_sl, m_pn, m_ps, rs_d, rs_l, rsR_rd, rsR_o, rsR_io, sl_l, sl_t, arg_n, arg_c, arg_d, arg_l, ar_o, ar_io, ar_lk, ar_rd, put_n, put_d, put_io, m_put, pt_o, pt_io, i_seq, src_l, src_t, src_o, src_n, sr_o, sr_io, sr_lk, i_rng, i_enum, i_zip, i_rev, unl_n, unl_c, unl_1, ul_lk, ob_t, ob_f, wp_n, wp_c, rt_n, rt_c, fl_un, fl_d, m_unpT, tupD_t, unp_n, unp_c, range_1, range_2, ext_l, ext_t, app_1, m_pc, m_par, rl_n, rl_d, rl_o, rl_l, rlR_o, sr_n, sto_d, sto_o, mulE_i, mulE_t, m_andV, m_orV, m_notE, m_listRg, ite_t, ite_f, m_chain, m_fgt, m_fgtE, fgE_nx, fgE_ct, fgE_bk, fgE_rt, fgE_er, fgts_n, fgts_c, m_fgt1, fg_d, fg_o, fg_un, fg_rd, fg_io, fg_lk, m_raise, List.getElem?_cons_zero, List.getElem?_cons_succ, List.set_cons_zero, List.set_cons_succ, Option.map_some, Option.bind_some, if_true, and_self, range_1, hn1, Int.toNat_natCast, rngD_map]; rfl
    · exact lcG_pure (p := fun _ => true) (h := fun t => .list ((laneP ord rs t).map intN)) (List.range ys.length) fun t _ => ⟨[.d (.tuple ys), .d o, .d r, .d (intN t), .un], [.d (.tuple ys), .d o, .d r, .d (intN t), .un], by simp only [m_vb, bnd_ok, bnd_er, m_vr, m_stuck, m_seq, bS_nx, bS_bk, bS_ct, bS_rt, bS_er, m_if, m_ite, bI_t, bI_f, bI_er, m_and, m_or, m_not, m_bool, evB_b, m_opt, m_optn, m_tru, tru_b, tru_i, tru_n, tru_l, tru_t, m_var, var_d, var_own, var_io, var_lk, var_rd, m_c, st_d, st_o, st_l, oc_l, oc_m, rd_d, rd_o, rd_l, rdR_own, rdR_io, rdR_lk, m_bin, m_un, m_call, m_rdn, m_rdc, m_cons, m_conss, m_tup, m_lst, dts_n, dts_c, o_map, o_bind, add_i, sub_i, mul_i, mod_i, fdiv_i, pow_i, neg_i, iadd_i, abs_i, int_i, int_b, len_l, len_t, add_l, add_t, lt_i, le_i, gt_i, ge_i, eq_i, ne_i, eqF_i, neF_i, tuple_l, tuple_t, list_l, list_t, ix_l, ix_t, m_ret, m_drop, m_nx, m_asg, m_nox, nx_ok, set_d, set_o, setD_, wr_un, wr_d, wr_o, wr_rd, m_aug, m_asgD, evD_d, evD_o, m_frzn, m_frzc, m_frz1, fz_d, fz_un, fz_io, fz_lk, fz_rd, fz_o, m_sub, m_augS, m_app, ap_o, ap_io, m_ct, ct_o, ct_io, m_isl, is_o, is_io, m_mut, m_mutB, m_mut0, intD_i, m_sl, m_pn, m_ps, rs_d, rs_l, rsR_rd, rsR_o, rsR_io, sl_l, sl_t, arg_n, arg_c, arg_d, arg_l, ar_o, ar_io, ar_lk, ar_rd, put_n, put_d, put_io, m_put, pt_o, pt_io, i_seq, src_l, src_t, src_o, src_n, sr_o, sr_io, sr_lk, i_rng, i_enum, i_zip, i_rev, unl_n, unl_c, unl_1, ul_lk, ob_t, ob_f, wp_n, wp_c, rt_n, rt_c, fl_un, fl_d, m_unpT, tupD_t, unp_n, unp_c, range_1, range_2, ext_l, ext_t, app_1, m_pc, m_par, rl_n, rl_d, rl_o, rl_l, rlR_o, sr_n, sto_d, sto_o, mulE_i, mulE_t, m_andV, m_orV, m_notE, m_listRg, ite_t, ite_f, m_chain, m_fgt, m_fgtE, fgE_nx, fgE_ct, fgE_bk, fgE_rt, fgE_er, fgts_n, fgts_c, m_fgt1, fg_d, fg_o, fg_un, fg_rd, fg_io, fg_lk, m_raise, List.getElem?_cons_zero, List.getElem?_cons_succ, List.set_cons_zero, List.set_cons_succ, Option.map_some, Option.bind_some, if_true, and_self], rfl, fun h => absurd h (by decide), fun _ => ⟨_, _, inner t, rfl, rfl, rfl⟩⟩
    · rw [List.length_map]
      have := List.length_filter_le (fun _ => true) (List.range ys.length)
      rw [List.length_range] at this
      omega
  rw [List.filter_eq_self.mpr (by simp)] at outer
  refine run_ok (c := .rt (.own (.l ((List.range ys.length).map fun t => .list ((laneP ord rs t).map intN))))) (s := [.d (.tuple ys), .d o, .d r, .un, .un]) ?_ rfl
  show g__law_rolled [.d (.tuple ys), .d o, .d r, .un, .un] = _
  unfold g__law_rolled
  simp only [m_vb, bnd_ok, bnd_er, m_vr, m_stuck, m_seq, bS_nx, bS_bk, bS_ct, bS_rt, bS_er, m_if, m_ite, bI_t, bI_f, bI_er, m_and, m_or, m_not, m_bool, evB_b, m_opt, m_optn, m_tru, tru_b, tru_i, tru_n, tru_l, tru_t, m_var, var_d, var_own, var_io, var_lk, var_rd, m_c, st_d, st_o, st_l, oc_l, oc_m, rd_d, rd_o, rd_l, rdR_own, rdR_io, rdR_lk, m_bin, m_un, m_call, m_rdn, m_rdc, m_cons, m_conss, m_tup, m_lst, dts_n, dts_c, o_map, o_bind, add_i, sub_i, mul_i, mod_i, fdiv_i, pow_i, neg_i, iadd_i, abs_i, int_i, int_b, len_l, len_t, add_l, add_t, lt_i, le_i, gt_i, ge_i, eq_i, ne_i, eqF_i, neF_i, tuple_l, tuple_t, list_l, list_t, ix_l, ix_t, m_ret, m_drop, m_nx, m_asg, m_nox, nx_ok, set_d, set_o, setD_, wr_un, wr_d, wr_o, wr_rd, m_aug, m_asgD, evD_d, evD_o, m_frzn, m_frzc, m_frz1, fz_d, fz_un, fz_io, fz_lk, fz_rd, fz_o, m_sub, m_augS, m_app, ap_o, ap_io, m_ct, ct_o, ct_io, m_isl, is_o, is_io, m_mut, m_mutB, m_mut0, intD_i, m_sl, m_pn, m_ps, rs_d, rs_l, rsR_rd, rsR_o, rsR_io, sl_l, sl_t, arg_n, arg_c, arg_d, arg_l, ar_o, ar_io, ar_lk, ar_rd, put_n, put_d, put_io, m_put, pt_o, pt_io, i_seq, src_l, src_t, src_o, src_n, sr_o, sr_io, sr_lk, i_rng, i_enum, i_zip, i_rev, unl_n, unl_c, unl_1, ul_lk, ob_t, ob_f, wp_n, wp_c, rt_n, rt_c, fl_un, fl_d, m_unpT, tupD_t, unp_n, unp_c, range_1, range_2, ext_l, ext_t, app_1, m_pc, m_par, rl_n, rl_d, rl_o, rl_l, rlR_o, sr_n, sto_d, sto_o, mulE_i, mulE_t, m_andV, m_orV, m_notE, m_listRg, ite_t, ite_f, m_chain, m_fgt, m_fgtE, fgE_nx, fgE_ct, fgE_bk, fgE_rt, fgE_er, fgts_n, fgts_c, m_fgt1, fg_d, fg_o, fg_un, fg_rd, fg_io, fg_lk, m_raise, List.getElem?_cons_zero, List.getElem?_cons_succ, List.set_cons_zero, List.set_cons_succ, Option.map_some, Option.bind_some, if_true, and_self, outer]
/-- one pass: the through tracks as they lie, the stubs the other way about -/
def passP (ord : List Nat) (rs : List Int) : Nat → List Int → List Nat
  | _, [] => []
  | t, k :: ks => (if k = 0 then laneP ord rs t else (laneP ord rs t).reverse) ++ passP ord rs (t + 1) ks
theorem passP_len (ord : List Nat) (rs : List Int) : ∀ (ks : List Int) (t : Nat), (passP ord rs t ks).length ≤ ks.length * ord.length
  | [], t => Nat.zero_le _
  | k :: ks, t => by
    have h1 := passP_len ord rs ks (t + 1)
    have h2 : (laneP ord rs t).length ≤ ord.length := List.length_filter_le _ _
    unfold passP
    rw [List.length_append, List.length_cons, Nat.add_mul, Nat.one_mul]
    split
    · omega
    · rw [List.length_reverse]; omega
def zipK (ord : List Nat) (rs : List Int) : Nat → List Int → List Da
  | _, [] => []
  | t, k :: ks => .tuple [.int k, .list ((laneP ord rs t).map intN)] :: zipK ord rs (t + 1) ks
theorem zipK_eq (ord : List Nat) (rs : List Int) : ∀ (ks : List Int) (t : Nat), zipD (ks.map PyData.int) ((List.range' t ks.length).map fun t => PyData.list ((laneP ord rs t).map intN)) = zipK ord rs t ks
  | [], t => rfl
  | k :: ks, t => by
    rw [List.length_cons, List.range'_succ, List.map_cons, List.map_cons]
    show _ :: zipD _ _ = _ :: _
    rw [zipK_eq ord rs ks (t + 1)]
theorem rolled_at {ys : List Da} {o r : Da} {ord : List Nat} {rs : List Int} {s : VS} (hy : ys.length ≤ 1000000) (ho : seqD o = some (ord.map intN)) (hr : seqD r = some (rs.map PyData.int)) (hw : ∀ w ∈ ord, w < rs.length) (hl : ord.length ≤ 16000000) :
    callF F__law_rolled [.d (.tuple ys), .d o, .d r] s = .ok (.own (.l ((List.range ys.length).map fun t => .list ((laneP ord rs t).map intN))), s) := by
  rw [callF_ok (by simp [loans]) (by rfl) (rolled_ok hy ho hr hw hl) (fun i => by intro z; cases z), put_d, put_d, put_d, put_n]
theorem pass_ok {ks : List Int} {o r : Da} {ord : List Nat} {rs : List Int} (hy : ks.length ≤ 1000000) (ho : seqD o = some (ord.map intN)) (hr : seqD r = some (rs.map PyData.int)) (hw : ∀ w ∈ ord, w < rs.length) (hl : ks.length * ord.length ≤ 16000000) (hl2 : ord.length ≤ 16000000) :
    F__law_pass [.d (tupI ks), .d o, .d r] = .ok (.own (.l ((passP ord rs 0 ks).map intN)), [.d (tupI ks), .d o, .d r]) := by
  have loop : ∃ s', law_pass_s1 [.d (tupI ks), .d o, .d r, .own (.l []), .un, .un] = .ok (.nx, s') ∧ ∃ x4 x5 : SV, s' = [.d (tupI ks), .d o, .d r, .own (.l ((passP ord rs 0 ks).map intN)), x4, x5] := by
    unfold law_pass_s1
    refine (for_inv (L := []) (xs := zipK ord rs 0 ks) (s1 := [.d (tupI ks), .d o, .d r, .own (.l []), .un, .un])
      (fun xs s => ∃ (A : List Nat) (t : Nat) (k2 : List Int) (x4 x5 : SV), A ++ passP ord rs t k2 = passP ord rs 0 ks ∧ xs = zipK ord rs t k2 ∧ wrOk (some x4) = true ∧ wrOk (some x5) = true ∧ s = [.d (tupI ks), .d o, .d r, .own (.l (A.map intN)), x4, x5]) ?_ ?_ ⟨[], 0, ks, .un, .un, rfl, rfl, rfl, rfl, rfl⟩).imp fun s' ⟨h1, h2⟩ => ⟨h1, ?_⟩
    · rintro x xs s ⟨A, t, k2, x4, x5, e1, e2, h4, h5, rfl⟩
      cases k2 with
      | nil => cases e2
      | cons k k2 =>
        cases e2
        have cap : ∀ B : List Nat, B = laneP ord rs t ∨ B = (laneP ord rs t).reverse → (A ++ B ++ passP ord rs (t + 1) k2 = passP ord rs 0 ks) → (A.map intN).length + (B.map intN).length ≤ 16777216 := fun B hB h => by
          have h1 := congrArg List.length h
          rw [List.length_append, List.length_append] at h1
          have h2 := passP_len ord rs ks 0
          rw [List.length_map, List.length_map]
          omega
        have pc : passP ord rs t (k :: k2) = (if k = 0 then laneP ord rs t else (laneP ord rs t).reverse) ++ passP ord rs (t + 1) k2 := rfl
        rw [pc] at e1
        by_cases hk : k = 0
        · subst hk
          rw [if_pos rfl, ← List.append_assoc] at e1
          have c := cap _ (.inl rfl) e1
          refine ⟨[.d (tupI ks), .d o, .d r, .own (.l (A.map intN)), .d (.int 0), .d (.list ((laneP ord rs t).map intN))], .nx, [.d (tupI ks), .d o, .d r, .own (.l ((A ++ laneP ord rs t).map intN)), .d (.int 0), .d (.list ((laneP ord rs t).map intN))], ?_, ?_, .inl rfl, _, t + 1, k2, .d (.int 0), .d (.list ((laneP ord rs t).map intN)), e1, rfl, rfl, rfl, rfl⟩
          · simp only [m_vb, bnd_ok, bnd_er, m_vr, m_stuck, m_seq, bS_nx, bS_bk, bS_ct, bS_rt, bS_er, m_if, m_ite, bI_t, bI_f, bI_er, m_and, m_or, m_not, m_bool, evB_b, m_opt, m_optn, m_tru, tru_b, tru_i, tru_n, tru_l, tru_t, m_var, var_d, var_own, var_io, var_lk, var_rd, m_c, st_d, st_o, st_l, oc_l, oc_m, rd_d, rd_o, rd_l, rdR_own, rdR_io, rdR_lk, m_bin, m_un, m_call, m_rdn, m_rdc, m_cons, m_conss, m_tup, m_lst, dts_n, dts_c, o_map, o_bind, add_i, sub_i, mul_i, mod_i, fdiv_i, pow_i, neg_i, iadd_i, abs_i, int_i, int_b, len_l, len_t, add_l, add_t, lt_i, le_i, gt_i, ge_i, eq_i, ne_i, eqF_i, neF_i, tuple_l, tuple_t, list_l, list_t, ix_l, ix_t, m_ret, m_drop, m_nx, m_asg, m_nox, nx_ok, set_d, set_o, setD_, wr_un, wr_d, wr_o, wr_rd, m_aug, m_asgD, evD_d, evD_o, m_frzn, m_frzc, m_frz1, fz_d, fz_un, fz_io, fz_lk, fz_rd, fz_o, m_sub, m_augS, m_app, ap_o, ap_io, m_ct, ct_o, ct_io, m_isl, is_o, is_io, m_mut, m_mutB, m_mut0, intD_i, m_sl, m_pn, m_ps, rs_d, rs_l, rsR_rd, rsR_o, rsR_io, sl_l, sl_t, arg_n, arg_c, arg_d, arg_l, ar_o, ar_io, ar_lk, ar_rd, put_n, put_d, put_io, m_put, pt_o, pt_io, i_seq, src_l, src_t, src_o, src_n, sr_o, sr_io, sr_lk, i_rng, i_enum, i_zip, i_rev, unl_n, unl_c, unl_1, ul_lk, ob_t, ob_f, wp_n, wp_c, rt_n, rt_c, fl_un, fl_d, m_unpT, tupD_t, unp_n, unp_c, range_1, range_2, ext_l, ext_t, app_1, m_pc, m_par, rl_n, rl_d, rl_o, rl_l, rlR_o, sr_n, sto_d, sto_o, mulE_i, mulE_t, m_andV, m_orV, m_notE, m_listRg, ite_t, ite_f, m_chain, m_fgt, m_fgtE, fgE_nx, fgE_ct, fgE_bk, fgE_rt, fgE_er, fgts_n, fgts_c, m_fgt1, fg_d, fg_o, fg_un, fg_rd, fg_io, fg_lk, m_raise, List.getElem?_cons_zero, List.getElem?_cons_succ, List.set_cons_zero, List.set_cons_succ, Option.map_some, Option.bind_some, if_true, and_self, h4, h5]
          · simp only [m_vb, bnd_ok, bnd_er, m_vr, m_stuck, m_seq, bS_nx, bS_bk, bS_ct, bS_rt, bS_er, m_if, m_ite, bI_t, bI_f, bI_er, m_and, m_or, m_not, m_bool, evB_b, m_opt, m_optn, m_tru, tru_b, tru_i, tru_n, tru_l, tru_t, m_var, var_d, var_own, var_io, var_lk, var_rd, m_c, st_d, st_o, st_l, oc_l, oc_m, rd_d, rd_o, rd_l, rdR_own, rdR_io, rdR_lk, m_bin, m_un, m_call, m_rdn, m_rdc, m_cons, m_conss, m_tup, m_lst, dts_n, dts_c, o_map, o_bind, add_i, sub_i, mul_i, mod_i, fdiv_i, pow_i, neg_i, iadd_i, abs_i, int_i, int_b, len_l, len_t, add_l, add_t, lt_i, le_i, gt_i, ge_i, eq_i, ne_i, eqF_i, neF_i, tuple_l, tuple_t, list_l, list_t, ix_l, ix_t, m_ret, m_drop, m_nx, m_asg, m_nox, nx_ok, set_d, set_o, setD_, wr_un, wr_d, wr_o, wr_rd, m_aug, m_asgD, evD_d, evD_o, m_frzn, m_frzc, m_frz1, fz_d, fz_un, fz_io, fz_lk, fz_rd, fz_o, m_sub, m_augS, m_app, ap_o, ap_io, m_ct, ct_o, ct_io, m_isl, is_o, is_io, m_mut, m_mutB, m_mut0, intD_i, m_sl, m_pn, m_ps, rs_d, rs_l, rsR_rd, rsR_o, rsR_io, sl_l, sl_t, arg_n, arg_c, arg_d, arg_l, ar_o, ar_io, ar_lk, ar_rd, put_n, put_d, put_io, m_put, pt_o, pt_io, i_seq, src_l, src_t, src_o, src_n, sr_o, sr_io, sr_lk, i_rng, i_enum, i_zip, i_rev, unl_n, unl_c, unl_1, ul_lk, ob_t, ob_f, wp_n, wp_c, rt_n, rt_c, fl_un, fl_d, m_unpT, tupD_t, unp_n, unp_c, range_1, range_2, ext_l, ext_t, app_1, m_pc, m_par, rl_n, rl_d, rl_o, rl_l, rlR_o, sr_n, sto_d, sto_o, mulE_i, mulE_t, m_andV, m_orV, m_notE, m_listRg, ite_t, ite_f, m_chain, m_fgt, m_fgtE, fgE_nx, fgE_ct, fgE_bk, fgE_rt, fgE_er, fgts_n, fgts_c, m_fgt1, fg_d, fg_o, fg_un, fg_rd, fg_io, fg_lk, m_raise, List.getElem?_cons_zero, List.getElem?_cons_succ, List.set_cons_zero, List.set_cons_succ, Option.map_some, Option.bind_some, if_true, and_self, decide_true, ext_l, c, List.map_append]
        · rw [if_neg hk, ← List.append_assoc] at e1
          have c := cap _ (.inr rfl) e1
          refine ⟨[.d (tupI ks), .d o, .d r, .own (.l (A.map intN)), .d (.int k), .d (.list ((laneP ord rs t).map intN))], .nx, [.d (tupI ks), .d o, .d r, .own (.l ((A ++ (laneP ord rs t).reverse).map intN)), .d (.int k), .d (.list ((laneP ord rs t).map intN))], ?_, ?_, .inl rfl, _, t + 1, k2, .d (.int k), .d (.list ((laneP ord rs t).map intN)), e1, rfl, rfl, rfl, rfl⟩
          · simp only [m_vb, bnd_ok, bnd_er, m_vr, m_stuck, m_seq, bS_nx, bS_bk, bS_ct, bS_rt, bS_er, m_if, m_ite, bI_t, bI_f, bI_er, m_and, m_or, m_not, m_bool, evB_b, m_opt, m_optn, m_tru, tru_b, tru_i, tru_n, tru_l, tru_t, m_var, var_d, var_own, var_io, var_lk, var_rd, m_c, st_d, st_o, st_l, oc_l, oc_m, rd_d, rd_o, rd_l, rdR_own, rdR_io, rdR_lk, m_bin, m_un, m_call, m_rdn, m_rdc, m_cons, m_conss, m_tup, m_lst, dts_n, dts_c, o_map, o_bind, add_i, sub_i, mul_i, mod_i, fdiv_i, pow_i, neg_i, iadd_i, abs_i, int_i, int_b, len_l, len_t, add_l, add_t, lt_i, le_i, gt_i, ge_i, eq_i, ne_i, eqF_i, neF_i, tuple_l, tuple_t, list_l, list_t, ix_l, ix_t, m_ret, m_drop, m_nx, m_asg, m_nox, nx_ok, set_d, set_o, setD_, wr_un, wr_d, wr_o, wr_rd, m_aug, m_asgD, evD_d, evD_o, m_frzn, m_frzc, m_frz1, fz_d, fz_un, fz_io, fz_lk, fz_rd, fz_o, m_sub, m_augS, m_app, ap_o, ap_io, m_ct, ct_o, ct_io, m_isl, is_o, is_io, m_mut, m_mutB, m_mut0, intD_i, m_sl, m_pn, m_ps, rs_d, rs_l, rsR_rd, rsR_o, rsR_io, sl_l, sl_t, arg_n, arg_c, arg_d, arg_l, ar_o, ar_io, ar_lk, ar_rd, put_n, put_d, put_io, m_put, pt_o, pt_io, i_seq, src_l, src_t, src_o, src_n, sr_o, sr_io, sr_lk, i_rng, i_enum, i_zip, i_rev, unl_n, unl_c, unl_1, ul_lk, ob_t, ob_f, wp_n, wp_c, rt_n, rt_c, fl_un, fl_d, m_unpT, tupD_t, unp_n, unp_c, range_1, range_2, ext_l, ext_t, app_1, m_pc, m_par, rl_n, rl_d, rl_o, rl_l, rlR_o, sr_n, sto_d, sto_o, mulE_i, mulE_t, m_andV, m_orV, m_notE, m_listRg, ite_t, ite_f, m_chain, m_fgt, m_fgtE, fgE_nx, fgE_ct, fgE_bk, fgE_rt, fgE_er, fgts_n, fgts_c, m_fgt1, fg_d, fg_o, fg_un, fg_rd, fg_io, fg_lk, m_raise, List.getElem?_cons_zero, List.getElem?_cons_succ, List.set_cons_zero, List.set_cons_succ, Option.map_some, Option.bind_some, if_true, and_self, h4, h5]
          · rw [List.map_reverse] at c
            simp only [m_vb, bnd_ok, bnd_er, m_vr, m_stuck, m_seq, bS_nx, bS_bk, bS_ct, bS_rt, bS_er, m_if, m_ite, bI_t, bI_f, bI_er, m_and, m_or, m_not, m_bool, evB_b, m_opt, m_optn, m_tru, tru_b, tru_i, tru_n, tru_l, tru_t, m_var, var_d, var_own, var_io, var_lk, var_rd, m_c, st_d, st_o, st_l, oc_l, oc_m, rd_d, rd_o, rd_l, rdR_own, rdR_io, rdR_lk, m_bin, m_un, m_call, m_rdn, m_rdc, m_cons, m_conss, m_tup, m_lst, dts_n, dts_c, o_map, o_bind, add_i, sub_i, mul_i, mod_i, fdiv_i, pow_i, neg_i, iadd_i, abs_i, int_i, int_b, len_l, len_t, add_l, add_t, lt_i, le_i, gt_i, ge_i, eq_i, ne_i, eqF_i, neF_i, tuple_l, tuple_t, list_l, list_t, ix_l, ix_t, m_ret, m_drop, m_nx, m_asg, m_nox, nx_ok, set_d, set_o, setD_, wr_un, wr_d, wr_o, wr_rd, m_aug, m_asgD, evD_d, evD_o, m_frzn, m_frzc, m_frz1, fz_d, fz_un, fz_io, fz_lk, fz_rd, fz_o, m_sub, m_augS, m_app, ap_o, ap_io, m_ct, ct_o, ct_io, m_isl, is_o, is_io, m_mut, m_mutB, m_mut0, intD_i, m_sl, m_pn, m_ps, rs_d, rs_l, rsR_rd, rsR_o, rsR_io, sl_l, sl_t, arg_n, arg_c, arg_d, arg_l, ar_o, ar_io, ar_lk, ar_rd, put_n, put_d, put_io, m_put, pt_o, pt_io, i_seq, src_l, src_t, src_o, src_n, sr_o, sr_io, sr_lk, i_rng, i_enum, i_zip, i_rev, unl_n, unl_c, unl_1, ul_lk, ob_t, ob_f, wp_n, wp_c, rt_n, rt_c, fl_un, fl_d, m_unpT, tupD_t, unp_n, unp_c, range_1, range_2, ext_l, ext_t, app_1, m_pc, m_par, rl_n, rl_d, rl_o, rl_l, rlR_o, sr_n, sto_d, sto_o, mulE_i, mulE_t, m_andV, m_orV, m_notE, m_listRg, ite_t, ite_f, m_chain, m_fgt, m_fgtE, fgE_nx, fgE_ct, fgE_bk, fgE_rt, fgE_er, fgts_n, fgts_c, m_fgt1, fg_d, fg_o, fg_un, fg_rd, fg_io, fg_lk, m_raise, List.getElem?_cons_zero, List.getElem?_cons_succ, List.set_cons_zero, List.set_cons_succ, Option.map_some, Option.bind_some, if_true, and_self, decide_false, hk, revD, ext_l, List.map_append, List.map_reverse, c]
    · have e := zipK_eq ord rs ks 0
      rw [← List.range_eq_range'] at e
      have hr2 := rolled_at (ys := ks.map PyData.int) (s := [.d (tupI ks), .d o, .d r, .own (.l []), .un, .un]) (by rw [List.length_map]; exact hy) ho hr hw hl2
      rw [List.length_map] at hr2
      unfold tupI at hr2 ⊢
      simp only [m_vb, bnd_ok, bnd_er, m_vr, m_stuck, m_seq, bS_nx, bS_bk, bS_ct, bS_rt, bS_er, m_if, m_ite, bI_t, bI_f, bI_er, m_and, m_or, m_not, m_bool, evB_b, m_opt, m_optn, m_tru, tru_b, tru_i, tru_n, tru_l, tru_t, m_var, var_d, var_own, var_io, var_lk, var_rd, m_c, st_d, st_o, st_l, oc_l, oc_m, rd_d, rd_o, rd_l, rdR_own, rdR_io, rdR_lk, m_bin, m_un, m_call, m_rdn, m_rdc, m_cons, m_conss, m_tup, m_lst, dts_n, dts_c, o_map, o_bind, add_i, sub_i, mul_i, mod_i, fdiv_i, pow_i, neg_i, iadd_i, abs_i, int_i, int_b, len_l, len_t, add_l, add_t, lt_i, le_i, gt_i, ge_i, eq_i, ne_i, eqF_i, neF_i, tuple_l, tuple_t, list_l, list_t, ix_l, ix_t, m_ret, m_drop, m_nx, m_asg, m_nox, nx_ok, set_d, set_o, setD_, wr_un, wr_d, wr_o, wr_rd, m_aug, m_asgD, evD_d, evD_o, m_frzn, m_frzc, m_frz1, fz_d, fz_un, fz_io, fz_lk, fz_rd, fz_o, m_sub, m_augS, m_app, ap_o, ap_io, m_ct, ct_o, ct_io, m_isl, is_o, is_io, m_mut, m_mutB, m_mut0, intD_i, m_sl, m_pn, m_ps, rs_d, rs_l, rsR_rd, rsR_o, rsR_io, sl_l, sl_t, arg_n, arg_c, arg_d, arg_l, ar_o, ar_io, ar_lk, ar_rd, put_n, put_d, put_io, m_put, pt_o, pt_io, i_seq, src_l, src_t, src_o, src_n, sr_o, sr_io, sr_lk, i_rng, i_enum, i_zip, i_rev, unl_n, unl_c, unl_1, ul_lk, ob_t, ob_f, wp_n, wp_c, rt_n, rt_c, fl_un, fl_d, m_unpT, tupD_t, unp_n, unp_c, range_1, range_2, ext_l, ext_t, app_1, m_pc, m_par, rl_n, rl_d, rl_o, rl_l, rlR_o, sr_n, sto_d, sto_o, mulE_i, mulE_t, m_andV, m_orV, m_notE, m_listRg, ite_t, ite_f, m_chain, m_fgt, m_fgtE, fgE_nx, fgE_ct, fgE_bk, fgE_rt, fgE_er, fgts_n, fgts_c, m_fgt1, fg_d, fg_o, fg_un, fg_rd, fg_io, fg_lk, m_raise, List.getElem?_cons_zero, List.getElem?_cons_succ, List.set_cons_zero, List.set_cons_succ, Option.map_some, Option.bind_some, if_true, and_self, m_callF, hr2, e, List.append_nil]
    · obtain ⟨A, t, k2, x4, x5, e1, e2, _, _, rfl⟩ := h2
      cases k2 with
      | nil =>
        have pn : passP ord rs t [] = [] := rfl
        rw [pn, List.append_nil] at e1
        exact ⟨x4, x5, by rw [e1]⟩
      | cons k k2 => cases e2
  obtain ⟨s', hs, x4, x5, rfl⟩ := loop
  refine run_ok (c := .rt (.loan 3)) (s := [.d (tupI ks), .d o, .d r, .own (.l ((passP ord rs 0 ks).map intN)), x4, x5]) ?_ rfl
  show g__law_pass [.d (tupI ks), .d o, .d r, .un, .un, .un] = _
  unfold g__law_pass
  refine seq_then (s1 := [.d (tupI ks), .d o, .d r, .own (.l []), .un, .un]) ?_ (seq_then hs ?_)
  · simp only [m_vb, bnd_ok, bnd_er, m_vr, m_stuck, m_seq, bS_nx, bS_bk, bS_ct, bS_rt, bS_er, m_if, m_ite, bI_t, bI_f, bI_er, m_and, m_or, m_not, m_bool, evB_b, m_opt, m_optn, m_tru, tru_b, tru_i, tru_n, tru_l, tru_t, m_var, var_d, var_own, var_io, var_lk, var_rd, m_c, st_d, st_o, st_l, oc_l, oc_m, rd_d, rd_o, rd_l, rdR_own, rdR_io, rdR_lk, m_bin, m_un, m_call, m_rdn, m_rdc, m_cons, m_conss, m_tup, m_lst, dts_n, dts_c, o_map, o_bind, add_i, sub_i, mul_i, mod_i, fdiv_i, pow_i, neg_i, iadd_i, abs_i, int_i, int_b, len_l, len_t, add_l, add_t, lt_i, le_i, gt_i, ge_i, eq_i, ne_i, eqF_i, neF_i, tuple_l, tuple_t, list_l, list_t, ix_l, ix_t, m_ret, m_drop, m_nx, m_asg, m_nox, nx_ok, set_d, set_o, setD_, wr_un, wr_d, wr_o, wr_rd, m_aug, m_asgD, evD_d, evD_o, m_frzn, m_frzc, m_frz1, fz_d, fz_un, fz_io, fz_lk, fz_rd, fz_o, m_sub, m_augS, m_app, ap_o, ap_io, m_ct, ct_o, ct_io, m_isl, is_o, is_io, m_mut, m_mutB, m_mut0, intD_i, m_sl, m_pn, m_ps, rs_d, rs_l, rsR_rd, rsR_o, rsR_io, sl_l, sl_t, arg_n, arg_c, arg_d, arg_l, ar_o, ar_io, ar_lk, ar_rd, put_n, put_d, put_io, m_put, pt_o, pt_io, i_seq, src_l, src_t, src_o, src_n, sr_o, sr_io, sr_lk, i_rng, i_enum, i_zip, i_rev, unl_n, unl_c, unl_1, ul_lk, ob_t, ob_f, wp_n, wp_c, rt_n, rt_c, fl_un, fl_d, m_unpT, tupD_t, unp_n, unp_c, range_1, range_2, ext_l, ext_t, app_1, m_pc, m_par, rl_n, rl_d, rl_o, rl_l, rlR_o, sr_n, sto_d, sto_o, mulE_i, mulE_t, m_andV, m_orV, m_notE, m_listRg, ite_t, ite_f, m_chain, m_fgt, m_fgtE, fgE_nx, fgE_ct, fgE_bk, fgE_rt, fgE_er, fgts_n, fgts_c, m_fgt1, fg_d, fg_o, fg_un, fg_rd, fg_io, fg_lk, m_raise, List.getElem?_cons_zero, List.getElem?_cons_succ, List.set_cons_zero, List.set_cons_succ, Option.map_some, Option.bind_some, if_true, and_self, List.length_nil, Nat.zero_le]
  · simp only [m_vb, bnd_ok, bnd_er, m_vr, m_stuck, m_seq, bS_nx, bS_bk, bS_ct, bS_rt, bS_er, m_if, m_ite, bI_t, bI_f, bI_er, m_and, m_or, m_not, m_bool, evB_b, m_opt, m_optn, m_tru, tru_b, tru_i, tru_n, tru_l, tru_t, m_var, var_d, var_own, var_io, var_lk, var_rd, m_c, st_d, st_o, st_l, oc_l, oc_m, rd_d, rd_o, rd_l, rdR_own, rdR_io, rdR_lk, m_bin, m_un, m_call, m_rdn, m_rdc, m_cons, m_conss, m_tup, m_lst, dts_n, dts_c, o_map, o_bind, add_i, sub_i, mul_i, mod_i, fdiv_i, pow_i, neg_i, iadd_i, abs_i, int_i, int_b, len_l, len_t, add_l, add_t, lt_i, le_i, gt_i, ge_i, eq_i, ne_i, eqF_i, neF_i, tuple_l, tuple_t, list_l, list_t, ix_l, ix_t, m_ret, m_drop, m_nx, m_asg, m_nox, nx_ok, set_d, set_o, setD_, wr_un, wr_d, wr_o, wr_rd, m_aug, m_asgD, evD_d, evD_o, m_frzn, m_frzc, m_frz1, fz_d, fz_un, fz_io, fz_lk, fz_rd, fz_o, m_sub, m_augS, m_app, ap_o, ap_io, m_ct, ct_o, ct_io, m_isl, is_o, is_io, m_mut, m_mutB, m_mut0, intD_i, m_sl, m_pn, m_ps, rs_d, rs_l, rsR_rd, rsR_o, rsR_io, sl_l, sl_t, arg_n, arg_c, arg_d, arg_l, ar_o, ar_io, ar_lk, ar_rd, put_n, put_d, put_io, m_put, pt_o, pt_io, i_seq, src_l, src_t, src_o, src_n, sr_o, sr_io, sr_lk, i_rng, i_enum, i_zip, i_rev, unl_n, unl_c, unl_1, ul_lk, ob_t, ob_f, wp_n, wp_c, rt_n, rt_c, fl_un, fl_d, m_unpT, tupD_t, unp_n, unp_c, range_1, range_2, ext_l, ext_t, app_1, m_pc, m_par, rl_n, rl_d, rl_o, rl_l, rlR_o, sr_n, sto_d, sto_o, mulE_i, mulE_t, m_andV, m_orV, m_notE, m_listRg, ite_t, ite_f, m_chain, m_fgt, m_fgtE, fgE_nx, fgE_ct, fgE_bk, fgE_rt, fgE_er, fgts_n, fgts_c, m_fgt1, fg_d, fg_o, fg_un, fg_rd, fg_io, fg_lk, m_raise, List.getElem?_cons_zero, List.getElem?_cons_succ, List.set_cons_zero, List.set_cons_succ, Option.map_some, Option.bind_some, if_true, and_self]
end LB
set_option Elab.async false
set_option linter.all false
set_option maxRecDepth 100000
namespace LB
open PySem PySem.Spec PyProof.Rows L2 VL
theorem while_inv {c : VM Bool} {g : VM Ctl} (R : Nat → VS → Prop) (Q : VS → Prop) (step : ∀ n s, R n s → ∃ b s1, c s = .ok (b, s1) ∧ (b = false → Q s1) ∧ (b = true → ∃ k s2 m, g s1 = .ok (k, s2) ∧ (k = .nx ∨ k = .ct) ∧ m < n ∧ R m s2)) :
    ∀ (fu n : Nat) (s : VS), n < fu → R n s → ∃ s', vWhileN c g fu s = .ok (.nx, s') ∧ Q s'
  | 0, n, s, h, _ => by omega
  | fu + 1, n, s, h, hR => by
    obtain ⟨b, s1, h1, hf, ht⟩ := step n s hR
    cases b with
    | false =>
      refine ⟨s1, ?_, hf rfl⟩
      show vb c _ s = _
      rw [m_vb, h1, bnd_ok]; rfl
    | true =>
      obtain ⟨k, s2, m, h2, hk, hm, hR2⟩ := ht rfl
      obtain ⟨s', h3, hQ⟩ := while_inv R Q step fu m s2 (by omega) hR2
      refine ⟨s', ?_, hQ⟩
      show vb c _ s = _
      rw [m_vb, h1, bnd_ok, if_pos rfl, m_vb, h2, bnd_ok]
      rcases hk with rfl | rfl <;> exact h3
mutual
def nodesD : Da → Nat
  | .list xs => 1 + nodesL xs
  | .tuple xs => 1 + nodesL xs
  | _ => 1
def nodesL : List Da → Nat
  | [] => 0
  | x :: xs => nodesD x + nodesL xs
end
theorem nodesD_pos (x : Da) : 1 ≤ nodesD x := by cases x <;> simp only [nodesD] <;> omega
theorem nodesL_len : ∀ xs : List Da, xs.length ≤ nodesL xs
  | [] => Nat.zero_le _
  | x :: xs => by
    have := nodesL_len xs
    have := nodesD_pos x
    simp only [nodesL, List.length_cons]; omega
theorem nodesL_app : ∀ xs ys : List Da, nodesL (xs ++ ys) = nodesL xs + nodesL ys
  | [], ys => by simp [nodesL]
  | x :: xs, ys => by simp only [List.cons_append, nodesL, nodesL_app xs ys]; omega
def dupD (x : Da) : Da := .tuple [x, x]
theorem zip_dup : ∀ xs : List Da, zipD xs xs = xs.map dupD
  | [] => rfl
  | x :: xs => by show _ :: zipD xs xs = _; rw [zip_dup xs]; rfl
/-- data that the comparing meets: no dicts, texts that may be laid -/
def GoodD (x : Da) : Prop := ∃ n, shF n x = true
theorem good_list {xs : List Da} (h : GoodD (.list xs)) : ∀ x ∈ xs, GoodD x := by
  obtain ⟨n, h⟩ := h
  cases n with
  | zero => simp only [shF] at h; cases h
  | succ n =>
    simp only [shF] at h
    intro x hx
    refine ⟨n, ?_⟩
    induction xs with
    | nil => cases hx
    | cons y ys ih =>
      simp only [shFs, Bool.and_eq_true] at h
      rcases List.mem_cons.mp hx with rfl | hx
      · exact h.1
      · exact ih h.2 hx
theorem good_tuple {xs : List Da} (h : GoodD (.tuple xs)) : ∀ x ∈ xs, GoodD x := by
  obtain ⟨n, h⟩ := h
  refine good_list (xs := xs) ⟨n, ?_⟩
  cases n with
  | zero => simp only [shF] at h; cases h
  | succ n => simp only [shF] at h ⊢; exact h
theorem isi_run {ks : List KT} {f : VM EV} {s : VS} : vIsi ks f s = bnd (f s) fun r => vb (vRd r) fun x => vC (.bool (ks.any fun k => isKT k x)) := rfl
theorem neF_b {a b : Bool} : neF (.bool a) (.bool b) = some (.d (.bool (!(a == b)))) := by
  show (if shF 64 (.bool a) = true ∧ shF 64 (.bool b) = true then some (EV.d (.bool (!PyData.eqv (.bool a) (.bool b)))) else none) = _
  rw [if_pos ⟨rfl, rfl⟩]
  simp only [PyData.eqv]
/-- a leaf is what it is -/
theorem neF_leaf {x : Da} (h : GoodD x) (hl : ∀ xs, x ≠ .list xs) (ht : ∀ xs, x ≠ .tuple xs) : neF x x = some (.d (.bool false)) := by
  obtain ⟨n, h⟩ := h
  cases x with
  | none => rfl
  | bool b => rw [neF_b]; simp
  | int i => rw [neF_i]; simp
  | str y =>
    have h64 : shF 64 (.str y) = true := by simp only [shF] at h ⊢; exact h
    show (if shF 64 (.str y) = true ∧ shF 64 (.str y) = true then some (EV.d (.bool (!PyData.eqv (.str y) (.str y)))) else none) = _
    rw [if_pos ⟨h64, h64⟩]
    simp only [PyData.eqv, beq_self_eq_true, Bool.not_true]
  | list xs => exact absurd rfl (hl xs)
  | tuple xs => exact absurd rfl (ht xs)
  | dict kvs => simp only [shF] at h; cases h
/-- one turn -/
def AlR (x y : Da) (N : Nat) (n : Nat) (s : VS) : Prop := ∃ (A B : List Da) (x4 x5 : SV), s = [.d x, .d y, .own (.l ((A ++ B).map dupD)), .d (.int (Int.ofNat A.length)), x4, x5] ∧ n = nodesL B ∧ A.length + nodesL B = N ∧ (∀ z ∈ B, GoodD z) ∧ wrOk (some x4) = true ∧ wrOk (some x5) = true
theorem alike_s6_ok {x y : Da} {N : Nat} (hN : N ≤ 1000000) {n : Nat} {s : VS} (h : AlR x y N n s) : ∃ s', law_alike_s6 s = .ok (.nx, s') ∧ ∃ (l : List Da) (x3 x4 x5 : SV), s' = [.d x, .d y, .own (.l l), x3, x4, x5] := by
  have hfu : n < fuel := by
    obtain ⟨A, B, x4, x5, rfl, rfl, e, _⟩ := h
    show _ < 1000000000
    omega
  unfold law_alike_s6 vWhile
  refine while_inv (AlR x y N) (fun s' => ∃ (l : List Da) (x3 x4 x5 : SV), s' = [.d x, .d y, .own (.l l), x3, x4, x5]) (fun n s hR => ?_) fuel n s hfu h
  obtain ⟨A, B, x4, x5, rfl, rfl, e, hg, h4, h5⟩ := hR
  refine ⟨decide (Int.ofNat A.length < (((A ++ B).map dupD).length : Int)), [.d x, .d y, .own (.l ((A ++ B).map dupD)), .d (.int (Int.ofNat A.length)), x4, x5], by simp only [m_vb, bnd_ok, bnd_er, m_vr, m_stuck, m_seq, bS_nx, bS_bk, bS_ct, bS_rt, bS_er, m_if, m_ite, bI_t, bI_f, bI_er, m_and, m_or, m_not, m_bool, evB_b, m_opt, m_optn, m_tru, tru_b, tru_i, tru_n, tru_l, tru_t, m_var, var_d, var_own, var_io, var_lk, var_rd, m_c, st_d, st_o, st_l, oc_l, oc_m, rd_d, rd_o, rd_l, rdR_own, rdR_io, rdR_lk, m_bin, m_un, m_call, m_rdn, m_rdc, m_cons, m_conss, m_tup, m_lst, dts_n, dts_c, o_map, o_bind, add_i, sub_i, mul_i, mod_i, fdiv_i, pow_i, neg_i, iadd_i, abs_i, int_i, int_b, len_l, len_t, add_l, add_t, lt_i, le_i, gt_i, ge_i, eq_i, ne_i, eqF_i, neF_i, tuple_l, tuple_t, list_l, list_t, ix_l, ix_t, m_ret, m_drop, m_nx, m_asg, m_nox, nx_ok, set_d, set_o, setD_, wr_un, wr_d, wr_o, wr_rd, m_aug, m_asgD, evD_d, evD_o, m_frzn, m_frzc, m_frz1, fz_d, fz_un, fz_io, fz_lk, fz_rd, fz_o, m_sub, m_augS, m_app, ap_o, ap_io, m_ct, ct_o, ct_io, m_isl, is_o, is_io, m_mut, m_mutB, m_mut0, intD_i, m_sl, m_pn, m_ps, rs_d, rs_l, rsR_rd, rsR_o, rsR_io, sl_l, sl_t, arg_n, arg_c, arg_d, arg_l, ar_o, ar_io, ar_lk, ar_rd, put_n, put_d, put_io, m_put, pt_o, pt_io, i_seq, src_l, src_t, src_o, src_n, sr_o, sr_io, sr_lk, i_rng, i_enum, i_zip, i_rev, unl_n, unl_c, unl_1, ul_lk, ob_t, ob_f, wp_n, wp_c, rt_n, rt_c, fl_un, fl_d, m_unpT, tupD_t, unp_n, unp_c, range_1, range_2, ext_l, ext_t, app_1, m_pc, m_par, rl_n, rl_d, rl_o, rl_l, rlR_o, sr_n, sto_d, sto_o, mulE_i, mulE_t, m_andV, m_orV, m_notE, m_listRg, ite_t, ite_f, m_chain, m_fgt, m_fgtE, fgE_nx, fgE_ct, fgE_bk, fgE_rt, fgE_er, fgts_n, fgts_c, m_fgt1, fg_d, fg_o, fg_un, fg_rd, fg_io, fg_lk, m_raise, List.getElem?_cons_zero, List.getElem?_cons_succ, List.set_cons_zero, List.set_cons_succ, Option.map_some, Option.bind_some, if_true, and_self], fun _ => ⟨_, _, _, _, rfl⟩, fun hb => ?_⟩
  have hb := of_decide_eq_true hb
  cases B with
  | nil => rw [List.append_nil, List.length_map] at hb; exact absurd hb (by show ¬ ((A.length : Int) < A.length); omega)
  | cons z B =>
    have hz := hg z List.mem_cons_self
    have hB := fun w hw => hg w (List.mem_cons_of_mem _ hw)
    have at1 : atI ((A ++ z :: B).map dupD) (Int.ofNat A.length) = some (dupD z) := by
      rw [at_nat (show (0 : Int) ≤ Int.ofNat A.length from Int.natCast_nonneg _)]
      show ((A ++ z :: B).map dupD)[A.length]? = _
      rw [List.getElem?_map, List.getElem?_append_right (Nat.le_refl _), Nat.sub_self]; rfl
    have at2 : Int.ofNat A.length + 1 = Int.ofNat (A ++ [z]).length := by rw [List.length_append]; rfl
    simp only [nodesL] at e ⊢
    have key : ∀ s2, (∃ B', s2 = [.d x, .d y, .own (.l ((A ++ z :: B').map dupD)), .d (.int (Int.ofNat (A ++ [z]).length)), .d z, .d z] ∧ nodesL B' + 1 = nodesD z + nodesL B ∧ ∀ w ∈ B', GoodD w) → ∃ m, m < nodesD z + nodesL B ∧ AlR x y N m s2 := fun s2 ⟨B', e2, e3, e4⟩ =>
      ⟨nodesL B', by omega, A ++ [z], B', .d z, .d z, by rw [e2, List.append_assoc]; rfl, rfl, by rw [List.length_append]; simp only [List.length_cons, List.length_nil]; omega, e4, rfl, rfl⟩
    have head : ∀ (r : VM Ctl) (q : Res (Ctl × VS)), r [.d x, .d y, .own (.l ((A ++ z :: B).map dupD)), .d (.int (Int.ofNat (A ++ [z]).length)), .d z, .d z] = q →
        (vSeq (vFrz [3] (vAsgD (vBin ixD (vVar 2) (vVar 3)) (vUnpT [vSetD 4, vSetD 5]))) (vSeq (vAug 3 iaddD (vC (.int 1))) (vSeq (vFrz [4, 5] law_alike_s5) (vSeq (vFrz [4, 5] law_alike_s4) r)))) [.d x, .d y, .own (.l ((A ++ z :: B).map dupD)), .d (.int (Int.ofNat A.length)), x4, x5] = q := fun r q hq => by
      refine seq_then (s1 := [.d x, .d y, .own (.l ((A ++ z :: B).map dupD)), .d (.int (Int.ofNat A.length)), .d z, .d z]) ?_ (seq_then (s1 := [.d x, .d y, .own (.l ((A ++ z :: B).map dupD)), .d (.int (Int.ofNat (A ++ [z]).length)), .d z, .d z]) ?_ (seq_then (s1 := [.d x, .d y, .own (.l ((A ++ z :: B).map dupD)), .d (.int (Int.ofNat (A ++ [z]).length)), .d z, .d z]) ?_ (seq_then (s1 := [.d x, .d y, .own (.l ((A ++ z :: B).map dupD)), .d (.int (Int.ofNat (A ++ [z]).length)), .d z, .d z]) ?_ hq)))
      · simp only [m_vb, bnd_ok, bnd_er, m_vr, m_stuck, m_seq, bS_nx, bS_bk, bS_ct, bS_rt, bS_er, m_if, m_ite, bI_t, bI_f, bI_er, m_and, m_or, m_not, m_bool, evB_b, m_opt, m_optn, m_tru, tru_b, tru_i, tru_n, tru_l, tru_t, m_var, var_d, var_own, var_io, var_lk, var_rd, m_c, st_d, st_o, st_l, oc_l, oc_m, rd_d, rd_o, rd_l, rdR_own, rdR_io, rdR_lk, m_bin, m_un, m_call, m_rdn, m_rdc, m_cons, m_conss, m_tup, m_lst, dts_n, dts_c, o_map, o_bind, add_i, sub_i, mul_i, mod_i, fdiv_i, pow_i, neg_i, iadd_i, abs_i, int_i, int_b, len_l, len_t, add_l, add_t, lt_i, le_i, gt_i, ge_i, eq_i, ne_i, eqF_i, neF_i, tuple_l, tuple_t, list_l, list_t, ix_l, ix_t, m_ret, m_drop, m_nx, m_asg, m_nox, nx_ok, set_d, set_o, setD_, wr_un, wr_d, wr_o, wr_rd, m_aug, m_asgD, evD_d, evD_o, m_frzn, m_frzc, m_frz1, fz_d, fz_un, fz_io, fz_lk, fz_rd, fz_o, m_sub, m_augS, m_app, ap_o, ap_io, m_ct, ct_o, ct_io, m_isl, is_o, is_io, m_mut, m_mutB, m_mut0, intD_i, m_sl, m_pn, m_ps, rs_d, rs_l, rsR_rd, rsR_o, rsR_io, sl_l, sl_t, arg_n, arg_c, arg_d, arg_l, ar_o, ar_io, ar_lk, ar_rd, put_n, put_d, put_io, m_put, pt_o, pt_io, i_seq, src_l, src_t, src_o, src_n, sr_o, sr_io, sr_lk, i_rng, i_enum, i_zip, i_rev, unl_n, unl_c, unl_1, ul_lk, ob_t, ob_f, wp_n, wp_c, rt_n, rt_c, fl_un, fl_d, m_unpT, tupD_t, unp_n, unp_c, range_1, range_2, ext_l, ext_t, app_1, m_pc, m_par, rl_n, rl_d, rl_o, rl_l, rlR_o, sr_n, sto_d, sto_o, mulE_i, mulE_t, m_andV, m_orV, m_notE, m_listRg, ite_t, ite_f, m_chain, m_fgt, m_fgtE, fgE_nx, fgE_ct, fgE_bk, fgE_rt, fgE_er, fgts_n, fgts_c, m_fgt1, fg_d, fg_o, fg_un, fg_rd, fg_io, fg_lk, m_raise, List.getElem?_cons_zero, List.getElem?_cons_succ, List.set_cons_zero, List.set_cons_succ, Option.map_some, Option.bind_some, if_true, and_self, at1, dupD, h4, h5]
      · simp only [m_vb, bnd_ok, bnd_er, m_vr, m_stuck, m_seq, bS_nx, bS_bk, bS_ct, bS_rt, bS_er, m_if, m_ite, bI_t, bI_f, bI_er, m_and, m_or, m_not, m_bool, evB_b, m_opt, m_optn, m_tru, tru_b, tru_i, tru_n, tru_l, tru_t, m_var, var_d, var_own, var_io, var_lk, var_rd, m_c, st_d, st_o, st_l, oc_l, oc_m, rd_d, rd_o, rd_l, rdR_own, rdR_io, rdR_lk, m_bin, m_un, m_call, m_rdn, m_rdc, m_cons, m_conss, m_tup, m_lst, dts_n, dts_c, o_map, o_bind, add_i, sub_i, mul_i, mod_i, fdiv_i, pow_i, neg_i, iadd_i, abs_i, int_i, int_b, len_l, len_t, add_l, add_t, lt_i, le_i, gt_i, ge_i, eq_i, ne_i, eqF_i, neF_i, tuple_l, tuple_t, list_l, list_t, ix_l, ix_t, m_ret, m_drop, m_nx, m_asg, m_nox, nx_ok, set_d, set_o, setD_, wr_un, wr_d, wr_o, wr_rd, m_aug, m_asgD, evD_d, evD_o, m_frzn, m_frzc, m_frz1, fz_d, fz_un, fz_io, fz_lk, fz_rd, fz_o, m_sub, m_augS, m_app, ap_o, ap_io, m_ct, ct_o, ct_io, m_isl, is_o, is_io, m_mut, m_mutB, m_mut0, intD_i, m_sl, m_pn, m_ps, rs_d, rs_l, rsR_rd, rsR_o, rsR_io, sl_l, sl_t, arg_n, arg_c, arg_d, arg_l, ar_o, ar_io, ar_lk, ar_rd, put_n, put_d, put_io, m_put, pt_o, pt_io, i_seq, src_l, src_t, src_o, src_n, sr_o, sr_io, sr_lk, i_rng, i_enum, i_zip, i_rev, unl_n, unl_c, unl_1, ul_lk, ob_t, ob_f, wp_n, wp_c, rt_n, rt_c, fl_un, fl_d, m_unpT, tupD_t, unp_n, unp_c, range_1, range_2, ext_l, ext_t, app_1, m_pc, m_par, rl_n, rl_d, rl_o, rl_l, rlR_o, sr_n, sto_d, sto_o, mulE_i, mulE_t, m_andV, m_orV, m_notE, m_listRg, ite_t, ite_f, m_chain, m_fgt, m_fgtE, fgE_nx, fgE_ct, fgE_bk, fgE_rt, fgE_er, fgts_n, fgts_c, m_fgt1, fg_d, fg_o, fg_un, fg_rd, fg_io, fg_lk, m_raise, List.getElem?_cons_zero, List.getElem?_cons_succ, List.set_cons_zero, List.set_cons_succ, Option.map_some, Option.bind_some, if_true, and_self, at2]
      · unfold law_alike_s5
        simp only [m_vb, bnd_ok, bnd_er, m_vr, m_stuck, m_seq, bS_nx, bS_bk, bS_ct, bS_rt, bS_er, m_if, m_ite, bI_t, bI_f, bI_er, m_and, m_or, m_not, m_bool, evB_b, m_opt, m_optn, m_tru, tru_b, tru_i, tru_n, tru_l, tru_t, m_var, var_d, var_own, var_io, var_lk, var_rd, m_c, st_d, st_o, st_l, oc_l, oc_m, rd_d, rd_o, rd_l, rdR_own, rdR_io, rdR_lk, m_bin, m_un, m_call, m_rdn, m_rdc, m_cons, m_conss, m_tup, m_lst, dts_n, dts_c, o_map, o_bind, add_i, sub_i, mul_i, mod_i, fdiv_i, pow_i, neg_i, iadd_i, abs_i, int_i, int_b, len_l, len_t, add_l, add_t, lt_i, le_i, gt_i, ge_i, eq_i, ne_i, eqF_i, neF_i, tuple_l, tuple_t, list_l, list_t, ix_l, ix_t, m_ret, m_drop, m_nx, m_asg, m_nox, nx_ok, set_d, set_o, setD_, wr_un, wr_d, wr_o, wr_rd, m_aug, m_asgD, evD_d, evD_o, m_frzn, m_frzc, m_frz1, fz_d, fz_un, fz_io, fz_lk, fz_rd, fz_o, m_sub, m_augS, m_app, ap_o, ap_io, m_ct, ct_o, ct_io, m_isl, is_o, is_io, m_mut, m_mutB, m_mut0, intD_i, m_sl, m_pn, m_ps, rs_d, rs_l, rsR_rd, rsR_o, rsR_io, sl_l, sl_t, arg_n, arg_c, arg_d, arg_l, ar_o, ar_io, ar_lk, ar_rd, put_n, put_d, put_io, m_put, pt_o, pt_io, i_seq, src_l, src_t, src_o, src_n, sr_o, sr_io, sr_lk, i_rng, i_enum, i_zip, i_rev, unl_n, unl_c, unl_1, ul_lk, ob_t, ob_f, wp_n, wp_c, rt_n, rt_c, fl_un, fl_d, m_unpT, tupD_t, unp_n, unp_c, range_1, range_2, ext_l, ext_t, app_1, m_pc, m_par, rl_n, rl_d, rl_o, rl_l, rlR_o, sr_n, sto_d, sto_o, mulE_i, mulE_t, m_andV, m_orV, m_notE, m_listRg, ite_t, ite_f, m_chain, m_fgt, m_fgtE, fgE_nx, fgE_ct, fgE_bk, fgE_rt, fgE_er, fgts_n, fgts_c, m_fgt1, fg_d, fg_o, fg_un, fg_rd, fg_io, fg_lk, m_raise, List.getElem?_cons_zero, List.getElem?_cons_succ, List.set_cons_zero, List.set_cons_succ, Option.map_some, Option.bind_some, if_true, and_self, isi_run, neF_b, beq_self_eq_true, Bool.not_true]
      · unfold law_alike_s4
        simp only [m_vb, bnd_ok, bnd_er, m_vr, m_stuck, m_seq, bS_nx, bS_bk, bS_ct, bS_rt, bS_er, m_if, m_ite, bI_t, bI_f, bI_er, m_and, m_or, m_not, m_bool, evB_b, m_opt, m_optn, m_tru, tru_b, tru_i, tru_n, tru_l, tru_t, m_var, var_d, var_own, var_io, var_lk, var_rd, m_c, st_d, st_o, st_l, oc_l, oc_m, rd_d, rd_o, rd_l, rdR_own, rdR_io, rdR_lk, m_bin, m_un, m_call, m_rdn, m_rdc, m_cons, m_conss, m_tup, m_lst, dts_n, dts_c, o_map, o_bind, add_i, sub_i, mul_i, mod_i, fdiv_i, pow_i, neg_i, iadd_i, abs_i, int_i, int_b, len_l, len_t, add_l, add_t, lt_i, le_i, gt_i, ge_i, eq_i, ne_i, eqF_i, neF_i, tuple_l, tuple_t, list_l, list_t, ix_l, ix_t, m_ret, m_drop, m_nx, m_asg, m_nox, nx_ok, set_d, set_o, setD_, wr_un, wr_d, wr_o, wr_rd, m_aug, m_asgD, evD_d, evD_o, m_frzn, m_frzc, m_frz1, fz_d, fz_un, fz_io, fz_lk, fz_rd, fz_o, m_sub, m_augS, m_app, ap_o, ap_io, m_ct, ct_o, ct_io, m_isl, is_o, is_io, m_mut, m_mutB, m_mut0, intD_i, m_sl, m_pn, m_ps, rs_d, rs_l, rsR_rd, rsR_o, rsR_io, sl_l, sl_t, arg_n, arg_c, arg_d, arg_l, ar_o, ar_io, ar_lk, ar_rd, put_n, put_d, put_io, m_put, pt_o, pt_io, i_seq, src_l, src_t, src_o, src_n, sr_o, sr_io, sr_lk, i_rng, i_enum, i_zip, i_rev, unl_n, unl_c, unl_1, ul_lk, ob_t, ob_f, wp_n, wp_c, rt_n, rt_c, fl_un, fl_d, m_unpT, tupD_t, unp_n, unp_c, range_1, range_2, ext_l, ext_t, app_1, m_pc, m_par, rl_n, rl_d, rl_o, rl_l, rlR_o, sr_n, sto_d, sto_o, mulE_i, mulE_t, m_andV, m_orV, m_notE, m_listRg, ite_t, ite_f, m_chain, m_fgt, m_fgtE, fgE_nx, fgE_ct, fgE_bk, fgE_rt, fgE_er, fgts_n, fgts_c, m_fgt1, fg_d, fg_o, fg_un, fg_rd, fg_io, fg_lk, m_raise, List.getElem?_cons_zero, List.getElem?_cons_succ, List.set_cons_zero, List.set_cons_succ, Option.map_some, Option.bind_some, if_true, and_self, isi_run, neF_b, beq_self_eq_true, Bool.not_true]
    have capB : nodesD z + nodesL B ≤ 1000000 := by omega
    have lenAB : ((A ++ z :: B).map dupD).length ≤ 1000000 := by
      have := nodesL_len B
      have := nodesD_pos z
      rw [List.length_map, List.length_append, List.length_cons]; omega
    have tail : ∀ zs : List Da, nodesD z = 1 + nodesL zs → (∀ w ∈ zs, GoodD w) → ∃ B', (A ++ z :: B).map dupD ++ zipD zs zs = (A ++ z :: B').map dupD ∧ nodesL B' + 1 = nodesD z + nodesL B ∧ (∀ w ∈ B', GoodD w) := fun zs hzs hgz => by
      refine ⟨B ++ zs, by rw [zip_dup, ← List.map_append, List.append_assoc]; rfl, by rw [nodesL_app]; omega, fun w hw => ?_⟩
      rcases List.mem_append.mp hw with hw | hw
      · exact hB w hw
      · exact hgz w hw
    by_cases hl : ∃ zs, z = .list zs
    · obtain ⟨zs, rfl⟩ := hl
      obtain ⟨B', e1, e2, e3⟩ := tail zs (by simp only [nodesD]) (good_list hz)
      obtain ⟨m, hm, hR⟩ := key _ ⟨B', rfl, e2, e3⟩
      have lz : zs.length ≤ 1000000 := by have := nodesL_len zs; simp only [nodesD] at capB; omega
      have c1 : min zs.length zs.length ≤ 16777216 := by omega
      have c2 : ((A ++ .list zs :: B).map dupD).length + (zipD zs zs).length ≤ 16777216 := by rw [zipD_len]; omega
      refine ⟨.nx, _, m, head _ _ ?_, .inl rfl, hm, hR⟩
      unfold law_alike_s3 law_alike_s1
      simp only [m_vb, bnd_ok, bnd_er, m_vr, m_stuck, m_seq, bS_nx, bS_bk, bS_ct, bS_rt, bS_er, m_if, m_ite, bI_t, bI_f, bI_er, m_and, m_or, m_not, m_bool, evB_b, m_opt, m_optn, m_tru, tru_b, tru_i, tru_n, tru_l, tru_t, m_var, var_d, var_own, var_io, var_lk, var_rd, m_c, st_d, st_o, st_l, oc_l, oc_m, rd_d, rd_o, rd_l, rdR_own, rdR_io, rdR_lk, m_bin, m_un, m_call, m_rdn, m_rdc, m_cons, m_conss, m_tup, m_lst, dts_n, dts_c, o_map, o_bind, add_i, sub_i, mul_i, mod_i, fdiv_i, pow_i, neg_i, iadd_i, abs_i, int_i, int_b, len_l, len_t, add_l, add_t, lt_i, le_i, gt_i, ge_i, eq_i, ne_i, eqF_i, neF_i, tuple_l, tuple_t, list_l, list_t, ix_l, ix_t, m_ret, m_drop, m_nx, m_asg, m_nox, nx_ok, set_d, set_o, setD_, wr_un, wr_d, wr_o, wr_rd, m_aug, m_asgD, evD_d, evD_o, m_frzn, m_frzc, m_frz1, fz_d, fz_un, fz_io, fz_lk, fz_rd, fz_o, m_sub, m_augS, m_app, ap_o, ap_io, m_ct, ct_o, ct_io, m_isl, is_o, is_io, m_mut, m_mutB, m_mut0, intD_i, m_sl, m_pn, m_ps, rs_d, rs_l, rsR_rd, rsR_o, rsR_io, sl_l, sl_t, arg_n, arg_c, arg_d, arg_l, ar_o, ar_io, ar_lk, ar_rd, put_n, put_d, put_io, m_put, pt_o, pt_io, i_seq, src_l, src_t, src_o, src_n, sr_o, sr_io, sr_lk, i_rng, i_enum, i_zip, i_rev, unl_n, unl_c, unl_1, ul_lk, ob_t, ob_f, wp_n, wp_c, rt_n, rt_c, fl_un, fl_d, m_unpT, tupD_t, unp_n, unp_c, range_1, range_2, ext_l, ext_t, app_1, m_pc, m_par, rl_n, rl_d, rl_o, rl_l, rlR_o, sr_n, sto_d, sto_o, mulE_i, mulE_t, m_andV, m_orV, m_notE, m_listRg, ite_t, ite_f, m_chain, m_fgt, m_fgtE, fgE_nx, fgE_ct, fgE_bk, fgE_rt, fgE_er, fgts_n, fgts_c, m_fgt1, fg_d, fg_o, fg_un, fg_rd, fg_io, fg_lk, m_raise, List.getElem?_cons_zero, List.getElem?_cons_succ, List.set_cons_zero, List.set_cons_succ, Option.map_some, Option.bind_some, if_true, and_self, isi_run, neF_b, neF_i, beq_self_eq_true, Bool.not_true, decide_true, List.any_cons, List.any_nil, isKT, Bool.or_false, Bool.or_true, Bool.true_or, Bool.false_or, zipL, seqD, c1, ext_l, c2, e1]
    · by_cases ht : ∃ zs, z = .tuple zs
      · obtain ⟨zs, rfl⟩ := ht
        obtain ⟨B', e1, e2, e3⟩ := tail zs (by simp only [nodesD]) (good_tuple hz)
        obtain ⟨m, hm, hR⟩ := key _ ⟨B', rfl, e2, e3⟩
        have lz : zs.length ≤ 1000000 := by have := nodesL_len zs; simp only [nodesD] at capB; omega
        have c1 : min zs.length zs.length ≤ 16777216 := by omega
        have c2 : ((A ++ .tuple zs :: B).map dupD).length + (zipD zs zs).length ≤ 16777216 := by rw [zipD_len]; omega
        refine ⟨.nx, _, m, head _ _ ?_, .inl rfl, hm, hR⟩
        unfold law_alike_s3 law_alike_s1
        simp only [m_vb, bnd_ok, bnd_er, m_vr, m_stuck, m_seq, bS_nx, bS_bk, bS_ct, bS_rt, bS_er, m_if, m_ite, bI_t, bI_f, bI_er, m_and, m_or, m_not, m_bool, evB_b, m_opt, m_optn, m_tru, tru_b, tru_i, tru_n, tru_l, tru_t, m_var, var_d, var_own, var_io, var_lk, var_rd, m_c, st_d, st_o, st_l, oc_l, oc_m, rd_d, rd_o, rd_l, rdR_own, rdR_io, rdR_lk, m_bin, m_un, m_call, m_rdn, m_rdc, m_cons, m_conss, m_tup, m_lst, dts_n, dts_c, o_map, o_bind, add_i, sub_i, mul_i, mod_i, fdiv_i, pow_i, neg_i, iadd_i, abs_i, int_i, int_b, len_l, len_t, add_l, add_t, lt_i, le_i, gt_i, ge_i, eq_i, ne_i, eqF_i, neF_i, tuple_l, tuple_t, list_l, list_t, ix_l, ix_t, m_ret, m_drop, m_nx, m_asg, m_nox, nx_ok, set_d, set_o, setD_, wr_un, wr_d, wr_o, wr_rd, m_aug, m_asgD, evD_d, evD_o, m_frzn, m_frzc, m_frz1, fz_d, fz_un, fz_io, fz_lk, fz_rd, fz_o, m_sub, m_augS, m_app, ap_o, ap_io, m_ct, ct_o, ct_io, m_isl, is_o, is_io, m_mut, m_mutB, m_mut0, intD_i, m_sl, m_pn, m_ps, rs_d, rs_l, rsR_rd, rsR_o, rsR_io, sl_l, sl_t, arg_n, arg_c, arg_d, arg_l, ar_o, ar_io, ar_lk, ar_rd, put_n, put_d, put_io, m_put, pt_o, pt_io, i_seq, src_l, src_t, src_o, src_n, sr_o, sr_io, sr_lk, i_rng, i_enum, i_zip, i_rev, unl_n, unl_c, unl_1, ul_lk, ob_t, ob_f, wp_n, wp_c, rt_n, rt_c, fl_un, fl_d, m_unpT, tupD_t, unp_n, unp_c, range_1, range_2, ext_l, ext_t, app_1, m_pc, m_par, rl_n, rl_d, rl_o, rl_l, rlR_o, sr_n, sto_d, sto_o, mulE_i, mulE_t, m_andV, m_orV, m_notE, m_listRg, ite_t, ite_f, m_chain, m_fgt, m_fgtE, fgE_nx, fgE_ct, fgE_bk, fgE_rt, fgE_er, fgts_n, fgts_c, m_fgt1, fg_d, fg_o, fg_un, fg_rd, fg_io, fg_lk, m_raise, List.getElem?_cons_zero, List.getElem?_cons_succ, List.set_cons_zero, List.set_cons_succ, Option.map_some, Option.bind_some, if_true, and_self, isi_run, neF_b, neF_i, beq_self_eq_true, Bool.not_true, decide_true, List.any_cons, List.any_nil, isKT, Bool.or_false, Bool.or_true, Bool.true_or, Bool.false_or, zipL, seqD, c1, ext_l, c2, e1]
      · have n1 : nodesD z = 1 := by cases z <;> first | rfl | exact absurd ⟨_, rfl⟩ hl | exact absurd ⟨_, rfl⟩ ht
        have k1 : isKT .tuple z = false := by cases z <;> first | rfl | exact absurd ⟨_, rfl⟩ ht
        have k2 : isKT .list z = false := by cases z <;> first | rfl | exact absurd ⟨_, rfl⟩ hl
        obtain ⟨m, hm, hR⟩ := key _ ⟨B, rfl, by omega, hB⟩
        refine ⟨.nx, _, m, head _ _ ?_, .inl rfl, hm, hR⟩
        unfold law_alike_s3 law_alike_s2
        simp only [m_vb, bnd_ok, bnd_er, m_vr, m_stuck, m_seq, bS_nx, bS_bk, bS_ct, bS_rt, bS_er, m_if, m_ite, bI_t, bI_f, bI_er, m_and, m_or, m_not, m_bool, evB_b, m_opt, m_optn, m_tru, tru_b, tru_i, tru_n, tru_l, tru_t, m_var, var_d, var_own, var_io, var_lk, var_rd, m_c, st_d, st_o, st_l, oc_l, oc_m, rd_d, rd_o, rd_l, rdR_own, rdR_io, rdR_lk, m_bin, m_un, m_call, m_rdn, m_rdc, m_cons, m_conss, m_tup, m_lst, dts_n, dts_c, o_map, o_bind, add_i, sub_i, mul_i, mod_i, fdiv_i, pow_i, neg_i, iadd_i, abs_i, int_i, int_b, len_l, len_t, add_l, add_t, lt_i, le_i, gt_i, ge_i, eq_i, ne_i, eqF_i, neF_i, tuple_l, tuple_t, list_l, list_t, ix_l, ix_t, m_ret, m_drop, m_nx, m_asg, m_nox, nx_ok, set_d, set_o, setD_, wr_un, wr_d, wr_o, wr_rd, m_aug, m_asgD, evD_d, evD_o, m_frzn, m_frzc, m_frz1, fz_d, fz_un, fz_io, fz_lk, fz_rd, fz_o, m_sub, m_augS, m_app, ap_o, ap_io, m_ct, ct_o, ct_io, m_isl, is_o, is_io, m_mut, m_mutB, m_mut0, intD_i, m_sl, m_pn, m_ps, rs_d, rs_l, rsR_rd, rsR_o, rsR_io, sl_l, sl_t, arg_n, arg_c, arg_d, arg_l, ar_o, ar_io, ar_lk, ar_rd, put_n, put_d, put_io, m_put, pt_o, pt_io, i_seq, src_l, src_t, src_o, src_n, sr_o, sr_io, sr_lk, i_rng, i_enum, i_zip, i_rev, unl_n, unl_c, unl_1, ul_lk, ob_t, ob_f, wp_n, wp_c, rt_n, rt_c, fl_un, fl_d, m_unpT, tupD_t, unp_n, unp_c, range_1, range_2, ext_l, ext_t, app_1, m_pc, m_par, rl_n, rl_d, rl_o, rl_l, rlR_o, sr_n, sto_d, sto_o, mulE_i, mulE_t, m_andV, m_orV, m_notE, m_listRg, ite_t, ite_f, m_chain, m_fgt, m_fgtE, fgE_nx, fgE_ct, fgE_bk, fgE_rt, fgE_er, fgts_n, fgts_c, m_fgt1, fg_d, fg_o, fg_un, fg_rd, fg_io, fg_lk, m_raise, List.getElem?_cons_zero, List.getElem?_cons_succ, List.set_cons_zero, List.set_cons_succ, Option.map_some, Option.bind_some, if_true, and_self, isi_run, List.any_cons, List.any_nil, k1, k2, Bool.or_false, neF_leaf hz (fun zs e => hl ⟨zs, e⟩) (fun zs e => ht ⟨zs, e⟩)]
/-- what is compared with itself is alike -/
theorem alike_refl {x : Da} (hg : GoodD x) (hn : nodesD x ≤ 900000) : F__law_alike [.d x, .d x] = .ok (.d (.bool true), [.d x, .d x]) := by
  obtain ⟨s', hs, l, x3, x4, x5, rfl⟩ := alike_s6_ok (x := x) (y := x) (N := nodesL [x]) (by simp only [nodesL]; omega) (n := nodesL [x]) (s := [.d x, .d x, .own (.l [dupD x]), .d (.int 0), .un, .un]) ⟨[], [x], .un, .un, rfl, rfl, by simp, fun z hz => by rw [List.mem_singleton.mp hz]; exact hg, rfl, rfl⟩
  refine run_ok (c := .rt (.d (.bool true))) (s := [.d x, .d x, .own (.l l), x3, x4, x5]) ?_ rfl
  show g__law_alike [.d x, .d x, .un, .un, .un, .un] = _
  unfold g__law_alike
  refine seq_then (s1 := [.d x, .d x, .own (.l [dupD x]), .d (.int 0), .un, .un]) ?_ (seq_then (s1 := [.d x, .d x, .own (.l l), x3, x4, x5]) ?_ ?_)
  · simp only [m_vb, bnd_ok, bnd_er, m_vr, m_stuck, m_seq, bS_nx, bS_bk, bS_ct, bS_rt, bS_er, m_if, m_ite, bI_t, bI_f, bI_er, m_and, m_or, m_not, m_bool, evB_b, m_opt, m_optn, m_tru, tru_b, tru_i, tru_n, tru_l, tru_t, m_var, var_d, var_own, var_io, var_lk, var_rd, m_c, st_d, st_o, st_l, oc_l, oc_m, rd_d, rd_o, rd_l, rdR_own, rdR_io, rdR_lk, m_bin, m_un, m_call, m_rdn, m_rdc, m_cons, m_conss, m_tup, m_lst, dts_n, dts_c, o_map, o_bind, add_i, sub_i, mul_i, mod_i, fdiv_i, pow_i, neg_i, iadd_i, abs_i, int_i, int_b, len_l, len_t, add_l, add_t, lt_i, le_i, gt_i, ge_i, eq_i, ne_i, eqF_i, neF_i, tuple_l, tuple_t, list_l, list_t, ix_l, ix_t, m_ret, m_drop, m_nx, m_asg, m_nox, nx_ok, set_d, set_o, setD_, wr_un, wr_d, wr_o, wr_rd, m_aug, m_asgD, evD_d, evD_o, m_frzn, m_frzc, m_frz1, fz_d, fz_un, fz_io, fz_lk, fz_rd, fz_o, m_sub, m_augS, m_app, ap_o, ap_io, m_ct, ct_o, ct_io, m_isl, is_o, is_io, m_mut, m_mutB, m_mut0, intD_i, m_sl, m_pn, m_ps, rs_d, rs_l, rsR_rd, rsR_o, rsR_io, sl_l, sl_t, arg_n, arg_c, arg_d, arg_l, ar_o, ar_io, ar_lk, ar_rd, put_n, put_d, put_io, m_put, pt_o, pt_io, i_seq, src_l, src_t, src_o, src_n, sr_o, sr_io, sr_lk, i_rng, i_enum, i_zip, i_rev, unl_n, unl_c, unl_1, ul_lk, ob_t, ob_f, wp_n, wp_c, rt_n, rt_c, fl_un, fl_d, m_unpT, tupD_t, unp_n, unp_c, range_1, range_2, ext_l, ext_t, app_1, m_pc, m_par, rl_n, rl_d, rl_o, rl_l, rlR_o, sr_n, sto_d, sto_o, mulE_i, mulE_t, m_andV, m_orV, m_notE, m_listRg, ite_t, ite_f, m_chain, m_fgt, m_fgtE, fgE_nx, fgE_ct, fgE_bk, fgE_rt, fgE_er, fgts_n, fgts_c, m_fgt1, fg_d, fg_o, fg_un, fg_rd, fg_io, fg_lk, m_raise, List.getElem?_cons_zero, List.getElem?_cons_succ, List.set_cons_zero, List.set_cons_succ, Option.map_some, Option.bind_some, if_true, and_self, dupD, List.length_cons, List.length_nil, show (0 + 1 + 1 : Nat) ≤ 16777216 by decide, show (0 + 1 : Nat) ≤ 16777216 by decide]
  · simp only [m_vb, bnd_ok, bnd_er, m_vr, m_stuck, m_seq, bS_nx, bS_bk, bS_ct, bS_rt, bS_er, m_if, m_ite, bI_t, bI_f, bI_er, m_and, m_or, m_not, m_bool, evB_b, m_opt, m_optn, m_tru, tru_b, tru_i, tru_n, tru_l, tru_t, m_var, var_d, var_own, var_io, var_lk, var_rd, m_c, st_d, st_o, st_l, oc_l, oc_m, rd_d, rd_o, rd_l, rdR_own, rdR_io, rdR_lk, m_bin, m_un, m_call, m_rdn, m_rdc, m_cons, m_conss, m_tup, m_lst, dts_n, dts_c, o_map, o_bind, add_i, sub_i, mul_i, mod_i, fdiv_i, pow_i, neg_i, iadd_i, abs_i, int_i, int_b, len_l, len_t, add_l, add_t, lt_i, le_i, gt_i, ge_i, eq_i, ne_i, eqF_i, neF_i, tuple_l, tuple_t, list_l, list_t, ix_l, ix_t, m_ret, m_drop, m_nx, m_asg, m_nox, nx_ok, set_d, set_o, setD_, wr_un, wr_d, wr_o, wr_rd, m_aug, m_asgD, evD_d, evD_o, m_frzn, m_frzc, m_frz1, fz_d, fz_un, fz_io, fz_lk, fz_rd, fz_o, m_sub, m_augS, m_app, ap_o, ap_io, m_ct, ct_o, ct_io, m_isl, is_o, is_io, m_mut, m_mutB, m_mut0, intD_i, m_sl, m_pn, m_ps, rs_d, rs_l, rsR_rd, rsR_o, rsR_io, sl_l, sl_t, arg_n, arg_c, arg_d, arg_l, ar_o, ar_io, ar_lk, ar_rd, put_n, put_d, put_io, m_put, pt_o, pt_io, i_seq, src_l, src_t, src_o, src_n, sr_o, sr_io, sr_lk, i_rng, i_enum, i_zip, i_rev, unl_n, unl_c, unl_1, ul_lk, ob_t, ob_f, wp_n, wp_c, rt_n, rt_c, fl_un, fl_d, m_unpT, tupD_t, unp_n, unp_c, range_1, range_2, ext_l, ext_t, app_1, m_pc, m_par, rl_n, rl_d, rl_o, rl_l, rlR_o, sr_n, sto_d, sto_o, mulE_i, mulE_t, m_andV, m_orV, m_notE, m_listRg, ite_t, ite_f, m_chain, m_fgt, m_fgtE, fgE_nx, fgE_ct, fgE_bk, fgE_rt, fgE_er, fgts_n, fgts_c, m_fgt1, fg_d, fg_o, fg_un, fg_rd, fg_io, fg_lk, m_raise, List.getElem?_cons_zero, List.getElem?_cons_succ, List.set_cons_zero, List.set_cons_succ, Option.map_some, Option.bind_some, if_true, and_self]; exact hs
  · simp only [m_vb, bnd_ok, bnd_er, m_vr, m_stuck, m_seq, bS_nx, bS_bk, bS_ct, bS_rt, bS_er, m_if, m_ite, bI_t, bI_f, bI_er, m_and, m_or, m_not, m_bool, evB_b, m_opt, m_optn, m_tru, tru_b, tru_i, tru_n, tru_l, tru_t, m_var, var_d, var_own, var_io, var_lk, var_rd, m_c, st_d, st_o, st_l, oc_l, oc_m, rd_d, rd_o, rd_l, rdR_own, rdR_io, rdR_lk, m_bin, m_un, m_call, m_rdn, m_rdc, m_cons, m_conss, m_tup, m_lst, dts_n, dts_c, o_map, o_bind, add_i, sub_i, mul_i, mod_i, fdiv_i, pow_i, neg_i, iadd_i, abs_i, int_i, int_b, len_l, len_t, add_l, add_t, lt_i, le_i, gt_i, ge_i, eq_i, ne_i, eqF_i, neF_i, tuple_l, tuple_t, list_l, list_t, ix_l, ix_t, m_ret, m_drop, m_nx, m_asg, m_nox, nx_ok, set_d, set_o, setD_, wr_un, wr_d, wr_o, wr_rd, m_aug, m_asgD, evD_d, evD_o, m_frzn, m_frzc, m_frz1, fz_d, fz_un, fz_io, fz_lk, fz_rd, fz_o, m_sub, m_augS, m_app, ap_o, ap_io, m_ct, ct_o, ct_io, m_isl, is_o, is_io, m_mut, m_mutB, m_mut0, intD_i, m_sl, m_pn, m_ps, rs_d, rs_l, rsR_rd, rsR_o, rsR_io, sl_l, sl_t, arg_n, arg_c, arg_d, arg_l, ar_o, ar_io, ar_lk, ar_rd, put_n, put_d, put_io, m_put, pt_o, pt_io, i_seq, src_l, src_t, src_o, src_n, sr_o, sr_io, sr_lk, i_rng, i_enum, i_zip, i_rev, unl_n, unl_c, unl_1, ul_lk, ob_t, ob_f, wp_n, wp_c, rt_n, rt_c, fl_un, fl_d, m_unpT, tupD_t, unp_n, unp_c, range_1, range_2, ext_l, ext_t, app_1, m_pc, m_par, rl_n, rl_d, rl_o, rl_l, rlR_o, sr_n, sto_d, sto_o, mulE_i, mulE_t, m_andV, m_orV, m_notE, m_listRg, ite_t, ite_f, m_chain, m_fgt, m_fgtE, fgE_nx, fgE_ct, fgE_bk, fgE_rt, fgE_er, fgts_n, fgts_c, m_fgt1, fg_d, fg_o, fg_un, fg_rd, fg_io, fg_lk, m_raise, List.getElem?_cons_zero, List.getElem?_cons_succ, List.set_cons_zero, List.set_cons_succ, Option.map_some, Option.bind_some, if_true, and_self]
end LB
set_option Elab.async false
set_option linter.all false
set_option maxRecDepth 100000
namespace LB
open PySem PySem.Spec PyProof.Rows L2 VL
section
variable {γ : Type} {s s1 base : VS} {fi : VM (List Da × Lks)} {L : Lks} {ix : List Nat} {gt : Da → VM Unit} {tt : VM Bool} {te : VM EV} {enc : γ → Da}
/-- a comprehension with a test that changes nothing -/
theorem lc_of {p : γ → Bool} {h : γ → Da} {xs : List γ} (hi : fi s = .ok ((xs.map enc, L), s1)) (fl : ix.all (fun j => flatS s1[j]?) = true) (hb : wipeV ix s1 = base)
    (step : ∀ x ∈ xs, ∃ s1 s2, gt (enc x) base = .ok ((), s1) ∧ tt s1 = .ok (p x, s2) ∧
      (p x = false → ix.all (fun j => flatS s2[j]?) = true ∧ wipeV ix s2 = base) ∧ (p x = true → ∃ r s3, te s2 = .ok (r, s3) ∧ evD r = some (h x) ∧ ix.all (fun j => flatS s3[j]?) = true ∧ wipeV ix s3 = base)) (hl : xs.length ≤ 16777216) :
    vLcF ix fi gt tt te s = .ok (.own (.l ((xs.filter p).map h)), unlock L (restV s1 ix base)) :=
  lcF_of hi fl (hb ▸ lcG_pure p h xs (hb ▸ step)) (by rw [List.length_map]; exact Nat.le_trans (List.length_filter_le _ _) hl)
theorem lc_map {h : γ → Da} {xs : List γ} (hi : fi s = .ok ((xs.map enc, L), s1)) (fl : ix.all (fun j => flatS s1[j]?) = true) (hb : wipeV ix s1 = base)
    (step : ∀ x ∈ xs, ∃ s2 r s3, gt (enc x) base = .ok ((), s2) ∧ te s2 = .ok (r, s3) ∧ evD r = some (h x) ∧ ix.all (fun j => flatS s3[j]?) = true ∧ wipeV ix s3 = base) (hl : xs.length ≤ 16777216) :
    vLcF ix fi gt (vr true) te s = .ok (.own (.l (xs.map h)), unlock L (restV s1 ix base)) := by
  have := lc_of (tt := vr true) (p := fun _ => true) (h := h) (te := te) hi fl hb (fun x hx => by
    obtain ⟨s2, r, s3, h1, h2, h3⟩ := step x hx
    exact ⟨s2, s2, h1, rfl, fun z => absurd z (by decide), fun _ => ⟨r, s3, h2, h3⟩⟩) hl
  rwa [List.filter_eq_self.mpr (by simp)] at this
/-- ints in a row -/
theorem inB_ints {i : Int} : ∀ l : List Int, inB (.int i) (l.map PyData.int) = decide (i ∈ l)
  | [] => rfl
  | x :: l => by
    have ih := inB_ints (i := i) l
    unfold inB at ih ⊢
    rw [List.map_cons, List.any_cons, ih]
    simp only [PyData.eqv, List.mem_cons, Bool.decide_or]
    congr 1
    by_cases h : i = x
    · subst h; simp
    · rw [decide_eq_false h]; exact beq_eq_false_iff_ne.mpr fun z => h z.symm
theorem shFs_intL (n : Nat) : ∀ c : List Int, shFs n (c.map PyData.int) = true
  | [] => by simp only [List.map_nil, shFs]
  | x :: c => by simp only [List.map_cons, shFs, shF, shFs_intL n c, Bool.and_self]
theorem in_ints {i : Int} {l : List Int} : inF (.int i) (.tuple (l.map PyData.int)) = some (.d (.bool (decide (i ∈ l)))) := by
  show (if shF 64 (.int i) = true ∧ shFs 63 (l.map PyData.int) = true then some (EV.d (.bool (if false = true then !inB _ _ else inB _ _))) else none) = _
  rw [if_pos ⟨rfl, shFs_intL 63 l⟩, if_neg Bool.false_ne_true, inB_ints]
theorem in_intsL {i : Int} {l : List Int} : inF (.int i) (.list (l.map PyData.int)) = some (.d (.bool (decide (i ∈ l)))) := by
  show (if shF 64 (.int i) = true ∧ shFs 63 (l.map PyData.int) = true then some (EV.d (.bool (if false = true then !inB _ _ else inB _ _))) else none) = _
  rw [if_pos ⟨rfl, shFs_intL 63 l⟩, if_neg Bool.false_ne_true, inB_ints]
theorem intN_map (l : List Nat) : l.map intN = (l.map Int.ofNat).map PyData.int := by rw [List.map_map]; rfl
theorem in_nats {k : Nat} {l : List Nat} : inF (intN k) (.tuple (l.map intN)) = some (.d (.bool (decide (k ∈ l)))) := by
  rw [intN_map]
  unfold intN
  rw [in_ints]
  congr 4
  exact propext ⟨fun h => by obtain ⟨j, h1, h2⟩ := List.mem_map.mp h; exact Int.ofNat.inj h2 ▸ h1, fun h => List.mem_map_of_mem h⟩
theorem codes_at {ys : List Da} {p : Nat} (hp : p ≤ 1000000) (hy : ys.length ≤ 1000000) (hn : ∀ q, q < p → ys.length ^ q * ys.length ≤ 16000000) :
    callF F__law_codes [.d (.tuple ys), .d (.int p)] s = .ok (.d (.list ((codesP ys.length p).map tupI)), s) := by
  rw [callF_ok (by simp [loans]) (by rfl) (codes_ok hp hy hn) (fun i => by intro z; cases z), put_d, put_d, put_n]
end
end LB
set_option Elab.async false
set_option linter.all false
set_option maxRecDepth 100000
namespace LB
open PySem PySem.Spec PyProof.Rows L2 VL
theorem some_ok {n : Nat} {bag : List Da} {xs : List Da} (hb : BagOk (n + 1) bag) (h0 : xs ≠ []) (h1 : xs.length ≤ 1000) :
    ∃ (x : Da) (bag' : List Da), F__law_some [.io (.l bag), .d (.list xs)] = .ok (.d x, [.io (.l bag'), .d (.list xs)]) ∧ x ∈ xs ∧ BagOk n bag' := by
  have hp : 0 < xs.length := List.length_pos_iff.mpr h0
  obtain ⟨v, bag', h, v0, v1, hb'⟩ := take_at (n := n) (k := 0) (s := [.io (.l bag), .d (.list xs)]) (b := true) (m := xs.length) rfl hb (by omega) (by omega)
  obtain ⟨k, rfl⟩ := Int.eq_ofNat_of_zero_le v0
  have hk : k < xs.length := by omega
  refine ⟨xs[k], bag', run_d (st := [.io (.l bag), .d (.list xs)]) (s := [.io (.l bag'), .d (.list xs)]) ?_, List.getElem_mem hk, hb'⟩
  have e : atI xs (k : Int) = some xs[k] := by
    rw [at_nat (by omega), Int.toNat_natCast, List.getElem?_eq_getElem hk]
  unfold g__law_some
  simp only [m_vb, bnd_ok, bnd_er, m_vr, m_stuck, m_seq, bS_nx, bS_bk, bS_ct, bS_rt, bS_er, m_if, m_ite, bI_t, bI_f, bI_er, m_and, m_or, m_not, m_bool, evB_b, m_opt, m_optn, m_tru, tru_b, tru_i, tru_n, tru_l, tru_t, m_var, var_d, var_own, var_io, var_lk, var_rd, m_c, st_d, st_o, st_l, oc_l, oc_m, rd_d, rd_o, rd_l, rdR_own, rdR_io, rdR_lk, m_bin, m_un, m_call, m_rdn, m_rdc, m_cons, m_conss, m_tup, m_lst, dts_n, dts_c, o_map, o_bind, add_i, sub_i, mul_i, mod_i, fdiv_i, pow_i, neg_i, iadd_i, abs_i, int_i, int_b, len_l, len_t, add_l, add_t, lt_i, le_i, gt_i, ge_i, eq_i, ne_i, eqF_i, neF_i, tuple_l, tuple_t, list_l, list_t, ix_l, ix_t, m_ret, m_drop, m_nx, m_asg, m_nox, nx_ok, set_d, set_o, setD_, wr_un, wr_d, wr_o, wr_rd, m_aug, m_asgD, evD_d, evD_o, m_frzn, m_frzc, m_frz1, fz_d, fz_un, fz_io, fz_lk, fz_rd, fz_o, m_sub, m_augS, m_app, ap_o, ap_io, m_ct, ct_o, ct_io, m_isl, is_o, is_io, m_mut, m_mutB, m_mut0, intD_i, m_sl, m_pn, m_ps, rs_d, rs_l, rsR_rd, rsR_o, rsR_io, sl_l, sl_t, arg_n, arg_c, arg_d, arg_l, ar_o, ar_io, ar_lk, ar_rd, put_n, put_d, put_io, m_put, pt_o, pt_io, i_seq, src_l, src_t, src_o, src_n, sr_o, sr_io, sr_lk, i_rng, i_enum, i_zip, i_rev, unl_n, unl_c, unl_1, ul_lk, ob_t, ob_f, wp_n, wp_c, rt_n, rt_c, fl_un, fl_d, m_unpT, tupD_t, unp_n, unp_c, range_1, range_2, ext_l, ext_t, app_1, m_pc, m_par, rl_n, rl_d, rl_o, rl_l, rlR_o, sr_n, sto_d, sto_o, mulE_i, mulE_t, m_andV, m_orV, m_notE, m_listRg, ite_t, ite_f, m_chain, m_fgt, m_fgtE, fgE_nx, fgE_ct, fgE_bk, fgE_rt, fgE_er, fgts_n, fgts_c, m_fgt1, fg_d, fg_o, fg_un, fg_rd, fg_io, fg_lk, m_raise, List.getElem?_cons_zero, List.getElem?_cons_succ, List.set_cons_zero, List.set_cons_succ, Option.map_some, Option.bind_some, if_true, and_self, m_callF, h, e]
  all_goals rfl
theorem some_at {n k : Nat} {s : VS} {b : Bool} {bag : List Da} {xs : List Da} (hs : s[k]? = some (ownB b (.l bag))) (hb : BagOk (n + 1) bag) (h0 : xs ≠ []) (h1 : xs.length ≤ 1000) :
    ∃ (x : Da) (bag' : List Da), callF F__law_some [.loan k, .d (.list xs)] s = .ok (.d x, s.set k (ownB b (.l bag'))) ∧ x ∈ xs ∧ BagOk n bag' := by
  obtain ⟨x, bag', h, hx, hb'⟩ := some_ok hb h0 h1
  refine ⟨x, bag', ?_, hx, hb'⟩
  rw [callF_ok (by simp [loans]) (by rw [arg_c, arg_ob hs]; rfl) h dl, put_io, put_ob hs, put_d, put_n]
theorem shFs_all {n : Nat} : ∀ {l : List Da}, (∀ x ∈ l, shF n x = true) → shFs n l = true
  | [], _ => by simp only [shFs]
  | x :: l, h => by simp only [shFs, h x List.mem_cons_self, shFs_all fun y hy => h y (List.mem_cons_of_mem _ hy), Bool.and_self]
theorem neF_nil {l : List Da} (h : ∀ x ∈ l, shF 63 x = true) : neF (.list l) (.list []) = some (.d (.bool (!l.isEmpty))) := by
  show (if shF 64 (.list l) = true ∧ shF 64 (.list []) = true then some (EV.d (.bool (!PyData.eqv (.list l) (.list [])))) else none) = _
  rw [if_pos ⟨by simp only [shF]; exact shFs_all h, rfl⟩]
  cases l with
  | nil => simp only [PyData.eqv, PyData.eqvAll]; rfl
  | cons x l => simp only [PyData.eqv, PyData.eqvAll]; rfl
theorem eqF_nil {l : List Da} (h : ∀ x ∈ l, shF 63 x = true) : eqF (.list l) (.list []) = some (.d (.bool l.isEmpty)) := by
  show (if shF 64 (.list l) = true ∧ shF 64 (.list []) = true then some (EV.d (.bool (PyData.eqv (.list l) (.list [])))) else none) = _
  rw [if_pos ⟨by simp only [shF]; exact shFs_all h, rfl⟩]
  cases l with
  | nil => simp only [PyData.eqv, PyData.eqvAll]; rfl
  | cons x l => simp only [PyData.eqv, PyData.eqvAll]; rfl
theorem erase_perm {α : Type} : ∀ {l : List α} {k : Nat} (h : k < l.length), (l[k] :: l.eraseIdx k).Perm l
  | x :: l, 0, h => .refl _
  | x :: l, k + 1, h => by
    show (l[k]'(by simpa using h) :: x :: l.eraseIdx k).Perm (x :: l)
    exact (List.Perm.swap _ _ _).trans (.cons x (erase_perm (by simpa using h)))
theorem pop_at {l : List Da} {k : Nat} (hk : k < l.length) (hl : l.length ≤ 1000) : popAtD l [.int (k : Int)] = some (l.eraseIdx k, l[k]) := by
  show (if -1000000000 ≤ (k : Int) ∧ (k : Int) < 1000000000 then (ixN l.length (k : Int)).bind fun k => l[k]?.map fun y => (l.eraseIdx k, y) else none) = _
  unfold ixN
  rw [if_pos (by omega), if_pos (by omega), if_pos (by omega), Int.toNat_natCast, Option.bind_some, List.getElem?_eq_getElem hk]; rfl
theorem mixed_turn {bag bag' l f l' : List Da} {x y v : Da} {n : Int} (hn : (l.length : Int) = n) (ht : callF F__law_take [.loan 0, .d (.int n)] [.io (.l bag), .d x, .own (.l l), .own (.l f)] = .ok (.d v, [.io (.l bag'), .d x, .own (.l l), .own (.l f)])) (hp : popAtD l [v] = some (l', y)) (hf : f.length < 16777216) :
    (vDrop ((vMut appendD (vVar 3) ((vCons ((vMut popAtD (vVar 2) ((vCons ((vCallF F__law_take ((vCons (vVar 0) ((vCons ((vCall lenD ((vCons (vVar 2) (vr []))))) (vr []))))))) (vr []))))) (vr []))))))
      [.io (.l bag), .d x, .own (.l l), .own (.l f)] = .ok (.nx, [.io (.l bag'), .d x, .own (.l l'), .own (.l (f ++ [y]))]) := by
  simp only [m_vb, bnd_ok, bnd_er, m_vr, m_stuck, m_seq, bS_nx, bS_bk, bS_ct, bS_rt, bS_er, m_if, m_ite, bI_t, bI_f, bI_er, m_and, m_or, m_not, m_bool, evB_b, m_opt, m_optn, m_tru, tru_b, tru_i, tru_n, tru_l, tru_t, m_var, var_d, var_own, var_io, var_lk, var_rd, m_c, st_d, st_o, st_l, oc_l, oc_m, rd_d, rd_o, rd_l, rdR_own, rdR_io, rdR_lk, m_bin, m_un, m_call, m_rdn, m_rdc, m_cons, m_conss, m_tup, m_lst, dts_n, dts_c, o_map, o_bind, add_i, sub_i, mul_i, mod_i, fdiv_i, pow_i, neg_i, iadd_i, abs_i, int_i, int_b, len_l, len_t, add_l, add_t, lt_i, le_i, gt_i, ge_i, eq_i, ne_i, eqF_i, neF_i, tuple_l, tuple_t, list_l, list_t, ix_l, ix_t, m_ret, m_drop, m_nx, m_asg, m_nox, nx_ok, set_d, set_o, setD_, wr_un, wr_d, wr_o, wr_rd, m_aug, m_asgD, evD_d, evD_o, m_frzn, m_frzc, m_frz1, fz_d, fz_un, fz_io, fz_lk, fz_rd, fz_o, m_sub, m_augS, m_app, ap_o, ap_io, m_ct, ct_o, ct_io, m_isl, is_o, is_io, m_mut, m_mutB, m_mut0, intD_i, m_sl, m_pn, m_ps, rs_d, rs_l, rsR_rd, rsR_o, rsR_io, sl_l, sl_t, arg_n, arg_c, arg_d, arg_l, ar_o, ar_io, ar_lk, ar_rd, put_n, put_d, put_io, m_put, pt_o, pt_io, i_seq, src_l, src_t, src_o, src_n, sr_o, sr_io, sr_lk, i_rng, i_enum, i_zip, i_rev, unl_n, unl_c, unl_1, ul_lk, ob_t, ob_f, wp_n, wp_c, rt_n, rt_c, fl_un, fl_d, m_unpT, tupD_t, unp_n, unp_c, range_1, range_2, ext_l, ext_t, app_1, m_pc, m_par, rl_n, rl_d, rl_o, rl_l, rlR_o, sr_n, sto_d, sto_o, mulE_i, mulE_t, m_andV, m_orV, m_notE, m_listRg, ite_t, ite_f, m_chain, m_fgt, m_fgtE, fgE_nx, fgE_ct, fgE_bk, fgE_rt, fgE_er, fgts_n, fgts_c, m_fgt1, fg_d, fg_o, fg_un, fg_rd, fg_io, fg_lk, m_raise, List.getElem?_cons_zero, List.getElem?_cons_succ, List.set_cons_zero, List.set_cons_succ, Option.map_some, Option.bind_some, if_true, and_self, m_callF, hn, ht, hp, app_1, hf]
theorem mixed_test {bag l f : List Da} {x : Da} (h : ∀ x ∈ l, shF 63 x = true) : (VL.vBool (vBin neF (vVar 2) (vList (vr [])))) [.io (.l bag), .d x, .own (.l l), .own (.l f)] = .ok (!l.isEmpty, [.io (.l bag), .d x, .own (.l l), .own (.l f)]) := by
  simp only [m_vb, bnd_ok, bnd_er, m_vr, m_stuck, m_seq, bS_nx, bS_bk, bS_ct, bS_rt, bS_er, m_if, m_ite, bI_t, bI_f, bI_er, m_and, m_or, m_not, m_bool, evB_b, m_opt, m_optn, m_tru, tru_b, tru_i, tru_n, tru_l, tru_t, m_var, var_d, var_own, var_io, var_lk, var_rd, m_c, st_d, st_o, st_l, oc_l, oc_m, rd_d, rd_o, rd_l, rdR_own, rdR_io, rdR_lk, m_bin, m_un, m_call, m_rdn, m_rdc, m_cons, m_conss, m_tup, m_lst, dts_n, dts_c, o_map, o_bind, add_i, sub_i, mul_i, mod_i, fdiv_i, pow_i, neg_i, iadd_i, abs_i, int_i, int_b, len_l, len_t, add_l, add_t, lt_i, le_i, gt_i, ge_i, eq_i, ne_i, eqF_i, neF_i, tuple_l, tuple_t, list_l, list_t, ix_l, ix_t, m_ret, m_drop, m_nx, m_asg, m_nox, nx_ok, set_d, set_o, setD_, wr_un, wr_d, wr_o, wr_rd, m_aug, m_asgD, evD_d, evD_o, m_frzn, m_frzc, m_frz1, fz_d, fz_un, fz_io, fz_lk, fz_rd, fz_o, m_sub, m_augS, m_app, ap_o, ap_io, m_ct, ct_o, ct_io, m_isl, is_o, is_io, m_mut, m_mutB, m_mut0, intD_i, m_sl, m_pn, m_ps, rs_d, rs_l, rsR_rd, rsR_o, rsR_io, sl_l, sl_t, arg_n, arg_c, arg_d, arg_l, ar_o, ar_io, ar_lk, ar_rd, put_n, put_d, put_io, m_put, pt_o, pt_io, i_seq, src_l, src_t, src_o, src_n, sr_o, sr_io, sr_lk, i_rng, i_enum, i_zip, i_rev, unl_n, unl_c, unl_1, ul_lk, ob_t, ob_f, wp_n, wp_c, rt_n, rt_c, fl_un, fl_d, m_unpT, tupD_t, unp_n, unp_c, range_1, range_2, ext_l, ext_t, app_1, m_pc, m_par, rl_n, rl_d, rl_o, rl_l, rlR_o, sr_n, sto_d, sto_o, mulE_i, mulE_t, m_andV, m_orV, m_notE, m_listRg, ite_t, ite_f, m_chain, m_fgt, m_fgtE, fgE_nx, fgE_ct, fgE_bk, fgE_rt, fgE_er, fgts_n, fgts_c, m_fgt1, fg_d, fg_o, fg_un, fg_rd, fg_io, fg_lk, m_raise, List.getElem?_cons_zero, List.getElem?_cons_succ, List.set_cons_zero, List.set_cons_succ, Option.map_some, Option.bind_some, if_true, and_self, List.length_nil, Nat.zero_le, neF_nil h]
theorem mixed_ok {n : Nat} {bag : List Da} {xs : List Da} (hb : BagOk (n + xs.length) bag) (hl : xs.length ≤ 1000) (hg : ∀ x ∈ xs, shF 63 x = true) :
    ∃ (ys : List Da) (bag' : List Da), F__law_mixed [.io (.l bag), .d (.list xs)] = .ok (.own (.l ys), [.io (.l bag'), .d (.list xs)]) ∧ ys.Perm xs ∧ BagOk n bag' := by
  have loop : ∃ s', law_mixed_s1 [.io (.l bag), .d (.list xs), .own (.l xs), .own (.l [])] = .ok (.nx, s') ∧ ∃ bag' ys, s' = [.io (.l bag'), .d (.list xs), .own (.l []), .own (.l ys)] ∧ ys.Perm xs ∧ BagOk n bag' := by
    unfold law_mixed_s1 vWhile
    refine while_inv (fun m s => ∃ bag l f, s = [.io (.l bag), .d (.list xs), .own (.l l), .own (.l f)] ∧ m = l.length ∧ (f ++ l).Perm xs ∧ BagOk (n + l.length) bag) (fun s' => ∃ bag' ys, s' = [.io (.l bag'), .d (.list xs), .own (.l []), .own (.l ys)] ∧ ys.Perm xs ∧ BagOk n bag') (fun m s hR => ?_) fuel xs.length _ (by show _ < 1000000000; omega) ⟨bag, xs, [], rfl, rfl, .refl _, hb⟩
    obtain ⟨bag, l, f, rfl, rfl, hp, hb⟩ := hR
    have hg2 : ∀ x ∈ l, shF 63 x = true := fun x hx => hg x (hp.mem_iff.mp (List.mem_append_right _ hx))
    have hll := hp.length_eq
    rw [List.length_append] at hll
    refine ⟨!l.isEmpty, [.io (.l bag), .d (.list xs), .own (.l l), .own (.l f)], mixed_test hg2, fun h => ?_, fun h => ?_⟩
    · have : l = [] := by cases l with
        | nil => rfl
        | cons _ _ => cases h
      subst this
      rw [List.append_nil] at hp
      exact ⟨bag, f, rfl, hp, hb⟩
    · have h0 : 0 < l.length := by cases l with
        | nil => cases h
        | cons _ _ => simp
      obtain ⟨v, bag', ht, v0, v1, hb'⟩ := take_at (n := n + (l.length - 1)) (k := 0) (s := [.io (.l bag), .d (.list xs), .own (.l l), .own (.l f)]) (b := true) (m := l.length) rfl (hb.mono (by omega)) (by omega) (by omega)
      obtain ⟨k, rfl⟩ := Int.eq_ofNat_of_zero_le v0
      have hk : k < l.length := by omega
      have cap : f.length < 16777216 := by omega
      refine ⟨.nx, [.io (.l bag'), .d (.list xs), .own (.l (l.eraseIdx k)), .own (.l (f ++ [l[k]]))], (l.eraseIdx k).length, ?_, .inl rfl, by rw [List.length_eraseIdx_of_lt hk]; omega, bag', l.eraseIdx k, f ++ [l[k]], rfl, rfl, ?_, by rw [List.length_eraseIdx_of_lt hk]; exact hb'⟩
      · exact mixed_turn rfl ht (pop_at hk (by omega)) cap
      · rw [List.append_assoc]
        exact (List.Perm.append_left f (erase_perm hk)).trans hp
  obtain ⟨s', hs, bag', ys, rfl, hp, hb'⟩ := loop
  refine ⟨ys, bag', run_loan (st := [.io (.l bag), .d (.list xs), .un, .un]) (s := [.io (.l bag'), .d (.list xs), .own (.l []), .own (.l ys)]) (i := 3) ?_, hp, hb'⟩
  unfold g__law_mixed
  refine seq_then (s1 := [.io (.l bag), .d (.list xs), .own (.l xs), .own (.l [])]) ?_ (seq_then hs ?_)
  · simp only [m_vb, bnd_ok, bnd_er, m_vr, m_stuck, m_seq, bS_nx, bS_bk, bS_ct, bS_rt, bS_er, m_if, m_ite, bI_t, bI_f, bI_er, m_and, m_or, m_not, m_bool, evB_b, m_opt, m_optn, m_tru, tru_b, tru_i, tru_n, tru_l, tru_t, m_var, var_d, var_own, var_io, var_lk, var_rd, m_c, st_d, st_o, st_l, oc_l, oc_m, rd_d, rd_o, rd_l, rdR_own, rdR_io, rdR_lk, m_bin, m_un, m_call, m_rdn, m_rdc, m_cons, m_conss, m_tup, m_lst, dts_n, dts_c, o_map, o_bind, add_i, sub_i, mul_i, mod_i, fdiv_i, pow_i, neg_i, iadd_i, abs_i, int_i, int_b, len_l, len_t, add_l, add_t, lt_i, le_i, gt_i, ge_i, eq_i, ne_i, eqF_i, neF_i, tuple_l, tuple_t, list_l, list_t, ix_l, ix_t, m_ret, m_drop, m_nx, m_asg, m_nox, nx_ok, set_d, set_o, setD_, wr_un, wr_d, wr_o, wr_rd, m_aug, m_asgD, evD_d, evD_o, m_frzn, m_frzc, m_frz1, fz_d, fz_un, fz_io, fz_lk, fz_rd, fz_o, m_sub, m_augS, m_app, ap_o, ap_io, m_ct, ct_o, ct_io, m_isl, is_o, is_io, m_mut, m_mutB, m_mut0, intD_i, m_sl, m_pn, m_ps, rs_d, rs_l, rsR_rd, rsR_o, rsR_io, sl_l, sl_t, arg_n, arg_c, arg_d, arg_l, ar_o, ar_io, ar_lk, ar_rd, put_n, put_d, put_io, m_put, pt_o, pt_io, i_seq, src_l, src_t, src_o, src_n, sr_o, sr_io, sr_lk, i_rng, i_enum, i_zip, i_rev, unl_n, unl_c, unl_1, ul_lk, ob_t, ob_f, wp_n, wp_c, rt_n, rt_c, fl_un, fl_d, m_unpT, tupD_t, unp_n, unp_c, range_1, range_2, ext_l, ext_t, app_1, m_pc, m_par, rl_n, rl_d, rl_o, rl_l, rlR_o, sr_n, sto_d, sto_o, mulE_i, mulE_t, m_andV, m_orV, m_notE, m_listRg, ite_t, ite_f, m_chain, m_fgt, m_fgtE, fgE_nx, fgE_ct, fgE_bk, fgE_rt, fgE_er, fgts_n, fgts_c, m_fgt1, fg_d, fg_o, fg_un, fg_rd, fg_io, fg_lk, m_raise, List.getElem?_cons_zero, List.getElem?_cons_succ, List.set_cons_zero, List.set_cons_succ, Option.map_some, Option.bind_some, if_true, and_self, List.length_nil, Nat.zero_le]
  · simp only [m_vb, bnd_ok, bnd_er, m_vr, m_stuck, m_seq, bS_nx, bS_bk, bS_ct, bS_rt, bS_er, m_if, m_ite, bI_t, bI_f, bI_er, m_and, m_or, m_not, m_bool, evB_b, m_opt, m_optn, m_tru, tru_b, tru_i, tru_n, tru_l, tru_t, m_var, var_d, var_own, var_io, var_lk, var_rd, m_c, st_d, st_o, st_l, oc_l, oc_m, rd_d, rd_o, rd_l, rdR_own, rdR_io, rdR_lk, m_bin, m_un, m_call, m_rdn, m_rdc, m_cons, m_conss, m_tup, m_lst, dts_n, dts_c, o_map, o_bind, add_i, sub_i, mul_i, mod_i, fdiv_i, pow_i, neg_i, iadd_i, abs_i, int_i, int_b, len_l, len_t, add_l, add_t, lt_i, le_i, gt_i, ge_i, eq_i, ne_i, eqF_i, neF_i, tuple_l, tuple_t, list_l, list_t, ix_l, ix_t, m_ret, m_drop, m_nx, m_asg, m_nox, nx_ok, set_d, set_o, setD_, wr_un, wr_d, wr_o, wr_rd, m_aug, m_asgD, evD_d, evD_o, m_frzn, m_frzc, m_frz1, fz_d, fz_un, fz_io, fz_lk, fz_rd, fz_o, m_sub, m_augS, m_app, ap_o, ap_io, m_ct, ct_o, ct_io, m_isl, is_o, is_io, m_mut, m_mutB, m_mut0, intD_i, m_sl, m_pn, m_ps, rs_d, rs_l, rsR_rd, rsR_o, rsR_io, sl_l, sl_t, arg_n, arg_c, arg_d, arg_l, ar_o, ar_io, ar_lk, ar_rd, put_n, put_d, put_io, m_put, pt_o, pt_io, i_seq, src_l, src_t, src_o, src_n, sr_o, sr_io, sr_lk, i_rng, i_enum, i_zip, i_rev, unl_n, unl_c, unl_1, ul_lk, ob_t, ob_f, wp_n, wp_c, rt_n, rt_c, fl_un, fl_d, m_unpT, tupD_t, unp_n, unp_c, range_1, range_2, ext_l, ext_t, app_1, m_pc, m_par, rl_n, rl_d, rl_o, rl_l, rlR_o, sr_n, sto_d, sto_o, mulE_i, mulE_t, m_andV, m_orV, m_notE, m_listRg, ite_t, ite_f, m_chain, m_fgt, m_fgtE, fgE_nx, fgE_ct, fgE_bk, fgE_rt, fgE_er, fgts_n, fgts_c, m_fgt1, fg_d, fg_o, fg_un, fg_rd, fg_io, fg_lk, m_raise, List.getElem?_cons_zero, List.getElem?_cons_succ, List.set_cons_zero, List.set_cons_succ, Option.map_some, Option.bind_some, if_true, and_self]
theorem mixed_at {n k : Nat} {s : VS} {b : Bool} {bag : List Da} {xs : List Da} (hs : s[k]? = some (ownB b (.l bag))) (hb : BagOk (n + xs.length) bag) (hl : xs.length ≤ 1000) (hg : ∀ x ∈ xs, shF 63 x = true) :
    ∃ (ys : List Da) (bag' : List Da), callF F__law_mixed [.loan k, .d (.list xs)] s = .ok (.own (.l ys), s.set k (ownB b (.l bag'))) ∧ ys.Perm xs ∧ BagOk n bag' := by
  obtain ⟨ys, bag', h, hp, hb'⟩ := mixed_ok hb hl hg
  refine ⟨ys, bag', ?_, hp, hb'⟩
  rw [callF_ok (by simp [loans]) (by rw [arg_c, arg_ob hs]; rfl) h ol, put_io, put_ob hs, put_d, put_n]
/-! a comprehension that draws -/
theorem lc_draw {ix : List Nat} {gt : Da → VM Unit} {te : VM EV} {St : List Da → VS} {c : Nat} {Pr : Da → Prop}
    (step : ∀ (x : Da) (n : Nat) (bag : List Da), BagOk (n + c) bag → ∃ s1 y bag' s3, gt x (St bag) = .ok ((), s1) ∧ te s1 = .ok (.d y, s3) ∧ Pr y ∧ ix.all (fun j => flatS s3[j]?) = true ∧ wipeV ix s3 = St bag' ∧ BagOk n bag') :
    ∀ (xs : List Da) (n : Nat) (bag : List Da), BagOk (n + c * xs.length) bag → ∃ ys bag', vLcG ix gt (vr true) te xs (St bag) = .ok (ys, St bag') ∧ ys.length = xs.length ∧ (∀ y ∈ ys, Pr y) ∧ BagOk n bag'
  | [], n, bag, hb => ⟨[], bag, rfl, rfl, fun y hy => (by cases hy), hb⟩
  | x :: xs, n, bag, hb => by
    rw [List.length_cons, Nat.mul_add, Nat.mul_one, ← Nat.add_assoc] at hb
    obtain ⟨s1, y, bag1, s3, h1, h2, hy, fl, hw, hb1⟩ := step x _ bag hb
    obtain ⟨ys, bag', h3, h4, h5, hb'⟩ := lc_draw step xs n bag1 hb1
    refine ⟨y :: ys, bag', ?_, by rw [List.length_cons, h4, List.length_cons], fun z hz => (List.mem_cons.mp hz).elim (fun e => e ▸ hy) (h5 z), hb'⟩
    show vb (gt x) _ (St bag) = _
    rw [m_vb, h1, bnd_ok, m_vb, m_vr, bnd_ok, if_pos rfl, m_vb, h2, bnd_ok, m_vb, evD_d, m_opt, bnd_ok, m_vb]
    unfold vWipe
    rw [if_pos fl, bnd_ok, hw, m_vb, h3, bnd_ok]
    rfl
theorem asg_tuple {f : VM EV} {S S' : VS} {xs : List Da} {k : Nat} (h : f S = .ok (.own (.l xs), S')) (hw : wrOk S'[k]? = true) : vAsg (vCall tupleD (vCons f (vr []))) (vSet k) S = .ok (.nx, S'.set k (.d (.tuple xs))) := by
  rw [m_asg, m_call, m_cons, h]
  simp only [bnd_ok, m_vb, m_vr, st_o, m_rdc, rd_d, m_rdn, oc_l, tuple_l, m_opt, set_d, m_nox, hw, if_true, nx_ok, m_nx]
theorem asg_own {f : VM EV} {S S' : VS} {xs : List Da} {k : Nat} (h : f S = .ok (.own (.l xs), S')) (hw : wrOk S'[k]? = true) : vAsg f (vSet k) S = .ok (.nx, S'.set k (.own (.l xs))) := by
  rw [m_asg, h]
  simp only [bnd_ok, m_vb, m_vr, set_o, m_nox, hw, if_true, nx_ok, m_nx]
/-! what is heard -/
theorem heard_exc {x told c : Str} {fl : List Str} {f : VM EV} {s s' : VS} {fs : List (Str × Da)} {vs : List Da} (h : f (ioS s) = .error (.exc x fs s')) (hl : lks fs fl = some vs) (hm : mrg s s' = s) : vHeard x told c fl f s = .ok (.d (.tuple (.str c :: vs)), s) := by
  unfold vHeard
  rw [h]
  dsimp only
  rw [if_pos rfl, hl, hm]
theorem heard_ok {x told c : Str} {fl : List Str} {f : VM EV} {s s' : VS} {r : EV} {v : Da} (h : f (ioS s) = .ok (r, s')) (he : evD r = some v) (hm : mrg s s' = s) : vHeard x told c fl f s = .ok (.d (.tuple [.str told, v]), s) := by
  unfold vHeard
  rw [h]
  dsimp only
  rw [he, hm]
theorem mrg_n : mrg [] [] = [] := rfl
theorem mrg_c {x y : SV} {s t : VS} : mrg (x :: s) (y :: t) = mrg1 x y :: mrg s t := rfl
theorem mrg_io : ∀ s : VS, mrg s (ioS s) = s
  | [] => rfl
  | x :: s => by
    show mrg1 x (io1 x) :: mrg s (ioS s) = _
    rw [mrg_io s]
    cases x <;> rfl
/-! alike -/
theorem alike_at {x : Da} {s : VS} (hg : GoodD x) (hn : nodesD x ≤ 900000) : callF F__law_alike [.d x, .d x] s = .ok (.d (.bool true), s) := callF_2 (alike_refl hg hn) dl
theorem nodes_le {c : Nat} : ∀ {l : List Da}, (∀ x ∈ l, nodesD x ≤ c) → nodesL l ≤ c * l.length
  | [], _ => Nat.le_refl _
  | x :: l, h => by
    have h1 := h x List.mem_cons_self
    have h2 := nodes_le fun y hy => h y (List.mem_cons_of_mem _ hy)
    rw [List.length_cons, Nat.mul_add, Nat.mul_one]
    simp only [nodesL]; omega
theorem nodes_leaf {x : Da} (hl : ∀ xs, x ≠ .list xs) (ht : ∀ xs, x ≠ .tuple xs) : nodesD x = 1 := by cases x <;> first | rfl | exact absurd rfl (hl _) | exact absurd rfl (ht _)
theorem nodes_intN : ∀ l : List Nat, nodesL (l.map intN) = l.length
  | [] => rfl
  | x :: l => by rw [List.map_cons, List.length_cons]; simp only [nodesL, nodes_intN l]; show 1 + _ = _; omega
theorem shFs_intN (n : Nat) (l : List Nat) : shFs n (l.map intN) = true := shFs_all fun x hx => by
  obtain ⟨i, _, rfl⟩ := List.mem_map.mp hx; rfl
theorem tests_ok {f : VM EV} {s s' : VS} (h : f s = .ok (.d (.bool true), s')) : vIf (vNot (vTru f)) (vRet (vC (.bool false))) vNx s = .ok (.nx, s') := by
  simp only [m_if, m_not, m_tru, h, bnd_ok, m_vb, rd_d, tru_b, m_opt, m_vr, Bool.not_true, bI_f, m_nx]
theorem yard_at {n k : Nat} {s : VS} {b : Bool} {bag : List Da} {m : Nat} (hs : s[k]? = some (ownB b (.l bag))) (hb : BagOk (n + m + 1) bag) (hm : 0 < m) (hm2 : m ≤ 1000) :
    ∃ (ys : List Int) (bag' : List Da), callF F__law_yard [.loan k, .d (.int m)] s = .ok (.d (tupI ys), s.set k (ownB b (.l bag'))) ∧ 1 ≤ ys.length ∧ ys.length ≤ m ∧ (∀ y ∈ ys, y = 0 ∨ y = 1) ∧ BagOk n bag' := by
  obtain ⟨ys, bag', h, h0, h1, h2, hb'⟩ := yard_ok hb hm hm2
  refine ⟨ys, bag', ?_, h0, h1, h2, hb'⟩
  rw [callF_ok (by simp [loans]) (by rw [arg_c, arg_ob hs]; rfl) h (fun i => by intro z; cases z), put_io, put_ob hs, put_d, put_n]
end LB
set_option Elab.async false
set_option linter.all false
set_option maxRecDepth 100000
set_option maxHeartbeats 0
namespace Yk05
open PySem PySem.Spec PyProof.Rows L2 LamX NdefX He VL LB
def top (i : Nat) : Stmt := PySem.Challenge.pw_yardpasses_k05_passes_by_rolling.main.body.getD i (.Pass ⟨0, 0, 0, 0⟩)
structure Zs (mg : Str → Option Value) : Prop where
  z_abs : mg "abs" = none
  z_all : mg "all" = none
  z_bool : mg "bool" = none
  z_int : mg "int" = none
  z_isinstance : mg "isinstance" = none
  z_len : mg "len" = none
  z_list : mg "list" = none
  z_range : mg "range" = none
  z_sorted : mg "sorted" = none
  z_str : mg "str" = none
  z_super : mg "super" = none
  z_tuple : mg "tuple" = none
  z_zip : mg "zip" = none
  g_STUB : ∃ t, mg "STUB" = some (.int (1) t)
abbrev s__law_alike : Stmt := top 19
theorem sc__law_alike : FnScope ["found", "due", "pairs", "at", "one", "other"] ["found", "due"] (defScope s__law_alike) := ⟨rfl, rfl, rfl, by decide +kernel, rfl, by decide +kernel, by decide +kernel⟩
abbrev s__law_bag : Stmt := top 15
theorem sc__law_bag : FnScope ["script", "cell"] ["script"] (defScope s__law_bag) := ⟨rfl, rfl, rfl, by decide +kernel, rfl, by decide +kernel, by decide +kernel⟩
abbrev s__law_is_int : Stmt := top 20
theorem sc__law_is_int : FnScope ["thing"] ["thing"] (defScope s__law_is_int) := ⟨rfl, rfl, rfl, by decide +kernel, rfl, by decide +kernel, by decide +kernel⟩
abbrev s__law_take : Stmt := top 16
theorem sc__law_take : FnScope ["bag", "many", "cell", "stirred", "value", "begin", "second"] ["bag", "many"] (defScope s__law_take) := ⟨rfl, rfl, rfl, by decide +kernel, rfl, by decide +kernel, by decide +kernel⟩
abbrev s__law_mixed : Stmt := top 18
theorem sc__law_mixed : FnScope ["bag", "things", "left", "found"] ["bag", "things"] (defScope s__law_mixed) := ⟨rfl, rfl, rfl, by decide +kernel, rfl, by decide +kernel, by decide +kernel⟩
abbrev s__law_rolled : Stmt := top 21
theorem sc__law_rolled : FnScope ["yard", "order", "rolling", "track", "wagon"] ["yard", "order", "rolling"] (defScope s__law_rolled) := ⟨rfl, rfl, rfl, by decide +kernel, rfl, by decide +kernel, by decide +kernel⟩
abbrev s__law_pass : Stmt := top 22
theorem sc__law_pass : FnScope ["yard", "order", "rolling", "found", "kind", "wagons"] ["yard", "order", "rolling"] (defScope s__law_pass) := ⟨rfl, rfl, rfl, by decide +kernel, rfl, by decide +kernel, by decide +kernel⟩
abbrev s__law_some : Stmt := top 17
theorem sc__law_some : FnScope ["bag", "things"] ["bag", "things"] (defScope s__law_some) := ⟨rfl, rfl, rfl, by decide +kernel, rfl, by decide +kernel, by decide +kernel⟩
abbrev s__law_yard : Stmt := top 23
theorem sc__law_yard : FnScope ["bag", "most", "track"] ["bag", "most"] (defScope s__law_yard) := ⟨rfl, rfl, rfl, by decide +kernel, rfl, by decide +kernel, by decide +kernel⟩
abbrev s_is_integer : Stmt := top 5
theorem sc_is_integer : FnScope ["thing"] ["thing"] (defScope s_is_integer) := ⟨rfl, rfl, rfl, by decide +kernel, rfl, by decide +kernel, by decide +kernel⟩
abbrev s_are_integers : Stmt := top 7
theorem sc_are_integers : FnScope ["thing", "one"] ["thing"] (defScope s_are_integers) := ⟨rfl, rfl, rfl, by decide +kernel, rfl, by decide +kernel, by decide +kernel⟩
abbrev s_is_order : Stmt := top 10
theorem sc_is_order : FnScope ["thing"] ["thing"] (defScope s_is_order) := ⟨rfl, rfl, rfl, by decide +kernel, rfl, by decide +kernel, by decide +kernel⟩
abbrev s_is_within : Stmt := top 6
theorem sc_is_within : FnScope ["thing", "least", "most"] ["thing", "least", "most"] (defScope s_is_within) := ⟨rfl, rfl, rfl, by decide +kernel, rfl, by decide +kernel, by decide +kernel⟩
abbrev s_pulled : Stmt := top 12
theorem sc_pulled : FnScope ["yard", "tracks", "found", "kind", "wagons"] ["yard", "tracks"] (defScope s_pulled) := ⟨rfl, rfl, rfl, by decide +kernel, rfl, by decide +kernel, by decide +kernel⟩
abbrev s_rolled : Stmt := top 11
theorem sc_rolled : FnScope ["yard", "order", "rolling", "track", "wagon"] ["yard", "order", "rolling"] (defScope s_rolled) := ⟨rfl, rfl, rfl, by decide +kernel, rfl, by decide +kernel, by decide +kernel⟩
abbrev s_one_pass : Stmt := top 13
theorem sc_one_pass : FnScope ["yard", "order", "rolling", "track"] ["yard", "order", "rolling"] (defScope s_one_pass) := ⟨rfl, rfl, rfl, by decide +kernel, rfl, by decide +kernel, by decide +kernel⟩
abbrev s_law : Stmt := top 25
theorem sc_law : FnScope ["script", "bag", "turn", "yard", "many", "order", "rolling", "lanes", "tracks", "due", "odd", "right", "at", "bad", "bent", "worse", "wagon", "lane", "thing", "one"] ["script"] (defScope s_law) := ⟨rfl, rfl, rfl, by decide +kernel, rfl, by decide +kernel, by decide +kernel⟩
def g_is_integer : VM Ctl :=
  (vRet ((vAndV ((vIsi [.int] (vVar 0))) ((vNotE ((vIsi [.bool] (vVar 0))))))))
def F_is_integer : FM := runF 1 g_is_integer
def g_are_integers : VM Ctl :=
  (vRet ((vAndV ((vIsi [.tuple] (vVar 0))) ((vCall allD ((vCons ((vLcF [1] (vItSeq (vVar 0)) (vSetD 1) (vr true) ((vCallF F_is_integer ((vCons (vVar 1) (vr []))))))) (vr []))))))))
def F_are_integers : FM := runF 2 g_are_integers
def g_is_order : VM Ctl :=
  (vRet ((vAndV ((vCallF F_are_integers ((vCons (vVar 0) (vr []))))) ((vBin eqF ((vCall sortedE ((vCons (vVar 0) (vr []))))) ((vListRg ((vCall lenD ((vCons (vVar 0) (vr []))))))))))))
def F_is_order : FM := runF 1 g_is_order
def g_is_within : VM Ctl :=
  (vRet ((vAndV ((vCallF F_is_integer ((vCons (vVar 0) (vr []))))) ((vChain leD leD (vVar 1) (vVar 0) (vVar 2))))))
def F_is_within : FM := runF 3 g_is_within
def pulled_s1 : VM Ctl :=
  (vFor (vItZip ((vCons (vVar 0) ((vCons (vVar 1) (vr [])))))) (vUnpT [(vSetD 3), (vSetD 4)]) (vFgtE [3, 4] (vFrz [3, 4] (vDrop ((vMutB extendD (vVar 2) ((vCons ((vIte ((vBool (vBin eqF (vVar 3) (vC (.int (1)))))) ((vUn revD (vVar 4))) (vVar 4))) (vr [])))))))))
def g_pulled : VM Ctl :=
  (vSeq (vAsg ((vList (vr []))) (vSet 2))
      (vSeq pulled_s1
      (vRet ((vCall tupleD ((vCons (vVar 2) (vr []))))))))
def F_pulled : FM := runF 5 g_pulled
def g_rolled : VM Ctl :=
  (vRet ((vCall tupleD ((vCons ((vLcF [3] (vItRng ((vCons ((vCall lenD ((vCons (vVar 0) (vr []))))) (vr [])))) (vSetD 3) (vr true) ((vCall tupleD ((vCons ((vLcF [4] (vItSeq (vVar 1)) (vSetD 4) (vBool (vBin eqF ((vBin ixD (vVar 2) (vVar 4))) (vVar 3))) (vVar 4))) (vr []))))))) (vr []))))))
def F_rolled : FM := runF 5 g_rolled
def one_pass_s1 : VM Ctl :=
  (vIf ((vNot ((vTru ((vCallF F_is_within ((vCons (vVar 3) ((vCons (vC (.int 0)) ((vCons ((vBin subD ((vCall lenD ((vCons (vVar 0) (vr []))))) (vC (.int 1)))) (vr []))))))))))))) (vFrz [3] (vRaise "NoTrack" ["track"] ((vCons (vVar 3) (vr []))))) vNx)
def one_pass_s2 : VM Ctl :=
  (vFor (vItSeq (vVar 2)) (vSetD 3) (vFgtE [3] (vFrz [3] one_pass_s1)))
def g_one_pass : VM Ctl :=
  (vSeq one_pass_s2
      (vRet ((vCallF F_pulled ((vCons (vVar 0) ((vCons ((vCallF F_rolled ((vCons (vVar 0) ((vCons (vVar 1) ((vCons (vVar 2) (vr []))))))))) (vr [])))))))))
def F_one_pass : FM := runF 4 g_one_pass
def r1 : VM Ctl :=
  (vRet (vC (.bool true)))
def law_s1 : VM Ctl :=
  (vIf ((vNot ((vTru ((vCallF F__law_alike ((vCons ((vHeard "NoTrack" "told" "no track" ["track"] ((vCallF F_one_pass ((vCons (vVar 3) ((vCons (vVar 5) ((vCons (vVar 15) (vr []))))))))))) ((vCons ((vTuple ((vCons (vC (.str "no track")) ((vCons (vVar 13) (vr []))))))) (vr []))))))))))) (vRet (vC (.bool false))) vNx)
def r2 : VM Ctl :=
  (vFrz [3, 5, 13, 15] law_s1)
def r3 : VM Ctl :=
  (vSeq (vFrz [4, 12, 14] (vAsg ((vBin addD ((vSl (vVar 14) (vPart none) (vPart (some ((vBin addD (vVar 12) (vC (.int 1)))))))) ((vBin mulE ((vTuple ((vCons ((vUn negD (vC (.int 9)))) (vr []))))) ((vBin subD ((vBin subD (vVar 4) (vVar 12))) (vC (.int 1)))))))) (vSet 15)))
      r2)
def law_s2 : VM Ctl :=
  (vIf ((vNot ((vTru ((vCallF F__law_alike ((vCons ((vHeard "NoTrack" "told" "no track" ["track"] ((vCallF F_one_pass ((vCons (vVar 3) ((vCons (vVar 5) ((vCons (vVar 14) (vr []))))))))))) ((vCons ((vTuple ((vCons (vC (.str "no track")) ((vCons (vVar 13) (vr []))))))) (vr []))))))))))) (vRet (vC (.bool false))) vNx)
def r4 : VM Ctl :=
  (vSeq (vFrz [3, 5, 13, 14] law_s2)
      r3)
def r5 : VM Ctl :=
  (vSeq (vFrz [6, 12, 13] (vAsg ((vBin addD ((vBin addD ((vSl (vVar 6) (vPart none) (vPart (some (vVar 12))))) ((vTuple ((vCons (vVar 13) (vr []))))))) ((vSl (vVar 6) (vPart (some ((vBin addD (vVar 12) (vC (.int 1)))))) (vPart none))))) (vSet 14)))
      r4)
def law_s3 : VM Ctl :=
  (vIf ((vBool (vBin gtD (vVar 4) (vC (.int 0))))) (vSeq (vFrz [3, 4] (vPar [12, 13] (vPc ((vCallF F__law_take ((vCons (vVar 1) ((vCons (vVar 4) (vr []))))))) ((vPc ((vCallF F__law_some ((vCons (vVar 1) ((vCons ((vList ((vCons ((vCall lenD ((vCons (vVar 3) (vr []))))) ((vCons ((vUn negD (vC (.int 1)))) ((vCons (vC .none) ((vCons (vC (.bool true)) ((vCons (vC (.str "0")) ((vCons ((vTuple ((vCons (vC (.int 0)) (vr []))))) (vr []))))))))))))))) (vr []))))))) (vr []))))))
      r5) vNx)
def r6 : VM Ctl :=
  (vFrz [4] (vFgtE [12, 13, 14, 15] law_s3))
def law_s4 : VM Ctl :=
  (vIf ((vNot ((vTru ((vCallF F__law_alike ((vCons ((vLcF [18] (vItSeq (vVar 10)) (vSetD 18) (vr true) ((vCallF F_is_order ((vCons (vVar 18) (vr []))))))) ((vCons (vVar 11) (vr []))))))))))) (vRet (vC (.bool false))) vNx)
def r7 : VM Ctl :=
  (vSeq (vFrz [10, 11] law_s4)
      r6)
def r8 : VM Ctl :=
  (vSeq (vFrz [10] (vAsg (vLcF [18] (vItSeq (vVar 10)) (vSetD 18) (vr true) ((vAndV ((vIsi [.tuple] (vVar 18))) ((vAndV ((vBin eqF ((vLcF [19] (vItSeq (vVar 18)) (vSetD 19) (vNot ((vTru ((vCallF F__law_is_int ((vCons (vVar 19) (vr [])))))))) (vC (.int 1)))) ((vList (vr []))))) ((vBin eqF ((vCall sortedE ((vCons (vVar 18) (vr []))))) ((vListRg ((vCall lenD ((vCons (vVar 18) (vr [])))))))))))))) (vSet 11)))
      r7)
def r9 : VM Ctl :=
  (vSeq (vFrz [4, 5] (vAsg ((vList ((vCons (vVar 5) ((vCons ((vCall listD ((vCons (vVar 5) (vr []))))) ((vCons (vC .none) ((vCons ((vTuple (vr []))) ((vCons ((vTuple ((vCons (vC (.int 0)) (vr []))))) ((vCons ((vTuple ((vCons (vC (.int 1)) (vr []))))) ((vCons ((vTuple ((vCons (vC (.int 0)) ((vCons (vC (.int 0)) (vr []))))))) ((vCons ((vTuple ((vCons (vC (.bool true)) (vr []))))) ((vCons ((vBin addD (vVar 5) ((vTuple ((vCons (vVar 4) (vr []))))))) ((vCons ((vBin addD (vVar 5) ((vSl (vVar 5) (vPart none) (vPart (some (vC (.int 1)))))))) ((vCons ((vSl (vVar 5) (vPart (some (vC (.int 1)))) (vPart none))) ((vCons ((vTuple ((vCons ((vUn negD (vC (.int 1)))) (vr []))))) ((vCons ((vTuple ((vCons (vC (.str "0")) (vr []))))) ((vCons ((vTuple ((vCons (vC (.int 0)) ((vCons (vC (.int 2)) (vr []))))))) (vr []))))))))))))))))))))))))))))))) (vSet 10)))
      r8)
def law_s5 : VM Ctl :=
  (vIf ((vNot ((vTru ((vCallF F__law_alike ((vCons ((vList ((vCons ((vCallF F_rolled ((vCons (vVar 3) ((vCons (vVar 5) ((vCons (vVar 6) (vr []))))))))) ((vCons ((vCallF F_pulled ((vCons (vVar 3) ((vCons (vVar 8) (vr []))))))) ((vCons ((vCallF F_one_pass ((vCons (vVar 3) ((vCons (vVar 5) ((vCons (vVar 6) (vr []))))))))) (vr []))))))))) ((vCons ((vList ((vCons (vVar 8) ((vCons (vVar 9) ((vCons (vVar 9) (vr []))))))))) (vr []))))))))))) (vRet (vC (.bool false))) vNx)
def r10 : VM Ctl :=
  (vSeq (vFrz [3, 5, 6, 8, 9] law_s5)
      r9)
def r11 : VM Ctl :=
  (vSeq (vFrz [3, 5, 6] (vAsg ((vCall tupleD ((vCons ((vCallF F__law_pass ((vCons (vVar 3) ((vCons (vVar 5) ((vCons (vVar 6) (vr []))))))))) (vr []))))) (vSet 9)))
      r10)
def r12 : VM Ctl :=
  (vSeq (vFrz [7] (vAsg ((vCall tupleD ((vCons ((vLcF [17] (vItSeq (vVar 7)) (vSetD 17) (vr true) ((vCall tupleD ((vCons (vVar 17) (vr []))))))) (vr []))))) (vSet 8)))
      r11)
def r13 : VM Ctl :=
  (vSeq (vFrz [3, 5, 6] (vAsg ((vCallF F__law_rolled ((vCons (vVar 3) ((vCons (vVar 5) ((vCons (vVar 6) (vr []))))))))) (vSet 7)))
      r12)
def r14 : VM Ctl :=
  (vSeq (vFrz [3, 5] (vAsg ((vCall tupleD ((vCons ((vLcF [16] (vItSeq (vVar 5)) (vSetD 16) (vr true) ((vCallF F__law_take ((vCons (vVar 1) ((vCons ((vCall lenD ((vCons (vVar 3) (vr []))))) (vr []))))))))) (vr []))))) (vSet 6)))
      r13)
def r15 : VM Ctl :=
  (vSeq (vFrz [4] (vAsg ((vCall tupleD ((vCons ((vCallF F__law_mixed ((vCons (vVar 1) ((vCons ((vListRg (vVar 4))) (vr []))))))) (vr []))))) (vSet 5)))
      r14)
def r16 : VM Ctl :=
  (vFgtE [2, 3, 4, 5, 6, 7, 8, 9, 10, 11, 12, 13, 14, 15] (vSeq (vPar [3, 4] (vPc ((vCallF F__law_yard ((vCons (vVar 1) ((vCons (vC (.int 4)) (vr []))))))) ((vPc ((vCallF F__law_take ((vCons (vVar 1) ((vCons (vC (.int 9)) (vr []))))))) (vr [])))))
      r15))
def law_s6 : VM Ctl :=
  (vFor (vItRng ((vCons (vC (.int 8)) (vr [])))) (vSetD 2) r16)
def r17 : VM Ctl :=
  (vSeq law_s6
      r1)
def g_law : VM Ctl :=
  (vSeq (vAsg ((vCallF F__law_bag ((vCons (vVar 0) (vr []))))) (vSet 1))
      r17)
def F_law : FM := runF 20 g_law
section
variable {P : Program} {w : World} {K : PySem.W.Frag} {mg : Str → Option Value} {base : Heap} {Tb : List (Addr × Str)}
abbrev s__law_heard : Stmt := top 24
theorem sc__law_heard : FnScope ["act", "error"] ["act"] (defScope s__law_heard) := ⟨rfl, rfl, rfl, by decide +kernel, rfl, by decide +kernel, by decide +kernel⟩
abbrev m_NoTrack : Stmt := inClass (top 3) 0
abbrev q_NoTrack : SupD := ⟨"NoTrack", "NoTrack.__init__", defArgs m_NoTrack, defBody m_NoTrack, defScope m_NoTrack, ["track"]⟩
theorem ok__law_alike (Z : Zs mg) {f__law_alike : Addr} {fd__law_alike : FuncData} (x__law_alike : Fx K mg "_law_alike" s__law_alike ["found", "due"] f__law_alike fd__law_alike) : FnOk P w K mg base (L2.CX P w) 1 f__law_alike fd__law_alike ["found", "due"] (spV Tb K mg 2 F__law_alike) := by
  exact fn_v (N := ["found", "due", "pairs", "at", "one", "other"]) (ps := ["found", "due"]) (k := 0) (g := g__law_alike) x__law_alike.F sc__law_alike fun cdv A outer s H E c =>
    (vs_cons (vs_par2 c.calm c.nd (i := 2) (j := 3) rfl rfl (by decide) rfl rfl (vp_cons (ve_lst (va_cons (ve_tup (va_cons (vv 0) (va_cons (vv 1) va_nil))) va_nil)) (vp_cons ve_int vp_nil)) (by with_unfolding_all rfl))
      (vs_cons (vs_frz [3] (vs_while (vt_cmp (o_lt c.hu0) (vv 3) (ve_callB c_len Z.z_len (va_cons (vv 2) va_nil))) (vs_cons (vs_frz [3] (vs_asgD (ix := [4, 5]) (ve_ix (vv 2) (vv 3)) (vgd_tup c.calm (vgds_cons (vgd_name (i := 4) c.nd rfl (by first | exact .inl rfl | exact .inr rfl)) (vgds_cons (vgd_name (i := 5) c.nd rfl (by first | exact .inl rfl | exact .inr rfl)) vgds_nil)))))
      (vs_cons (vs_aug c.nd (i := 3) rfl (by first | exact .inl rfl | exact .inr rfl) ve_int i_add)
      (vs_cons (vs_frz [4, 5] (vs_if (vt_w (vw_or (vt_cmp (o_neF c.hu) (ve_isi1 (k := .bool) (vv 4) Z.z_isinstance Z.z_bool) (ve_isi1 (k := .bool) (vv 5) Z.z_isinstance Z.z_bool)) (vw_or1 (vt_cmp (o_neF c.hu) (ve_isi1 (k := .str) (vv 4) Z.z_isinstance Z.z_str) (ve_isi1 (k := .str) (vv 5) Z.z_isinstance Z.z_str))))) (vs_one (vs_ret ve_bl)) vs_nil))
      (vs_cons (vs_frz [4, 5] (vs_if (vt_cmp (o_neF c.hu) (ve_isiT (vv 4) Z.z_isinstance (.cons (k := .tuple) Z.z_tuple (by rfl) (by decide +kernel) (by decide) (by decide) (by rfl) (.cons (k := .list) Z.z_list (by rfl) (by decide +kernel) (by decide) (by decide) (by rfl) .nil))) (ve_isiT (vv 5) Z.z_isinstance (.cons (k := .tuple) Z.z_tuple (by rfl) (by decide +kernel) (by decide) (by decide) (by rfl) (.cons (k := .list) Z.z_list (by rfl) (by decide +kernel) (by decide) (by decide) (by rfl) .nil)))) (vs_one (vs_ret ve_bl)) vs_nil))
      (vs_one (vs_frz [4] (vs_if (vt_tru (ve_isiT (vv 4) Z.z_isinstance (.cons (k := .tuple) Z.z_tuple (by rfl) (by decide +kernel) (by decide) (by decide) (by rfl) (.cons (k := .list) Z.z_list (by rfl) (by decide +kernel) (by decide) (by decide) (by rfl) .nil)))) (vs_cons (vs_frz [4, 5] (vs_if (vt_w (vw_or (vt_cmp (o_neF c.hu) (ve_isi1 (k := .tuple) (vv 4) Z.z_isinstance Z.z_tuple) (ve_isi1 (k := .tuple) (vv 5) Z.z_isinstance Z.z_tuple)) (vw_or1 (vt_cmp (o_neF c.hu) (ve_callB c_len Z.z_len (va_cons (vv 4) va_nil)) (ve_callB c_len Z.z_len (va_cons (vv 5) va_nil)))))) (vs_one (vs_ret ve_bl)) vs_nil))
      (vs_one (vs_frz [4, 5] (vs_expr (ve_mutB PySem.F.plainAttrs_list PySem.F.slot_list_extend PySem.F.type_list_extend m_extend (vv 2) (va_cons (ve_listZip c Z.z_zip Z.z_list (va_cons (vv 4) (va_cons (vv 5) va_nil))) va_nil)))))) (vs_one (vs_frz [4, 5] (vs_if (vt_cmp (o_neF c.hu) (vv 4) (vv 5)) (vs_one (vs_ret ve_bl)) vs_nil)))))))))) (passes_of rfl)))
      (vs_one (vs_ret ve_bl))))
theorem ok__law_bag (Z : Zs mg) {f__law_bag : Addr} {fd__law_bag : FuncData} (x__law_bag : Fx K mg "_law_bag" s__law_bag ["script"] f__law_bag fd__law_bag) : FnOk P w K mg base (L2.CX P w) 1 f__law_bag fd__law_bag ["script"] (spV Tb K mg 1 F__law_bag) := by
  exact fn_v (N := ["script", "cell"]) (ps := ["script"]) (k := 0) (g := g__law_bag) x__law_bag.F sc__law_bag fun cdv A outer s H E c =>
    (vs_one (vs_ret (ve_lst (va_cons ve_int (va_cons ve_int (va_cons ve_int (va_cons (ve_lcF (ve_lc c (vi_seq (ve_slice (vv 0) vo_none (vo_some ve_int))) (blkOk_by (own := [("cell", 1)]) (by kernel_rfl)) (fun _ _ _ _ _ => (vgd_name (i := 1) c.nd rfl (by first | exact .inl rfl | exact .inr rfl))) (fun _ _ _ _ _ c => vts_nil) (fun _ _ _ _ _ c => (ve_callB c_abs Z.z_abs (va_cons (vv 1) va_nil))))) va_nil)))))))
theorem ok__law_is_int (Z : Zs mg) {f__law_is_int : Addr} {fd__law_is_int : FuncData} (x__law_is_int : Fx K mg "_law_is_int" s__law_is_int ["thing"] f__law_is_int fd__law_is_int) : FnOk P w K mg base (L2.CX P w) 1 f__law_is_int fd__law_is_int ["thing"] (spV Tb K mg 1 F__law_is_int) := by
  exact fn_v (N := ["thing"]) (ps := ["thing"]) (k := 0) (g := g__law_is_int) x__law_is_int.F sc__law_is_int fun cdv A outer s H E c =>
    (vs_one (vs_ret (ve_and (ve_isi1 (k := .int) (vv 0) Z.z_isinstance Z.z_int) (ve_one (ve_not (ve_isi1 (k := .bool) (vv 0) Z.z_isinstance Z.z_bool))))))
theorem ok__law_take (Z : Zs mg) {f__law_take : Addr} {fd__law_take : FuncData} (x__law_take : Fx K mg "_law_take" s__law_take ["bag", "many"] f__law_take fd__law_take) : FnOk P w K mg base (L2.CX P w) 1 f__law_take fd__law_take ["bag", "many"] (spV Tb K mg 2 F__law_take) := by
  exact fn_v (N := ["bag", "many", "cell", "stirred", "value", "begin", "second"]) (ps := ["bag", "many"]) (k := 0) (g := g__law_take) x__law_take.F sc__law_take fun cdv A outer s H E c =>
    (vs_cons (vs_if (vt_cmp (o_eqF c.hu) (ve_ix (vv 0) ve_int) ve_int) (vs_cons (vs_set c.nd (i := 2) rfl (by first | exact .inl rfl | exact .inr rfl) (ve_ix (ve_bin o_add (ve_slice (ve_ix (vv 0) ve_int) (vo_some (ve_ix (vv 0) ve_int)) vo_none) (ve_lst (va_cons ve_int va_nil))) ve_int))
      (vs_cons (vs_augS (vv 0) ve_int ve_int i_add)
      (vs_cons (vs_frz [2] (vs_if (vt_cmp o_ge (vv 2) (ve_bin o_pow ve_int ve_int)) (vs_one (vs_frz [2] (vs_asgD (ix := []) (vv 2) (vgd_sub (W := W0) (vv 0) ve_int (by intro _; rfl))))) vs_nil))
      (vs_cons (vs_frz [2] (vs_set c.nd (i := 3) rfl (by first | exact .inl rfl | exact .inr rfl) (ve_bin o_add (ve_bin o_add (ve_bin o_mulE (ve_ix (vv 0) ve_int) ve_int) (ve_bin o_mod (ve_callT c_int Z.z_int (va_cons (vv 2) va_nil)) ve_int)) (ve_bin o_mulE ve_int (ve_ix (vv 0) ve_int)))))
      (vs_one (vs_frz [3] (vs_asgD (ix := []) (ve_bin o_mod (ve_callT c_int Z.z_int (va_cons (vv 3) va_nil)) ve_int) (vgd_sub (W := W0) (vv 0) ve_int (by intro _; rfl))))))))) vs_nil)
      (vs_cons (vs_if (vt_cmp o_gt (ve_ix (vv 0) ve_int) ve_int) (vs_cons (vs_set c.nd (i := 4) rfl (by first | exact .inl rfl | exact .inr rfl) (ve_bin o_mod (ve_callT c_int Z.z_int (va_cons (ve_ix (vv 0) ve_int) va_nil)) (vv 1)))
      (vs_cons (vs_asgD (ix := []) (ve_bin o_fdiv (ve_callT c_int Z.z_int (va_cons (ve_ix (vv 0) ve_int) va_nil)) (vv 1)) (vgd_sub (W := W0) (vv 0) ve_int (by intro _; rfl)))
      (vs_one (vs_frz [4] (vs_ret (vv 4)))))) vs_nil)
      (vs_cons (vs_set c.nd (i := 5) rfl (by first | exact .inl rfl | exact .inr rfl) (ve_bin o_mod (ve_callT c_int Z.z_int (va_cons (ve_bin o_mulE (ve_bin o_add (ve_ix (vv 0) ve_int) ve_int) ve_int) va_nil)) ve_int))
      (vs_cons (vs_frz [5] (vs_set c.nd (i := 6) rfl (by first | exact .inl rfl | exact .inr rfl) (ve_bin o_mod (ve_callT c_int Z.z_int (va_cons (ve_bin o_mulE (ve_bin o_mod (ve_callT c_int Z.z_int (va_cons (ve_bin o_mulE (vv 5) (vv 5)) va_nil)) ve_int) ve_int) va_nil)) ve_int)))
      (vs_one (vs_frz [6] (vs_ret (ve_bin o_mod (ve_callT c_int Z.z_int (va_cons (ve_bin o_fdiv (vv 6) ve_int) va_nil)) (vv 1)))))))))
theorem ok__law_mixed (Z : Zs mg) {f__law_mixed : Addr} {fd__law_mixed : FuncData} {f__law_take : Addr} {fd__law_take : FuncData} (x__law_mixed : Fx K mg "_law_mixed" s__law_mixed ["bag", "things"] f__law_mixed fd__law_mixed) (x__law_take : Fx K mg "_law_take" s__law_take ["bag", "many"] f__law_take fd__law_take) : FnOk P w K mg base (L2.CX P w) 2 f__law_mixed fd__law_mixed ["bag", "things"] (spV Tb K mg 2 F__law_mixed) := by
  have k__law_take : FnOk P w K mg base (L2.CX P w) 1 f__law_take fd__law_take ["bag", "many"] (spV Tb K mg 2 F__law_take) := ok__law_take Z x__law_take  
  exact fn_v (N := ["bag", "things", "left", "found"]) (ps := ["bag", "things"]) (k := 1) (g := g__law_mixed) x__law_mixed.F sc__law_mixed fun cdv A outer s H E c =>
    (vs_cons (vs_par2 c.calm c.nd (i := 2) (j := 3) rfl rfl (by decide) rfl rfl (vp_cons (ve_callT c_list Z.z_list (va_cons (vv 1) va_nil)) (vp_cons (ve_lst va_nil) vp_nil)) (by with_unfolding_all rfl))
      (vs_cons (vs_while (vt_cmp (o_neF c.hu) (vv 2) (ve_lst va_nil)) (vs_one (vs_expr (ve_mut PySem.F.plainAttrs_list PySem.F.slot_list_append PySem.F.type_list_append m_append (vv 3) (va_cons (ve_mut PySem.F.plainAttrs_list PySem.F.slot_list_pop PySem.F.type_list_pop m_popAt (vv 2) (va_cons (ve_call c k__law_take (by decide) x__law_take.m x__law_take.F.kp x__law_take.b (va_cons (vv 0) (va_cons (ve_callB c_len Z.z_len (va_cons (vv 2) va_nil)) va_nil)) (vcons_len (vcons_len vnil_len))) va_nil)) va_nil)))) (passes_of rfl))
      (vs_one (vs_ret (vv 3)))))
theorem ok__law_rolled (Z : Zs mg) {f__law_rolled : Addr} {fd__law_rolled : FuncData} (x__law_rolled : Fx K mg "_law_rolled" s__law_rolled ["yard", "order", "rolling"] f__law_rolled fd__law_rolled) : FnOk P w K mg base (L2.CX P w) 1 f__law_rolled fd__law_rolled ["yard", "order", "rolling"] (spV Tb K mg 3 F__law_rolled) := by
  exact fn_v (N := ["yard", "order", "rolling", "track", "wagon"]) (ps := ["yard", "order", "rolling"]) (k := 0) (g := g__law_rolled) x__law_rolled.F sc__law_rolled fun cdv A outer s H E c =>
    (vs_one (vs_ret (ve_lcF (ve_lc c (vi_range1 Z.z_range (va_cons (ve_callB c_len Z.z_len (va_cons (vv 0) va_nil)) va_nil) (hl := (vcons_len vnil_len))) (blkOk_by (own := [("track", 3)]) (by kernel_rfl)) (fun _ _ _ _ _ => (vgd_name (i := 3) c.nd rfl (by first | exact .inl rfl | exact .inr rfl))) (fun _ _ _ _ _ c => vts_nil) (fun _ _ _ _ _ c => (ve_lcF (ve_lc c (vi_seq (vv 1)) (blkOk_by (own := [("wagon", 4)]) (by kernel_rfl)) (fun _ _ _ _ _ => (vgd_name (i := 4) c.nd rfl (by first | exact .inl rfl | exact .inr rfl))) (fun _ _ _ _ _ c => (vts_one (vt_cmp (o_eqF c.hu) (ve_ix (vv 2) (vv 4)) (vv 3)))) (fun _ _ _ _ _ c => (vv 4)))))))))
theorem ok__law_pass (Z : Zs mg) {f__law_pass : Addr} {fd__law_pass : FuncData} {f__law_rolled : Addr} {fd__law_rolled : FuncData} (x__law_pass : Fx K mg "_law_pass" s__law_pass ["yard", "order", "rolling"] f__law_pass fd__law_pass) (x__law_rolled : Fx K mg "_law_rolled" s__law_rolled ["yard", "order", "rolling"] f__law_rolled fd__law_rolled) : FnOk P w K mg base (L2.CX P w) 2 f__law_pass fd__law_pass ["yard", "order", "rolling"] (spV Tb K mg 3 F__law_pass) := by
  have k__law_rolled : FnOk P w K mg base (L2.CX P w) 1 f__law_rolled fd__law_rolled ["yard", "order", "rolling"] (spV Tb K mg 3 F__law_rolled) := ok__law_rolled Z x__law_rolled  
  exact fn_v (N := ["yard", "order", "rolling", "found", "kind", "wagons"]) (ps := ["yard", "order", "rolling"]) (k := 1) (g := g__law_pass) x__law_pass.F sc__law_pass fun cdv A outer s H E c =>
    (vs_cons (vs_set c.nd (i := 3) rfl (by first | exact .inl rfl | exact .inr rfl) (ve_lst va_nil))
      (vs_cons (vs_for c.calm (ix := [4, 5]) (vi_zip Z.z_zip (va_cons (vv 0) (va_cons (ve_call c k__law_rolled (by decide) x__law_rolled.m x__law_rolled.F.kp x__law_rolled.b (va_cons (vv 0) (va_cons (vv 1) (va_cons (vv 2) va_nil))) (vcons_len (vcons_len (vcons_len vnil_len)))) va_nil))) (vgd_tup c.calm (vgds_cons (vgd_name (i := 4) c.nd rfl (by first | exact .inl rfl | exact .inr rfl)) (vgds_cons (vgd_name (i := 5) c.nd rfl (by first | exact .inl rfl | exact .inr rfl)) vgds_nil))) (vs_one (vs_frz [4, 5] (vs_expr (ve_mutB PySem.F.plainAttrs_list PySem.F.slot_list_extend PySem.F.type_list_extend m_extend (vv 3) (va_cons (ve_ite (vt_cmp (o_eqF c.hu) (vv 4) ve_int) (vv 5) (ve_rev (vv 5))) va_nil))))) (hp := passes_of rfl))
      (vs_one (vs_ret (vv 3)))))
theorem ok__law_some (Z : Zs mg) {f__law_some : Addr} {fd__law_some : FuncData} {f__law_take : Addr} {fd__law_take : FuncData} (x__law_some : Fx K mg "_law_some" s__law_some ["bag", "things"] f__law_some fd__law_some) (x__law_take : Fx K mg "_law_take" s__law_take ["bag", "many"] f__law_take fd__law_take) : FnOk P w K mg base (L2.CX P w) 2 f__law_some fd__law_some ["bag", "things"] (spV Tb K mg 2 F__law_some) := by
  have k__law_take : FnOk P w K mg base (L2.CX P w) 1 f__law_take fd__law_take ["bag", "many"] (spV Tb K mg 2 F__law_take) := ok__law_take Z x__law_take  
  exact fn_v (N := ["bag", "things"]) (ps := ["bag", "things"]) (k := 1) (g := g__law_some) x__law_some.F sc__law_some fun cdv A outer s H E c =>
    (vs_one (vs_ret (ve_ix (vv 1) (ve_call c k__law_take (by decide) x__law_take.m x__law_take.F.kp x__law_take.b (va_cons (vv 0) (va_cons (ve_callB c_len Z.z_len (va_cons (vv 1) va_nil)) va_nil)) (vcons_len (vcons_len vnil_len))))))
theorem ok__law_yard (Z : Zs mg) {f__law_yard : Addr} {fd__law_yard : FuncData} {f__law_take : Addr} {fd__law_take : FuncData} (x__law_yard : Fx K mg "_law_yard" s__law_yard ["bag", "most"] f__law_yard fd__law_yard) (x__law_take : Fx K mg "_law_take" s__law_take ["bag", "many"] f__law_take fd__law_take) : FnOk P w K mg base (L2.CX P w) 2 f__law_yard fd__law_yard ["bag", "most"] (spV Tb K mg 2 F__law_yard) := by
  have k__law_take : FnOk P w K mg base (L2.CX P w) 1 f__law_take fd__law_take ["bag", "many"] (spV Tb K mg 2 F__law_take) := ok__law_take Z x__law_take  
  exact fn_v (N := ["bag", "most", "track"]) (ps := ["bag", "most"]) (k := 1) (g := g__law_yard) x__law_yard.F sc__law_yard fun cdv A outer s H E c =>
    (vs_one (vs_ret (ve_callT c_tuple Z.z_tuple (va_cons (ve_lcF (ve_lc c (vi_range1 Z.z_range (va_cons (ve_bin o_add ve_int (ve_call c k__law_take (by decide) x__law_take.m x__law_take.F.kp x__law_take.b (va_cons (vv 0) (va_cons (vv 1) va_nil)) (vcons_len (vcons_len vnil_len)))) va_nil) (hl := (vcons_len vnil_len))) (blkOk_by (own := [("track", 2)]) (by kernel_rfl)) (fun _ _ _ _ _ => (vgd_name (i := 2) c.nd rfl (by first | exact .inl rfl | exact .inr rfl))) (fun _ _ _ _ _ c => vts_nil) (fun _ _ _ _ _ c => (ve_call c k__law_take (by decide) x__law_take.m x__law_take.F.kp x__law_take.b (va_cons (vv 0) (va_cons ve_int va_nil)) (vcons_len (vcons_len vnil_len)))))) va_nil))))
theorem ok_is_integer (Z : Zs mg) {f_is_integer : Addr} {fd_is_integer : FuncData} (x_is_integer : Fx K mg "is_integer" s_is_integer ["thing"] f_is_integer fd_is_integer) : FnOk P w K mg base (L2.CX P w) 1 f_is_integer fd_is_integer ["thing"] (spV Tb K mg 1 F_is_integer) := by
  exact fn_v (N := ["thing"]) (ps := ["thing"]) (k := 0) (g := g_is_integer) x_is_integer.F sc_is_integer fun cdv A outer s H E c =>
    (vs_one (vs_ret (ve_and (ve_isi1 (k := .int) (vv 0) Z.z_isinstance Z.z_int) (ve_one (ve_not (ve_isi1 (k := .bool) (vv 0) Z.z_isinstance Z.z_bool))))))
theorem ok_are_integers (Z : Zs mg) {f_are_integers : Addr} {fd_are_integers : FuncData} {f_is_integer : Addr} {fd_is_integer : FuncData} (x_are_integers : Fx K mg "are_integers" s_are_integers ["thing"] f_are_integers fd_are_integers) (x_is_integer : Fx K mg "is_integer" s_is_integer ["thing"] f_is_integer fd_is_integer) : FnOk P w K mg base (L2.CX P w) 2 f_are_integers fd_are_integers ["thing"] (spV Tb K mg 1 F_are_integers) := by
  have k_is_integer : FnOk P w K mg base (L2.CX P w) 1 f_is_integer fd_is_integer ["thing"] (spV Tb K mg 1 F_is_integer) := ok_is_integer Z x_is_integer  
  exact fn_v (N := ["thing", "one"]) (ps := ["thing"]) (k := 1) (g := g_are_integers) x_are_integers.F sc_are_integers fun cdv A outer s H E c =>
    (vs_one (vs_ret (ve_and (ve_isi1 (k := .tuple) (vv 0) Z.z_isinstance Z.z_tuple) (ve_one (ve_callB (c_all c.calm) Z.z_all (va_cons (ve_lcF (ve_lc c (vi_seq (vv 0)) (blkOk_by (own := [("one", 1)]) (by kernel_rfl)) (fun _ _ _ _ _ => (vgd_name (i := 1) c.nd rfl (by first | exact .inl rfl | exact .inr rfl))) (fun _ _ _ _ _ c => vts_nil) (fun _ _ _ _ _ c => (ve_call c k_is_integer (by decide) x_is_integer.m x_is_integer.F.kp x_is_integer.b (va_cons (vv 1) va_nil) (vcons_len vnil_len))))) va_nil))))))
theorem ok_is_order (Z : Zs mg) {f_is_order : Addr} {fd_is_order : FuncData} {f_is_integer : Addr} {fd_is_integer : FuncData} {f_are_integers : Addr} {fd_are_integers : FuncData} (x_is_order : Fx K mg "is_order" s_is_order ["thing"] f_is_order fd_is_order) (x_is_integer : Fx K mg "is_integer" s_is_integer ["thing"] f_is_integer fd_is_integer) (x_are_integers : Fx K mg "are_integers" s_are_integers ["thing"] f_are_integers fd_are_integers) : FnOk P w K mg base (L2.CX P w) 3 f_is_order fd_is_order ["thing"] (spV Tb K mg 1 F_is_order) := by
  have k_are_integers : FnOk P w K mg base (L2.CX P w) 2 f_are_integers fd_are_integers ["thing"] (spV Tb K mg 1 F_are_integers) := ok_are_integers Z x_are_integers x_is_integer 
  exact fn_v (N := ["thing"]) (ps := ["thing"]) (k := 2) (g := g_is_order) x_is_order.F sc_is_order fun cdv A outer s H E c =>
    (vs_one (vs_ret (ve_and (ve_call c k_are_integers (by decide) x_are_integers.m x_are_integers.F.kp x_are_integers.b (va_cons (vv 0) va_nil) (vcons_len vnil_len)) (ve_one (ve_cmp (o_eqF c.hu) (ve_callB c_sortedE Z.z_sorted (va_cons (vv 0) va_nil)) (ve_listRg1 c Z.z_range Z.z_list (ve_callB c_len Z.z_len (va_cons (vv 0) va_nil))))))))
theorem ok_is_within (Z : Zs mg) {f_is_within : Addr} {fd_is_within : FuncData} {f_is_integer : Addr} {fd_is_integer : FuncData} (x_is_within : Fx K mg "is_within" s_is_within ["thing", "least", "most"] f_is_within fd_is_within) (x_is_integer : Fx K mg "is_integer" s_is_integer ["thing"] f_is_integer fd_is_integer) : FnOk P w K mg base (L2.CX P w) 2 f_is_within fd_is_within ["thing", "least", "most"] (spV Tb K mg 3 F_is_within) := by
  have k_is_integer : FnOk P w K mg base (L2.CX P w) 1 f_is_integer fd_is_integer ["thing"] (spV Tb K mg 1 F_is_integer) := ok_is_integer Z x_is_integer  
  exact fn_v (N := ["thing", "least", "most"]) (ps := ["thing", "least", "most"]) (k := 1) (g := g_is_within) x_is_within.F sc_is_within fun cdv A outer s H E c =>
    (vs_one (vs_ret (ve_and (ve_call c k_is_integer (by decide) x_is_integer.m x_is_integer.F.kp x_is_integer.b (va_cons (vv 0) va_nil) (vcons_len vnil_len)) (ve_one (ve_chain o_le o_le (vv 1) (vv 0) (vv 2))))))
theorem ok_pulled (Z : Zs mg) {f_pulled : Addr} {fd_pulled : FuncData} (x_pulled : Fx K mg "pulled" s_pulled ["yard", "tracks"] f_pulled fd_pulled) : FnOk P w K mg base (L2.CX P w) 1 f_pulled fd_pulled ["yard", "tracks"] (spV Tb K mg 2 F_pulled) := by
  exact fn_v (N := ["yard", "tracks", "found", "kind", "wagons"]) (ps := ["yard", "tracks"]) (k := 0) (g := g_pulled) x_pulled.F sc_pulled fun cdv A outer s H E c =>
    (vs_cons (vs_set c.nd (i := 2) rfl (by first | exact .inl rfl | exact .inr rfl) (ve_lst va_nil))
      (vs_cons (vs_for c.calm (ix := [3, 4]) (vi_zip Z.z_zip (va_cons (vv 0) (va_cons (vv 1) va_nil))) (vgd_tup c.calm (vgds_cons (vgd_name (i := 3) c.nd rfl (by first | exact .inl rfl | exact .inr rfl)) (vgds_cons (vgd_name (i := 4) c.nd rfl (by first | exact .inl rfl | exact .inr rfl)) vgds_nil))) (vs_fgtE [3, 4] (vs_one (vs_frz [3, 4] (vs_expr (ve_mutB PySem.F.plainAttrs_list PySem.F.slot_list_extend PySem.F.type_list_extend m_extend (vv 2) (va_cons (ve_ite (vt_cmp (o_eqF c.hu) (vv 3) (ve_gint Z.g_STUB)) (ve_rev (vv 4)) (vv 4)) va_nil)))))) (hp := passes_of rfl))
      (vs_one (vs_ret (ve_callT c_tuple Z.z_tuple (va_cons (vv 2) va_nil))))))
theorem ok_rolled (Z : Zs mg) {f_rolled : Addr} {fd_rolled : FuncData} (x_rolled : Fx K mg "rolled" s_rolled ["yard", "order", "rolling"] f_rolled fd_rolled) : FnOk P w K mg base (L2.CX P w) 1 f_rolled fd_rolled ["yard", "order", "rolling"] (spV Tb K mg 3 F_rolled) := by
  exact fn_v (N := ["yard", "order", "rolling", "track", "wagon"]) (ps := ["yard", "order", "rolling"]) (k := 0) (g := g_rolled) x_rolled.F sc_rolled fun cdv A outer s H E c =>
    (vs_one (vs_ret (ve_callT c_tuple Z.z_tuple (va_cons (ve_lcF (ve_lc c (vi_range1 Z.z_range (va_cons (ve_callB c_len Z.z_len (va_cons (vv 0) va_nil)) va_nil) (hl := (vcons_len vnil_len))) (blkOk_by (own := [("track", 3)]) (by kernel_rfl)) (fun _ _ _ _ _ => (vgd_name (i := 3) c.nd rfl (by first | exact .inl rfl | exact .inr rfl))) (fun _ _ _ _ _ c => vts_nil) (fun _ _ _ _ _ c => (ve_callT c_tuple Z.z_tuple (va_cons (ve_lcF (ve_lc c (vi_seq (vv 1)) (blkOk_by (own := [("wagon", 4)]) (by kernel_rfl)) (fun _ _ _ _ _ => (vgd_name (i := 4) c.nd rfl (by first | exact .inl rfl | exact .inr rfl))) (fun _ _ _ _ _ c => (vts_one (vt_cmp (o_eqF c.hu) (ve_ix (vv 2) (vv 4)) (vv 3)))) (fun _ _ _ _ _ c => (vv 4)))) va_nil))))) va_nil))))
theorem ok_one_pass (Z : Zs mg) {f_one_pass : Addr} {fd_one_pass : FuncData} {f_is_integer : Addr} {fd_is_integer : FuncData} {f_is_within : Addr} {fd_is_within : FuncData} {f_pulled : Addr} {fd_pulled : FuncData} {f_rolled : Addr} {fd_rolled : FuncData} (x_one_pass : Fx K mg "one_pass" s_one_pass ["yard", "order", "rolling"] f_one_pass fd_one_pass) (x_is_integer : Fx K mg "is_integer" s_is_integer ["thing"] f_is_integer fd_is_integer) (x_is_within : Fx K mg "is_within" s_is_within ["thing", "least", "most"] f_is_within fd_is_within) (x_pulled : Fx K mg "pulled" s_pulled ["yard", "tracks"] f_pulled fd_pulled) (x_rolled : Fx K mg "rolled" s_rolled ["yard", "order", "rolling"] f_rolled fd_rolled) (e_NoTrack : ExF P w K mg base 1 "NoTrack" ["track"]) : FnOk P w K mg base (L2.CX P w) 3 f_one_pass fd_one_pass ["yard", "order", "rolling"] (spV Tb K mg 3 F_one_pass) := by
  have k_is_within : FnOk P w K mg base (L2.CX P w) 2 f_is_within fd_is_within ["thing", "least", "most"] (spV Tb K mg 3 F_is_within) := ok_is_within Z x_is_within x_is_integer 
  have k_pulled : FnOk P w K mg base (L2.CX P w) 1 f_pulled fd_pulled ["yard", "tracks"] (spV Tb K mg 2 F_pulled) := ok_pulled Z x_pulled  
  have k_rolled : FnOk P w K mg base (L2.CX P w) 1 f_rolled fd_rolled ["yard", "order", "rolling"] (spV Tb K mg 3 F_rolled) := ok_rolled Z x_rolled  
  exact fn_v (N := ["yard", "order", "rolling", "track"]) (ps := ["yard", "order", "rolling"]) (k := 2) (g := g_one_pass) x_one_pass.F sc_one_pass fun cdv A outer s H E c =>
    (vs_cons (vs_for c.calm (ix := [3]) (vi_seq (vv 2)) (vgd_name (i := 3) c.nd rfl (by first | exact .inl rfl | exact .inr rfl)) (vs_fgtE [3] (vs_one (vs_frz [3] (vs_if (vt_not (vt_tru (ve_call c k_is_within (by decide) x_is_within.m x_is_within.F.kp x_is_within.b (va_cons (vv 3) (va_cons ve_int (va_cons (ve_bin o_sub (ve_callB c_len Z.z_len (va_cons (vv 0) va_nil)) ve_int) va_nil))) (vcons_len (vcons_len (vcons_len vnil_len)))))) (vs_one (vs_frz [3] (vs_raise c e_NoTrack (by decide) (by decide) (va_cons (vv 3) va_nil)))) vs_nil)))) (hp := passes_of rfl))
      (vs_one (vs_ret (ve_call c k_pulled (by decide) x_pulled.m x_pulled.F.kp x_pulled.b (va_cons (vv 0) (va_cons (ve_call c k_rolled (by decide) x_rolled.m x_rolled.F.kp x_rolled.b (va_cons (vv 0) (va_cons (vv 1) (va_cons (vv 2) va_nil))) (vcons_len (vcons_len (vcons_len vnil_len)))) va_nil)) (vcons_len (vcons_len vnil_len))))))
theorem ok_law (Z : Zs mg) {f_law : Addr} {fd_law : FuncData} {f__law_alike : Addr} {fd__law_alike : FuncData} {f__law_bag : Addr} {fd__law_bag : FuncData} {f__law_is_int : Addr} {fd__law_is_int : FuncData} {f__law_take : Addr} {fd__law_take : FuncData} {f__law_mixed : Addr} {fd__law_mixed : FuncData} {f__law_rolled : Addr} {fd__law_rolled : FuncData} {f__law_pass : Addr} {fd__law_pass : FuncData} {f__law_some : Addr} {fd__law_some : FuncData} {f__law_yard : Addr} {fd__law_yard : FuncData} {f_is_integer : Addr} {fd_is_integer : FuncData} {f_are_integers : Addr} {fd_are_integers : FuncData} {f_is_order : Addr} {fd_is_order : FuncData} {f_is_within : Addr} {fd_is_within : FuncData} {f_pulled : Addr} {fd_pulled : FuncData} {f_rolled : Addr} {fd_rolled : FuncData} {f_one_pass : Addr} {fd_one_pass : FuncData} {f__law_heard : Addr} {fd__law_heard : FuncData} {cc PT : Addr} (x_law : Fx K mg "law" s_law ["script"] f_law fd_law) (x__law_alike : Fx K mg "_law_alike" s__law_alike ["found", "due"] f__law_alike fd__law_alike) (x__law_bag : Fx K mg "_law_bag" s__law_bag ["script"] f__law_bag fd__law_bag) (x__law_is_int : Fx K mg "_law_is_int" s__law_is_int ["thing"] f__law_is_int fd__law_is_int) (x__law_take : Fx K mg "_law_take" s__law_take ["bag", "many"] f__law_take fd__law_take) (x__law_mixed : Fx K mg "_law_mixed" s__law_mixed ["bag", "things"] f__law_mixed fd__law_mixed) (x__law_rolled : Fx K mg "_law_rolled" s__law_rolled ["yard", "order", "rolling"] f__law_rolled fd__law_rolled) (x__law_pass : Fx K mg "_law_pass" s__law_pass ["yard", "order", "rolling"] f__law_pass fd__law_pass) (x__law_some : Fx K mg "_law_some" s__law_some ["bag", "things"] f__law_some fd__law_some) (x__law_yard : Fx K mg "_law_yard" s__law_yard ["bag", "most"] f__law_yard fd__law_yard) (x_is_integer : Fx K mg "is_integer" s_is_integer ["thing"] f_is_integer fd_is_integer) (x_are_integers : Fx K mg "are_integers" s_are_integers ["thing"] f_are_integers fd_are_integers) (x_is_order : Fx K mg "is_order" s_is_order ["thing"] f_is_order fd_is_order) (x_is_within : Fx K mg "is_within" s_is_within ["thing", "least", "most"] f_is_within fd_is_within) (x_pulled : Fx K mg "pulled" s_pulled ["yard", "tracks"] f_pulled fd_pulled) (x_rolled : Fx K mg "rolled" s_rolled ["yard", "order", "rolling"] f_rolled fd_rolled) (x_one_pass : Fx K mg "one_pass" s_one_pass ["yard", "order", "rolling"] f_one_pass fd_one_pass) (x__law_heard : Fx K mg "_law_heard" s__law_heard ["act"] f__law_heard fd__law_heard) (e_NoTrack : ExF P w K mg base 1 "NoTrack" ["track"]) (S_NoTrack : SupOk P.main.file K mg q_NoTrack) (hc : fd_law.code = .ref cc) (TB : TabB base mg cc PT) : FnOk P w K mg base (L2.CX P w) 6 f_law fd_law ["script"] (spV [(PT, "law.<locals>.<lambda>")] K mg 1 F_law) := by
  have k__law_alike : FnOk P w K mg base (L2.CX P w) 1 f__law_alike fd__law_alike ["found", "due"] (spV [(PT, "law.<locals>.<lambda>")] K mg 2 F__law_alike) := ok__law_alike Z x__law_alike  
  have k__law_bag : FnOk P w K mg base (L2.CX P w) 1 f__law_bag fd__law_bag ["script"] (spV [(PT, "law.<locals>.<lambda>")] K mg 1 F__law_bag) := ok__law_bag Z x__law_bag  
  have k__law_is_int : FnOk P w K mg base (L2.CX P w) 1 f__law_is_int fd__law_is_int ["thing"] (spV [(PT, "law.<locals>.<lambda>")] K mg 1 F__law_is_int) := ok__law_is_int Z x__law_is_int  
  have k__law_mixed : FnOk P w K mg base (L2.CX P w) 2 f__law_mixed fd__law_mixed ["bag", "things"] (spV [(PT, "law.<locals>.<lambda>")] K mg 2 F__law_mixed) := ok__law_mixed Z x__law_mixed x__law_take 
  have k__law_pass : FnOk P w K mg base (L2.CX P w) 2 f__law_pass fd__law_pass ["yard", "order", "rolling"] (spV [(PT, "law.<locals>.<lambda>")] K mg 3 F__law_pass) := ok__law_pass Z x__law_pass x__law_rolled 
  have k__law_rolled : FnOk P w K mg base (L2.CX P w) 1 f__law_rolled fd__law_rolled ["yard", "order", "rolling"] (spV [(PT, "law.<locals>.<lambda>")] K mg 3 F__law_rolled) := ok__law_rolled Z x__law_rolled  
  have k__law_some : FnOk P w K mg base (L2.CX P w) 2 f__law_some fd__law_some ["bag", "things"] (spV [(PT, "law.<locals>.<lambda>")] K mg 2 F__law_some) := ok__law_some Z x__law_some x__law_take 
  have k__law_take : FnOk P w K mg base (L2.CX P w) 1 f__law_take fd__law_take ["bag", "many"] (spV [(PT, "law.<locals>.<lambda>")] K mg 2 F__law_take) := ok__law_take Z x__law_take  
  have k__law_yard : FnOk P w K mg base (L2.CX P w) 2 f__law_yard fd__law_yard ["bag", "most"] (spV [(PT, "law.<locals>.<lambda>")] K mg 2 F__law_yard) := ok__law_yard Z x__law_yard x__law_take 
  have k_is_order : FnOk P w K mg base (L2.CX P w) 3 f_is_order fd_is_order ["thing"] (spV [(PT, "law.<locals>.<lambda>")] K mg 1 F_is_order) := ok_is_order Z x_is_order x_is_integer x_are_integers 
  have k_one_pass : FnOk P w K mg base (L2.CX P w) 3 f_one_pass fd_one_pass ["yard", "order", "rolling"] (spV [(PT, "law.<locals>.<lambda>")] K mg 3 F_one_pass) := ok_one_pass Z x_one_pass x_is_integer x_is_within x_pulled x_rolled e_NoTrack
  have k_pulled : FnOk P w K mg base (L2.CX P w) 1 f_pulled fd_pulled ["yard", "tracks"] (spV [(PT, "law.<locals>.<lambda>")] K mg 2 F_pulled) := ok_pulled Z x_pulled  
  have k_rolled : FnOk P w K mg base (L2.CX P w) 1 f_rolled fd_rolled ["yard", "order", "rolling"] (spV [(PT, "law.<locals>.<lambda>")] K mg 3 F_rolled) := ok_rolled Z x_rolled  
  refine fn_vC (N := ["script", "bag", "turn", "yard", "many", "order", "rolling", "lanes", "tracks", "due", "odd", "right", "at", "bad", "bent", "worse", "wagon", "lane", "thing", "one"]) (ps := ["script"]) (k := 5) (g := g_law) x_law.F hc sc_law fun A outer s H E c => ?_
  have LA : LamAt [(PT, "law.<locals>.<lambda>")] (cxOf (L2.CX P w) P w K mg base ["script", "bag", "turn", "yard", "many", "order", "rolling", "lanes", "tracks", "due", "odd", "right", "at", "bad", "bent", "worse", "wagon", "lane", "thing", "one"] "law" (defScope s_law) f_law (.ref cc) A outer s H E) PT cc := lamAt_one (by rfl) TB rfl
  exact
    (vs_cons (vs_set c.nd (i := 1) rfl (by first | exact .inl rfl | exact .inr rfl) (ve_call c k__law_bag (by decide) x__law_bag.m x__law_bag.F.kp x__law_bag.b (va_cons (vv 0) va_nil) (vcons_len vnil_len)))
      (vs_cons (vs_for c.calm (ix := [2]) (vi_range1 Z.z_range (va_cons ve_int va_nil) (hl := (vcons_len vnil_len))) (vgd_name (i := 2) c.nd rfl (by first | exact .inl rfl | exact .inr rfl)) (vs_fgtE [2, 3, 4, 5, 6, 7, 8, 9, 10, 11, 12, 13, 14, 15] (vs_cons (vs_parT c.calm (is := [3, 4]) (gn_cons (i := 3) c.nd rfl (by first | exact .inl rfl | exact .inr rfl) (gn_cons (i := 4) c.nd rfl (by first | exact .inl rfl | exact .inr rfl) gn_nil)) (vp_cons (ve_call c k__law_yard (by decide) x__law_yard.m x__law_yard.F.kp x__law_yard.b (va_cons (vv 1) (va_cons ve_int va_nil)) (vcons_len (vcons_len vnil_len))) (vp_cons (ve_call c k__law_take (by decide) x__law_take.m x__law_take.F.kp x__law_take.b (va_cons (vv 1) (va_cons ve_int va_nil)) (vcons_len (vcons_len vnil_len))) vp_nil)))
      (vs_cons (vs_frz [4] (vs_set c.nd (i := 5) rfl (by first | exact .inl rfl | exact .inr rfl) (ve_callT c_tuple Z.z_tuple (va_cons (ve_call c k__law_mixed (by decide) x__law_mixed.m x__law_mixed.F.kp x__law_mixed.b (va_cons (vv 1) (va_cons (ve_listRg1 c Z.z_range Z.z_list (vv 4)) va_nil)) (vcons_len (vcons_len vnil_len))) va_nil))))
      (vs_cons (vs_frz [3, 5] (vs_set c.nd (i := 6) rfl (by first | exact .inl rfl | exact .inr rfl) (ve_callT c_tuple Z.z_tuple (va_cons (ve_lcF (ve_lc c (vi_seq (vv 5)) (blkOk_by (own := [("wagon", 16)]) (by kernel_rfl)) (fun _ _ _ _ _ => (vgd_name (i := 16) c.nd rfl (by first | exact .inl rfl | exact .inr rfl))) (fun _ _ _ _ _ c => vts_nil) (fun _ _ _ _ _ c => (ve_call c k__law_take (by decide) x__law_take.m x__law_take.F.kp x__law_take.b (va_cons (vv 1) (va_cons (ve_callB c_len Z.z_len (va_cons (vv 3) va_nil)) va_nil)) (vcons_len (vcons_len vnil_len)))))) va_nil))))
      (vs_cons (vs_frz [3, 5, 6] (vs_set c.nd (i := 7) rfl (by first | exact .inl rfl | exact .inr rfl) (ve_call c k__law_rolled (by decide) x__law_rolled.m x__law_rolled.F.kp x__law_rolled.b (va_cons (vv 3) (va_cons (vv 5) (va_cons (vv 6) va_nil))) (vcons_len (vcons_len (vcons_len vnil_len))))))
      (vs_cons (vs_frz [7] (vs_set c.nd (i := 8) rfl (by first | exact .inl rfl | exact .inr rfl) (ve_callT c_tuple Z.z_tuple (va_cons (ve_lcF (ve_lc c (vi_seq (vv 7)) (blkOk_by (own := [("lane", 17)]) (by kernel_rfl)) (fun _ _ _ _ _ => (vgd_name (i := 17) c.nd rfl (by first | exact .inl rfl | exact .inr rfl))) (fun _ _ _ _ _ c => vts_nil) (fun _ _ _ _ _ c => (ve_callT c_tuple Z.z_tuple (va_cons (vv 17) va_nil))))) va_nil))))
      (vs_cons (vs_frz [3, 5, 6] (vs_set c.nd (i := 9) rfl (by first | exact .inl rfl | exact .inr rfl) (ve_callT c_tuple Z.z_tuple (va_cons (ve_call c k__law_pass (by decide) x__law_pass.m x__law_pass.F.kp x__law_pass.b (va_cons (vv 3) (va_cons (vv 5) (va_cons (vv 6) va_nil))) (vcons_len (vcons_len (vcons_len vnil_len)))) va_nil))))
      (vs_cons (vs_frz [3, 5, 6, 8, 9] (vs_if (vt_not (vt_tru (ve_call c k__law_alike (by decide) x__law_alike.m x__law_alike.F.kp x__law_alike.b (va_cons (ve_lst (va_cons (ve_call c k_rolled (by decide) x_rolled.m x_rolled.F.kp x_rolled.b (va_cons (vv 3) (va_cons (vv 5) (va_cons (vv 6) va_nil))) (vcons_len (vcons_len (vcons_len vnil_len)))) (va_cons (ve_call c k_pulled (by decide) x_pulled.m x_pulled.F.kp x_pulled.b (va_cons (vv 3) (va_cons (vv 8) va_nil)) (vcons_len (vcons_len vnil_len))) (va_cons (ve_call c k_one_pass (by decide) x_one_pass.m x_one_pass.F.kp x_one_pass.b (va_cons (vv 3) (va_cons (vv 5) (va_cons (vv 6) va_nil))) (vcons_len (vcons_len (vcons_len vnil_len)))) va_nil)))) (va_cons (ve_lst (va_cons (vv 8) (va_cons (vv 9) (va_cons (vv 9) va_nil)))) va_nil)) (vcons_len (vcons_len vnil_len))))) (vs_one (vs_ret ve_bl)) vs_nil))
      (vs_cons (vs_frz [4, 5] (vs_set c.nd (i := 10) rfl (by first | exact .inl rfl | exact .inr rfl) (ve_lst (va_cons (vv 5) (va_cons (ve_callT c_list Z.z_list (va_cons (vv 5) va_nil)) (va_cons ve_non (va_cons (ve_tup va_nil) (va_cons (ve_tup (va_cons ve_int va_nil)) (va_cons (ve_tup (va_cons ve_int va_nil)) (va_cons (ve_tup (va_cons ve_int (va_cons ve_int va_nil))) (va_cons (ve_tup (va_cons ve_bl va_nil)) (va_cons (ve_bin o_add (vv 5) (ve_tup (va_cons (vv 4) va_nil))) (va_cons (ve_bin o_add (vv 5) (ve_slice (vv 5) vo_none (vo_some ve_int))) (va_cons (ve_slice (vv 5) (vo_some ve_int) vo_none) (va_cons (ve_tup (va_cons (ve_un o_neg ve_int) va_nil)) (va_cons (ve_tup (va_cons ve_str va_nil)) (va_cons (ve_tup (va_cons ve_int (va_cons ve_int va_nil))) va_nil)))))))))))))))))
      (vs_cons (vs_frz [10] (vs_lcF (vs_setLc c (i := 11) rfl rfl (sw_true rfl rfl rfl (by decide)) (vi_seq (vv 10)) (blkOk_by (own := [("thing", 18)]) (by kernel_rfl)) (fun _ _ _ _ _ => (vgd_name (i := 18) c.nd rfl (by first | exact .inl rfl | exact .inr rfl))) (fun _ _ _ _ _ c => vts_nil) (fun _ _ _ _ _ c => (ve_and (ve_isi1 (k := .tuple) (vv 18) Z.z_isinstance Z.z_tuple) (ve_and (ve_cmp (o_eqF c.hu) (ve_lcF (ve_lc c (vi_seq (vv 18)) (blkOk_by (own := [("one", 19)]) (by kernel_rfl)) (fun _ _ _ _ _ => (vgd_name (i := 19) c.nd rfl (by first | exact .inl rfl | exact .inr rfl))) (fun _ _ _ _ _ c => (vts_one (vt_not (vt_tru (ve_call c k__law_is_int (by decide) x__law_is_int.m x__law_is_int.F.kp x__law_is_int.b (va_cons (vv 19) va_nil) (vcons_len vnil_len)))))) (fun _ _ _ _ _ c => ve_int))) (ve_lst va_nil)) (ve_one (ve_cmp (o_eqF c.hu) (ve_callB c_sortedE Z.z_sorted (va_cons (vv 18) va_nil)) (ve_listRg1 c Z.z_range Z.z_list (ve_callB c_len Z.z_len (va_cons (vv 18) va_nil)))))))))))
      (vs_cons (vs_frz [10, 11] (vs_if (vt_not (vt_tru (ve_call c k__law_alike (by decide) x__law_alike.m x__law_alike.F.kp x__law_alike.b (va_cons (ve_lcF (ve_lc c (vi_seq (vv 10)) (blkOk_by (own := [("thing", 18)]) (by kernel_rfl)) (fun _ _ _ _ _ => (vgd_name (i := 18) c.nd rfl (by first | exact .inl rfl | exact .inr rfl))) (fun _ _ _ _ _ c => vts_nil) (fun _ _ _ _ _ c => (ve_call c k_is_order (by decide) x_is_order.m x_is_order.F.kp x_is_order.b (va_cons (vv 18) va_nil) (vcons_len vnil_len))))) (va_cons (vv 11) va_nil)) (vcons_len (vcons_len vnil_len))))) (vs_one (vs_ret ve_bl)) vs_nil))
      (vs_one (vs_frz [4] (vs_fgtE1 [12, 13, 14, 15] (vs_if (vt_cmp o_gt (vv 4) ve_int) (vs_cons (vs_frz [3, 4] (vs_par2 c.calm c.nd (i := 12) (j := 13) rfl rfl (by decide) rfl rfl (vp_cons (ve_call c k__law_take (by decide) x__law_take.m x__law_take.F.kp x__law_take.b (va_cons (vv 1) (va_cons (vv 4) va_nil)) (vcons_len (vcons_len vnil_len))) (vp_cons (ve_call c k__law_some (by decide) x__law_some.m x__law_some.F.kp x__law_some.b (va_cons (vv 1) (va_cons (ve_lst (va_cons (ve_callB c_len Z.z_len (va_cons (vv 3) va_nil)) (va_cons (ve_un o_neg ve_int) (va_cons ve_non (va_cons ve_bl (va_cons ve_str (va_cons (ve_tup (va_cons ve_int va_nil)) va_nil))))))) va_nil)) (vcons_len (vcons_len vnil_len))) vp_nil)) (by with_unfolding_all rfl)))
      (vs_cons (vs_frz [6, 12, 13] (vs_set c.nd (i := 14) rfl (by first | exact .inl rfl | exact .inr rfl) (ve_bin o_add (ve_bin o_add (ve_slice (vv 6) vo_none (vo_some (vv 12))) (ve_tup (va_cons (vv 13) va_nil))) (ve_slice (vv 6) (vo_some (ve_bin o_add (vv 12) ve_int)) vo_none))))
      (vs_cons (vs_frz [3, 5, 13, 14] (vs_if (vt_not (vt_tru (ve_call c k__law_alike (by decide) x__law_alike.m x__law_alike.F.kp x__law_alike.b (va_cons (ve_heard1 LA S_NoTrack x__law_heard rfl rfl sc__law_heard (.inl rfl) (by decide) rfl rfl c.rm (lamS_by (by rfl)) (lam_body (k := 3) c fun A outer s H E f c2 c => (ve_call c k_one_pass (by decide) x_one_pass.m x_one_pass.F.kp x_one_pass.b (va_cons (vv 3) (va_cons (vv 5) (va_cons (vv 14) va_nil))) (vcons_len (vcons_len (vcons_len vnil_len)))))) (va_cons (ve_tup (va_cons ve_str (va_cons (vv 13) va_nil))) va_nil)) (vcons_len (vcons_len vnil_len))))) (vs_one (vs_ret ve_bl)) vs_nil))
      (vs_cons (vs_frz [4, 12, 14] (vs_set c.nd (i := 15) rfl (by first | exact .inl rfl | exact .inr rfl) (ve_bin o_add (ve_slice (vv 14) vo_none (vo_some (ve_bin o_add (vv 12) ve_int))) (ve_bin o_mulE (ve_tup (va_cons (ve_un o_neg ve_int) va_nil)) (ve_bin o_sub (ve_bin o_sub (vv 4) (vv 12)) ve_int)))))
      (vs_one (vs_frz [3, 5, 13, 15] (vs_if (vt_not (vt_tru (ve_call c k__law_alike (by decide) x__law_alike.m x__law_alike.F.kp x__law_alike.b (va_cons (ve_heard1 LA S_NoTrack x__law_heard rfl rfl sc__law_heard (.inl rfl) (by decide) rfl rfl c.rm (lamS_by (by rfl)) (lam_body (k := 3) c fun A outer s H E f c2 c => (ve_call c k_one_pass (by decide) x_one_pass.m x_one_pass.F.kp x_one_pass.b (va_cons (vv 3) (va_cons (vv 5) (va_cons (vv 15) va_nil))) (vcons_len (vcons_len (vcons_len vnil_len)))))) (va_cons (ve_tup (va_cons ve_str (va_cons (vv 13) va_nil))) va_nil)) (vcons_len (vcons_len vnil_len))))) (vs_one (vs_ret ve_bl)) vs_nil))))))) vs_nil))))))))))))))) (hp := passes_of rfl))
      (vs_one (vs_ret ve_bl))))
end
/-! the head -/
def d__law_alike : He.DefD := ⟨("_law_alike", none), "_law_alike", "_law_alike", defArgs s__law_alike, defBody s__law_alike, defScope s__law_alike, [], []⟩
def d__law_bag : He.DefD := ⟨("_law_bag", none), "_law_bag", "_law_bag", defArgs s__law_bag, defBody s__law_bag, defScope s__law_bag, [], []⟩
def d__law_is_int : He.DefD := ⟨("_law_is_int", none), "_law_is_int", "_law_is_int", defArgs s__law_is_int, defBody s__law_is_int, defScope s__law_is_int, [], []⟩
def d__law_take : He.DefD := ⟨("_law_take", none), "_law_take", "_law_take", defArgs s__law_take, defBody s__law_take, defScope s__law_take, [], []⟩
def d__law_mixed : He.DefD := ⟨("_law_mixed", none), "_law_mixed", "_law_mixed", defArgs s__law_mixed, defBody s__law_mixed, defScope s__law_mixed, [], []⟩
def d__law_rolled : He.DefD := ⟨("_law_rolled", none), "_law_rolled", "_law_rolled", defArgs s__law_rolled, defBody s__law_rolled, defScope s__law_rolled, [], []⟩
def d__law_pass : He.DefD := ⟨("_law_pass", none), "_law_pass", "_law_pass", defArgs s__law_pass, defBody s__law_pass, defScope s__law_pass, [], []⟩
def d__law_some : He.DefD := ⟨("_law_some", none), "_law_some", "_law_some", defArgs s__law_some, defBody s__law_some, defScope s__law_some, [], []⟩
def d__law_yard : He.DefD := ⟨("_law_yard", none), "_law_yard", "_law_yard", defArgs s__law_yard, defBody s__law_yard, defScope s__law_yard, [], []⟩
def d_is_integer : He.DefD := ⟨("is_integer", none), "is_integer", "is_integer", defArgs s_is_integer, defBody s_is_integer, defScope s_is_integer, [], []⟩
def d_are_integers : He.DefD := ⟨("are_integers", none), "are_integers", "are_integers", defArgs s_are_integers, defBody s_are_integers, defScope s_are_integers, [], []⟩
def d_is_order : He.DefD := ⟨("is_order", none), "is_order", "is_order", defArgs s_is_order, defBody s_is_order, defScope s_is_order, [], []⟩
def d_is_within : He.DefD := ⟨("is_within", none), "is_within", "is_within", defArgs s_is_within, defBody s_is_within, defScope s_is_within, [], []⟩
def d_pulled : He.DefD := ⟨("pulled", none), "pulled", "pulled", defArgs s_pulled, defBody s_pulled, defScope s_pulled, [], []⟩
def d_rolled : He.DefD := ⟨("rolled", none), "rolled", "rolled", defArgs s_rolled, defBody s_rolled, defScope s_rolled, [], []⟩
def d_one_pass : He.DefD := ⟨("one_pass", none), "one_pass", "one_pass", defArgs s_one_pass, defBody s_one_pass, defScope s_one_pass, [], []⟩
def d_law : He.DefD := ⟨("law", none), "law", "law", defArgs s_law, defBody s_law, defScope s_law, [], []⟩
def d__law_heard : He.DefD := ⟨("_law_heard", none), "_law_heard", "_law_heard", defArgs s__law_heard, defBody s__law_heard, defScope s__law_heard, [], []⟩
def fn : List He.DefD := [d__law_alike, d__law_bag, d__law_is_int, d__law_take, d__law_mixed, d__law_rolled, d__law_pass, d__law_some, d__law_yard, d_is_integer, d_are_integers, d_is_order, d_is_within, d_pulled, d_rolled, d_one_pass, d_law, d__law_heard]
def fa : List He.Fa := [.glo "_law_alike", .glo "_law_bag", .glo "_law_is_int", .glo "_law_take", .glo "_law_mixed", .glo "_law_rolled", .glo "_law_pass", .glo "_law_some", .glo "_law_yard", .glo "is_integer", .glo "are_integers", .glo "is_order", .glo "is_within", .glo "pulled", .glo "rolled", .glo "one_pass", .glo "law", .glo "_law_heard", .free "abs", .free "all", .free "bool", .free "int", .free "isinstance", .free "len", .free "list", .free "range", .free "sorted", .free "str", .free "super", .free "tuple", .free "zip", .int "STUB" (1)]
abbrev R : PySem.W.OpenRow := PySem.W.OpenLaw.row PySem.Challenge.rw_yardpasses_k05_passes_by_rolling
abbrev PR : Program := (PySem.Challenge.rw_yardpasses_k05_passes_by_rolling).prog
def sd : List SupD := [q_NoTrack]
def tf : List He.Defn := [("law", none)]
abbrev hk : PySem.W.Hook := VL.hookV PR.main.file 4 fa fn sd tf
def ob (s : PySem.W.SharedT) : VL.AlV := VL.obsVG PR.main.file 4 fa fn sd tf (HandSHeadRun.getT s)
theorem ob_eq (s : PySem.W.SharedT) : ob s = hk.obs s.abs := VL.obsVG_eq (HandSHeadRun.getT_eq s)
theorem ef_NoTrack {w : World} {K : PySem.W.Frag} {mg : Str → Option Value} {base : Heap} (S : SupOk PR.main.file K mg q_NoTrack) (hs : mg "super" = none) : ExF PR w K mg base 1 "NoTrack" ["track"] :=
  exf1 (P := PR) (k := 0) S rfl rfl (nscope_by (by decide +kernel)) rfl rfl hs rfl rfl ⟨_, fun _ => rfl⟩ rfl rfl fun _ _ _ _ _ _ us hl => match us, hl with | [_, _], _ => rfl
theorem run (w : World) : HandSHeadRun.RunEq R (PySem.W.view R.prog [25]) hk ob 4000 ["_wall", "YardError", "NoTrack", "is_integer", "is_within", "are_integers", "STUB", "is_order", "rolled", "pulled", "one_pass", "_law_bag", "_law_take", "_law_some", "_law_mixed", "_law_alike", "_law_is_int", "_law_rolled", "_law_pass", "_law_yard", "_law_heard"] w := by
  intro os
  kernel_rfl
theorem facts {w : World} {K : PySem.W.Frag} {h : Heap} {mg : Str → Option Value} {f : Addr} (X : K.In h) (G : h.Ns mainGlobals mg) (hfa : mg ("law" : Str) = some (.ref f)) (c : VL.SaysV PR.main.file fa fn sd tf h K) :
    ∃ (fd : FuncData) (cs : List (Addr × Addr)) (Tb : List (Addr × Str)), (∀ p ∈ cs, h.get? p.2 = some { cls := .none, data := .fields #[] }) ∧ (∀ p ∈ cs, K.lookup p.2 = none) ∧ (∀ p ∈ cs, PySem.W.CodeHd h p.1 p.2) ∧ (∀ p ∈ Tb, ∃ c ∈ cs, c.2 = p.1) ∧ (∀ (s : Shared) (v : Value), BindsTo s fd ⟨[v], []⟩ [("script", v)]) ∧ ∀ base : Heap, K.In base → base.Ns mainGlobals mg → (∀ p ∈ cs, LamX.TabB base mg p.1 p.2) → FnOk PR w K mg base (L2.CX PR w) 6 f fd ["script"] (spV Tb K mg 1 F_law) := by
  obtain ⟨fd__law_alike, H__law_alike⟩ := c.d.def_ 0 (d := d__law_alike) rfl
  obtain ⟨fd__law_bag, H__law_bag⟩ := c.d.def_ 1 (d := d__law_bag) rfl
  obtain ⟨fd__law_is_int, H__law_is_int⟩ := c.d.def_ 2 (d := d__law_is_int) rfl
  obtain ⟨fd__law_take, H__law_take⟩ := c.d.def_ 3 (d := d__law_take) rfl
  obtain ⟨fd__law_mixed, H__law_mixed⟩ := c.d.def_ 4 (d := d__law_mixed) rfl
  obtain ⟨fd__law_rolled, H__law_rolled⟩ := c.d.def_ 5 (d := d__law_rolled) rfl
  obtain ⟨fd__law_pass, H__law_pass⟩ := c.d.def_ 6 (d := d__law_pass) rfl
  obtain ⟨fd__law_some, H__law_some⟩ := c.d.def_ 7 (d := d__law_some) rfl
  obtain ⟨fd__law_yard, H__law_yard⟩ := c.d.def_ 8 (d := d__law_yard) rfl
  obtain ⟨fd_is_integer, H_is_integer⟩ := c.d.def_ 9 (d := d_is_integer) rfl
  obtain ⟨fd_are_integers, H_are_integers⟩ := c.d.def_ 10 (d := d_are_integers) rfl
  obtain ⟨fd_is_order, H_is_order⟩ := c.d.def_ 11 (d := d_is_order) rfl
  obtain ⟨fd_is_within, H_is_within⟩ := c.d.def_ 12 (d := d_is_within) rfl
  obtain ⟨fd_pulled, H_pulled⟩ := c.d.def_ 13 (d := d_pulled) rfl
  obtain ⟨fd_rolled, H_rolled⟩ := c.d.def_ 14 (d := d_rolled) rfl
  obtain ⟨fd_one_pass, H_one_pass⟩ := c.d.def_ 15 (d := d_one_pass) rfl
  obtain ⟨fd_law, H_law⟩ := c.d.def_ 16 (d := d_law) rfl
  obtain ⟨fd__law_heard, H__law_heard⟩ := c.d.def_ 17 (d := d__law_heard) rfl
  have x__law_alike : Fx K mg "_law_alike" s__law_alike ["found", "due"] _ fd__law_alike := ⟨He5.fun_of H__law_alike, H__law_alike.bindsN (fun _ _ _ _ _ _ us hl => match us, hl with | [_, _], _ => rfl), He.glo_ok X G (c.d.fact 0 (f := .glo "_law_alike") rfl)⟩
  have x__law_bag : Fx K mg "_law_bag" s__law_bag ["script"] _ fd__law_bag := ⟨He5.fun_of H__law_bag, H__law_bag.bindsN (fun _ _ _ _ _ _ us hl => match us, hl with | [_], _ => rfl), He.glo_ok X G (c.d.fact 1 (f := .glo "_law_bag") rfl)⟩
  have x__law_is_int : Fx K mg "_law_is_int" s__law_is_int ["thing"] _ fd__law_is_int := ⟨He5.fun_of H__law_is_int, H__law_is_int.bindsN (fun _ _ _ _ _ _ us hl => match us, hl with | [_], _ => rfl), He.glo_ok X G (c.d.fact 2 (f := .glo "_law_is_int") rfl)⟩
  have x__law_take : Fx K mg "_law_take" s__law_take ["bag", "many"] _ fd__law_take := ⟨He5.fun_of H__law_take, H__law_take.bindsN (fun _ _ _ _ _ _ us hl => match us, hl with | [_, _], _ => rfl), He.glo_ok X G (c.d.fact 3 (f := .glo "_law_take") rfl)⟩
  have x__law_mixed : Fx K mg "_law_mixed" s__law_mixed ["bag", "things"] _ fd__law_mixed := ⟨He5.fun_of H__law_mixed, H__law_mixed.bindsN (fun _ _ _ _ _ _ us hl => match us, hl with | [_, _], _ => rfl), He.glo_ok X G (c.d.fact 4 (f := .glo "_law_mixed") rfl)⟩
  have x__law_rolled : Fx K mg "_law_rolled" s__law_rolled ["yard", "order", "rolling"] _ fd__law_rolled := ⟨He5.fun_of H__law_rolled, H__law_rolled.bindsN (fun _ _ _ _ _ _ us hl => match us, hl with | [_, _, _], _ => rfl), He.glo_ok X G (c.d.fact 5 (f := .glo "_law_rolled") rfl)⟩
  have x__law_pass : Fx K mg "_law_pass" s__law_pass ["yard", "order", "rolling"] _ fd__law_pass := ⟨He5.fun_of H__law_pass, H__law_pass.bindsN (fun _ _ _ _ _ _ us hl => match us, hl with | [_, _, _], _ => rfl), He.glo_ok X G (c.d.fact 6 (f := .glo "_law_pass") rfl)⟩
  have x__law_some : Fx K mg "_law_some" s__law_some ["bag", "things"] _ fd__law_some := ⟨He5.fun_of H__law_some, H__law_some.bindsN (fun _ _ _ _ _ _ us hl => match us, hl with | [_, _], _ => rfl), He.glo_ok X G (c.d.fact 7 (f := .glo "_law_some") rfl)⟩
  have x__law_yard : Fx K mg "_law_yard" s__law_yard ["bag", "most"] _ fd__law_yard := ⟨He5.fun_of H__law_yard, H__law_yard.bindsN (fun _ _ _ _ _ _ us hl => match us, hl with | [_, _], _ => rfl), He.glo_ok X G (c.d.fact 8 (f := .glo "_law_yard") rfl)⟩
  have x_is_integer : Fx K mg "is_integer" s_is_integer ["thing"] _ fd_is_integer := ⟨He5.fun_of H_is_integer, H_is_integer.bindsN (fun _ _ _ _ _ _ us hl => match us, hl with | [_], _ => rfl), He.glo_ok X G (c.d.fact 9 (f := .glo "is_integer") rfl)⟩
  have x_are_integers : Fx K mg "are_integers" s_are_integers ["thing"] _ fd_are_integers := ⟨He5.fun_of H_are_integers, H_are_integers.bindsN (fun _ _ _ _ _ _ us hl => match us, hl with | [_], _ => rfl), He.glo_ok X G (c.d.fact 10 (f := .glo "are_integers") rfl)⟩
  have x_is_order : Fx K mg "is_order" s_is_order ["thing"] _ fd_is_order := ⟨He5.fun_of H_is_order, H_is_order.bindsN (fun _ _ _ _ _ _ us hl => match us, hl with | [_], _ => rfl), He.glo_ok X G (c.d.fact 11 (f := .glo "is_order") rfl)⟩
  have x_is_within : Fx K mg "is_within" s_is_within ["thing", "least", "most"] _ fd_is_within := ⟨He5.fun_of H_is_within, H_is_within.bindsN (fun _ _ _ _ _ _ us hl => match us, hl with | [_, _, _], _ => rfl), He.glo_ok X G (c.d.fact 12 (f := .glo "is_within") rfl)⟩
  have x_pulled : Fx K mg "pulled" s_pulled ["yard", "tracks"] _ fd_pulled := ⟨He5.fun_of H_pulled, H_pulled.bindsN (fun _ _ _ _ _ _ us hl => match us, hl with | [_, _], _ => rfl), He.glo_ok X G (c.d.fact 13 (f := .glo "pulled") rfl)⟩
  have x_rolled : Fx K mg "rolled" s_rolled ["yard", "order", "rolling"] _ fd_rolled := ⟨He5.fun_of H_rolled, H_rolled.bindsN (fun _ _ _ _ _ _ us hl => match us, hl with | [_, _, _], _ => rfl), He.glo_ok X G (c.d.fact 14 (f := .glo "rolled") rfl)⟩
  have x_one_pass : Fx K mg "one_pass" s_one_pass ["yard", "order", "rolling"] _ fd_one_pass := ⟨He5.fun_of H_one_pass, H_one_pass.bindsN (fun _ _ _ _ _ _ us hl => match us, hl with | [_, _, _], _ => rfl), He.glo_ok X G (c.d.fact 15 (f := .glo "one_pass") rfl)⟩
  have x_law : Fx K mg "law" s_law ["script"] _ fd_law := ⟨He5.fun_of H_law, H_law.bindsN (fun _ _ _ _ _ _ us hl => match us, hl with | [_], _ => rfl), He.glo_ok X G (c.d.fact 16 (f := .glo "law") rfl)⟩
  have x__law_heard : Fx K mg "_law_heard" s__law_heard ["act"] _ fd__law_heard := ⟨He5.fun_of H__law_heard, H__law_heard.bindsN (fun _ _ _ _ _ _ us hl => match us, hl with | [_], _ => rfl), He.glo_ok X G (c.d.fact 17 (f := .glo "_law_heard") rfl)⟩
  have e := hfa.symm.trans x_law.m
  cases e
  have Z : Zs mg := ⟨He.free_ok X G (c.d.fact 18 (f := .free "abs") rfl), He.free_ok X G (c.d.fact 19 (f := .free "all") rfl), He.free_ok X G (c.d.fact 20 (f := .free "bool") rfl), He.free_ok X G (c.d.fact 21 (f := .free "int") rfl), He.free_ok X G (c.d.fact 22 (f := .free "isinstance") rfl), He.free_ok X G (c.d.fact 23 (f := .free "len") rfl), He.free_ok X G (c.d.fact 24 (f := .free "list") rfl), He.free_ok X G (c.d.fact 25 (f := .free "range") rfl), He.free_ok X G (c.d.fact 26 (f := .free "sorted") rfl), He.free_ok X G (c.d.fact 27 (f := .free "str") rfl), He.free_ok X G (c.d.fact 28 (f := .free "super") rfl), He.free_ok X G (c.d.fact 29 (f := .free "tuple") rfl), He.free_ok X G (c.d.fact 30 (f := .free "zip") rfl), He.int_ok X G (c.d.fact 31 (f := .int "STUB" (1)) rfl)⟩
  have b := FunD.bindsA (ps := ["script"]) H_law fun _ _ _ _ _ _ us hl => match us, hl with | [_], _ => rfl
  obtain ⟨t1, t2, t3⟩ := c.tabs X
  have S_NoTrack := c.sup X G 0 (d := q_NoTrack) rfl
  exact ⟨fd_law, tf.map (He.cT K), [((He.cT K ("law", none)).2, "law.<locals>.<lambda>")], t1, t2, t3, tab_one (List.mem_map.mpr ⟨("law", none), List.mem_cons_self, rfl⟩), fun s v => b s [v] rfl, fun base _ _ T => ok_law Z x_law x__law_alike x__law_bag x__law_is_int x__law_take x__law_mixed x__law_rolled x__law_pass x__law_some x__law_yard x_is_integer x_are_integers x_is_order x_is_within x_pulled x_rolled x_one_pass x__law_heard (ef_NoTrack S_NoTrack Z.z_super) S_NoTrack (codeOf_fd H_law) (T _ (List.mem_map.mpr ⟨("law", none), List.mem_cons_self, rfl⟩))⟩
end Yk05
set_option Elab.async false
set_option linter.all false
set_option maxRecDepth 100000
set_option maxHeartbeats 0
namespace Yk05
open PySem PySem.Spec PyProof.Rows L2 VL LB
def isI : Da → Bool
  | .int _ => true
  | _ => false
theorem isint_ok (x : Da) : F_is_integer [.d x] = .ok (.d (.bool (isI x)), [.d x]) := by cases x <;> rfl
theorem isint2_ok (x : Da) : F__law_is_int [.d x] = .ok (.d (.bool (isI x)), [.d x]) := by cases x <;> rfl
theorem isint_at (x : Da) (s : VS) : callF F_is_integer [.d x] s = .ok (.d (.bool (isI x)), s) := callF_1 (isint_ok x) dl
theorem isint2_at (x : Da) (s : VS) : callF F__law_is_int [.d x] s = .ok (.d (.bool (isI x)), s) := callF_1 (isint2_ok x) dl
theorem bls_ok : ∀ bs : List Bool, bls? (bs.map PyData.bool) = some bs
  | [] => rfl
  | b :: bs => by show (bls? (bs.map PyData.bool)).map (b :: ·) = _; rw [bls_ok bs]; rfl
theorem all_isI (xs : List Da) : allD [.list (xs.map fun x => .bool (isI x))] = some (.d (.bool (xs.all isI))) := by
  have e : (xs.map fun x => PyData.bool (isI x)) = (xs.map isI).map PyData.bool := by rw [List.map_map]; rfl
  show (bls? _).map _ = _
  rw [e, bls_ok, Option.map_some, List.all_map]; rfl
def intsB : Da → Bool
  | .tuple xs => xs.all isI
  | _ => false
theorem areints_ok {x : Da} (hx : ∀ xs, x = .tuple xs → xs.length ≤ 1000) : F_are_integers [.d x] = .ok (.d (.bool (intsB x)), [.d x]) := by
  cases x with
  | tuple xs =>
    have hx := hx xs rfl
    refine run_ok (c := .rt (.d (.bool (xs.all isI)))) (s := [.d (.tuple xs), .un]) ?_ rfl
    show g_are_integers [.d (.tuple xs), .un] = _
    have lc : vLcF [1] (vItSeq (vVar 0)) (vSetD 1) (vr true) (vCallF F_is_integer (vCons (vVar 1) (vr []))) [.d (.tuple xs), .un] = .ok (.own (.l (xs.map fun x => .bool (isI x))), [.d (.tuple xs), .un]) := by
      refine lc_map (enc := id) (L := []) (s1 := [.d (.tuple xs), .un]) (base := [.d (.tuple xs), .un]) (xs := xs) ?_ rfl rfl (fun x _ => ⟨[.d (.tuple xs), .d x], .d (.bool (isI x)), [.d (.tuple xs), .d x], ?_, ?_, rfl, rfl, rfl⟩) (by omega)
      · simp only [m_vb, bnd_ok, bnd_er, m_vr, m_stuck, m_seq, bS_nx, bS_bk, bS_ct, bS_rt, bS_er, m_if, m_ite, bI_t, bI_f, bI_er, m_and, m_or, m_not, m_bool, evB_b, m_opt, m_optn, m_tru, tru_b, tru_i, tru_n, tru_l, tru_t, m_var, var_d, var_own, var_io, var_lk, var_rd, m_c, st_d, st_o, st_l, oc_l, oc_m, rd_d, rd_o, rd_l, rdR_own, rdR_io, rdR_lk, m_bin, m_un, m_call, m_rdn, m_rdc, m_cons, m_conss, m_tup, m_lst, dts_n, dts_c, o_map, o_bind, add_i, sub_i, mul_i, mod_i, fdiv_i, pow_i, neg_i, iadd_i, abs_i, int_i, int_b, len_l, len_t, add_l, add_t, lt_i, le_i, gt_i, ge_i, eq_i, ne_i, eqF_i, neF_i, tuple_l, tuple_t, list_l, list_t, ix_l, ix_t, m_ret, m_drop, m_nx, m_asg, m_nox, nx_ok, set_d, set_o, setD_, wr_un, wr_d, wr_o, wr_rd, m_aug, m_asgD, evD_d, evD_o, m_frzn, m_frzc, m_frz1, fz_d, fz_un, fz_io, fz_lk, fz_rd, fz_o, m_sub, m_augS, m_app, ap_o, ap_io, m_ct, ct_o, ct_io, m_isl, is_o, is_io, m_mut, m_mutB, m_mut0, intD_i, m_sl, m_pn, m_ps, rs_d, rs_l, rsR_rd, rsR_o, rsR_io, sl_l, sl_t, arg_n, arg_c, arg_d, arg_l, ar_o, ar_io, ar_lk, ar_rd, put_n, put_d, put_io, m_put, pt_o, pt_io, i_seq, src_l, src_t, src_o, src_n, sr_o, sr_io, sr_lk, i_rng, i_enum, i_zip, i_rev, unl_n, unl_c, unl_1, ul_lk, ob_t, ob_f, wp_n, wp_c, rt_n, rt_c, fl_un, fl_d, m_unpT, tupD_t, unp_n, unp_c, range_1, range_2, ext_l, ext_t, app_1, m_pc, m_par, rl_n, rl_d, rl_o, rl_l, rlR_o, sr_n, sto_d, sto_o, mulE_i, mulE_t, m_andV, m_orV, m_notE, m_listRg, ite_t, ite_f, m_chain, m_fgt, m_fgtE, fgE_nx, fgE_ct, fgE_bk, fgE_rt, fgE_er, fgts_n, fgts_c, m_fgt1, fg_d, fg_o, fg_un, fg_rd, fg_io, fg_lk, m_raise, List.getElem?_cons_zero, List.getElem?_cons_succ, List.set_cons_zero, List.set_cons_succ, Option.map_some, Option.bind_some, if_true, and_self, List.map_id]
      · simp only [m_vb, bnd_ok, bnd_er, m_vr, m_stuck, m_seq, bS_nx, bS_bk, bS_ct, bS_rt, bS_er, m_if, m_ite, bI_t, bI_f, bI_er, m_and, m_or, m_not, m_bool, evB_b, m_opt, m_optn, m_tru, tru_b, tru_i, tru_n, tru_l, tru_t, m_var, var_d, var_own, var_io, var_lk, var_rd, m_c, st_d, st_o, st_l, oc_l, oc_m, rd_d, rd_o, rd_l, rdR_own, rdR_io, rdR_lk, m_bin, m_un, m_call, m_rdn, m_rdc, m_cons, m_conss, m_tup, m_lst, dts_n, dts_c, o_map, o_bind, add_i, sub_i, mul_i, mod_i, fdiv_i, pow_i, neg_i, iadd_i, abs_i, int_i, int_b, len_l, len_t, add_l, add_t, lt_i, le_i, gt_i, ge_i, eq_i, ne_i, eqF_i, neF_i, tuple_l, tuple_t, list_l, list_t, ix_l, ix_t, m_ret, m_drop, m_nx, m_asg, m_nox, nx_ok, set_d, set_o, setD_, wr_un, wr_d, wr_o, wr_rd, m_aug, m_asgD, evD_d, evD_o, m_frzn, m_frzc, m_frz1, fz_d, fz_un, fz_io, fz_lk, fz_rd, fz_o, m_sub, m_augS, m_app, ap_o, ap_io, m_ct, ct_o, ct_io, m_isl, is_o, is_io, m_mut, m_mutB, m_mut0, intD_i, m_sl, m_pn, m_ps, rs_d, rs_l, rsR_rd, rsR_o, rsR_io, sl_l, sl_t, arg_n, arg_c, arg_d, arg_l, ar_o, ar_io, ar_lk, ar_rd, put_n, put_d, put_io, m_put, pt_o, pt_io, i_seq, src_l, src_t, src_o, src_n, sr_o, sr_io, sr_lk, i_rng, i_enum, i_zip, i_rev, unl_n, unl_c, unl_1, ul_lk, ob_t, ob_f, wp_n, wp_c, rt_n, rt_c, fl_un, fl_d, m_unpT, tupD_t, unp_n, unp_c, range_1, range_2, ext_l, ext_t, app_1, m_pc, m_par, rl_n, rl_d, rl_o, rl_l, rlR_o, sr_n, sto_d, sto_o, mulE_i, mulE_t, m_andV, m_orV, m_notE, m_listRg, ite_t, ite_f, m_chain, m_fgt, m_fgtE, fgE_nx, fgE_ct, fgE_bk, fgE_rt, fgE_er, fgts_n, fgts_c, m_fgt1, fg_d, fg_o, fg_un, fg_rd, fg_io, fg_lk, m_raise, List.getElem?_cons_zero, List.getElem?_cons_succ, List.set_cons_zero, List.set_cons_succ, Option.map_some, Option.bind_some, if_true, and_self, id]
      · simp only [m_vb, bnd_ok, bnd_er, m_vr, m_stuck, m_seq, bS_nx, bS_bk, bS_ct, bS_rt, bS_er, m_if, m_ite, bI_t, bI_f, bI_er, m_and, m_or, m_not, m_bool, evB_b, m_opt, m_optn, m_tru, tru_b, tru_i, tru_n, tru_l, tru_t, m_var, var_d, var_own, var_io, var_lk, var_rd, m_c, st_d, st_o, st_l, oc_l, oc_m, rd_d, rd_o, rd_l, rdR_own, rdR_io, rdR_lk, m_bin, m_un, m_call, m_rdn, m_rdc, m_cons, m_conss, m_tup, m_lst, dts_n, dts_c, o_map, o_bind, add_i, sub_i, mul_i, mod_i, fdiv_i, pow_i, neg_i, iadd_i, abs_i, int_i, int_b, len_l, len_t, add_l, add_t, lt_i, le_i, gt_i, ge_i, eq_i, ne_i, eqF_i, neF_i, tuple_l, tuple_t, list_l, list_t, ix_l, ix_t, m_ret, m_drop, m_nx, m_asg, m_nox, nx_ok, set_d, set_o, setD_, wr_un, wr_d, wr_o, wr_rd, m_aug, m_asgD, evD_d, evD_o, m_frzn, m_frzc, m_frz1, fz_d, fz_un, fz_io, fz_lk, fz_rd, fz_o, m_sub, m_augS, m_app, ap_o, ap_io, m_ct, ct_o, ct_io, m_isl, is_o, is_io, m_mut, m_mutB, m_mut0, intD_i, m_sl, m_pn, m_ps, rs_d, rs_l, rsR_rd, rsR_o, rsR_io, sl_l, sl_t, arg_n, arg_c, arg_d, arg_l, ar_o, ar_io, ar_lk, ar_rd, put_n, put_d, put_io, m_put, pt_o, pt_io, i_seq, src_l, src_t, src_o, src_n, sr_o, sr_io, sr_lk, i_rng, i_enum, i_zip, i_rev, unl_n, unl_c, unl_1, ul_lk, ob_t, ob_f, wp_n, wp_c, rt_n, rt_c, fl_un, fl_d, m_unpT, tupD_t, unp_n, unp_c, range_1, range_2, ext_l, ext_t, app_1, m_pc, m_par, rl_n, rl_d, rl_o, rl_l, rlR_o, sr_n, sto_d, sto_o, mulE_i, mulE_t, m_andV, m_orV, m_notE, m_listRg, ite_t, ite_f, m_chain, m_fgt, m_fgtE, fgE_nx, fgE_ct, fgE_bk, fgE_rt, fgE_er, fgts_n, fgts_c, m_fgt1, fg_d, fg_o, fg_un, fg_rd, fg_io, fg_lk, m_raise, List.getElem?_cons_zero, List.getElem?_cons_succ, List.set_cons_zero, List.set_cons_succ, Option.map_some, Option.bind_some, if_true, and_self, m_callF, isint_at]
    unfold g_are_integers
    simp only [m_vb, bnd_ok, bnd_er, m_vr, m_stuck, m_seq, bS_nx, bS_bk, bS_ct, bS_rt, bS_er, m_if, m_ite, bI_t, bI_f, bI_er, m_and, m_or, m_not, m_bool, evB_b, m_opt, m_optn, m_tru, tru_b, tru_i, tru_n, tru_l, tru_t, m_var, var_d, var_own, var_io, var_lk, var_rd, m_c, st_d, st_o, st_l, oc_l, oc_m, rd_d, rd_o, rd_l, rdR_own, rdR_io, rdR_lk, m_bin, m_un, m_call, m_rdn, m_rdc, m_cons, m_conss, m_tup, m_lst, dts_n, dts_c, o_map, o_bind, add_i, sub_i, mul_i, mod_i, fdiv_i, pow_i, neg_i, iadd_i, abs_i, int_i, int_b, len_l, len_t, add_l, add_t, lt_i, le_i, gt_i, ge_i, eq_i, ne_i, eqF_i, neF_i, tuple_l, tuple_t, list_l, list_t, ix_l, ix_t, m_ret, m_drop, m_nx, m_asg, m_nox, nx_ok, set_d, set_o, setD_, wr_un, wr_d, wr_o, wr_rd, m_aug, m_asgD, evD_d, evD_o, m_frzn, m_frzc, m_frz1, fz_d, fz_un, fz_io, fz_lk, fz_rd, fz_o, m_sub, m_augS, m_app, ap_o, ap_io, m_ct, ct_o, ct_io, m_isl, is_o, is_io, m_mut, m_mutB, m_mut0, intD_i, m_sl, m_pn, m_ps, rs_d, rs_l, rsR_rd, rsR_o, rsR_io, sl_l, sl_t, arg_n, arg_c, arg_d, arg_l, ar_o, ar_io, ar_lk, ar_rd, put_n, put_d, put_io, m_put, pt_o, pt_io, i_seq, src_l, src_t, src_o, src_n, sr_o, sr_io, sr_lk, i_rng, i_enum, i_zip, i_rev, unl_n, unl_c, unl_1, ul_lk, ob_t, ob_f, wp_n, wp_c, rt_n, rt_c, fl_un, fl_d, m_unpT, tupD_t, unp_n, unp_c, range_1, range_2, ext_l, ext_t, app_1, m_pc, m_par, rl_n, rl_d, rl_o, rl_l, rlR_o, sr_n, sto_d, sto_o, mulE_i, mulE_t, m_andV, m_orV, m_notE, m_listRg, ite_t, ite_f, m_chain, m_fgt, m_fgtE, fgE_nx, fgE_ct, fgE_bk, fgE_rt, fgE_er, fgts_n, fgts_c, m_fgt1, fg_d, fg_o, fg_un, fg_rd, fg_io, fg_lk, m_raise, List.getElem?_cons_zero, List.getElem?_cons_succ, List.set_cons_zero, List.set_cons_succ, Option.map_some, Option.bind_some, if_true, and_self, isi_run, m_andV, lc, all_isI, List.any_cons, List.any_nil, isKT, Bool.or_false]
  | _ => rfl
def rngI (n : Nat) : List Int := (List.range n).map fun i => (0 : Int) + (i : Nat)
theorem rgD_eq (n : Nat) : rgD 0 (n : Int) = (rngI n).map PyData.int := by
  unfold rgD rngI
  rw [List.map_map, Int.sub_zero, Int.toNat_natCast]; rfl
theorem ints_some {xs : List Da} (h : xs.all isI = true) : ∃ ns : List Int, xs = ns.map PyData.int := by
  induction xs with
  | nil => exact ⟨[], rfl⟩
  | cons x xs ih =>
    rw [List.all_cons, Bool.and_eq_true] at h
    obtain ⟨ns, rfl⟩ := ih h.2
    cases x with
    | int i => exact ⟨i :: ns, rfl⟩
    | _ => cases h.1
theorem ints_ok : ∀ ns : List Int, ints? (ns.map PyData.int) = some ns
  | [] => rfl
  | n :: ns => by show (ints? (ns.map PyData.int)).map (n :: ·) = _; rw [ints_ok ns]; rfl
theorem eqv_int (i j : Int) : PyData.eqv (.int i) (.int j) = (i == j) := by simp only [PyData.eqv]
theorem eqvAll_ints : ∀ c d : List Int, PyData.eqvAll (c.map PyData.int) (d.map PyData.int) = (c == d)
  | [], [] => by simp only [List.map_nil, PyData.eqvAll]; rfl
  | [], _ :: _ => by simp only [List.map_nil, List.map_cons, PyData.eqvAll]; rfl
  | _ :: _, [] => by simp only [List.map_nil, List.map_cons, PyData.eqvAll]; rfl
  | a :: c, b :: d => by simp only [List.map_cons, PyData.eqvAll, eqv_int, eqvAll_ints c d, List.cons_beq_cons]
theorem eqF_ints (c d : List Int) : eqF (.list (c.map PyData.int)) (.list (d.map PyData.int)) = some (.d (.bool (c == d))) := by
  show (if shF 64 (.list (c.map PyData.int)) = true ∧ shF 64 (.list (d.map PyData.int)) = true then some (EV.d (.bool (PyData.eqv (.list (c.map PyData.int)) (.list (d.map PyData.int))))) else none) = _
  rw [if_pos ⟨by simp only [shF]; exact shFs_intL 63 c, by simp only [shF]; exact shFs_intL 63 d⟩]
  simp only [PyData.eqv, eqvAll_ints]
/-- what both of them say of an order -/
def ordB : Da → Bool
  | .tuple xs => xs.all isI && (match ints? xs with
    | some ns => sortI ns == rngI ns.length
    | none => false)
  | _ => false
theorem ordB_ints (ns : List Int) : ordB (.tuple (ns.map PyData.int)) = (sortI ns == rngI ns.length) := by
  have e : (ns.map PyData.int).all isI = true := by rw [List.all_map]; exact List.all_eq_true.mpr fun _ _ => rfl
  show ((ns.map PyData.int).all isI && (match ints? (ns.map PyData.int) with
    | some ns => sortI ns == rngI ns.length
    | none => false)) = _
  rw [e, ints_ok]; rfl
theorem sortE_ints (ns : List Int) : sortedE [.tuple (ns.map PyData.int)] = some (.own (.l ((sortI ns).map PyData.int))) := by
  show (ints? _).map _ = _
  rw [ints_ok]; rfl
theorem lstRg_ok {n : Nat} (h : n ≤ 1000) : lstRgD (.int 0) (.int (n : Int)) = some (.own (.l ((rngI n).map PyData.int))) := by
  have e : rgOkB 0 (n : Int) = true := by
    unfold rgOkB
    simp only [Bool.and_eq_true, decide_eq_true_eq]
    refine ⟨⟨⟨⟨by decide, by decide⟩, by omega⟩, by omega⟩, by omega⟩
  show (if rgOkB 0 (n : Int) = true then some (EV.own (.l (rgD 0 (n : Int)))) else none) = _
  rw [if_pos e, rgD_eq]
theorem order_no {x : Da} (ha : ∀ s, callF F_are_integers [.d x] s = .ok (.d (.bool false), s)) : g_is_order [.d x] = .ok (.rt (.d (.bool false)), [.d x]) := by
  unfold g_is_order
  simp only [m_vb, bnd_ok, bnd_er, m_vr, m_stuck, m_seq, bS_nx, bS_bk, bS_ct, bS_rt, bS_er, m_if, m_ite, bI_t, bI_f, bI_er, m_and, m_or, m_not, m_bool, evB_b, m_opt, m_optn, m_tru, tru_b, tru_i, tru_n, tru_l, tru_t, m_var, var_d, var_own, var_io, var_lk, var_rd, m_c, st_d, st_o, st_l, oc_l, oc_m, rd_d, rd_o, rd_l, rdR_own, rdR_io, rdR_lk, m_bin, m_un, m_call, m_rdn, m_rdc, m_cons, m_conss, m_tup, m_lst, dts_n, dts_c, o_map, o_bind, add_i, sub_i, mul_i, mod_i, fdiv_i, pow_i, neg_i, iadd_i, abs_i, int_i, int_b, len_l, len_t, add_l, add_t, lt_i, le_i, gt_i, ge_i, eq_i, ne_i, eqF_i, neF_i, tuple_l, tuple_t, list_l, list_t, ix_l, ix_t, m_ret, m_drop, m_nx, m_asg, m_nox, nx_ok, set_d, set_o, setD_, wr_un, wr_d, wr_o, wr_rd, m_aug, m_asgD, evD_d, evD_o, m_frzn, m_frzc, m_frz1, fz_d, fz_un, fz_io, fz_lk, fz_rd, fz_o, m_sub, m_augS, m_app, ap_o, ap_io, m_ct, ct_o, ct_io, m_isl, is_o, is_io, m_mut, m_mutB, m_mut0, intD_i, m_sl, m_pn, m_ps, rs_d, rs_l, rsR_rd, rsR_o, rsR_io, sl_l, sl_t, arg_n, arg_c, arg_d, arg_l, ar_o, ar_io, ar_lk, ar_rd, put_n, put_d, put_io, m_put, pt_o, pt_io, i_seq, src_l, src_t, src_o, src_n, sr_o, sr_io, sr_lk, i_rng, i_enum, i_zip, i_rev, unl_n, unl_c, unl_1, ul_lk, ob_t, ob_f, wp_n, wp_c, rt_n, rt_c, fl_un, fl_d, m_unpT, tupD_t, unp_n, unp_c, range_1, range_2, ext_l, ext_t, app_1, m_pc, m_par, rl_n, rl_d, rl_o, rl_l, rlR_o, sr_n, sto_d, sto_o, mulE_i, mulE_t, m_andV, m_orV, m_notE, m_listRg, ite_t, ite_f, m_chain, m_fgt, m_fgtE, fgE_nx, fgE_ct, fgE_bk, fgE_rt, fgE_er, fgts_n, fgts_c, m_fgt1, fg_d, fg_o, fg_un, fg_rd, fg_io, fg_lk, m_raise, List.getElem?_cons_zero, List.getElem?_cons_succ, List.set_cons_zero, List.set_cons_succ, Option.map_some, Option.bind_some, if_true, and_self, m_callF, ha]
  all_goals rfl
theorem order_yes {x : Da} {b : Bool} {z w : List Da} {n : Int} (ha : ∀ s, callF F_are_integers [.d x] s = .ok (.d (.bool true), s)) (hs : sortedE [x] = some (.own (.l z))) (hl : lenD [x] = some (.d (.int n))) (hr : lstRgD (.int 0) (.int n) = some (.own (.l w))) (he : eqF (.list z) (.list w) = some (.d (.bool b))) :
    g_is_order [.d x] = .ok (.rt (.d (.bool b)), [.d x]) := by
  unfold g_is_order
  simp only [m_vb, bnd_ok, bnd_er, m_vr, m_stuck, m_seq, bS_nx, bS_bk, bS_ct, bS_rt, bS_er, m_if, m_ite, bI_t, bI_f, bI_er, m_and, m_or, m_not, m_bool, evB_b, m_opt, m_optn, m_tru, tru_b, tru_i, tru_n, tru_l, tru_t, m_var, var_d, var_own, var_io, var_lk, var_rd, m_c, st_d, st_o, st_l, oc_l, oc_m, rd_d, rd_o, rd_l, rdR_own, rdR_io, rdR_lk, m_bin, m_un, m_call, m_rdn, m_rdc, m_cons, m_conss, m_tup, m_lst, dts_n, dts_c, o_map, o_bind, add_i, sub_i, mul_i, mod_i, fdiv_i, pow_i, neg_i, iadd_i, abs_i, int_i, int_b, len_l, len_t, add_l, add_t, lt_i, le_i, gt_i, ge_i, eq_i, ne_i, eqF_i, neF_i, tuple_l, tuple_t, list_l, list_t, ix_l, ix_t, m_ret, m_drop, m_nx, m_asg, m_nox, nx_ok, set_d, set_o, setD_, wr_un, wr_d, wr_o, wr_rd, m_aug, m_asgD, evD_d, evD_o, m_frzn, m_frzc, m_frz1, fz_d, fz_un, fz_io, fz_lk, fz_rd, fz_o, m_sub, m_augS, m_app, ap_o, ap_io, m_ct, ct_o, ct_io, m_isl, is_o, is_io, m_mut, m_mutB, m_mut0, intD_i, m_sl, m_pn, m_ps, rs_d, rs_l, rsR_rd, rsR_o, rsR_io, sl_l, sl_t, arg_n, arg_c, arg_d, arg_l, ar_o, ar_io, ar_lk, ar_rd, put_n, put_d, put_io, m_put, pt_o, pt_io, i_seq, src_l, src_t, src_o, src_n, sr_o, sr_io, sr_lk, i_rng, i_enum, i_zip, i_rev, unl_n, unl_c, unl_1, ul_lk, ob_t, ob_f, wp_n, wp_c, rt_n, rt_c, fl_un, fl_d, m_unpT, tupD_t, unp_n, unp_c, range_1, range_2, ext_l, ext_t, app_1, m_pc, m_par, rl_n, rl_d, rl_o, rl_l, rlR_o, sr_n, sto_d, sto_o, mulE_i, mulE_t, m_andV, m_orV, m_notE, m_listRg, ite_t, ite_f, m_chain, m_fgt, m_fgtE, fgE_nx, fgE_ct, fgE_bk, fgE_rt, fgE_er, fgts_n, fgts_c, m_fgt1, fg_d, fg_o, fg_un, fg_rd, fg_io, fg_lk, m_raise, List.getElem?_cons_zero, List.getElem?_cons_succ, List.set_cons_zero, List.set_cons_succ, Option.map_some, Option.bind_some, if_true, and_self, m_callF, ha, hs, hl, hr, he]
theorem order_ok {x : Da} (hx : ∀ xs, x = .tuple xs → xs.length ≤ 1000) : F_is_order [.d x] = .ok (.d (.bool (ordB x)), [.d x]) := by
  have ha : ∀ s, callF F_are_integers [.d x] s = .ok (.d (.bool (intsB x)), s) := fun s => callF_1 (areints_ok hx) dl
  cases hI : intsB x with
  | false =>
    rw [hI] at ha
    have e : ordB x = false := by
      cases x with
      | tuple xs =>
        show (xs.all isI && (match ints? xs with
          | some ns => sortI ns == rngI ns.length
          | none => false)) = _
        rw [show xs.all isI = false from hI]; rfl
      | _ => rfl
    rw [e]
    exact run_d (order_no ha)
  | true =>
    rw [hI] at ha
    obtain ⟨xs, rfl⟩ : ∃ xs, x = .tuple xs := by
      cases x with
      | tuple xs => exact ⟨xs, rfl⟩
      | _ => cases hI
    obtain ⟨ns, rfl⟩ := ints_some (show xs.all isI = true from hI)
    have hl := hx _ rfl
    rw [List.length_map] at hl
    rw [ordB_ints]
    exact run_d (order_yes ha (sortE_ints ns) (by rw [len_t, List.length_map]) (lstRg_ok hl) (eqF_ints _ _))
end Yk05
set_option Elab.async false
set_option linter.all false
set_option maxRecDepth 100000
set_option maxHeartbeats 0
namespace Yk05
open PySem PySem.Spec PyProof.Rows L2 VL LB
def tupN (l : List Nat) : Da := .tuple (l.map intN)
def lanesD (ord : List Nat) (rs : List Int) (n : Nat) : List Da := (List.range n).map fun t => tupN (laneP ord rs t)
theorem rolled2_ok {ys : List Da} {o r : Da} {ord : List Nat} {rs : List Int} (hy : ys.length ≤ 1000000) (ho : seqD o = some (ord.map intN)) (hr : seqD r = some (rs.map PyData.int)) (hw : ∀ w ∈ ord, w < rs.length) (hl : ord.length ≤ 16000000) :
    F_rolled [.d (.tuple ys), .d o, .d r] = .ok (.d (.tuple (lanesD ord rs ys.length)), [.d (.tuple ys), .d o, .d r]) := by
  have hn1 : (-1000000000 : Int) ≤ (ys.length : Int) ∧ (ys.length : Int) ≤ 1000000000 := by omega
  have inner : ∀ t : Nat, vLcF [4] (vItSeq (vVar 1)) (vSetD 4) (VL.vBool (vBin eqF (vBin ixD (vVar 2) (vVar 4)) (vVar 3))) (vVar 4) [.d (.tuple ys), .d o, .d r, .d (intN t), .un]
      = .ok (.own (.l ((laneP ord rs t).map intN)), [.d (.tuple ys), .d o, .d r, .d (intN t), .un]) := fun t => by
    refine lc_of (enc := intN) (xs := ord) (L := []) (base := [.d (.tuple ys), .d o, .d r, .d (intN t), .un]) (s1 := [.d (.tuple ys), .d o, .d r, .d (intN t), .un]) (p := fun w => decide (rs.getD w 0 = Int.ofNat t)) (h := intN) ?_ rfl rfl (fun w hwm => ⟨[.d (.tuple ys), .d o, .d r, .d (intN t), .d (intN w)], [.d (.tuple ys), .d o, .d r, .d (intN t), .d (intN w)], ?_, ?_, fun _ => ⟨rfl, rfl⟩, fun _ => ⟨.d (intN w), [.d (.tuple ys), .d o, .d r, .d (intN t), .d (intN w)], ?_, rfl, rfl, rfl⟩⟩) (by omega)
    · simp only [m_vb, bnd_ok, bnd_er, m_vr, m_stuck, m_seq, bS_nx, bS_bk, bS_ct, bS_rt, bS_er, m_if, m_ite, bI_t, bI_f, bI_er, m_and, m_or, m_not, m_bool, evB_b, m_opt, m_optn, m_tru, tru_b, tru_i, tru_n, tru_l, tru_t, m_var, var_d, var_own, var_io, var_lk, var_rd, m_c, st_d, st_o, st_l, oc_l, oc_m, rd_d, rd_o, rd_l, rdR_own, rdR_io, rdR_lk, m_bin, m_un, m_call, m_rdn, m_rdc, m_cons, m_conss, m_tup, m_lst, dts_n, dts_c, o_map, o_bind, add_i, sub_i, mul_i, mod_i, fdiv_i, pow_i, neg_i, iadd_i, abs_i, int_i, int_b, len_l, len_t, add_l, add_t, lt_i, le_i, gt_i, ge_i, eq_i, ne_i, eqF_i, neF_i, tuple_l, tuple_t, list_l, list_t, ix_l, ix_t, m_ret, m_drop, m_nx, m_asg, m_nox, nx_ok, set_d, set_o, setD_, wr_un, wr_d, wr_o, wr_rd, m_aug, m_asgD, evD_d, evD_o, m_frzn, m_frzc, m_frz1, fz_d, fz_un, fz_io, fz_lk, fz_rd, fz_o, m_sub, m_augS, m_app, ap_o, ap_io, m_ct, ct_o, ct_io, m_isl, is_o, is_io, m_mut, m_mutB, m_mut0, intD_i, m_sl, m_pn, m_ps, rs_d, rs_l, rsR_rd, rsR_o, rsR_io, sl_l, sl_t, arg_n, arg_c, arg_d, arg_l, ar_o, ar_io, ar_lk, ar_rd, put_n, put_d, put_io, m_put, pt_o, pt_io, i_seq, src_l, src_t, src_o, src_n, sr_o, sr_io, sr_lk, i_rng, i_enum, i_zip, i_rev, unl_n, unl_c, unl_1, ul_lk, ob_t, ob_f, wp_n, wp_c, rt_n, rt_c, fl_un, fl_d, m_unpT, tupD_t, unp_n, unp_c, range_1, range_2, ext_l, ext_t, app_1, m_pc, m_par, rl_n, rl_d, rl_o, rl_l, rlR_o, sr_n, sto_d, sto_o, mulE_i, mulE_t, m_andV, m_orV, m_notE, m_listRg, ite_t, ite_f, m_chain, m_fgt, m_fgtE, fgE_nx, fgE_ct, fgE_bk, fgE_rt, fgE_er, fgts_n, fgts_c, m_fgt1, fg_d, fg_o, fg_un, fg_rd, fg_io, fg_lk, m_raise, List.getElem?_cons_zero, List.getElem?_cons_succ, List.set_cons_zero, List.set_cons_succ, Option.map_some, Option.bind_some, if_true, and_self, src_seq ho]
    · simp only [m_vb, bnd_ok, bnd_er, m_vr, m_stuck, m_seq, bS_nx, bS_bk, bS_ct, bS_rt, bS_er, m_if, m_ite, bI_t, bI_f, bI_er, m_and, m_or, m_not, m_bool, evB_b, m_opt, m_optn, m_tru, tru_b, tru_i, tru_n, tru_l, tru_t, m_var, var_d, var_own, var_io, var_lk, var_rd, m_c, st_d, st_o, st_l, oc_l, oc_m, rd_d, rd_o, rd_l, rdR_own, rdR_io, rdR_lk, m_bin, m_un, m_call, m_rdn, m_rdc, m_cons, m_conss, m_tup, m_lst, dts_n, dts_c, o_map, o_bind, add_i, sub_i, mul_i, mod_i, fdiv_i, pow_i, neg_i, iadd_i, abs_i, int_i, int_b, len_l, len_t, add_l, add_t, lt_i, le_i, gt_i, ge_i, eq_i, ne_i, eqF_i, neF_i, tuple_l, tuple_t, list_l, list_t, ix_l, ix_t, m_ret, m_drop, m_nx, m_asg, m_nox, nx_ok, set_d, set_o, setD_, wr_un, wr_d, wr_o, wr_rd, m_aug, m_asgD, evD_d, evD_o, m_frzn, m_frzc, m_frz1, fz_d, fz_un, fz_io, fz_lk, fz_rd, fz_o, m_sub, m_augS, m_app, ap_o, ap_io, m_ct, ct_o, ct_io, m_isl, is_o, is_io, m_mut, m_mutB, m_mut0, intD_i, m_sl, m_pn, m_ps, rs_d, rs_l, rsR_rd, rsR_o, rsR_io, sl_l, sl_t, arg_n, arg_c, arg_d, arg_l, ar_o, ar_io, ar_lk, ar_rd, put_n, put_d, put_io, m_put, pt_o, pt_io, i_seq, src_l, src_t, src_o, src_n, sr_o, sr_io, sr_lk, i_rng, i_enum, i_zip, i_rev, unl_n, unl_c, unl_1, ul_lk, ob_t, ob_f, wp_n, wp_c, rt_n, rt_c, fl_un, fl_d, m_unpT, tupD_t, unp_n, unp_c, range_1, range_2, ext_l, ext_t, app_1, m_pc, m_par, rl_n, rl_d, rl_o, rl_l, rlR_o, sr_n, sto_d, sto_o, mulE_i, mulE_t, m_andV, m_orV, m_notE, m_listRg, ite_t, ite_f, m_chain, m_fgt, m_fgtE, fgE_nx, fgE_ct, fgE_bk, fgE_rt, fgE_er, fgts_n, fgts_c, m_fgt1, fg_d, fg_o, fg_un, fg_rd, fg_io, fg_lk, m_raise, List.getElem?_cons_zero, List.getElem?_cons_succ, List.set_cons_zero, List.set_cons_succ, Option.map_some, Option.bind_some, if_true, and_self]
    · unfold intN
      simp only [m_vb, bnd_ok, bnd_er, m_vr, m_stuck, m_seq, bS_nx, bS_bk, bS_ct, bS_rt, bS_er, m_if, m_ite, bI_t, bI_f, bI_er, m_and, m_or, m_not, m_bool, evB_b, m_opt, m_optn, m_tru, tru_b, tru_i, tru_n, tru_l, tru_t, m_var, var_d, var_own, var_io, var_lk, var_rd, m_c, st_d, st_o, st_l, oc_l, oc_m, rd_d, rd_o, rd_l, rdR_own, rdR_io, rdR_lk, m_bin, m_un, m_call, m_rdn, m_rdc, m_cons, m_conss, m_tup, m_lst, dts_n, dts_c, o_map, o_bind, add_i, sub_i, mul_i, mod_i, fdiv_i, pow_i, neg_i, iadd_i, abs_i, int_i, int_b, len_l, len_t, add_l, add_t, lt_i, le_i, gt_i, ge_i, eq_i, ne_i, eqF_i, neF_i, tuple_l, tuple_t, list_l, list_t, ix_l, ix_t, m_ret, m_drop, m_nx, m_asg, m_nox, nx_ok, set_d, set_o, setD_, wr_un, wr_d, wr_o, wr_rd, m_aug, m_asgD, evD_d, evD_o, m_frzn, m_frzc, m_frz1, fz_d, fz_un, fz_io, fz_lk, fz_rd, fz_o, m_sub, m_augS, m_app, ap_o, ap_io, m_ct, ct_o, ct_io, m_isl, is_o, is_io, m_mut, m_mutB, m_mut0, intD_i, m_sl, m_pn, m_ps, rs_d, rs_l, rsR_rd, rsR_o, rsR_io, sl_l, sl_t, arg_n, arg_c, arg_d, arg_l, ar_o, ar_io, ar_lk, ar_rd, put_n, put_d, put_io, m_put, pt_o, pt_io, i_seq, src_l, src_t, src_o, src_n, sr_o, sr_io, sr_lk, i_rng, i_enum, i_zip, i_rev, unl_n, unl_c, unl_1, ul_lk, ob_t, ob_f, wp_n, wp_c, rt_n, rt_c, fl_un, fl_d, m_unpT, tupD_t, unp_n, unp_c, range_1, range_2, ext_l, ext_t, app_1, m_pc, m_par, rl_n, rl_d, rl_o, rl_l, rlR_o, sr_n, sto_d, sto_o, mulE_i, mulE_t, m_andV, m_orV, m_notE, m_listRg, ite_t, ite_f, m_chain, m_fgt, m_fgtE, fgE_nx, fgE_ct, fgE_bk, fgE_rt, fgE_er, fgts_n, fgts_c, m_fgt1, fg_d, fg_o, fg_un, fg_rd, fg_io, fg_lk, m_raise, List.getElem?_cons_zero, List.getElem?_cons_succ, List.set_cons_zero, List.set_cons_succ, Option.map_some, Option.bind_some, if_true, and_self, ix_seq hr, at_get (hw w hwm)]
    · simp only [m_vb, bnd_ok, bnd_er, m_vr, m_stuck, m_seq, bS_nx, bS_bk, bS_ct, bS_rt, bS_er, m_if, m_ite, bI_t, bI_f, bI_er, m_and, m_or, m_not, m_bool, evB_b, m_opt, m_optn, m_tru, tru_b, tru_i, tru_n, tru_l, tru_t, m_var, var_d, var_own, var_io, var_lk, var_rd, m_c, st_d, st_o, st_l, oc_l, oc_m, rd_d, rd_o, rd_l, rdR_own, rdR_io, rdR_lk, m_bin, m_un, m_call, m_rdn, m_rdc, m_cons, m_conss, m_tup, m_lst, dts_n, dts_c, o_map, o_bind, add_i, sub_i, mul_i, mod_i, fdiv_i, pow_i, neg_i, iadd_i, abs_i, int_i, int_b, len_l, len_t, add_l, add_t, lt_i, le_i, gt_i, ge_i, eq_i, ne_i, eqF_i, neF_i, tuple_l, tuple_t, list_l, list_t, ix_l, ix_t, m_ret, m_drop, m_nx, m_asg, m_nox, nx_ok, set_d, set_o, setD_, wr_un, wr_d, wr_o, wr_rd, m_aug, m_asgD, evD_d, evD_o, m_frzn, m_frzc, m_frz1, fz_d, fz_un, fz_io, fz_lk, fz_rd, fz_o, m_sub, m_augS, m_app, ap_o, ap_io, m_ct, ct_o, ct_io, m_isl, is_o, is_io, m_mut, m_mutB, m_mut0, intD_i, m_sl, m_pn, m_ps, rs_d, rs_l, rsR_rd, rsR_o, rsR_io, sl_l, sl_t, arg_n, arg_c, arg_d, arg_l, ar_o, ar_io, ar_lk, ar_rd, put_n, put_d, put_io, m_put, pt_o, pt_io, i_seq, src_l, src_t, src_o, src_n, sr_o, sr_io, sr_lk, i_rng, i_enum, i_zip, i_rev, unl_n, unl_c, unl_1, ul_lk, ob_t, ob_f, wp_n, wp_c, rt_n, rt_c, fl_un, fl_d, m_unpT, tupD_t, unp_n, unp_c, range_1, range_2, ext_l, ext_t, app_1, m_pc, m_par, rl_n, rl_d, rl_o, rl_l, rlR_o, sr_n, sto_d, sto_o, mulE_i, mulE_t, m_andV, m_orV, m_notE, m_listRg, ite_t, ite_f, m_chain, m_fgt, m_fgtE, fgE_nx, fgE_ct, fgE_bk, fgE_rt, fgE_er, fgts_n, fgts_c, m_fgt1, fg_d, fg_o, fg_un, fg_rd, fg_io, fg_lk, m_raise, List.getElem?_cons_zero, List.getElem?_cons_succ, List.set_cons_zero, List.set_cons_succ, Option.map_some, Option.bind_some, if_true, and_self]
  have outer : vLcF [3] (vItRng (vCons (vCall lenD (vCons (vVar 0) (vr []))) (vr []))) (vSetD 3) (vr true) (vCall tupleD (vCons (vLcF [4] (vItSeq (vVar 1)) (vSetD 4) (VL.vBool (vBin eqF (vBin ixD (vVar 2) (vVar 4)) (vVar 3))) (vVar 4)) (vr []))) [.d (.tuple ys), .d o, .d r, .un, .un]
      = .ok (.own (.l (lanesD ord rs ys.length)), [.d (.tuple ys), .d o, .d r, .un, .un]) := by
    refine lc_map (enc := intN) (xs := List.range ys.length) (L := []) (base := [.d (.tuple ys), .d o, .d r, .un, .un]) (s1 := [.d (.tuple ys), .d o, .d r, .un, .un]) (h := fun t => tupN (laneP ord rs t)) ?_ rfl rfl (fun t _ => ⟨[.d (.tuple ys), .d o, .d r, .d (intN t), .un], .d (tupN (laneP ord rs t)), [.d (.tuple ys), .d o, .d r, .d (intN t), .un], by simp only [m_vb, bnd_ok, bnd_er, m_vr, m_stuck, m_seq, bS_nx, bS_bk, bS_ct, bS_rt, bS_er, m_if, m_ite, bI_t, bI_f, bI_er, m_and, m_or, m_not, m_bool, evB_b, m_opt, m_optn, m_tru, tru_b, tru_i, tru_n, tru_l, tru_t, m_var, var_d, var_own, var_io, var_lk, var_rd, m_c, st_d, st_o, st_l, oc_l, oc_m, rd_d, rd_o, rd_l, rdR_own, rdR_io, rdR_lk, m_bin, m_un, m_call, m_rdn, m_rdc, m_cons, m_conss, m_tup, m_lst, dts_n, dts_c, o_map, o_bind, add_i, sub_i, mul_i, mod_i, fdiv_i, pow_i, neg_i, iadd_i, abs_i, int_i, int_b, len_l, len_t, add_l, add_t, lt_i, le_i, gt_i, ge_i, eq_i, ne_i, eqF_i, neF_i, tuple_l, tuple_t, list_l, list_t, ix_l, ix_t, m_ret, m_drop, m_nx, m_asg, m_nox, nx_ok, set_d, set_o, setD_, wr_un, wr_d, wr_o, wr_rd, m_aug, m_asgD, evD_d, evD_o, m_frzn, m_frzc, m_frz1, fz_d, fz_un, fz_io, fz_lk, fz_rd, fz_o, m_sub, m_augS, m_app, ap_o, ap_io, m_ct, ct_o, ct_io, m_isl, is_o, is_io, m_mut, m_mutB, m_mut0, intD_i, m_sl, m_pn, m_ps, rs_d, rs_l, rsR_rd, rsR_o, rsR_io, sl_l, sl_t, arg_n, arg_c, arg_d, arg_l, ar_o, ar_io, ar_lk, ar_rd, put_n, put_d, put_io, m_put, pt_o, pt_io, i_seq, src_l, src_t, src_o, src_n, sr_o, sr_io, sr_lk, i_rng, i_enum, i_zip, i_rev, unl_n, unl_c, unl_1, ul_lk, ob_t, ob_f, wp_n, wp_c, rt_n, rt_c, fl_un, fl_d, m_unpT, tupD_t, unp_n, unp_c, range_1, range_2, ext_l, ext_t, app_1, m_pc, m_par, rl_n, rl_d, rl_o, rl_l, rlR_o, sr_n, sto_d, sto_o, mulE_i, mulE_t, m_andV, m_orV, m_notE, m_listRg, ite_t, ite_f, m_chain, m_fgt, m_fgtE, fgE_nx, fgE_ct, fgE_bk, fgE_rt, fgE_er, fgts_n, fgts_c, m_fgt1, fg_d, fg_o, fg_un, fg_rd, fg_io, fg_lk, m_raise, List.getElem?_cons_zero, List.getElem?_cons_succ, List.set_cons_zero, List.set_cons_succ, Option.map_some, Option.bind_some, if_true, and_self], by simp only [m_vb, bnd_ok, bnd_er, m_vr, m_stuck, m_seq, bS_nx, bS_bk, bS_ct, bS_rt, bS_er, m_if, m_ite, bI_t, bI_f, bI_er, m_and, m_or, m_not, m_bool, evB_b, m_opt, m_optn, m_tru, tru_b, tru_i, tru_n, tru_l, tru_t, m_var, var_d, var_own, var_io, var_lk, var_rd, m_c, st_d, st_o, st_l, oc_l, oc_m, rd_d, rd_o, rd_l, rdR_own, rdR_io, rdR_lk, m_bin, m_un, m_call, m_rdn, m_rdc, m_cons, m_conss, m_tup, m_lst, dts_n, dts_c, o_map, o_bind, add_i, sub_i, mul_i, mod_i, fdiv_i, pow_i, neg_i, iadd_i, abs_i, int_i, int_b, len_l, len_t, add_l, add_t, lt_i, le_i, gt_i, ge_i, eq_i, ne_i, eqF_i, neF_i, tuple_l, tuple_t, list_l, list_t, ix_l, ix_t, m_ret, m_drop, m_nx, m_asg, m_nox, nx_ok, set_d, set_o, setD_, wr_un, wr_d, wr_o, wr_rd, m_aug, m_asgD, evD_d, evD_o, m_frzn, m_frzc, m_frz1, fz_d, fz_un, fz_io, fz_lk, fz_rd, fz_o, m_sub, m_augS, m_app, ap_o, ap_io, m_ct, ct_o, ct_io, m_isl, is_o, is_io, m_mut, m_mutB, m_mut0, intD_i, m_sl, m_pn, m_ps, rs_d, rs_l, rsR_rd, rsR_o, rsR_io, sl_l, sl_t, arg_n, arg_c, arg_d, arg_l, ar_o, ar_io, ar_lk, ar_rd, put_n, put_d, put_io, m_put, pt_o, pt_io, i_seq, src_l, src_t, src_o, src_n, sr_o, sr_io, sr_lk, i_rng, i_enum, i_zip, i_rev, unl_n, unl_c, unl_1, ul_lk, ob_t, ob_f, wp_n, wp_c, rt_n, rt_c, fl_un, fl_d, m_unpT, tupD_t, unp_n, unp_c, range_1, range_2, ext_l, ext_t, app_1, m_pc, m_par, rl_n, rl_d, rl_o, rl_l, rlR_o, sr_n, sto_d, sto_o, mulE_i, mulE_t, m_andV, m_orV, m_notE, m_listRg, ite_t, ite_f, m_chain, m_fgt, m_fgtE, fgE_nx, fgE_ct, fgE_bk, fgE_rt, fgE_er, fgts_n, fgts_c, m_fgt1, fg_d, fg_o, fg_un, fg_rd, fg_io, fg_lk, m_raise, List.getElem?_cons_zero, List.getElem?_cons_succ, List.set_cons_zero, List.set_cons_succ, Option.map_some, Option.bind_some, if_true, and_self, inner t]; rfl, rfl, rfl, rfl⟩) (by rw [List.length_range]; omega)
    simp only [m_vb, bnd_ok, bnd_er, m_vr, m_stuck, m_seq, bS_nx, bS_bk, bS_ct, bS_rt, bS_er, m_if, m_ite, bI_t, bI_f, bI_er, m_and, m_or, m_not, m_bool, evB_b, m_opt, m_optn, m_tru, tru_b, tru_i, tru_n, tru_l, tru_t, m_var, var_d, var_own, var_io, var_lk, var_rd, m_c, st_d, st_o, st_l, oc_l, oc_m, rd_d, rd_o, rd_l, rdR_own, rdR_io, rdR_lk, m_bin, m_un, m_call, m_rdn, m_rdc, m_cons, m_conss, m_tup, m_lst, dts_n, dts_c, o_map, o_bind, add_i, sub_i, mul_i, mod_i, fdiv_i, pow_i, neg_i, iadd_i, abs_i, int_i, int_b, len_l, len_t, add_l, add_t, lt_i, le_i, gt_i, ge_i, eq_i, ne_i, eqF_i, neF_i, tuple_l, tuple_t, list_l, list_t, ix_l, ix_t, m_ret, m_drop, m_nx, m_asg, m_nox, nx_ok, set_d, set_o, setD_, wr_un, wr_d, wr_o, wr_rd, m_aug, m_asgD, evD_d, evD_o, m_frzn, m_frzc, m_frz1, fz_d, fz_un, fz_io, fz_lk, fz_rd, fz_o, m_sub, m_augS, m_app, ap_o, ap_io, m_ct, ct_o, ct_io, m_isl, is_o, is_io, m_mut, m_mutB, m_mut0, intD_i, m_sl, m_pn, m_ps, rs_d, rs_l, rsR_rd, rsR_o, rsR_io, sl_l, sl_t, arg_n, arg_c, arg_d, arg_l, ar_o, ar_io, ar_lk, ar_rd, put_n, put_d, put_io, m_put, pt_o, pt_io, i_seq, src_l, src_t, src_o, src_n, sr_o, sr_io, sr_lk, i_rng, i_enum, i_zip, i_rev, unl_n, unl_c, unl_1, ul_lk, ob_t, ob_f, wp_n, wp_c, rt_n, rt_c, fl_un, fl_d, m_unpT, tupD_t, unp_n, unp_c, range_1, range_2, ext_l, ext_t, app_1, m_pc, m_par, rl_n, rl_d, rl_o, rl_l, rlR_o, sr_n, sto_d, sto_o, mulE_i, mulE_t, m_andV, m_orV, m_notE, m_listRg, ite_t, ite_f, m_chain, m_fgt, m_fgtE, fgE_nx, fgE_ct, fgE_bk, fgE_rt, fgE_er, fgts_n, fgts_c, m_fgt1, fg_d, fg_o, fg_un, fg_rd, fg_io, fg_lk, m_raise, List.getElem?_cons_zero, List.getElem?_cons_succ, List.set_cons_zero, List.set_cons_succ, Option.map_some, Option.bind_some, if_true, and_self, range_1, hn1, Int.toNat_natCast, rngD_map]; rfl
  refine run_d (st := [.d (.tuple ys), .d o, .d r, .un, .un]) (s := [.d (.tuple ys), .d o, .d r, .un, .un]) ?_
  unfold g_rolled
  simp only [m_vb, bnd_ok, bnd_er, m_vr, m_stuck, m_seq, bS_nx, bS_bk, bS_ct, bS_rt, bS_er, m_if, m_ite, bI_t, bI_f, bI_er, m_and, m_or, m_not, m_bool, evB_b, m_opt, m_optn, m_tru, tru_b, tru_i, tru_n, tru_l, tru_t, m_var, var_d, var_own, var_io, var_lk, var_rd, m_c, st_d, st_o, st_l, oc_l, oc_m, rd_d, rd_o, rd_l, rdR_own, rdR_io, rdR_lk, m_bin, m_un, m_call, m_rdn, m_rdc, m_cons, m_conss, m_tup, m_lst, dts_n, dts_c, o_map, o_bind, add_i, sub_i, mul_i, mod_i, fdiv_i, pow_i, neg_i, iadd_i, abs_i, int_i, int_b, len_l, len_t, add_l, add_t, lt_i, le_i, gt_i, ge_i, eq_i, ne_i, eqF_i, neF_i, tuple_l, tuple_t, list_l, list_t, ix_l, ix_t, m_ret, m_drop, m_nx, m_asg, m_nox, nx_ok, set_d, set_o, setD_, wr_un, wr_d, wr_o, wr_rd, m_aug, m_asgD, evD_d, evD_o, m_frzn, m_frzc, m_frz1, fz_d, fz_un, fz_io, fz_lk, fz_rd, fz_o, m_sub, m_augS, m_app, ap_o, ap_io, m_ct, ct_o, ct_io, m_isl, is_o, is_io, m_mut, m_mutB, m_mut0, intD_i, m_sl, m_pn, m_ps, rs_d, rs_l, rsR_rd, rsR_o, rsR_io, sl_l, sl_t, arg_n, arg_c, arg_d, arg_l, ar_o, ar_io, ar_lk, ar_rd, put_n, put_d, put_io, m_put, pt_o, pt_io, i_seq, src_l, src_t, src_o, src_n, sr_o, sr_io, sr_lk, i_rng, i_enum, i_zip, i_rev, unl_n, unl_c, unl_1, ul_lk, ob_t, ob_f, wp_n, wp_c, rt_n, rt_c, fl_un, fl_d, m_unpT, tupD_t, unp_n, unp_c, range_1, range_2, ext_l, ext_t, app_1, m_pc, m_par, rl_n, rl_d, rl_o, rl_l, rlR_o, sr_n, sto_d, sto_o, mulE_i, mulE_t, m_andV, m_orV, m_notE, m_listRg, ite_t, ite_f, m_chain, m_fgt, m_fgtE, fgE_nx, fgE_ct, fgE_bk, fgE_rt, fgE_er, fgts_n, fgts_c, m_fgt1, fg_d, fg_o, fg_un, fg_rd, fg_io, fg_lk, m_raise, List.getElem?_cons_zero, List.getElem?_cons_succ, List.set_cons_zero, List.set_cons_succ, Option.map_some, Option.bind_some, if_true, and_self, outer]
/-! pulled -/
def zipT (ord : List Nat) (rs : List Int) : Nat → List Int → List (Int × List Nat)
  | _, [] => []
  | t, k :: ks => (k, laneP ord rs t) :: zipT ord rs (t + 1) ks
def pairD (p : Int × List Nat) : Da := .tuple [.int p.1, tupN p.2]
theorem zipT_eq (ord : List Nat) (rs : List Int) : ∀ (ks : List Int) (t : Nat), zipD (ks.map PyData.int) ((List.range' t ks.length).map fun t => tupN (laneP ord rs t)) = (zipT ord rs t ks).map pairD
  | [], t => rfl
  | k :: ks, t => by
    rw [List.length_cons, List.range'_succ, List.map_cons, List.map_cons]
    show _ :: zipD _ _ = _ :: _
    rw [zipT_eq ord rs ks (t + 1)]; rfl
def pullF (acc : List Nat) (p : Int × List Nat) : List Nat := acc ++ if p.1 = 1 then p.2.reverse else p.2
theorem pull_fold (ord : List Nat) (rs : List Int) : ∀ (ks : List Int) (t : Nat) (acc : List Nat), (∀ k ∈ ks, k = 0 ∨ k = 1) → (zipT ord rs t ks).foldl pullF acc = acc ++ passP ord rs t ks
  | [], t, acc, _ => by show acc = acc ++ []; rw [List.append_nil]
  | k :: ks, t, acc, h => by
    show (zipT ord rs (t + 1) ks).foldl pullF (pullF acc (k, laneP ord rs t)) = acc ++ ((if k = 0 then laneP ord rs t else (laneP ord rs t).reverse) ++ passP ord rs (t + 1) ks)
    rw [pull_fold ord rs ks (t + 1) _ fun x hx => h x (List.mem_cons_of_mem _ hx), ← List.append_assoc]
    unfold pullF
    rcases h k List.mem_cons_self with rfl | rfl <;> rfl
theorem zipT_len (ord : List Nat) (rs : List Int) : ∀ (ks : List Int) (t : Nat), ∀ p ∈ zipT ord rs t ks, p.2.length ≤ ord.length
  | [], t, p, h => by cases h
  | k :: ks, t, p, h => by
    rcases List.mem_cons.mp h with rfl | h
    · exact List.length_filter_le _ _
    · exact zipT_len ord rs ks (t + 1) p h
theorem zipT_length (ord : List Nat) (rs : List Int) : ∀ (ks : List Int) (t : Nat), (zipT ord rs t ks).length = ks.length
  | [], t => rfl
  | k :: ks, t => by show (zipT ord rs (t + 1) ks).length + 1 = _; rw [zipT_length ord rs ks (t + 1)]; rfl
theorem pulled_ok {ks : List Int} {ord : List Nat} {rs : List Int} (hk : ∀ k ∈ ks, k = 0 ∨ k = 1) (hy : ks.length ≤ 1000) (hl : ord.length ≤ 10000) :
    F_pulled [.d (tupI ks), .d (.tuple (lanesD ord rs ks.length))] = .ok (.d (tupN (passP ord rs 0 ks)), [.d (tupI ks), .d (.tuple (lanesD ord rs ks.length))]) := by
  have step : ∀ (x : Int × List Nat) (xs : List (Int × List Nat)) (a : List Nat), ((∀ p ∈ x :: xs, p.2.length ≤ 10000) ∧ a.length + 10000 * (x :: xs).length ≤ 16000000) →
      ∃ s1 c, vUnpT [vSetD 3, vSetD 4] (pairD x) [.d (tupI ks), .d (.tuple (lanesD ord rs ks.length)), .own (.l (a.map intN)), .un, .un] = .ok ((), s1) ∧
        vFgtE [3, 4] (vFrz [3, 4] (vDrop (vMutB extendD (vVar 2) (vCons (vIte (VL.vBool (vBin eqF (vVar 3) (vC (.int 1)))) (vUn revD (vVar 4)) (vVar 4)) (vr []))))) s1 = .ok (c, [.d (tupI ks), .d (.tuple (lanesD ord rs ks.length)), .own (.l ((pullF a x).map intN)), .un, .un]) ∧ (c = .nx ∨ c = .ct) ∧
        ((∀ p ∈ xs, p.2.length ≤ 10000) ∧ (pullF a x).length + 10000 * xs.length ≤ 16000000) := by
    rintro ⟨k, l⟩ xs a ⟨h1, h2⟩
    have hl : l.length ≤ 10000 := h1 _ List.mem_cons_self
    rw [List.length_cons] at h2
    have c1 : (a.map intN).length + (l.map intN).length ≤ 16777216 := by rw [List.length_map, List.length_map]; omega
    have c2 : (a.map intN).length + (l.map intN).reverse.length ≤ 16777216 := by rw [List.length_reverse]; exact c1
    refine ⟨[.d (tupI ks), .d (.tuple (lanesD ord rs ks.length)), .own (.l (a.map intN)), .d (.int k), .d (tupN l)], .nx, ?_, ?_, .inl rfl, fun p hp => h1 p (List.mem_cons_of_mem _ hp), ?_⟩
    · unfold pairD; simp only [m_vb, bnd_ok, bnd_er, m_vr, m_stuck, m_seq, bS_nx, bS_bk, bS_ct, bS_rt, bS_er, m_if, m_ite, bI_t, bI_f, bI_er, m_and, m_or, m_not, m_bool, evB_b, m_opt, m_optn, m_tru, tru_b, tru_i, tru_n, tru_l, tru_t, m_var, var_d, var_own, var_io, var_lk, var_rd, m_c, st_d, st_o, st_l, oc_l, oc_m, rd_d, rd_o, rd_l, rdR_own, rdR_io, rdR_lk, m_bin, m_un, m_call, m_rdn, m_rdc, m_cons, m_conss, m_tup, m_lst, dts_n, dts_c, o_map, o_bind, add_i, sub_i, mul_i, mod_i, fdiv_i, pow_i, neg_i, iadd_i, abs_i, int_i, int_b, len_l, len_t, add_l, add_t, lt_i, le_i, gt_i, ge_i, eq_i, ne_i, eqF_i, neF_i, tuple_l, tuple_t, list_l, list_t, ix_l, ix_t, m_ret, m_drop, m_nx, m_asg, m_nox, nx_ok, set_d, set_o, setD_, wr_un, wr_d, wr_o, wr_rd, m_aug, m_asgD, evD_d, evD_o, m_frzn, m_frzc, m_frz1, fz_d, fz_un, fz_io, fz_lk, fz_rd, fz_o, m_sub, m_augS, m_app, ap_o, ap_io, m_ct, ct_o, ct_io, m_isl, is_o, is_io, m_mut, m_mutB, m_mut0, intD_i, m_sl, m_pn, m_ps, rs_d, rs_l, rsR_rd, rsR_o, rsR_io, sl_l, sl_t, arg_n, arg_c, arg_d, arg_l, ar_o, ar_io, ar_lk, ar_rd, put_n, put_d, put_io, m_put, pt_o, pt_io, i_seq, src_l, src_t, src_o, src_n, sr_o, sr_io, sr_lk, i_rng, i_enum, i_zip, i_rev, unl_n, unl_c, unl_1, ul_lk, ob_t, ob_f, wp_n, wp_c, rt_n, rt_c, fl_un, fl_d, m_unpT, tupD_t, unp_n, unp_c, range_1, range_2, ext_l, ext_t, app_1, m_pc, m_par, rl_n, rl_d, rl_o, rl_l, rlR_o, sr_n, sto_d, sto_o, mulE_i, mulE_t, m_andV, m_orV, m_notE, m_listRg, ite_t, ite_f, m_chain, m_fgt, m_fgtE, fgE_nx, fgE_ct, fgE_bk, fgE_rt, fgE_er, fgts_n, fgts_c, m_fgt1, fg_d, fg_o, fg_un, fg_rd, fg_io, fg_lk, m_raise, List.getElem?_cons_zero, List.getElem?_cons_succ, List.set_cons_zero, List.set_cons_succ, Option.map_some, Option.bind_some, if_true, and_self]
    · unfold pullF tupN
      by_cases hk : k = 1
      · simp only [m_vb, bnd_ok, bnd_er, m_vr, m_stuck, m_seq, bS_nx, bS_bk, bS_ct, bS_rt, bS_er, m_if, m_ite, bI_t, bI_f, bI_er, m_and, m_or, m_not, m_bool, evB_b, m_opt, m_optn, m_tru, tru_b, tru_i, tru_n, tru_l, tru_t, m_var, var_d, var_own, var_io, var_lk, var_rd, m_c, st_d, st_o, st_l, oc_l, oc_m, rd_d, rd_o, rd_l, rdR_own, rdR_io, rdR_lk, m_bin, m_un, m_call, m_rdn, m_rdc, m_cons, m_conss, m_tup, m_lst, dts_n, dts_c, o_map, o_bind, add_i, sub_i, mul_i, mod_i, fdiv_i, pow_i, neg_i, iadd_i, abs_i, int_i, int_b, len_l, len_t, add_l, add_t, lt_i, le_i, gt_i, ge_i, eq_i, ne_i, eqF_i, neF_i, tuple_l, tuple_t, list_l, list_t, ix_l, ix_t, m_ret, m_drop, m_nx, m_asg, m_nox, nx_ok, set_d, set_o, setD_, wr_un, wr_d, wr_o, wr_rd, m_aug, m_asgD, evD_d, evD_o, m_frzn, m_frzc, m_frz1, fz_d, fz_un, fz_io, fz_lk, fz_rd, fz_o, m_sub, m_augS, m_app, ap_o, ap_io, m_ct, ct_o, ct_io, m_isl, is_o, is_io, m_mut, m_mutB, m_mut0, intD_i, m_sl, m_pn, m_ps, rs_d, rs_l, rsR_rd, rsR_o, rsR_io, sl_l, sl_t, arg_n, arg_c, arg_d, arg_l, ar_o, ar_io, ar_lk, ar_rd, put_n, put_d, put_io, m_put, pt_o, pt_io, i_seq, src_l, src_t, src_o, src_n, sr_o, sr_io, sr_lk, i_rng, i_enum, i_zip, i_rev, unl_n, unl_c, unl_1, ul_lk, ob_t, ob_f, wp_n, wp_c, rt_n, rt_c, fl_un, fl_d, m_unpT, tupD_t, unp_n, unp_c, range_1, range_2, ext_l, ext_t, app_1, m_pc, m_par, rl_n, rl_d, rl_o, rl_l, rlR_o, sr_n, sto_d, sto_o, mulE_i, mulE_t, m_andV, m_orV, m_notE, m_listRg, ite_t, ite_f, m_chain, m_fgt, m_fgtE, fgE_nx, fgE_ct, fgE_bk, fgE_rt, fgE_er, fgts_n, fgts_c, m_fgt1, fg_d, fg_o, fg_un, fg_rd, fg_io, fg_lk, m_raise, List.getElem?_cons_zero, List.getElem?_cons_succ, List.set_cons_zero, List.set_cons_succ, Option.map_some, Option.bind_some, if_true, and_self, hk, decide_true, revD, ext_t, c2, List.map_append, List.map_reverse]
      · simp only [m_vb, bnd_ok, bnd_er, m_vr, m_stuck, m_seq, bS_nx, bS_bk, bS_ct, bS_rt, bS_er, m_if, m_ite, bI_t, bI_f, bI_er, m_and, m_or, m_not, m_bool, evB_b, m_opt, m_optn, m_tru, tru_b, tru_i, tru_n, tru_l, tru_t, m_var, var_d, var_own, var_io, var_lk, var_rd, m_c, st_d, st_o, st_l, oc_l, oc_m, rd_d, rd_o, rd_l, rdR_own, rdR_io, rdR_lk, m_bin, m_un, m_call, m_rdn, m_rdc, m_cons, m_conss, m_tup, m_lst, dts_n, dts_c, o_map, o_bind, add_i, sub_i, mul_i, mod_i, fdiv_i, pow_i, neg_i, iadd_i, abs_i, int_i, int_b, len_l, len_t, add_l, add_t, lt_i, le_i, gt_i, ge_i, eq_i, ne_i, eqF_i, neF_i, tuple_l, tuple_t, list_l, list_t, ix_l, ix_t, m_ret, m_drop, m_nx, m_asg, m_nox, nx_ok, set_d, set_o, setD_, wr_un, wr_d, wr_o, wr_rd, m_aug, m_asgD, evD_d, evD_o, m_frzn, m_frzc, m_frz1, fz_d, fz_un, fz_io, fz_lk, fz_rd, fz_o, m_sub, m_augS, m_app, ap_o, ap_io, m_ct, ct_o, ct_io, m_isl, is_o, is_io, m_mut, m_mutB, m_mut0, intD_i, m_sl, m_pn, m_ps, rs_d, rs_l, rsR_rd, rsR_o, rsR_io, sl_l, sl_t, arg_n, arg_c, arg_d, arg_l, ar_o, ar_io, ar_lk, ar_rd, put_n, put_d, put_io, m_put, pt_o, pt_io, i_seq, src_l, src_t, src_o, src_n, sr_o, sr_io, sr_lk, i_rng, i_enum, i_zip, i_rev, unl_n, unl_c, unl_1, ul_lk, ob_t, ob_f, wp_n, wp_c, rt_n, rt_c, fl_un, fl_d, m_unpT, tupD_t, unp_n, unp_c, range_1, range_2, ext_l, ext_t, app_1, m_pc, m_par, rl_n, rl_d, rl_o, rl_l, rlR_o, sr_n, sto_d, sto_o, mulE_i, mulE_t, m_andV, m_orV, m_notE, m_listRg, ite_t, ite_f, m_chain, m_fgt, m_fgtE, fgE_nx, fgE_ct, fgE_bk, fgE_rt, fgE_er, fgts_n, fgts_c, m_fgt1, fg_d, fg_o, fg_un, fg_rd, fg_io, fg_lk, m_raise, List.getElem?_cons_zero, List.getElem?_cons_succ, List.set_cons_zero, List.set_cons_succ, Option.map_some, Option.bind_some, if_true, and_self, hk, decide_false, ext_t, c1, List.map_append, if_false]
    · unfold pullF
      rw [List.length_append]
      dsimp only
      split
      · rw [List.length_reverse]; omega
      · omega
  have loop : pulled_s1 [.d (tupI ks), .d (.tuple (lanesD ord rs ks.length)), .own (.l []), .un, .un] = .ok (.nx, [.d (tupI ks), .d (.tuple (lanesD ord rs ks.length)), .own (.l ((passP ord rs 0 ks).map intN)), .un, .un]) := by
    have e := pull_fold ord rs ks 0 [] hk
    rw [List.nil_append] at e
    rw [← e]
    unfold pulled_s1
    refine for_fold (enc := pairD) (L := []) (St := fun (a : List Nat) => [.d (tupI ks), .d (.tuple (lanesD ord rs ks.length)), .own (.l (a.map intN)), .un, .un]) (f := pullF) (fun xs a => (∀ p ∈ xs, p.2.length ≤ 10000) ∧ a.length + 10000 * xs.length ≤ 16000000) step ?_ ⟨fun p hp => Nat.le_trans (zipT_len ord rs ks 0 p hp) hl, by rw [zipT_length]; simp; omega⟩
    have z := zipT_eq ord rs ks 0
    rw [← List.range_eq_range'] at z
    unfold tupI lanesD
    simp only [m_vb, bnd_ok, bnd_er, m_vr, m_stuck, m_seq, bS_nx, bS_bk, bS_ct, bS_rt, bS_er, m_if, m_ite, bI_t, bI_f, bI_er, m_and, m_or, m_not, m_bool, evB_b, m_opt, m_optn, m_tru, tru_b, tru_i, tru_n, tru_l, tru_t, m_var, var_d, var_own, var_io, var_lk, var_rd, m_c, st_d, st_o, st_l, oc_l, oc_m, rd_d, rd_o, rd_l, rdR_own, rdR_io, rdR_lk, m_bin, m_un, m_call, m_rdn, m_rdc, m_cons, m_conss, m_tup, m_lst, dts_n, dts_c, o_map, o_bind, add_i, sub_i, mul_i, mod_i, fdiv_i, pow_i, neg_i, iadd_i, abs_i, int_i, int_b, len_l, len_t, add_l, add_t, lt_i, le_i, gt_i, ge_i, eq_i, ne_i, eqF_i, neF_i, tuple_l, tuple_t, list_l, list_t, ix_l, ix_t, m_ret, m_drop, m_nx, m_asg, m_nox, nx_ok, set_d, set_o, setD_, wr_un, wr_d, wr_o, wr_rd, m_aug, m_asgD, evD_d, evD_o, m_frzn, m_frzc, m_frz1, fz_d, fz_un, fz_io, fz_lk, fz_rd, fz_o, m_sub, m_augS, m_app, ap_o, ap_io, m_ct, ct_o, ct_io, m_isl, is_o, is_io, m_mut, m_mutB, m_mut0, intD_i, m_sl, m_pn, m_ps, rs_d, rs_l, rsR_rd, rsR_o, rsR_io, sl_l, sl_t, arg_n, arg_c, arg_d, arg_l, ar_o, ar_io, ar_lk, ar_rd, put_n, put_d, put_io, m_put, pt_o, pt_io, i_seq, src_l, src_t, src_o, src_n, sr_o, sr_io, sr_lk, i_rng, i_enum, i_zip, i_rev, unl_n, unl_c, unl_1, ul_lk, ob_t, ob_f, wp_n, wp_c, rt_n, rt_c, fl_un, fl_d, m_unpT, tupD_t, unp_n, unp_c, range_1, range_2, ext_l, ext_t, app_1, m_pc, m_par, rl_n, rl_d, rl_o, rl_l, rlR_o, sr_n, sto_d, sto_o, mulE_i, mulE_t, m_andV, m_orV, m_notE, m_listRg, ite_t, ite_f, m_chain, m_fgt, m_fgtE, fgE_nx, fgE_ct, fgE_bk, fgE_rt, fgE_er, fgts_n, fgts_c, m_fgt1, fg_d, fg_o, fg_un, fg_rd, fg_io, fg_lk, m_raise, List.getElem?_cons_zero, List.getElem?_cons_succ, List.set_cons_zero, List.set_cons_succ, Option.map_some, Option.bind_some, if_true, and_self, z, List.append_nil]; rfl
  refine run_d (st := [.d (tupI ks), .d (.tuple (lanesD ord rs ks.length)), .un, .un, .un]) (s := [.d (tupI ks), .d (.tuple (lanesD ord rs ks.length)), .own (.l ((passP ord rs 0 ks).map intN)), .un, .un]) ?_
  unfold g_pulled
  refine seq_then (s1 := [.d (tupI ks), .d (.tuple (lanesD ord rs ks.length)), .own (.l []), .un, .un]) ?_ (seq_then loop ?_)
  · simp only [m_vb, bnd_ok, bnd_er, m_vr, m_stuck, m_seq, bS_nx, bS_bk, bS_ct, bS_rt, bS_er, m_if, m_ite, bI_t, bI_f, bI_er, m_and, m_or, m_not, m_bool, evB_b, m_opt, m_optn, m_tru, tru_b, tru_i, tru_n, tru_l, tru_t, m_var, var_d, var_own, var_io, var_lk, var_rd, m_c, st_d, st_o, st_l, oc_l, oc_m, rd_d, rd_o, rd_l, rdR_own, rdR_io, rdR_lk, m_bin, m_un, m_call, m_rdn, m_rdc, m_cons, m_conss, m_tup, m_lst, dts_n, dts_c, o_map, o_bind, add_i, sub_i, mul_i, mod_i, fdiv_i, pow_i, neg_i, iadd_i, abs_i, int_i, int_b, len_l, len_t, add_l, add_t, lt_i, le_i, gt_i, ge_i, eq_i, ne_i, eqF_i, neF_i, tuple_l, tuple_t, list_l, list_t, ix_l, ix_t, m_ret, m_drop, m_nx, m_asg, m_nox, nx_ok, set_d, set_o, setD_, wr_un, wr_d, wr_o, wr_rd, m_aug, m_asgD, evD_d, evD_o, m_frzn, m_frzc, m_frz1, fz_d, fz_un, fz_io, fz_lk, fz_rd, fz_o, m_sub, m_augS, m_app, ap_o, ap_io, m_ct, ct_o, ct_io, m_isl, is_o, is_io, m_mut, m_mutB, m_mut0, intD_i, m_sl, m_pn, m_ps, rs_d, rs_l, rsR_rd, rsR_o, rsR_io, sl_l, sl_t, arg_n, arg_c, arg_d, arg_l, ar_o, ar_io, ar_lk, ar_rd, put_n, put_d, put_io, m_put, pt_o, pt_io, i_seq, src_l, src_t, src_o, src_n, sr_o, sr_io, sr_lk, i_rng, i_enum, i_zip, i_rev, unl_n, unl_c, unl_1, ul_lk, ob_t, ob_f, wp_n, wp_c, rt_n, rt_c, fl_un, fl_d, m_unpT, tupD_t, unp_n, unp_c, range_1, range_2, ext_l, ext_t, app_1, m_pc, m_par, rl_n, rl_d, rl_o, rl_l, rlR_o, sr_n, sto_d, sto_o, mulE_i, mulE_t, m_andV, m_orV, m_notE, m_listRg, ite_t, ite_f, m_chain, m_fgt, m_fgtE, fgE_nx, fgE_ct, fgE_bk, fgE_rt, fgE_er, fgts_n, fgts_c, m_fgt1, fg_d, fg_o, fg_un, fg_rd, fg_io, fg_lk, m_raise, List.getElem?_cons_zero, List.getElem?_cons_succ, List.set_cons_zero, List.set_cons_succ, Option.map_some, Option.bind_some, if_true, and_self, List.length_nil, Nat.zero_le]
  · simp only [m_vb, bnd_ok, bnd_er, m_vr, m_stuck, m_seq, bS_nx, bS_bk, bS_ct, bS_rt, bS_er, m_if, m_ite, bI_t, bI_f, bI_er, m_and, m_or, m_not, m_bool, evB_b, m_opt, m_optn, m_tru, tru_b, tru_i, tru_n, tru_l, tru_t, m_var, var_d, var_own, var_io, var_lk, var_rd, m_c, st_d, st_o, st_l, oc_l, oc_m, rd_d, rd_o, rd_l, rdR_own, rdR_io, rdR_lk, m_bin, m_un, m_call, m_rdn, m_rdc, m_cons, m_conss, m_tup, m_lst, dts_n, dts_c, o_map, o_bind, add_i, sub_i, mul_i, mod_i, fdiv_i, pow_i, neg_i, iadd_i, abs_i, int_i, int_b, len_l, len_t, add_l, add_t, lt_i, le_i, gt_i, ge_i, eq_i, ne_i, eqF_i, neF_i, tuple_l, tuple_t, list_l, list_t, ix_l, ix_t, m_ret, m_drop, m_nx, m_asg, m_nox, nx_ok, set_d, set_o, setD_, wr_un, wr_d, wr_o, wr_rd, m_aug, m_asgD, evD_d, evD_o, m_frzn, m_frzc, m_frz1, fz_d, fz_un, fz_io, fz_lk, fz_rd, fz_o, m_sub, m_augS, m_app, ap_o, ap_io, m_ct, ct_o, ct_io, m_isl, is_o, is_io, m_mut, m_mutB, m_mut0, intD_i, m_sl, m_pn, m_ps, rs_d, rs_l, rsR_rd, rsR_o, rsR_io, sl_l, sl_t, arg_n, arg_c, arg_d, arg_l, ar_o, ar_io, ar_lk, ar_rd, put_n, put_d, put_io, m_put, pt_o, pt_io, i_seq, src_l, src_t, src_o, src_n, sr_o, sr_io, sr_lk, i_rng, i_enum, i_zip, i_rev, unl_n, unl_c, unl_1, ul_lk, ob_t, ob_f, wp_n, wp_c, rt_n, rt_c, fl_un, fl_d, m_unpT, tupD_t, unp_n, unp_c, range_1, range_2, ext_l, ext_t, app_1, m_pc, m_par, rl_n, rl_d, rl_o, rl_l, rlR_o, sr_n, sto_d, sto_o, mulE_i, mulE_t, m_andV, m_orV, m_notE, m_listRg, ite_t, ite_f, m_chain, m_fgt, m_fgtE, fgE_nx, fgE_ct, fgE_bk, fgE_rt, fgE_er, fgts_n, fgts_c, m_fgt1, fg_d, fg_o, fg_un, fg_rd, fg_io, fg_lk, m_raise, List.getElem?_cons_zero, List.getElem?_cons_succ, List.set_cons_zero, List.set_cons_succ, Option.map_some, Option.bind_some, if_true, and_self]; rfl
end Yk05
set_option Elab.async false
set_option linter.all false
set_option maxRecDepth 100000
set_option maxHeartbeats 0
namespace Yk05
open PySem PySem.Spec PyProof.Rows L2 VL LB
def withB (m : Int) : Da → Bool
  | .int i => decide (0 ≤ i) && decide (i ≤ m)
  | _ => false
theorem within_no {x : Da} {m : Int} (h : isI x = false) : g_is_within [.d x, .d (.int 0), .d (.int m)] = .ok (.rt (.d (.bool false)), [.d x, .d (.int 0), .d (.int m)]) := by
  unfold g_is_within
  simp only [m_vb, bnd_ok, bnd_er, m_vr, m_stuck, m_seq, bS_nx, bS_bk, bS_ct, bS_rt, bS_er, m_if, m_ite, bI_t, bI_f, bI_er, m_and, m_or, m_not, m_bool, evB_b, m_opt, m_optn, m_tru, tru_b, tru_i, tru_n, tru_l, tru_t, m_var, var_d, var_own, var_io, var_lk, var_rd, m_c, st_d, st_o, st_l, oc_l, oc_m, rd_d, rd_o, rd_l, rdR_own, rdR_io, rdR_lk, m_bin, m_un, m_call, m_rdn, m_rdc, m_cons, m_conss, m_tup, m_lst, dts_n, dts_c, o_map, o_bind, add_i, sub_i, mul_i, mod_i, fdiv_i, pow_i, neg_i, iadd_i, abs_i, int_i, int_b, len_l, len_t, add_l, add_t, lt_i, le_i, gt_i, ge_i, eq_i, ne_i, eqF_i, neF_i, tuple_l, tuple_t, list_l, list_t, ix_l, ix_t, m_ret, m_drop, m_nx, m_asg, m_nox, nx_ok, set_d, set_o, setD_, wr_un, wr_d, wr_o, wr_rd, m_aug, m_asgD, evD_d, evD_o, m_frzn, m_frzc, m_frz1, fz_d, fz_un, fz_io, fz_lk, fz_rd, fz_o, m_sub, m_augS, m_app, ap_o, ap_io, m_ct, ct_o, ct_io, m_isl, is_o, is_io, m_mut, m_mutB, m_mut0, intD_i, m_sl, m_pn, m_ps, rs_d, rs_l, rsR_rd, rsR_o, rsR_io, sl_l, sl_t, arg_n, arg_c, arg_d, arg_l, ar_o, ar_io, ar_lk, ar_rd, put_n, put_d, put_io, m_put, pt_o, pt_io, i_seq, src_l, src_t, src_o, src_n, sr_o, sr_io, sr_lk, i_rng, i_enum, i_zip, i_rev, unl_n, unl_c, unl_1, ul_lk, ob_t, ob_f, wp_n, wp_c, rt_n, rt_c, fl_un, fl_d, m_unpT, tupD_t, unp_n, unp_c, range_1, range_2, ext_l, ext_t, app_1, m_pc, m_par, rl_n, rl_d, rl_o, rl_l, rlR_o, sr_n, sto_d, sto_o, mulE_i, mulE_t, m_andV, m_orV, m_notE, m_listRg, ite_t, ite_f, m_chain, m_fgt, m_fgtE, fgE_nx, fgE_ct, fgE_bk, fgE_rt, fgE_er, fgts_n, fgts_c, m_fgt1, fg_d, fg_o, fg_un, fg_rd, fg_io, fg_lk, m_raise, List.getElem?_cons_zero, List.getElem?_cons_succ, List.set_cons_zero, List.set_cons_succ, Option.map_some, Option.bind_some, if_true, and_self, m_callF, isint_at, h]
  all_goals rfl
theorem within_int {i m : Int} : g_is_within [.d (.int i), .d (.int 0), .d (.int m)] = .ok (.rt (.d (.bool (decide (0 ≤ i) && decide (i ≤ m)))), [.d (.int i), .d (.int 0), .d (.int m)]) := by
  unfold g_is_within
  by_cases h : 0 ≤ i
  · simp only [m_vb, bnd_ok, bnd_er, m_vr, m_stuck, m_seq, bS_nx, bS_bk, bS_ct, bS_rt, bS_er, m_if, m_ite, bI_t, bI_f, bI_er, m_and, m_or, m_not, m_bool, evB_b, m_opt, m_optn, m_tru, tru_b, tru_i, tru_n, tru_l, tru_t, m_var, var_d, var_own, var_io, var_lk, var_rd, m_c, st_d, st_o, st_l, oc_l, oc_m, rd_d, rd_o, rd_l, rdR_own, rdR_io, rdR_lk, m_bin, m_un, m_call, m_rdn, m_rdc, m_cons, m_conss, m_tup, m_lst, dts_n, dts_c, o_map, o_bind, add_i, sub_i, mul_i, mod_i, fdiv_i, pow_i, neg_i, iadd_i, abs_i, int_i, int_b, len_l, len_t, add_l, add_t, lt_i, le_i, gt_i, ge_i, eq_i, ne_i, eqF_i, neF_i, tuple_l, tuple_t, list_l, list_t, ix_l, ix_t, m_ret, m_drop, m_nx, m_asg, m_nox, nx_ok, set_d, set_o, setD_, wr_un, wr_d, wr_o, wr_rd, m_aug, m_asgD, evD_d, evD_o, m_frzn, m_frzc, m_frz1, fz_d, fz_un, fz_io, fz_lk, fz_rd, fz_o, m_sub, m_augS, m_app, ap_o, ap_io, m_ct, ct_o, ct_io, m_isl, is_o, is_io, m_mut, m_mutB, m_mut0, intD_i, m_sl, m_pn, m_ps, rs_d, rs_l, rsR_rd, rsR_o, rsR_io, sl_l, sl_t, arg_n, arg_c, arg_d, arg_l, ar_o, ar_io, ar_lk, ar_rd, put_n, put_d, put_io, m_put, pt_o, pt_io, i_seq, src_l, src_t, src_o, src_n, sr_o, sr_io, sr_lk, i_rng, i_enum, i_zip, i_rev, unl_n, unl_c, unl_1, ul_lk, ob_t, ob_f, wp_n, wp_c, rt_n, rt_c, fl_un, fl_d, m_unpT, tupD_t, unp_n, unp_c, range_1, range_2, ext_l, ext_t, app_1, m_pc, m_par, rl_n, rl_d, rl_o, rl_l, rlR_o, sr_n, sto_d, sto_o, mulE_i, mulE_t, m_andV, m_orV, m_notE, m_listRg, ite_t, ite_f, m_chain, m_fgt, m_fgtE, fgE_nx, fgE_ct, fgE_bk, fgE_rt, fgE_er, fgts_n, fgts_c, m_fgt1, fg_d, fg_o, fg_un, fg_rd, fg_io, fg_lk, m_raise, List.getElem?_cons_zero, List.getElem?_cons_succ, List.set_cons_zero, List.set_cons_succ, Option.map_some, Option.bind_some, if_true, and_self, m_callF, isint_at, isI, h, decide_true, Bool.true_and]
  · simp only [m_vb, bnd_ok, bnd_er, m_vr, m_stuck, m_seq, bS_nx, bS_bk, bS_ct, bS_rt, bS_er, m_if, m_ite, bI_t, bI_f, bI_er, m_and, m_or, m_not, m_bool, evB_b, m_opt, m_optn, m_tru, tru_b, tru_i, tru_n, tru_l, tru_t, m_var, var_d, var_own, var_io, var_lk, var_rd, m_c, st_d, st_o, st_l, oc_l, oc_m, rd_d, rd_o, rd_l, rdR_own, rdR_io, rdR_lk, m_bin, m_un, m_call, m_rdn, m_rdc, m_cons, m_conss, m_tup, m_lst, dts_n, dts_c, o_map, o_bind, add_i, sub_i, mul_i, mod_i, fdiv_i, pow_i, neg_i, iadd_i, abs_i, int_i, int_b, len_l, len_t, add_l, add_t, lt_i, le_i, gt_i, ge_i, eq_i, ne_i, eqF_i, neF_i, tuple_l, tuple_t, list_l, list_t, ix_l, ix_t, m_ret, m_drop, m_nx, m_asg, m_nox, nx_ok, set_d, set_o, setD_, wr_un, wr_d, wr_o, wr_rd, m_aug, m_asgD, evD_d, evD_o, m_frzn, m_frzc, m_frz1, fz_d, fz_un, fz_io, fz_lk, fz_rd, fz_o, m_sub, m_augS, m_app, ap_o, ap_io, m_ct, ct_o, ct_io, m_isl, is_o, is_io, m_mut, m_mutB, m_mut0, intD_i, m_sl, m_pn, m_ps, rs_d, rs_l, rsR_rd, rsR_o, rsR_io, sl_l, sl_t, arg_n, arg_c, arg_d, arg_l, ar_o, ar_io, ar_lk, ar_rd, put_n, put_d, put_io, m_put, pt_o, pt_io, i_seq, src_l, src_t, src_o, src_n, sr_o, sr_io, sr_lk, i_rng, i_enum, i_zip, i_rev, unl_n, unl_c, unl_1, ul_lk, ob_t, ob_f, wp_n, wp_c, rt_n, rt_c, fl_un, fl_d, m_unpT, tupD_t, unp_n, unp_c, range_1, range_2, ext_l, ext_t, app_1, m_pc, m_par, rl_n, rl_d, rl_o, rl_l, rlR_o, sr_n, sto_d, sto_o, mulE_i, mulE_t, m_andV, m_orV, m_notE, m_listRg, ite_t, ite_f, m_chain, m_fgt, m_fgtE, fgE_nx, fgE_ct, fgE_bk, fgE_rt, fgE_er, fgts_n, fgts_c, m_fgt1, fg_d, fg_o, fg_un, fg_rd, fg_io, fg_lk, m_raise, List.getElem?_cons_zero, List.getElem?_cons_succ, List.set_cons_zero, List.set_cons_succ, Option.map_some, Option.bind_some, if_true, and_self, m_callF, isint_at, isI, h, decide_false, Bool.false_and, Bool.false_eq_true, if_false]
theorem within_at {x : Da} {m : Int} (s : VS) : callF F_is_within [.d x, .d (.int 0), .d (.int m)] s = .ok (.d (.bool (withB m x)), s) := by
  refine callF_3 ?_ dl
  cases x with
  | int i => exact run_d within_int
  | _ => exact run_d (within_no rfl)
/-- one turn of the look at a rolling -/
theorem look_ok {y o r x : Da} {ys : List Da} (hy : seqD y = some ys) (h : withB ((ys.length : Int) - 1) x = true) (hl : lenD [y] = some (.d (.int ys.length))) :
    vFgtE [3] (vFrz [3] one_pass_s1) [.d y, .d o, .d r, .d x] = .ok (.nx, [.d y, .d o, .d r, .un]) := by
  unfold one_pass_s1
  simp only [m_vb, bnd_ok, bnd_er, m_vr, m_stuck, m_seq, bS_nx, bS_bk, bS_ct, bS_rt, bS_er, m_if, m_ite, bI_t, bI_f, bI_er, m_and, m_or, m_not, m_bool, evB_b, m_opt, m_optn, m_tru, tru_b, tru_i, tru_n, tru_l, tru_t, m_var, var_d, var_own, var_io, var_lk, var_rd, m_c, st_d, st_o, st_l, oc_l, oc_m, rd_d, rd_o, rd_l, rdR_own, rdR_io, rdR_lk, m_bin, m_un, m_call, m_rdn, m_rdc, m_cons, m_conss, m_tup, m_lst, dts_n, dts_c, o_map, o_bind, add_i, sub_i, mul_i, mod_i, fdiv_i, pow_i, neg_i, iadd_i, abs_i, int_i, int_b, len_l, len_t, add_l, add_t, lt_i, le_i, gt_i, ge_i, eq_i, ne_i, eqF_i, neF_i, tuple_l, tuple_t, list_l, list_t, ix_l, ix_t, m_ret, m_drop, m_nx, m_asg, m_nox, nx_ok, set_d, set_o, setD_, wr_un, wr_d, wr_o, wr_rd, m_aug, m_asgD, evD_d, evD_o, m_frzn, m_frzc, m_frz1, fz_d, fz_un, fz_io, fz_lk, fz_rd, fz_o, m_sub, m_augS, m_app, ap_o, ap_io, m_ct, ct_o, ct_io, m_isl, is_o, is_io, m_mut, m_mutB, m_mut0, intD_i, m_sl, m_pn, m_ps, rs_d, rs_l, rsR_rd, rsR_o, rsR_io, sl_l, sl_t, arg_n, arg_c, arg_d, arg_l, ar_o, ar_io, ar_lk, ar_rd, put_n, put_d, put_io, m_put, pt_o, pt_io, i_seq, src_l, src_t, src_o, src_n, sr_o, sr_io, sr_lk, i_rng, i_enum, i_zip, i_rev, unl_n, unl_c, unl_1, ul_lk, ob_t, ob_f, wp_n, wp_c, rt_n, rt_c, fl_un, fl_d, m_unpT, tupD_t, unp_n, unp_c, range_1, range_2, ext_l, ext_t, app_1, m_pc, m_par, rl_n, rl_d, rl_o, rl_l, rlR_o, sr_n, sto_d, sto_o, mulE_i, mulE_t, m_andV, m_orV, m_notE, m_listRg, ite_t, ite_f, m_chain, m_fgt, m_fgtE, fgE_nx, fgE_ct, fgE_bk, fgE_rt, fgE_er, fgts_n, fgts_c, m_fgt1, fg_d, fg_o, fg_un, fg_rd, fg_io, fg_lk, m_raise, List.getElem?_cons_zero, List.getElem?_cons_succ, List.set_cons_zero, List.set_cons_succ, Option.map_some, Option.bind_some, if_true, and_self, m_callF, within_at, hl, h, Bool.not_true]
theorem look_no {y o r x : Da} {ys : List Da} (hy : seqD y = some ys) (h : withB ((ys.length : Int) - 1) x = false) (hl : lenD [y] = some (.d (.int ys.length))) :
    vFgtE [3] (vFrz [3] one_pass_s1) [.d y, .d o, .d r, .d x] = .error (.exc "NoTrack" [("track", x)] [.d y, .d o, .d r, .d x]) := by
  unfold one_pass_s1
  simp only [m_vb, bnd_ok, bnd_er, m_vr, m_stuck, m_seq, bS_nx, bS_bk, bS_ct, bS_rt, bS_er, m_if, m_ite, bI_t, bI_f, bI_er, m_and, m_or, m_not, m_bool, evB_b, m_opt, m_optn, m_tru, tru_b, tru_i, tru_n, tru_l, tru_t, m_var, var_d, var_own, var_io, var_lk, var_rd, m_c, st_d, st_o, st_l, oc_l, oc_m, rd_d, rd_o, rd_l, rdR_own, rdR_io, rdR_lk, m_bin, m_un, m_call, m_rdn, m_rdc, m_cons, m_conss, m_tup, m_lst, dts_n, dts_c, o_map, o_bind, add_i, sub_i, mul_i, mod_i, fdiv_i, pow_i, neg_i, iadd_i, abs_i, int_i, int_b, len_l, len_t, add_l, add_t, lt_i, le_i, gt_i, ge_i, eq_i, ne_i, eqF_i, neF_i, tuple_l, tuple_t, list_l, list_t, ix_l, ix_t, m_ret, m_drop, m_nx, m_asg, m_nox, nx_ok, set_d, set_o, setD_, wr_un, wr_d, wr_o, wr_rd, m_aug, m_asgD, evD_d, evD_o, m_frzn, m_frzc, m_frz1, fz_d, fz_un, fz_io, fz_lk, fz_rd, fz_o, m_sub, m_augS, m_app, ap_o, ap_io, m_ct, ct_o, ct_io, m_isl, is_o, is_io, m_mut, m_mutB, m_mut0, intD_i, m_sl, m_pn, m_ps, rs_d, rs_l, rsR_rd, rsR_o, rsR_io, sl_l, sl_t, arg_n, arg_c, arg_d, arg_l, ar_o, ar_io, ar_lk, ar_rd, put_n, put_d, put_io, m_put, pt_o, pt_io, i_seq, src_l, src_t, src_o, src_n, sr_o, sr_io, sr_lk, i_rng, i_enum, i_zip, i_rev, unl_n, unl_c, unl_1, ul_lk, ob_t, ob_f, wp_n, wp_c, rt_n, rt_c, fl_un, fl_d, m_unpT, tupD_t, unp_n, unp_c, range_1, range_2, ext_l, ext_t, app_1, m_pc, m_par, rl_n, rl_d, rl_o, rl_l, rlR_o, sr_n, sto_d, sto_o, mulE_i, mulE_t, m_andV, m_orV, m_notE, m_listRg, ite_t, ite_f, m_chain, m_fgt, m_fgtE, fgE_nx, fgE_ct, fgE_bk, fgE_rt, fgE_er, fgts_n, fgts_c, m_fgt1, fg_d, fg_o, fg_un, fg_rd, fg_io, fg_lk, m_raise, List.getElem?_cons_zero, List.getElem?_cons_succ, List.set_cons_zero, List.set_cons_succ, Option.map_some, Option.bind_some, if_true, and_self, m_callF, within_at, hl, h, Bool.not_false]
  rfl
theorem pass_yes {y o r z l : Da} {ys rs : List Da} (hy : seqD y = some ys) (hr : seqD r = some rs) (hw : ∀ x ∈ rs, withB ((ys.length : Int) - 1) x = true) (hl : lenD [y] = some (.d (.int ys.length)))
    (h1 : ∀ s, callF F_rolled [.d y, .d o, .d r] s = .ok (.d l, s)) (h2 : ∀ s, callF F_pulled [.d y, .d l] s = .ok (.d z, s)) : F_one_pass [.d y, .d o, .d r] = .ok (.d z, [.d y, .d o, .d r]) := by
  have loop : one_pass_s2 [.d y, .d o, .d r, .un] = .ok (.nx, [.d y, .d o, .d r, .un]) := by
    unfold one_pass_s2
    refine for_fold (enc := id) (L := []) (St := fun (_ : Unit) => [.d y, .d o, .d r, .un]) (f := fun a _ => a) (fun xs _ => ∀ x ∈ xs, withB ((ys.length : Int) - 1) x = true) (fun x xs _ hx => ⟨[.d y, .d o, .d r, .d x], .nx, ?_, look_ok hy (hx x List.mem_cons_self) hl, .inl rfl, fun z hz => hx z (List.mem_cons_of_mem _ hz)⟩) (xs := rs) (a := ()) ?_ hw
    · simp only [m_vb, bnd_ok, bnd_er, m_vr, m_stuck, m_seq, bS_nx, bS_bk, bS_ct, bS_rt, bS_er, m_if, m_ite, bI_t, bI_f, bI_er, m_and, m_or, m_not, m_bool, evB_b, m_opt, m_optn, m_tru, tru_b, tru_i, tru_n, tru_l, tru_t, m_var, var_d, var_own, var_io, var_lk, var_rd, m_c, st_d, st_o, st_l, oc_l, oc_m, rd_d, rd_o, rd_l, rdR_own, rdR_io, rdR_lk, m_bin, m_un, m_call, m_rdn, m_rdc, m_cons, m_conss, m_tup, m_lst, dts_n, dts_c, o_map, o_bind, add_i, sub_i, mul_i, mod_i, fdiv_i, pow_i, neg_i, iadd_i, abs_i, int_i, int_b, len_l, len_t, add_l, add_t, lt_i, le_i, gt_i, ge_i, eq_i, ne_i, eqF_i, neF_i, tuple_l, tuple_t, list_l, list_t, ix_l, ix_t, m_ret, m_drop, m_nx, m_asg, m_nox, nx_ok, set_d, set_o, setD_, wr_un, wr_d, wr_o, wr_rd, m_aug, m_asgD, evD_d, evD_o, m_frzn, m_frzc, m_frz1, fz_d, fz_un, fz_io, fz_lk, fz_rd, fz_o, m_sub, m_augS, m_app, ap_o, ap_io, m_ct, ct_o, ct_io, m_isl, is_o, is_io, m_mut, m_mutB, m_mut0, intD_i, m_sl, m_pn, m_ps, rs_d, rs_l, rsR_rd, rsR_o, rsR_io, sl_l, sl_t, arg_n, arg_c, arg_d, arg_l, ar_o, ar_io, ar_lk, ar_rd, put_n, put_d, put_io, m_put, pt_o, pt_io, i_seq, src_l, src_t, src_o, src_n, sr_o, sr_io, sr_lk, i_rng, i_enum, i_zip, i_rev, unl_n, unl_c, unl_1, ul_lk, ob_t, ob_f, wp_n, wp_c, rt_n, rt_c, fl_un, fl_d, m_unpT, tupD_t, unp_n, unp_c, range_1, range_2, ext_l, ext_t, app_1, m_pc, m_par, rl_n, rl_d, rl_o, rl_l, rlR_o, sr_n, sto_d, sto_o, mulE_i, mulE_t, m_andV, m_orV, m_notE, m_listRg, ite_t, ite_f, m_chain, m_fgt, m_fgtE, fgE_nx, fgE_ct, fgE_bk, fgE_rt, fgE_er, fgts_n, fgts_c, m_fgt1, fg_d, fg_o, fg_un, fg_rd, fg_io, fg_lk, m_raise, List.getElem?_cons_zero, List.getElem?_cons_succ, List.set_cons_zero, List.set_cons_succ, Option.map_some, Option.bind_some, if_true, and_self, id]
    · simp only [m_vb, bnd_ok, bnd_er, m_vr, m_stuck, m_seq, bS_nx, bS_bk, bS_ct, bS_rt, bS_er, m_if, m_ite, bI_t, bI_f, bI_er, m_and, m_or, m_not, m_bool, evB_b, m_opt, m_optn, m_tru, tru_b, tru_i, tru_n, tru_l, tru_t, m_var, var_d, var_own, var_io, var_lk, var_rd, m_c, st_d, st_o, st_l, oc_l, oc_m, rd_d, rd_o, rd_l, rdR_own, rdR_io, rdR_lk, m_bin, m_un, m_call, m_rdn, m_rdc, m_cons, m_conss, m_tup, m_lst, dts_n, dts_c, o_map, o_bind, add_i, sub_i, mul_i, mod_i, fdiv_i, pow_i, neg_i, iadd_i, abs_i, int_i, int_b, len_l, len_t, add_l, add_t, lt_i, le_i, gt_i, ge_i, eq_i, ne_i, eqF_i, neF_i, tuple_l, tuple_t, list_l, list_t, ix_l, ix_t, m_ret, m_drop, m_nx, m_asg, m_nox, nx_ok, set_d, set_o, setD_, wr_un, wr_d, wr_o, wr_rd, m_aug, m_asgD, evD_d, evD_o, m_frzn, m_frzc, m_frz1, fz_d, fz_un, fz_io, fz_lk, fz_rd, fz_o, m_sub, m_augS, m_app, ap_o, ap_io, m_ct, ct_o, ct_io, m_isl, is_o, is_io, m_mut, m_mutB, m_mut0, intD_i, m_sl, m_pn, m_ps, rs_d, rs_l, rsR_rd, rsR_o, rsR_io, sl_l, sl_t, arg_n, arg_c, arg_d, arg_l, ar_o, ar_io, ar_lk, ar_rd, put_n, put_d, put_io, m_put, pt_o, pt_io, i_seq, src_l, src_t, src_o, src_n, sr_o, sr_io, sr_lk, i_rng, i_enum, i_zip, i_rev, unl_n, unl_c, unl_1, ul_lk, ob_t, ob_f, wp_n, wp_c, rt_n, rt_c, fl_un, fl_d, m_unpT, tupD_t, unp_n, unp_c, range_1, range_2, ext_l, ext_t, app_1, m_pc, m_par, rl_n, rl_d, rl_o, rl_l, rlR_o, sr_n, sto_d, sto_o, mulE_i, mulE_t, m_andV, m_orV, m_notE, m_listRg, ite_t, ite_f, m_chain, m_fgt, m_fgtE, fgE_nx, fgE_ct, fgE_bk, fgE_rt, fgE_er, fgts_n, fgts_c, m_fgt1, fg_d, fg_o, fg_un, fg_rd, fg_io, fg_lk, m_raise, List.getElem?_cons_zero, List.getElem?_cons_succ, List.set_cons_zero, List.set_cons_succ, Option.map_some, Option.bind_some, if_true, and_self, src_seq hr, List.map_id]
  refine run_d (st := [.d y, .d o, .d r, .un]) (s := [.d y, .d o, .d r, .un]) ?_
  unfold g_one_pass
  refine seq_then loop ?_
  simp only [m_vb, bnd_ok, bnd_er, m_vr, m_stuck, m_seq, bS_nx, bS_bk, bS_ct, bS_rt, bS_er, m_if, m_ite, bI_t, bI_f, bI_er, m_and, m_or, m_not, m_bool, evB_b, m_opt, m_optn, m_tru, tru_b, tru_i, tru_n, tru_l, tru_t, m_var, var_d, var_own, var_io, var_lk, var_rd, m_c, st_d, st_o, st_l, oc_l, oc_m, rd_d, rd_o, rd_l, rdR_own, rdR_io, rdR_lk, m_bin, m_un, m_call, m_rdn, m_rdc, m_cons, m_conss, m_tup, m_lst, dts_n, dts_c, o_map, o_bind, add_i, sub_i, mul_i, mod_i, fdiv_i, pow_i, neg_i, iadd_i, abs_i, int_i, int_b, len_l, len_t, add_l, add_t, lt_i, le_i, gt_i, ge_i, eq_i, ne_i, eqF_i, neF_i, tuple_l, tuple_t, list_l, list_t, ix_l, ix_t, m_ret, m_drop, m_nx, m_asg, m_nox, nx_ok, set_d, set_o, setD_, wr_un, wr_d, wr_o, wr_rd, m_aug, m_asgD, evD_d, evD_o, m_frzn, m_frzc, m_frz1, fz_d, fz_un, fz_io, fz_lk, fz_rd, fz_o, m_sub, m_augS, m_app, ap_o, ap_io, m_ct, ct_o, ct_io, m_isl, is_o, is_io, m_mut, m_mutB, m_mut0, intD_i, m_sl, m_pn, m_ps, rs_d, rs_l, rsR_rd, rsR_o, rsR_io, sl_l, sl_t, arg_n, arg_c, arg_d, arg_l, ar_o, ar_io, ar_lk, ar_rd, put_n, put_d, put_io, m_put, pt_o, pt_io, i_seq, src_l, src_t, src_o, src_n, sr_o, sr_io, sr_lk, i_rng, i_enum, i_zip, i_rev, unl_n, unl_c, unl_1, ul_lk, ob_t, ob_f, wp_n, wp_c, rt_n, rt_c, fl_un, fl_d, m_unpT, tupD_t, unp_n, unp_c, range_1, range_2, ext_l, ext_t, app_1, m_pc, m_par, rl_n, rl_d, rl_o, rl_l, rlR_o, sr_n, sto_d, sto_o, mulE_i, mulE_t, m_andV, m_orV, m_notE, m_listRg, ite_t, ite_f, m_chain, m_fgt, m_fgtE, fgE_nx, fgE_ct, fgE_bk, fgE_rt, fgE_er, fgts_n, fgts_c, m_fgt1, fg_d, fg_o, fg_un, fg_rd, fg_io, fg_lk, m_raise, List.getElem?_cons_zero, List.getElem?_cons_succ, List.set_cons_zero, List.set_cons_succ, Option.map_some, Option.bind_some, if_true, and_self, m_callF, h1, h2]
theorem pass_no {y o r x : Da} {ys pre post : List Da} (hy : seqD y = some ys) (hr : seqD r = some (pre ++ x :: post)) (hw : ∀ x ∈ pre, withB ((ys.length : Int) - 1) x = true) (hx : withB ((ys.length : Int) - 1) x = false) (hl : lenD [y] = some (.d (.int ys.length))) :
    F_one_pass [.d y, .d o, .d r] = .error (.exc "NoTrack" [("track", x)] [.d y, .d o, .d r]) := by
  have loop : one_pass_s2 [.d y, .d o, .d r, .un] = .error (.exc "NoTrack" [("track", x)] [.d y, .d o, .d r, .d x]) := by
    unfold one_pass_s2
    refine for_exc (enc := id) (L := []) (St := fun (_ : Unit) => [.d y, .d o, .d r, .un]) (f := fun a _ => a) (z := x) (zs := post) (fun xs _ => ∀ x ∈ xs, withB ((ys.length : Int) - 1) x = true) (fun x xs _ hx => ⟨[.d y, .d o, .d r, .d x], .nx, ?_, look_ok hy (hx x List.mem_cons_self) hl, .inl rfl, fun z hz => hx z (List.mem_cons_of_mem _ hz)⟩)
      (fun _ _ => ⟨[.d y, .d o, .d r, .d x], ?_, look_no hy hx hl⟩) (xs := pre) (a := ()) ?_ hw
    · simp only [m_vb, bnd_ok, bnd_er, m_vr, m_stuck, m_seq, bS_nx, bS_bk, bS_ct, bS_rt, bS_er, m_if, m_ite, bI_t, bI_f, bI_er, m_and, m_or, m_not, m_bool, evB_b, m_opt, m_optn, m_tru, tru_b, tru_i, tru_n, tru_l, tru_t, m_var, var_d, var_own, var_io, var_lk, var_rd, m_c, st_d, st_o, st_l, oc_l, oc_m, rd_d, rd_o, rd_l, rdR_own, rdR_io, rdR_lk, m_bin, m_un, m_call, m_rdn, m_rdc, m_cons, m_conss, m_tup, m_lst, dts_n, dts_c, o_map, o_bind, add_i, sub_i, mul_i, mod_i, fdiv_i, pow_i, neg_i, iadd_i, abs_i, int_i, int_b, len_l, len_t, add_l, add_t, lt_i, le_i, gt_i, ge_i, eq_i, ne_i, eqF_i, neF_i, tuple_l, tuple_t, list_l, list_t, ix_l, ix_t, m_ret, m_drop, m_nx, m_asg, m_nox, nx_ok, set_d, set_o, setD_, wr_un, wr_d, wr_o, wr_rd, m_aug, m_asgD, evD_d, evD_o, m_frzn, m_frzc, m_frz1, fz_d, fz_un, fz_io, fz_lk, fz_rd, fz_o, m_sub, m_augS, m_app, ap_o, ap_io, m_ct, ct_o, ct_io, m_isl, is_o, is_io, m_mut, m_mutB, m_mut0, intD_i, m_sl, m_pn, m_ps, rs_d, rs_l, rsR_rd, rsR_o, rsR_io, sl_l, sl_t, arg_n, arg_c, arg_d, arg_l, ar_o, ar_io, ar_lk, ar_rd, put_n, put_d, put_io, m_put, pt_o, pt_io, i_seq, src_l, src_t, src_o, src_n, sr_o, sr_io, sr_lk, i_rng, i_enum, i_zip, i_rev, unl_n, unl_c, unl_1, ul_lk, ob_t, ob_f, wp_n, wp_c, rt_n, rt_c, fl_un, fl_d, m_unpT, tupD_t, unp_n, unp_c, range_1, range_2, ext_l, ext_t, app_1, m_pc, m_par, rl_n, rl_d, rl_o, rl_l, rlR_o, sr_n, sto_d, sto_o, mulE_i, mulE_t, m_andV, m_orV, m_notE, m_listRg, ite_t, ite_f, m_chain, m_fgt, m_fgtE, fgE_nx, fgE_ct, fgE_bk, fgE_rt, fgE_er, fgts_n, fgts_c, m_fgt1, fg_d, fg_o, fg_un, fg_rd, fg_io, fg_lk, m_raise, List.getElem?_cons_zero, List.getElem?_cons_succ, List.set_cons_zero, List.set_cons_succ, Option.map_some, Option.bind_some, if_true, and_self, id]
    · simp only [m_vb, bnd_ok, bnd_er, m_vr, m_stuck, m_seq, bS_nx, bS_bk, bS_ct, bS_rt, bS_er, m_if, m_ite, bI_t, bI_f, bI_er, m_and, m_or, m_not, m_bool, evB_b, m_opt, m_optn, m_tru, tru_b, tru_i, tru_n, tru_l, tru_t, m_var, var_d, var_own, var_io, var_lk, var_rd, m_c, st_d, st_o, st_l, oc_l, oc_m, rd_d, rd_o, rd_l, rdR_own, rdR_io, rdR_lk, m_bin, m_un, m_call, m_rdn, m_rdc, m_cons, m_conss, m_tup, m_lst, dts_n, dts_c, o_map, o_bind, add_i, sub_i, mul_i, mod_i, fdiv_i, pow_i, neg_i, iadd_i, abs_i, int_i, int_b, len_l, len_t, add_l, add_t, lt_i, le_i, gt_i, ge_i, eq_i, ne_i, eqF_i, neF_i, tuple_l, tuple_t, list_l, list_t, ix_l, ix_t, m_ret, m_drop, m_nx, m_asg, m_nox, nx_ok, set_d, set_o, setD_, wr_un, wr_d, wr_o, wr_rd, m_aug, m_asgD, evD_d, evD_o, m_frzn, m_frzc, m_frz1, fz_d, fz_un, fz_io, fz_lk, fz_rd, fz_o, m_sub, m_augS, m_app, ap_o, ap_io, m_ct, ct_o, ct_io, m_isl, is_o, is_io, m_mut, m_mutB, m_mut0, intD_i, m_sl, m_pn, m_ps, rs_d, rs_l, rsR_rd, rsR_o, rsR_io, sl_l, sl_t, arg_n, arg_c, arg_d, arg_l, ar_o, ar_io, ar_lk, ar_rd, put_n, put_d, put_io, m_put, pt_o, pt_io, i_seq, src_l, src_t, src_o, src_n, sr_o, sr_io, sr_lk, i_rng, i_enum, i_zip, i_rev, unl_n, unl_c, unl_1, ul_lk, ob_t, ob_f, wp_n, wp_c, rt_n, rt_c, fl_un, fl_d, m_unpT, tupD_t, unp_n, unp_c, range_1, range_2, ext_l, ext_t, app_1, m_pc, m_par, rl_n, rl_d, rl_o, rl_l, rlR_o, sr_n, sto_d, sto_o, mulE_i, mulE_t, m_andV, m_orV, m_notE, m_listRg, ite_t, ite_f, m_chain, m_fgt, m_fgtE, fgE_nx, fgE_ct, fgE_bk, fgE_rt, fgE_er, fgts_n, fgts_c, m_fgt1, fg_d, fg_o, fg_un, fg_rd, fg_io, fg_lk, m_raise, List.getElem?_cons_zero, List.getElem?_cons_succ, List.set_cons_zero, List.set_cons_succ, Option.map_some, Option.bind_some, if_true, and_self, id]
    · simp only [m_vb, bnd_ok, bnd_er, m_vr, m_stuck, m_seq, bS_nx, bS_bk, bS_ct, bS_rt, bS_er, m_if, m_ite, bI_t, bI_f, bI_er, m_and, m_or, m_not, m_bool, evB_b, m_opt, m_optn, m_tru, tru_b, tru_i, tru_n, tru_l, tru_t, m_var, var_d, var_own, var_io, var_lk, var_rd, m_c, st_d, st_o, st_l, oc_l, oc_m, rd_d, rd_o, rd_l, rdR_own, rdR_io, rdR_lk, m_bin, m_un, m_call, m_rdn, m_rdc, m_cons, m_conss, m_tup, m_lst, dts_n, dts_c, o_map, o_bind, add_i, sub_i, mul_i, mod_i, fdiv_i, pow_i, neg_i, iadd_i, abs_i, int_i, int_b, len_l, len_t, add_l, add_t, lt_i, le_i, gt_i, ge_i, eq_i, ne_i, eqF_i, neF_i, tuple_l, tuple_t, list_l, list_t, ix_l, ix_t, m_ret, m_drop, m_nx, m_asg, m_nox, nx_ok, set_d, set_o, setD_, wr_un, wr_d, wr_o, wr_rd, m_aug, m_asgD, evD_d, evD_o, m_frzn, m_frzc, m_frz1, fz_d, fz_un, fz_io, fz_lk, fz_rd, fz_o, m_sub, m_augS, m_app, ap_o, ap_io, m_ct, ct_o, ct_io, m_isl, is_o, is_io, m_mut, m_mutB, m_mut0, intD_i, m_sl, m_pn, m_ps, rs_d, rs_l, rsR_rd, rsR_o, rsR_io, sl_l, sl_t, arg_n, arg_c, arg_d, arg_l, ar_o, ar_io, ar_lk, ar_rd, put_n, put_d, put_io, m_put, pt_o, pt_io, i_seq, src_l, src_t, src_o, src_n, sr_o, sr_io, sr_lk, i_rng, i_enum, i_zip, i_rev, unl_n, unl_c, unl_1, ul_lk, ob_t, ob_f, wp_n, wp_c, rt_n, rt_c, fl_un, fl_d, m_unpT, tupD_t, unp_n, unp_c, range_1, range_2, ext_l, ext_t, app_1, m_pc, m_par, rl_n, rl_d, rl_o, rl_l, rlR_o, sr_n, sto_d, sto_o, mulE_i, mulE_t, m_andV, m_orV, m_notE, m_listRg, ite_t, ite_f, m_chain, m_fgt, m_fgtE, fgE_nx, fgE_ct, fgE_bk, fgE_rt, fgE_er, fgts_n, fgts_c, m_fgt1, fg_d, fg_o, fg_un, fg_rd, fg_io, fg_lk, m_raise, List.getElem?_cons_zero, List.getElem?_cons_succ, List.set_cons_zero, List.set_cons_succ, Option.map_some, Option.bind_some, if_true, and_self, src_seq hr, List.map_id]
  refine run_e (st := [.d y, .d o, .d r, .un]) (s := [.d y, .d o, .d r, .d x]) ?_
  unfold g_one_pass
  simp only [m_vb, bnd_ok, bnd_er, m_vr, m_stuck, m_seq, bS_nx, bS_bk, bS_ct, bS_rt, bS_er, m_if, m_ite, bI_t, bI_f, bI_er, m_and, m_or, m_not, m_bool, evB_b, m_opt, m_optn, m_tru, tru_b, tru_i, tru_n, tru_l, tru_t, m_var, var_d, var_own, var_io, var_lk, var_rd, m_c, st_d, st_o, st_l, oc_l, oc_m, rd_d, rd_o, rd_l, rdR_own, rdR_io, rdR_lk, m_bin, m_un, m_call, m_rdn, m_rdc, m_cons, m_conss, m_tup, m_lst, dts_n, dts_c, o_map, o_bind, add_i, sub_i, mul_i, mod_i, fdiv_i, pow_i, neg_i, iadd_i, abs_i, int_i, int_b, len_l, len_t, add_l, add_t, lt_i, le_i, gt_i, ge_i, eq_i, ne_i, eqF_i, neF_i, tuple_l, tuple_t, list_l, list_t, ix_l, ix_t, m_ret, m_drop, m_nx, m_asg, m_nox, nx_ok, set_d, set_o, setD_, wr_un, wr_d, wr_o, wr_rd, m_aug, m_asgD, evD_d, evD_o, m_frzn, m_frzc, m_frz1, fz_d, fz_un, fz_io, fz_lk, fz_rd, fz_o, m_sub, m_augS, m_app, ap_o, ap_io, m_ct, ct_o, ct_io, m_isl, is_o, is_io, m_mut, m_mutB, m_mut0, intD_i, m_sl, m_pn, m_ps, rs_d, rs_l, rsR_rd, rsR_o, rsR_io, sl_l, sl_t, arg_n, arg_c, arg_d, arg_l, ar_o, ar_io, ar_lk, ar_rd, put_n, put_d, put_io, m_put, pt_o, pt_io, i_seq, src_l, src_t, src_o, src_n, sr_o, sr_io, sr_lk, i_rng, i_enum, i_zip, i_rev, unl_n, unl_c, unl_1, ul_lk, ob_t, ob_f, wp_n, wp_c, rt_n, rt_c, fl_un, fl_d, m_unpT, tupD_t, unp_n, unp_c, range_1, range_2, ext_l, ext_t, app_1, m_pc, m_par, rl_n, rl_d, rl_o, rl_l, rlR_o, sr_n, sto_d, sto_o, mulE_i, mulE_t, m_andV, m_orV, m_notE, m_listRg, ite_t, ite_f, m_chain, m_fgt, m_fgtE, fgE_nx, fgE_ct, fgE_bk, fgE_rt, fgE_er, fgts_n, fgts_c, m_fgt1, fg_d, fg_o, fg_un, fg_rd, fg_io, fg_lk, m_raise, List.getElem?_cons_zero, List.getElem?_cons_succ, List.set_cons_zero, List.set_cons_succ, Option.map_some, Option.bind_some, if_true, and_self, loop]
end Yk05
set_option Elab.async false
set_option linter.all false
set_option maxRecDepth 100000
set_option maxHeartbeats 0
namespace Yk05
open PySem PySem.Spec PyProof.Rows L2 VL LB
section
variable {a0 a1 a2 : SV}
/-- the odd menu -/
def odds (os : List Da) (n : Int) : List Da := [.tuple os, .list os, .none, .tuple [], .tuple [.int 0], .tuple [.int 1], .tuple [.int 0, .int 0], .tuple [.bool true], .tuple (os ++ [.int n]), .tuple (os ++ os.take 1), .tuple (os.drop 1), .tuple [.int (-1)], .tuple [.str "0"], .tuple [.int 0, .int 2]]
theorem r9_ok {a6 a7 a8 a9 y : SV} {os : List Da} {n : Int} (hl : os.length ≤ 900) :
    (vFrz [4, 5] (vAsg ((vList ((vCons (vVar 5) ((vCons ((vCall listD ((vCons (vVar 5) (vr []))))) ((vCons (vC .none) ((vCons ((vTuple (vr []))) ((vCons ((vTuple ((vCons (vC (.int 0)) (vr []))))) ((vCons ((vTuple ((vCons (vC (.int 1)) (vr []))))) ((vCons ((vTuple ((vCons (vC (.int 0)) ((vCons (vC (.int 0)) (vr []))))))) ((vCons ((vTuple ((vCons (vC (.bool true)) (vr []))))) ((vCons ((vBin addD (vVar 5) ((vTuple ((vCons (vVar 4) (vr []))))))) ((vCons ((vBin addD (vVar 5) ((vSl (vVar 5) (vPart none) (vPart (some (vC (.int 1)))))))) ((vCons ((vSl (vVar 5) (vPart (some (vC (.int 1)))) (vPart none))) ((vCons ((vTuple ((vCons ((vUn negD (vC (.int 1)))) (vr []))))) ((vCons ((vTuple ((vCons (vC (.str "0")) (vr []))))) ((vCons ((vTuple ((vCons (vC (.int 0)) ((vCons (vC (.int 2)) (vr []))))))) (vr []))))))))))))))))))))))))))))))) (vSet 10)))
      [a0, a1, a2, y, .d (.int n), .d (.tuple os), a6, a7, a8, a9, .un, .un, .un, .un, .un, .un, .un, .un, .un, .un]
    = .ok (.nx, [a0, a1, a2, y, .d (.int n), .d (.tuple os), a6, a7, a8, a9, .own (.l (odds os n)), .un, .un, .un, .un, .un, .un, .un, .un, .un]) := by
  have c1 : VL.cutD os (some 1) none = os.drop 1 := cut_from (by decide)
  have c2 : VL.cutD os none (some 1) = os.take 1 := cut_to (by decide)
  have l1 : os.length ≤ 16777215 := by omega
  have l2 : os.length + (os.take 1).length ≤ 16777216 := by rw [List.length_take]; omega
  simp only [m_vb, bnd_ok, bnd_er, m_vr, m_stuck, m_seq, bS_nx, bS_bk, bS_ct, bS_rt, bS_er, m_if, m_ite, bI_t, bI_f, bI_er, m_and, m_or, m_not, m_bool, evB_b, m_opt, m_optn, m_tru, tru_b, tru_i, tru_n, tru_l, tru_t, m_var, var_d, var_own, var_io, var_lk, var_rd, m_c, st_d, st_o, st_l, oc_l, oc_m, rd_d, rd_o, rd_l, rdR_own, rdR_io, rdR_lk, m_bin, m_un, m_call, m_rdn, m_rdc, m_cons, m_conss, m_tup, m_lst, dts_n, dts_c, o_map, o_bind, add_i, sub_i, mul_i, mod_i, fdiv_i, pow_i, neg_i, iadd_i, abs_i, int_i, int_b, len_l, len_t, add_l, add_t, lt_i, le_i, gt_i, ge_i, eq_i, ne_i, eqF_i, neF_i, tuple_l, tuple_t, list_l, list_t, ix_l, ix_t, m_ret, m_drop, m_nx, m_asg, m_nox, nx_ok, set_d, set_o, setD_, wr_un, wr_d, wr_o, wr_rd, m_aug, m_asgD, evD_d, evD_o, m_frzn, m_frzc, m_frz1, fz_d, fz_un, fz_io, fz_lk, fz_rd, fz_o, m_sub, m_augS, m_app, ap_o, ap_io, m_ct, ct_o, ct_io, m_isl, is_o, is_io, m_mut, m_mutB, m_mut0, intD_i, m_sl, m_pn, m_ps, rs_d, rs_l, rsR_rd, rsR_o, rsR_io, sl_l, sl_t, arg_n, arg_c, arg_d, arg_l, ar_o, ar_io, ar_lk, ar_rd, put_n, put_d, put_io, m_put, pt_o, pt_io, i_seq, src_l, src_t, src_o, src_n, sr_o, sr_io, sr_lk, i_rng, i_enum, i_zip, i_rev, unl_n, unl_c, unl_1, ul_lk, ob_t, ob_f, wp_n, wp_c, rt_n, rt_c, fl_un, fl_d, m_unpT, tupD_t, unp_n, unp_c, range_1, range_2, ext_l, ext_t, app_1, m_pc, m_par, rl_n, rl_d, rl_o, rl_l, rlR_o, sr_n, sto_d, sto_o, mulE_i, mulE_t, m_andV, m_orV, m_notE, m_listRg, ite_t, ite_f, m_chain, m_fgt, m_fgtE, fgE_nx, fgE_ct, fgE_bk, fgE_rt, fgE_er, fgts_n, fgts_c, m_fgt1, fg_d, fg_o, fg_un, fg_rd, fg_io, fg_lk, m_raise, List.getElem?_cons_zero, List.getElem?_cons_succ, List.set_cons_zero, List.set_cons_succ, Option.map_some, Option.bind_some, if_true, and_self, List.length_nil, List.length_cons, Nat.zero_add, Nat.reduceAdd, Nat.zero_le, Nat.reduceLeDiff, show (1 : Nat) ≤ 16777216 by decide, show (2 : Nat) ≤ 16777216 by decide, show (14 : Nat) ≤ 16777216 by decide, l1, l2, c1, c2]
  all_goals rfl
theorem filter_not (xs : List Da) : (xs.filter fun x => !isI x).isEmpty = xs.all isI := by
  induction xs with
  | nil => rfl
  | cons x xs ih =>
    rw [List.filter_cons, List.all_cons]
    cases h : isI x with
    | true => simp only [Bool.not_true, Bool.false_eq_true, if_false, Bool.true_and]; exact ih
    | false => rfl
/-- one of the right answers -/
def rightE : VM EV := (vAndV ((vIsi [.tuple] (vVar 18))) ((vAndV ((vBin eqF ((vLcF [19] (vItSeq (vVar 18)) (vSetD 19) (vNot ((vTru ((vCallF F__law_is_int ((vCons (vVar 19) (vr [])))))))) (vC (.int 1)))) ((vList (vr []))))) ((vBin eqF ((vCall sortedE ((vCons (vVar 18) (vr []))))) ((vListRg ((vCall lenD ((vCons (vVar 18) (vr [])))))))))))) 
variable {b3 b4 b5 b6 b7 b8 b9 b10 b11 b12 b13 b14 b15 b16 b17 : SV}
abbrev S20 (a0 a1 a2 b3 b4 b5 b6 b7 b8 b9 b10 b11 b12 b13 b14 b15 b16 b17 b18 b19 : SV) : VS := [a0, a1, a2, b3, b4, b5, b6, b7, b8, b9, b10, b11, b12, b13, b14, b15, b16, b17, b18, b19]
theorem right_no {x : Da} (h : ∀ xs, x ≠ .tuple xs) : rightE [a0, a1, a2, b3, b4, b5, b6, b7, b8, b9, b10, b11, b12, b13, b14, b15, b16, b17, .d x, .un] = .ok (.d (.bool false), [a0, a1, a2, b3, b4, b5, b6, b7, b8, b9, b10, b11, b12, b13, b14, b15, b16, b17, .d x, .un]) := by
  have k : isKT .tuple x = false := by cases x <;> first | rfl | exact absurd rfl (h _)
  unfold rightE
  simp only [m_vb, bnd_ok, bnd_er, m_vr, m_stuck, m_seq, bS_nx, bS_bk, bS_ct, bS_rt, bS_er, m_if, m_ite, bI_t, bI_f, bI_er, m_and, m_or, m_not, m_bool, evB_b, m_opt, m_optn, m_tru, tru_b, tru_i, tru_n, tru_l, tru_t, m_var, var_d, var_own, var_io, var_lk, var_rd, m_c, st_d, st_o, st_l, oc_l, oc_m, rd_d, rd_o, rd_l, rdR_own, rdR_io, rdR_lk, m_bin, m_un, m_call, m_rdn, m_rdc, m_cons, m_conss, m_tup, m_lst, dts_n, dts_c, o_map, o_bind, add_i, sub_i, mul_i, mod_i, fdiv_i, pow_i, neg_i, iadd_i, abs_i, int_i, int_b, len_l, len_t, add_l, add_t, lt_i, le_i, gt_i, ge_i, eq_i, ne_i, eqF_i, neF_i, tuple_l, tuple_t, list_l, list_t, ix_l, ix_t, m_ret, m_drop, m_nx, m_asg, m_nox, nx_ok, set_d, set_o, setD_, wr_un, wr_d, wr_o, wr_rd, m_aug, m_asgD, evD_d, evD_o, m_frzn, m_frzc, m_frz1, fz_d, fz_un, fz_io, fz_lk, fz_rd, fz_o, m_sub, m_augS, m_app, ap_o, ap_io, m_ct, ct_o, ct_io, m_isl, is_o, is_io, m_mut, m_mutB, m_mut0, intD_i, m_sl, m_pn, m_ps, rs_d, rs_l, rsR_rd, rsR_o, rsR_io, sl_l, sl_t, arg_n, arg_c, arg_d, arg_l, ar_o, ar_io, ar_lk, ar_rd, put_n, put_d, put_io, m_put, pt_o, pt_io, i_seq, src_l, src_t, src_o, src_n, sr_o, sr_io, sr_lk, i_rng, i_enum, i_zip, i_rev, unl_n, unl_c, unl_1, ul_lk, ob_t, ob_f, wp_n, wp_c, rt_n, rt_c, fl_un, fl_d, m_unpT, tupD_t, unp_n, unp_c, range_1, range_2, ext_l, ext_t, app_1, m_pc, m_par, rl_n, rl_d, rl_o, rl_l, rlR_o, sr_n, sto_d, sto_o, mulE_i, mulE_t, m_andV, m_orV, m_notE, m_listRg, ite_t, ite_f, m_chain, m_fgt, m_fgtE, fgE_nx, fgE_ct, fgE_bk, fgE_rt, fgE_er, fgts_n, fgts_c, m_fgt1, fg_d, fg_o, fg_un, fg_rd, fg_io, fg_lk, m_raise, List.getElem?_cons_zero, List.getElem?_cons_succ, List.set_cons_zero, List.set_cons_succ, Option.map_some, Option.bind_some, if_true, and_self, isi_run, List.any_cons, List.any_nil, k, Bool.or_false]
  all_goals rfl
theorem right_lc {xs : List Da} (hl : xs.length ≤ 1000) : (vLcF [19] (vItSeq (vVar 18)) (vSetD 19) (vNot ((vTru ((vCallF F__law_is_int ((vCons (vVar 19) (vr [])))))))) (vC (.int 1))) [a0, a1, a2, b3, b4, b5, b6, b7, b8, b9, b10, b11, b12, b13, b14, b15, b16, b17, .d (.tuple xs), .un]
    = .ok (.own (.l ((xs.filter fun x => !isI x).map fun _ => .int 1)), [a0, a1, a2, b3, b4, b5, b6, b7, b8, b9, b10, b11, b12, b13, b14, b15, b16, b17, .d (.tuple xs), .un]) := by
  refine lc_of (enc := id) (L := []) (base := [a0, a1, a2, b3, b4, b5, b6, b7, b8, b9, b10, b11, b12, b13, b14, b15, b16, b17, .d (.tuple xs), .un]) (s1 := [a0, a1, a2, b3, b4, b5, b6, b7, b8, b9, b10, b11, b12, b13, b14, b15, b16, b17, .d (.tuple xs), .un]) (p := fun x => !isI x) (h := fun _ => .int 1) (xs := xs) ?_ rfl rfl
    (fun x _ => ⟨[a0, a1, a2, b3, b4, b5, b6, b7, b8, b9, b10, b11, b12, b13, b14, b15, b16, b17, .d (.tuple xs), .d x], [a0, a1, a2, b3, b4, b5, b6, b7, b8, b9, b10, b11, b12, b13, b14, b15, b16, b17, .d (.tuple xs), .d x], ?_, ?_, fun _ => ⟨rfl, rfl⟩, fun _ => ⟨.d (.int 1), [a0, a1, a2, b3, b4, b5, b6, b7, b8, b9, b10, b11, b12, b13, b14, b15, b16, b17, .d (.tuple xs), .d x], rfl, rfl, rfl, rfl⟩⟩) (by omega)
  · simp only [m_vb, bnd_ok, bnd_er, m_vr, m_stuck, m_seq, bS_nx, bS_bk, bS_ct, bS_rt, bS_er, m_if, m_ite, bI_t, bI_f, bI_er, m_and, m_or, m_not, m_bool, evB_b, m_opt, m_optn, m_tru, tru_b, tru_i, tru_n, tru_l, tru_t, m_var, var_d, var_own, var_io, var_lk, var_rd, m_c, st_d, st_o, st_l, oc_l, oc_m, rd_d, rd_o, rd_l, rdR_own, rdR_io, rdR_lk, m_bin, m_un, m_call, m_rdn, m_rdc, m_cons, m_conss, m_tup, m_lst, dts_n, dts_c, o_map, o_bind, add_i, sub_i, mul_i, mod_i, fdiv_i, pow_i, neg_i, iadd_i, abs_i, int_i, int_b, len_l, len_t, add_l, add_t, lt_i, le_i, gt_i, ge_i, eq_i, ne_i, eqF_i, neF_i, tuple_l, tuple_t, list_l, list_t, ix_l, ix_t, m_ret, m_drop, m_nx, m_asg, m_nox, nx_ok, set_d, set_o, setD_, wr_un, wr_d, wr_o, wr_rd, m_aug, m_asgD, evD_d, evD_o, m_frzn, m_frzc, m_frz1, fz_d, fz_un, fz_io, fz_lk, fz_rd, fz_o, m_sub, m_augS, m_app, ap_o, ap_io, m_ct, ct_o, ct_io, m_isl, is_o, is_io, m_mut, m_mutB, m_mut0, intD_i, m_sl, m_pn, m_ps, rs_d, rs_l, rsR_rd, rsR_o, rsR_io, sl_l, sl_t, arg_n, arg_c, arg_d, arg_l, ar_o, ar_io, ar_lk, ar_rd, put_n, put_d, put_io, m_put, pt_o, pt_io, i_seq, src_l, src_t, src_o, src_n, sr_o, sr_io, sr_lk, i_rng, i_enum, i_zip, i_rev, unl_n, unl_c, unl_1, ul_lk, ob_t, ob_f, wp_n, wp_c, rt_n, rt_c, fl_un, fl_d, m_unpT, tupD_t, unp_n, unp_c, range_1, range_2, ext_l, ext_t, app_1, m_pc, m_par, rl_n, rl_d, rl_o, rl_l, rlR_o, sr_n, sto_d, sto_o, mulE_i, mulE_t, m_andV, m_orV, m_notE, m_listRg, ite_t, ite_f, m_chain, m_fgt, m_fgtE, fgE_nx, fgE_ct, fgE_bk, fgE_rt, fgE_er, fgts_n, fgts_c, m_fgt1, fg_d, fg_o, fg_un, fg_rd, fg_io, fg_lk, m_raise, List.getElem?_cons_zero, List.getElem?_cons_succ, List.set_cons_zero, List.set_cons_succ, Option.map_some, Option.bind_some, if_true, and_self, List.map_id]
  · simp only [m_vb, bnd_ok, bnd_er, m_vr, m_stuck, m_seq, bS_nx, bS_bk, bS_ct, bS_rt, bS_er, m_if, m_ite, bI_t, bI_f, bI_er, m_and, m_or, m_not, m_bool, evB_b, m_opt, m_optn, m_tru, tru_b, tru_i, tru_n, tru_l, tru_t, m_var, var_d, var_own, var_io, var_lk, var_rd, m_c, st_d, st_o, st_l, oc_l, oc_m, rd_d, rd_o, rd_l, rdR_own, rdR_io, rdR_lk, m_bin, m_un, m_call, m_rdn, m_rdc, m_cons, m_conss, m_tup, m_lst, dts_n, dts_c, o_map, o_bind, add_i, sub_i, mul_i, mod_i, fdiv_i, pow_i, neg_i, iadd_i, abs_i, int_i, int_b, len_l, len_t, add_l, add_t, lt_i, le_i, gt_i, ge_i, eq_i, ne_i, eqF_i, neF_i, tuple_l, tuple_t, list_l, list_t, ix_l, ix_t, m_ret, m_drop, m_nx, m_asg, m_nox, nx_ok, set_d, set_o, setD_, wr_un, wr_d, wr_o, wr_rd, m_aug, m_asgD, evD_d, evD_o, m_frzn, m_frzc, m_frz1, fz_d, fz_un, fz_io, fz_lk, fz_rd, fz_o, m_sub, m_augS, m_app, ap_o, ap_io, m_ct, ct_o, ct_io, m_isl, is_o, is_io, m_mut, m_mutB, m_mut0, intD_i, m_sl, m_pn, m_ps, rs_d, rs_l, rsR_rd, rsR_o, rsR_io, sl_l, sl_t, arg_n, arg_c, arg_d, arg_l, ar_o, ar_io, ar_lk, ar_rd, put_n, put_d, put_io, m_put, pt_o, pt_io, i_seq, src_l, src_t, src_o, src_n, sr_o, sr_io, sr_lk, i_rng, i_enum, i_zip, i_rev, unl_n, unl_c, unl_1, ul_lk, ob_t, ob_f, wp_n, wp_c, rt_n, rt_c, fl_un, fl_d, m_unpT, tupD_t, unp_n, unp_c, range_1, range_2, ext_l, ext_t, app_1, m_pc, m_par, rl_n, rl_d, rl_o, rl_l, rlR_o, sr_n, sto_d, sto_o, mulE_i, mulE_t, m_andV, m_orV, m_notE, m_listRg, ite_t, ite_f, m_chain, m_fgt, m_fgtE, fgE_nx, fgE_ct, fgE_bk, fgE_rt, fgE_er, fgts_n, fgts_c, m_fgt1, fg_d, fg_o, fg_un, fg_rd, fg_io, fg_lk, m_raise, List.getElem?_cons_zero, List.getElem?_cons_succ, List.set_cons_zero, List.set_cons_succ, Option.map_some, Option.bind_some, if_true, and_self, id]
  · simp only [m_vb, bnd_ok, bnd_er, m_vr, m_stuck, m_seq, bS_nx, bS_bk, bS_ct, bS_rt, bS_er, m_if, m_ite, bI_t, bI_f, bI_er, m_and, m_or, m_not, m_bool, evB_b, m_opt, m_optn, m_tru, tru_b, tru_i, tru_n, tru_l, tru_t, m_var, var_d, var_own, var_io, var_lk, var_rd, m_c, st_d, st_o, st_l, oc_l, oc_m, rd_d, rd_o, rd_l, rdR_own, rdR_io, rdR_lk, m_bin, m_un, m_call, m_rdn, m_rdc, m_cons, m_conss, m_tup, m_lst, dts_n, dts_c, o_map, o_bind, add_i, sub_i, mul_i, mod_i, fdiv_i, pow_i, neg_i, iadd_i, abs_i, int_i, int_b, len_l, len_t, add_l, add_t, lt_i, le_i, gt_i, ge_i, eq_i, ne_i, eqF_i, neF_i, tuple_l, tuple_t, list_l, list_t, ix_l, ix_t, m_ret, m_drop, m_nx, m_asg, m_nox, nx_ok, set_d, set_o, setD_, wr_un, wr_d, wr_o, wr_rd, m_aug, m_asgD, evD_d, evD_o, m_frzn, m_frzc, m_frz1, fz_d, fz_un, fz_io, fz_lk, fz_rd, fz_o, m_sub, m_augS, m_app, ap_o, ap_io, m_ct, ct_o, ct_io, m_isl, is_o, is_io, m_mut, m_mutB, m_mut0, intD_i, m_sl, m_pn, m_ps, rs_d, rs_l, rsR_rd, rsR_o, rsR_io, sl_l, sl_t, arg_n, arg_c, arg_d, arg_l, ar_o, ar_io, ar_lk, ar_rd, put_n, put_d, put_io, m_put, pt_o, pt_io, i_seq, src_l, src_t, src_o, src_n, sr_o, sr_io, sr_lk, i_rng, i_enum, i_zip, i_rev, unl_n, unl_c, unl_1, ul_lk, ob_t, ob_f, wp_n, wp_c, rt_n, rt_c, fl_un, fl_d, m_unpT, tupD_t, unp_n, unp_c, range_1, range_2, ext_l, ext_t, app_1, m_pc, m_par, rl_n, rl_d, rl_o, rl_l, rlR_o, sr_n, sto_d, sto_o, mulE_i, mulE_t, m_andV, m_orV, m_notE, m_listRg, ite_t, ite_f, m_chain, m_fgt, m_fgtE, fgE_nx, fgE_ct, fgE_bk, fgE_rt, fgE_er, fgts_n, fgts_c, m_fgt1, fg_d, fg_o, fg_un, fg_rd, fg_io, fg_lk, m_raise, List.getElem?_cons_zero, List.getElem?_cons_succ, List.set_cons_zero, List.set_cons_succ, Option.map_some, Option.bind_some, if_true, and_self, m_callF, isint2_at]
theorem right_mid {xs : List Da} {b : Bool} {r : EV} {z : List Da} (hlc : (vLcF [19] (vItSeq (vVar 18)) (vSetD 19) (vNot ((vTru ((vCallF F__law_is_int ((vCons (vVar 19) (vr [])))))))) (vC (.int 1))) [a0, a1, a2, b3, b4, b5, b6, b7, b8, b9, b10, b11, b12, b13, b14, b15, b16, b17, .d (.tuple xs), .un]
      = .ok (.own (.l z), [a0, a1, a2, b3, b4, b5, b6, b7, b8, b9, b10, b11, b12, b13, b14, b15, b16, b17, .d (.tuple xs), .un])) (he : eqF (.list z) (.list []) = some (.d (.bool b)))
    (hr : b = true → (vBin eqF ((vCall sortedE ((vCons (vVar 18) (vr []))))) ((vListRg ((vCall lenD ((vCons (vVar 18) (vr [])))))))) [a0, a1, a2, b3, b4, b5, b6, b7, b8, b9, b10, b11, b12, b13, b14, b15, b16, b17, .d (.tuple xs), .un] = .ok (r, [a0, a1, a2, b3, b4, b5, b6, b7, b8, b9, b10, b11, b12, b13, b14, b15, b16, b17, .d (.tuple xs), .un])) (hb : b = false → r = .d (.bool false)) :
    rightE [a0, a1, a2, b3, b4, b5, b6, b7, b8, b9, b10, b11, b12, b13, b14, b15, b16, b17, .d (.tuple xs), .un] = .ok (r, [a0, a1, a2, b3, b4, b5, b6, b7, b8, b9, b10, b11, b12, b13, b14, b15, b16, b17, .d (.tuple xs), .un]) := by
  unfold rightE
  generalize (vLcF [19] (vItSeq (vVar 18)) (vSetD 19) (vNot ((vTru ((vCallF F__law_is_int ((vCons (vVar 19) (vr [])))))))) (vC (.int 1))) = lc at hlc ⊢
  generalize (vBin eqF ((vCall sortedE ((vCons (vVar 18) (vr []))))) ((vListRg ((vCall lenD ((vCons (vVar 18) (vr [])))))))) = sr at hr ⊢
  cases b with
  | true =>
    have hr := hr rfl
    simp only [m_vb, bnd_ok, bnd_er, m_vr, m_stuck, m_seq, bS_nx, bS_bk, bS_ct, bS_rt, bS_er, m_if, m_ite, bI_t, bI_f, bI_er, m_and, m_or, m_not, m_bool, evB_b, m_opt, m_optn, m_tru, tru_b, tru_i, tru_n, tru_l, tru_t, m_var, var_d, var_own, var_io, var_lk, var_rd, m_c, st_d, st_o, st_l, oc_l, oc_m, rd_d, rd_o, rd_l, rdR_own, rdR_io, rdR_lk, m_bin, m_un, m_call, m_rdn, m_rdc, m_cons, m_conss, m_tup, m_lst, dts_n, dts_c, o_map, o_bind, add_i, sub_i, mul_i, mod_i, fdiv_i, pow_i, neg_i, iadd_i, abs_i, int_i, int_b, len_l, len_t, add_l, add_t, lt_i, le_i, gt_i, ge_i, eq_i, ne_i, eqF_i, neF_i, tuple_l, tuple_t, list_l, list_t, ix_l, ix_t, m_ret, m_drop, m_nx, m_asg, m_nox, nx_ok, set_d, set_o, setD_, wr_un, wr_d, wr_o, wr_rd, m_aug, m_asgD, evD_d, evD_o, m_frzn, m_frzc, m_frz1, fz_d, fz_un, fz_io, fz_lk, fz_rd, fz_o, m_sub, m_augS, m_app, ap_o, ap_io, m_ct, ct_o, ct_io, m_isl, is_o, is_io, m_mut, m_mutB, m_mut0, intD_i, m_sl, m_pn, m_ps, rs_d, rs_l, rsR_rd, rsR_o, rsR_io, sl_l, sl_t, arg_n, arg_c, arg_d, arg_l, ar_o, ar_io, ar_lk, ar_rd, put_n, put_d, put_io, m_put, pt_o, pt_io, i_seq, src_l, src_t, src_o, src_n, sr_o, sr_io, sr_lk, i_rng, i_enum, i_zip, i_rev, unl_n, unl_c, unl_1, ul_lk, ob_t, ob_f, wp_n, wp_c, rt_n, rt_c, fl_un, fl_d, m_unpT, tupD_t, unp_n, unp_c, range_1, range_2, ext_l, ext_t, app_1, m_pc, m_par, rl_n, rl_d, rl_o, rl_l, rlR_o, sr_n, sto_d, sto_o, mulE_i, mulE_t, m_andV, m_orV, m_notE, m_listRg, ite_t, ite_f, m_chain, m_fgt, m_fgtE, fgE_nx, fgE_ct, fgE_bk, fgE_rt, fgE_er, fgts_n, fgts_c, m_fgt1, fg_d, fg_o, fg_un, fg_rd, fg_io, fg_lk, m_raise, List.getElem?_cons_zero, List.getElem?_cons_succ, List.set_cons_zero, List.set_cons_succ, Option.map_some, Option.bind_some, if_true, and_self, isi_run, List.any_cons, List.any_nil, isKT, Bool.or_false, hlc, List.length_nil, Nat.zero_le, he, hr]
  | false =>
    rw [hb rfl]
    simp only [m_vb, bnd_ok, bnd_er, m_vr, m_stuck, m_seq, bS_nx, bS_bk, bS_ct, bS_rt, bS_er, m_if, m_ite, bI_t, bI_f, bI_er, m_and, m_or, m_not, m_bool, evB_b, m_opt, m_optn, m_tru, tru_b, tru_i, tru_n, tru_l, tru_t, m_var, var_d, var_own, var_io, var_lk, var_rd, m_c, st_d, st_o, st_l, oc_l, oc_m, rd_d, rd_o, rd_l, rdR_own, rdR_io, rdR_lk, m_bin, m_un, m_call, m_rdn, m_rdc, m_cons, m_conss, m_tup, m_lst, dts_n, dts_c, o_map, o_bind, add_i, sub_i, mul_i, mod_i, fdiv_i, pow_i, neg_i, iadd_i, abs_i, int_i, int_b, len_l, len_t, add_l, add_t, lt_i, le_i, gt_i, ge_i, eq_i, ne_i, eqF_i, neF_i, tuple_l, tuple_t, list_l, list_t, ix_l, ix_t, m_ret, m_drop, m_nx, m_asg, m_nox, nx_ok, set_d, set_o, setD_, wr_un, wr_d, wr_o, wr_rd, m_aug, m_asgD, evD_d, evD_o, m_frzn, m_frzc, m_frz1, fz_d, fz_un, fz_io, fz_lk, fz_rd, fz_o, m_sub, m_augS, m_app, ap_o, ap_io, m_ct, ct_o, ct_io, m_isl, is_o, is_io, m_mut, m_mutB, m_mut0, intD_i, m_sl, m_pn, m_ps, rs_d, rs_l, rsR_rd, rsR_o, rsR_io, sl_l, sl_t, arg_n, arg_c, arg_d, arg_l, ar_o, ar_io, ar_lk, ar_rd, put_n, put_d, put_io, m_put, pt_o, pt_io, i_seq, src_l, src_t, src_o, src_n, sr_o, sr_io, sr_lk, i_rng, i_enum, i_zip, i_rev, unl_n, unl_c, unl_1, ul_lk, ob_t, ob_f, wp_n, wp_c, rt_n, rt_c, fl_un, fl_d, m_unpT, tupD_t, unp_n, unp_c, range_1, range_2, ext_l, ext_t, app_1, m_pc, m_par, rl_n, rl_d, rl_o, rl_l, rlR_o, sr_n, sto_d, sto_o, mulE_i, mulE_t, m_andV, m_orV, m_notE, m_listRg, ite_t, ite_f, m_chain, m_fgt, m_fgtE, fgE_nx, fgE_ct, fgE_bk, fgE_rt, fgE_er, fgts_n, fgts_c, m_fgt1, fg_d, fg_o, fg_un, fg_rd, fg_io, fg_lk, m_raise, List.getElem?_cons_zero, List.getElem?_cons_succ, List.set_cons_zero, List.set_cons_succ, Option.map_some, Option.bind_some, if_true, and_self, isi_run, List.any_cons, List.any_nil, isKT, Bool.or_false, hlc, List.length_nil, Nat.zero_le, he]
    all_goals rfl
theorem right_end {x : Da} {b : Bool} {z w : List Da} {n : Int} (hs : sortedE [x] = some (.own (.l z))) (hl : lenD [x] = some (.d (.int n))) (hr : lstRgD (.int 0) (.int n) = some (.own (.l w))) (he : eqF (.list z) (.list w) = some (.d (.bool b))) :
    (vBin eqF ((vCall sortedE ((vCons (vVar 18) (vr []))))) ((vListRg ((vCall lenD ((vCons (vVar 18) (vr [])))))))) [a0, a1, a2, b3, b4, b5, b6, b7, b8, b9, b10, b11, b12, b13, b14, b15, b16, b17, .d x, .un] = .ok (.d (.bool b), [a0, a1, a2, b3, b4, b5, b6, b7, b8, b9, b10, b11, b12, b13, b14, b15, b16, b17, .d x, .un]) := by
  simp only [m_vb, bnd_ok, bnd_er, m_vr, m_stuck, m_seq, bS_nx, bS_bk, bS_ct, bS_rt, bS_er, m_if, m_ite, bI_t, bI_f, bI_er, m_and, m_or, m_not, m_bool, evB_b, m_opt, m_optn, m_tru, tru_b, tru_i, tru_n, tru_l, tru_t, m_var, var_d, var_own, var_io, var_lk, var_rd, m_c, st_d, st_o, st_l, oc_l, oc_m, rd_d, rd_o, rd_l, rdR_own, rdR_io, rdR_lk, m_bin, m_un, m_call, m_rdn, m_rdc, m_cons, m_conss, m_tup, m_lst, dts_n, dts_c, o_map, o_bind, add_i, sub_i, mul_i, mod_i, fdiv_i, pow_i, neg_i, iadd_i, abs_i, int_i, int_b, len_l, len_t, add_l, add_t, lt_i, le_i, gt_i, ge_i, eq_i, ne_i, eqF_i, neF_i, tuple_l, tuple_t, list_l, list_t, ix_l, ix_t, m_ret, m_drop, m_nx, m_asg, m_nox, nx_ok, set_d, set_o, setD_, wr_un, wr_d, wr_o, wr_rd, m_aug, m_asgD, evD_d, evD_o, m_frzn, m_frzc, m_frz1, fz_d, fz_un, fz_io, fz_lk, fz_rd, fz_o, m_sub, m_augS, m_app, ap_o, ap_io, m_ct, ct_o, ct_io, m_isl, is_o, is_io, m_mut, m_mutB, m_mut0, intD_i, m_sl, m_pn, m_ps, rs_d, rs_l, rsR_rd, rsR_o, rsR_io, sl_l, sl_t, arg_n, arg_c, arg_d, arg_l, ar_o, ar_io, ar_lk, ar_rd, put_n, put_d, put_io, m_put, pt_o, pt_io, i_seq, src_l, src_t, src_o, src_n, sr_o, sr_io, sr_lk, i_rng, i_enum, i_zip, i_rev, unl_n, unl_c, unl_1, ul_lk, ob_t, ob_f, wp_n, wp_c, rt_n, rt_c, fl_un, fl_d, m_unpT, tupD_t, unp_n, unp_c, range_1, range_2, ext_l, ext_t, app_1, m_pc, m_par, rl_n, rl_d, rl_o, rl_l, rlR_o, sr_n, sto_d, sto_o, mulE_i, mulE_t, m_andV, m_orV, m_notE, m_listRg, ite_t, ite_f, m_chain, m_fgt, m_fgtE, fgE_nx, fgE_ct, fgE_bk, fgE_rt, fgE_er, fgts_n, fgts_c, m_fgt1, fg_d, fg_o, fg_un, fg_rd, fg_io, fg_lk, m_raise, List.getElem?_cons_zero, List.getElem?_cons_succ, List.set_cons_zero, List.set_cons_succ, Option.map_some, Option.bind_some, if_true, and_self, hs, hl, hr, he]
theorem ints_one {z : List Da} : ∀ x ∈ z.map (fun _ => PyData.int 1), shF 63 x = true := fun x hx => by
  obtain ⟨_, _, rfl⟩ := List.mem_map.mp hx; rfl
theorem right_ok {x : Da} (hx : ∀ xs, x = .tuple xs → xs.length ≤ 1000) : rightE [a0, a1, a2, b3, b4, b5, b6, b7, b8, b9, b10, b11, b12, b13, b14, b15, b16, b17, .d x, .un] = .ok (.d (.bool (ordB x)), [a0, a1, a2, b3, b4, b5, b6, b7, b8, b9, b10, b11, b12, b13, b14, b15, b16, b17, .d x, .un]) := by
  by_cases ht : ∃ xs, x = .tuple xs
  · obtain ⟨xs, rfl⟩ := ht
    have hl := hx _ rfl
    have hlc := right_lc (a0 := a0) (a1 := a1) (a2 := a2) (b3 := b3) (b4 := b4) (b5 := b5) (b6 := b6) (b7 := b7) (b8 := b8) (b9 := b9) (b10 := b10) (b11 := b11) (b12 := b12) (b13 := b13) (b14 := b14) (b15 := b15) (b16 := b16) (b17 := b17) hl
    have he := eqF_nil (l := (xs.filter fun x => !isI x).map fun _ => .int 1) ints_one
    rw [List.isEmpty_map, filter_not] at he
    refine right_mid hlc he (fun h => ?_) (fun h => ?_)
    · obtain ⟨ns, rfl⟩ := ints_some h
      rw [List.length_map] at hl
      rw [ordB_ints]
      exact right_end (sortE_ints ns) (by rw [len_t, List.length_map]) (lstRg_ok hl) (eqF_ints _ _)
    · show EV.d (.bool (xs.all isI && (match ints? xs with
        | some ns => sortI ns == rngI ns.length
        | none => false))) = _
      rw [h]; rfl
  · have e : ordB x = false := by cases x <;> first | rfl | exact absurd ⟨_, rfl⟩ ht
    rw [e]
    exact right_no fun xs z => ht ⟨xs, z⟩
end
end Yk05
set_option Elab.async false
set_option linter.all false
set_option maxRecDepth 100000
set_option maxHeartbeats 0
namespace Yk05
open PySem PySem.Spec PyProof.Rows L2 VL LB
theorem ex_map {α β : Type} {f : α → β} {P : α → Prop} : ∀ {l : List β}, (∀ x ∈ l, ∃ w, P w ∧ x = f w) → ∃ ws : List α, l = ws.map f ∧ ∀ w ∈ ws, P w
  | [], _ => ⟨[], rfl, fun _ h => by cases h⟩
  | x :: l, h => by
    obtain ⟨w, hw, rfl⟩ := h x List.mem_cons_self
    obtain ⟨ws, rfl, hws⟩ := ex_map fun y hy => h y (List.mem_cons_of_mem _ hy)
    exact ⟨w :: ws, rfl, fun v hv => (List.mem_cons.mp hv).elim (fun e => e ▸ hw) (hws v)⟩
section
variable {a0 a1 a2 y : SV} {b4 b5 b6 b7 b8 b9 b10 b11 : SV}
theorem st_order {bag bag' os z : List Da} {n : Int} (hz : lstRgD (.int 0) (.int n) = some (.own (.l z)))
    (h : callF F__law_mixed [.loan 1, .d (.list z)] [a0, .own (.l bag), a2, y, .d (.int n), .un, .un, .un, .un, .un, .un, .un, .un, .un, .un, .un, .un, .un, .un, .un] = .ok (.own (.l os), [a0, .own (.l bag'), a2, y, .d (.int n), .un, .un, .un, .un, .un, .un, .un, .un, .un, .un, .un, .un, .un, .un, .un])) :
    (vFrz [4] (vAsg ((vCall tupleD ((vCons ((vCallF F__law_mixed ((vCons (vVar 1) ((vCons ((vListRg (vVar 4))) (vr []))))))) (vr []))))) (vSet 5)))
      [a0, .own (.l bag), a2, y, .d (.int n), .un, .un, .un, .un, .un, .un, .un, .un, .un, .un, .un, .un, .un, .un, .un] = .ok (.nx, [a0, .own (.l bag'), a2, y, .d (.int n), .d (.tuple os), .un, .un, .un, .un, .un, .un, .un, .un, .un, .un, .un, .un, .un, .un]) := by
  simp only [m_vb, bnd_ok, bnd_er, m_vr, m_stuck, m_seq, bS_nx, bS_bk, bS_ct, bS_rt, bS_er, m_if, m_ite, bI_t, bI_f, bI_er, m_and, m_or, m_not, m_bool, evB_b, m_opt, m_optn, m_tru, tru_b, tru_i, tru_n, tru_l, tru_t, m_var, var_d, var_own, var_io, var_lk, var_rd, m_c, st_d, st_o, st_l, oc_l, oc_m, rd_d, rd_o, rd_l, rdR_own, rdR_io, rdR_lk, m_bin, m_un, m_call, m_rdn, m_rdc, m_cons, m_conss, m_tup, m_lst, dts_n, dts_c, o_map, o_bind, add_i, sub_i, mul_i, mod_i, fdiv_i, pow_i, neg_i, iadd_i, abs_i, int_i, int_b, len_l, len_t, add_l, add_t, lt_i, le_i, gt_i, ge_i, eq_i, ne_i, eqF_i, neF_i, tuple_l, tuple_t, list_l, list_t, ix_l, ix_t, m_ret, m_drop, m_nx, m_asg, m_nox, nx_ok, set_d, set_o, setD_, wr_un, wr_d, wr_o, wr_rd, m_aug, m_asgD, evD_d, evD_o, m_frzn, m_frzc, m_frz1, fz_d, fz_un, fz_io, fz_lk, fz_rd, fz_o, m_sub, m_augS, m_app, ap_o, ap_io, m_ct, ct_o, ct_io, m_isl, is_o, is_io, m_mut, m_mutB, m_mut0, intD_i, m_sl, m_pn, m_ps, rs_d, rs_l, rsR_rd, rsR_o, rsR_io, sl_l, sl_t, arg_n, arg_c, arg_d, arg_l, ar_o, ar_io, ar_lk, ar_rd, put_n, put_d, put_io, m_put, pt_o, pt_io, i_seq, src_l, src_t, src_o, src_n, sr_o, sr_io, sr_lk, i_rng, i_enum, i_zip, i_rev, unl_n, unl_c, unl_1, ul_lk, ob_t, ob_f, wp_n, wp_c, rt_n, rt_c, fl_un, fl_d, m_unpT, tupD_t, unp_n, unp_c, range_1, range_2, ext_l, ext_t, app_1, m_pc, m_par, rl_n, rl_d, rl_o, rl_l, rlR_o, sr_n, sto_d, sto_o, mulE_i, mulE_t, m_andV, m_orV, m_notE, m_listRg, ite_t, ite_f, m_chain, m_fgt, m_fgtE, fgE_nx, fgE_ct, fgE_bk, fgE_rt, fgE_er, fgts_n, fgts_c, m_fgt1, fg_d, fg_o, fg_un, fg_rd, fg_io, fg_lk, m_raise, List.getElem?_cons_zero, List.getElem?_cons_succ, List.set_cons_zero, List.set_cons_succ, Option.map_some, Option.bind_some, if_true, and_self, m_callF, hz, h]
theorem roll_te {bag bag' : List Da} {x o : Da} {ys : List Da} {v : Da} (h : callF F__law_take [.loan 1, .d (.int ys.length)] [a0, .own (.l bag), a2, .d (.tuple ys), b4, .d o, .un, .un, .un, .un, .un, .un, .un, .un, .un, .un, .d x, .un, .un, .un] = .ok (.d v, [a0, .own (.l bag'), a2, .d (.tuple ys), b4, .d o, .un, .un, .un, .un, .un, .un, .un, .un, .un, .un, .d x, .un, .un, .un])) :
    (vCallF F__law_take ((vCons (vVar 1) ((vCons ((vCall lenD ((vCons (vVar 3) (vr []))))) (vr [])))))) [a0, .own (.l bag), a2, .d (.tuple ys), b4, .d o, .un, .un, .un, .un, .un, .un, .un, .un, .un, .un, .d x, .un, .un, .un] = .ok (.d v, [a0, .own (.l bag'), a2, .d (.tuple ys), b4, .d o, .un, .un, .un, .un, .un, .un, .un, .un, .un, .un, .d x, .un, .un, .un]) := by
  simp only [m_vb, bnd_ok, bnd_er, m_vr, m_stuck, m_seq, bS_nx, bS_bk, bS_ct, bS_rt, bS_er, m_if, m_ite, bI_t, bI_f, bI_er, m_and, m_or, m_not, m_bool, evB_b, m_opt, m_optn, m_tru, tru_b, tru_i, tru_n, tru_l, tru_t, m_var, var_d, var_own, var_io, var_lk, var_rd, m_c, st_d, st_o, st_l, oc_l, oc_m, rd_d, rd_o, rd_l, rdR_own, rdR_io, rdR_lk, m_bin, m_un, m_call, m_rdn, m_rdc, m_cons, m_conss, m_tup, m_lst, dts_n, dts_c, o_map, o_bind, add_i, sub_i, mul_i, mod_i, fdiv_i, pow_i, neg_i, iadd_i, abs_i, int_i, int_b, len_l, len_t, add_l, add_t, lt_i, le_i, gt_i, ge_i, eq_i, ne_i, eqF_i, neF_i, tuple_l, tuple_t, list_l, list_t, ix_l, ix_t, m_ret, m_drop, m_nx, m_asg, m_nox, nx_ok, set_d, set_o, setD_, wr_un, wr_d, wr_o, wr_rd, m_aug, m_asgD, evD_d, evD_o, m_frzn, m_frzc, m_frz1, fz_d, fz_un, fz_io, fz_lk, fz_rd, fz_o, m_sub, m_augS, m_app, ap_o, ap_io, m_ct, ct_o, ct_io, m_isl, is_o, is_io, m_mut, m_mutB, m_mut0, intD_i, m_sl, m_pn, m_ps, rs_d, rs_l, rsR_rd, rsR_o, rsR_io, sl_l, sl_t, arg_n, arg_c, arg_d, arg_l, ar_o, ar_io, ar_lk, ar_rd, put_n, put_d, put_io, m_put, pt_o, pt_io, i_seq, src_l, src_t, src_o, src_n, sr_o, sr_io, sr_lk, i_rng, i_enum, i_zip, i_rev, unl_n, unl_c, unl_1, ul_lk, ob_t, ob_f, wp_n, wp_c, rt_n, rt_c, fl_un, fl_d, m_unpT, tupD_t, unp_n, unp_c, range_1, range_2, ext_l, ext_t, app_1, m_pc, m_par, rl_n, rl_d, rl_o, rl_l, rlR_o, sr_n, sto_d, sto_o, mulE_i, mulE_t, m_andV, m_orV, m_notE, m_listRg, ite_t, ite_f, m_chain, m_fgt, m_fgtE, fgE_nx, fgE_ct, fgE_bk, fgE_rt, fgE_er, fgts_n, fgts_c, m_fgt1, fg_d, fg_o, fg_un, fg_rd, fg_io, fg_lk, m_raise, List.getElem?_cons_zero, List.getElem?_cons_succ, List.set_cons_zero, List.set_cons_succ, Option.map_some, Option.bind_some, if_true, and_self, m_callF, h]
theorem st_roll {bag os ys : List Da} {n : Nat} (hb : BagOk (n + 1 * os.length) bag) (h0 : 0 < ys.length) (h1 : ys.length ≤ 1000) (hl : os.length ≤ 1000) :
    ∃ (rs : List Int) (bag' : List Da), (vFrz [3, 5] (vAsg ((vCall tupleD ((vCons ((vLcF [16] (vItSeq (vVar 5)) (vSetD 16) (vr true) ((vCallF F__law_take ((vCons (vVar 1) ((vCons ((vCall lenD ((vCons (vVar 3) (vr []))))) (vr []))))))))) (vr []))))) (vSet 6)))
      [a0, .own (.l bag), a2, .d (.tuple ys), .d b, .d (.tuple os), .un, .un, .un, .un, .un, .un, .un, .un, .un, .un, .un, .un, .un, .un] = .ok (.nx, [a0, .own (.l bag'), a2, .d (.tuple ys), .d b, .d (.tuple os), .d (.tuple (rs.map PyData.int)), .un, .un, .un, .un, .un, .un, .un, .un, .un, .un, .un, .un, .un])
      ∧ rs.length = os.length ∧ (∀ r ∈ rs, 0 ≤ r ∧ r < ys.length) ∧ BagOk n bag' := by
  obtain ⟨rs, bag', hG, hlen, hr, hb'⟩ := lc_draw (ix := [16]) (gt := vSetD 16) (te := (vCallF F__law_take ((vCons (vVar 1) ((vCons ((vCall lenD ((vCons (vVar 3) (vr []))))) (vr []))))))) (St := fun bag => [a0, .own (.l bag), a2, .d (.tuple ys), .d b, .d (.tuple os), .un, .un, .un, .un, .un, .un, .un, .un, .un, .un, .un, .un, .un, .un]) (c := 1)
    (Pr := fun x => ∃ r : Int, (0 ≤ r ∧ r < ys.length) ∧ x = .int r) (fun x n bag hb => by
      obtain ⟨v, bag', h, v0, v1, hb'⟩ := take_at (n := n) (k := 1) (s := [a0, .own (.l bag), a2, .d (.tuple ys), .d b, .d (.tuple os), .un, .un, .un, .un, .un, .un, .un, .un, .un, .un, .d x, .un, .un, .un]) (b := false) (m := ys.length) rfl hb (by omega) (by omega)
      exact ⟨[a0, .own (.l bag), a2, .d (.tuple ys), .d b, .d (.tuple os), .un, .un, .un, .un, .un, .un, .un, .un, .un, .un, .d x, .un, .un, .un], .int v, bag', [a0, .own (.l bag'), a2, .d (.tuple ys), .d b, .d (.tuple os), .un, .un, .un, .un, .un, .un, .un, .un, .un, .un, .d x, .un, .un, .un], by simp only [m_vb, bnd_ok, bnd_er, m_vr, m_stuck, m_seq, bS_nx, bS_bk, bS_ct, bS_rt, bS_er, m_if, m_ite, bI_t, bI_f, bI_er, m_and, m_or, m_not, m_bool, evB_b, m_opt, m_optn, m_tru, tru_b, tru_i, tru_n, tru_l, tru_t, m_var, var_d, var_own, var_io, var_lk, var_rd, m_c, st_d, st_o, st_l, oc_l, oc_m, rd_d, rd_o, rd_l, rdR_own, rdR_io, rdR_lk, m_bin, m_un, m_call, m_rdn, m_rdc, m_cons, m_conss, m_tup, m_lst, dts_n, dts_c, o_map, o_bind, add_i, sub_i, mul_i, mod_i, fdiv_i, pow_i, neg_i, iadd_i, abs_i, int_i, int_b, len_l, len_t, add_l, add_t, lt_i, le_i, gt_i, ge_i, eq_i, ne_i, eqF_i, neF_i, tuple_l, tuple_t, list_l, list_t, ix_l, ix_t, m_ret, m_drop, m_nx, m_asg, m_nox, nx_ok, set_d, set_o, setD_, wr_un, wr_d, wr_o, wr_rd, m_aug, m_asgD, evD_d, evD_o, m_frzn, m_frzc, m_frz1, fz_d, fz_un, fz_io, fz_lk, fz_rd, fz_o, m_sub, m_augS, m_app, ap_o, ap_io, m_ct, ct_o, ct_io, m_isl, is_o, is_io, m_mut, m_mutB, m_mut0, intD_i, m_sl, m_pn, m_ps, rs_d, rs_l, rsR_rd, rsR_o, rsR_io, sl_l, sl_t, arg_n, arg_c, arg_d, arg_l, ar_o, ar_io, ar_lk, ar_rd, put_n, put_d, put_io, m_put, pt_o, pt_io, i_seq, src_l, src_t, src_o, src_n, sr_o, sr_io, sr_lk, i_rng, i_enum, i_zip, i_rev, unl_n, unl_c, unl_1, ul_lk, ob_t, ob_f, wp_n, wp_c, rt_n, rt_c, fl_un, fl_d, m_unpT, tupD_t, unp_n, unp_c, range_1, range_2, ext_l, ext_t, app_1, m_pc, m_par, rl_n, rl_d, rl_o, rl_l, rlR_o, sr_n, sto_d, sto_o, mulE_i, mulE_t, m_andV, m_orV, m_notE, m_listRg, ite_t, ite_f, m_chain, m_fgt, m_fgtE, fgE_nx, fgE_ct, fgE_bk, fgE_rt, fgE_er, fgts_n, fgts_c, m_fgt1, fg_d, fg_o, fg_un, fg_rd, fg_io, fg_lk, m_raise, List.getElem?_cons_zero, List.getElem?_cons_succ, List.set_cons_zero, List.set_cons_succ, Option.map_some, Option.bind_some, if_true, and_self], roll_te h, ⟨v, ⟨v0, v1⟩, rfl⟩, rfl, rfl, hb'⟩) os n bag hb
  obtain ⟨is, rfl, his⟩ := ex_map hr
  rw [List.length_map] at hlen
  have lc : (vLcF [16] (vItSeq (vVar 5)) (vSetD 16) (vr true) ((vCallF F__law_take ((vCons (vVar 1) ((vCons ((vCall lenD ((vCons (vVar 3) (vr []))))) (vr []))))))) ) [a0, .own (.l bag), a2, .d (.tuple ys), .d b, .d (.tuple os), .un, .un, .un, .un, .un, .un, .un, .un, .un, .un, .un, .un, .un, .un]
      = .ok (.own (.l (is.map PyData.int)), [a0, .own (.l bag'), a2, .d (.tuple ys), .d b, .d (.tuple os), .un, .un, .un, .un, .un, .un, .un, .un, .un, .un, .un, .un, .un, .un]) :=
    lcF_of (xs := os) (L := []) (s1 := [a0, .own (.l bag), a2, .d (.tuple ys), .d b, .d (.tuple os), .un, .un, .un, .un, .un, .un, .un, .un, .un, .un, .un, .un, .un, .un]) (by simp only [m_vb, bnd_ok, bnd_er, m_vr, m_stuck, m_seq, bS_nx, bS_bk, bS_ct, bS_rt, bS_er, m_if, m_ite, bI_t, bI_f, bI_er, m_and, m_or, m_not, m_bool, evB_b, m_opt, m_optn, m_tru, tru_b, tru_i, tru_n, tru_l, tru_t, m_var, var_d, var_own, var_io, var_lk, var_rd, m_c, st_d, st_o, st_l, oc_l, oc_m, rd_d, rd_o, rd_l, rdR_own, rdR_io, rdR_lk, m_bin, m_un, m_call, m_rdn, m_rdc, m_cons, m_conss, m_tup, m_lst, dts_n, dts_c, o_map, o_bind, add_i, sub_i, mul_i, mod_i, fdiv_i, pow_i, neg_i, iadd_i, abs_i, int_i, int_b, len_l, len_t, add_l, add_t, lt_i, le_i, gt_i, ge_i, eq_i, ne_i, eqF_i, neF_i, tuple_l, tuple_t, list_l, list_t, ix_l, ix_t, m_ret, m_drop, m_nx, m_asg, m_nox, nx_ok, set_d, set_o, setD_, wr_un, wr_d, wr_o, wr_rd, m_aug, m_asgD, evD_d, evD_o, m_frzn, m_frzc, m_frz1, fz_d, fz_un, fz_io, fz_lk, fz_rd, fz_o, m_sub, m_augS, m_app, ap_o, ap_io, m_ct, ct_o, ct_io, m_isl, is_o, is_io, m_mut, m_mutB, m_mut0, intD_i, m_sl, m_pn, m_ps, rs_d, rs_l, rsR_rd, rsR_o, rsR_io, sl_l, sl_t, arg_n, arg_c, arg_d, arg_l, ar_o, ar_io, ar_lk, ar_rd, put_n, put_d, put_io, m_put, pt_o, pt_io, i_seq, src_l, src_t, src_o, src_n, sr_o, sr_io, sr_lk, i_rng, i_enum, i_zip, i_rev, unl_n, unl_c, unl_1, ul_lk, ob_t, ob_f, wp_n, wp_c, rt_n, rt_c, fl_un, fl_d, m_unpT, tupD_t, unp_n, unp_c, range_1, range_2, ext_l, ext_t, app_1, m_pc, m_par, rl_n, rl_d, rl_o, rl_l, rlR_o, sr_n, sto_d, sto_o, mulE_i, mulE_t, m_andV, m_orV, m_notE, m_listRg, ite_t, ite_f, m_chain, m_fgt, m_fgtE, fgE_nx, fgE_ct, fgE_bk, fgE_rt, fgE_er, fgts_n, fgts_c, m_fgt1, fg_d, fg_o, fg_un, fg_rd, fg_io, fg_lk, m_raise, List.getElem?_cons_zero, List.getElem?_cons_succ, List.set_cons_zero, List.set_cons_succ, Option.map_some, Option.bind_some, if_true, and_self]) rfl hG (by rw [List.length_map]; omega)
  refine ⟨is, bag', ?_, hlen, his, hb'⟩
  simp only [m_frzc, m_frzn, m_frz1, List.getElem?_cons_succ, List.getElem?_cons_zero, fz_d]
  exact asg_tuple lc rfl
theorem st_lanes {b : Da} {y o r : Da} {L : List Da} (h : ∀ s, callF F__law_rolled [.d y, .d o, .d r] s = .ok (.own (.l L), s)) :
    (vFrz [3, 5, 6] (vAsg ((vCallF F__law_rolled ((vCons (vVar 3) ((vCons (vVar 5) ((vCons (vVar 6) (vr []))))))))) (vSet 7))) [a0, a1, a2, .d y, .d b, .d o, .d r, .un, .un, .un, .un, .un, .un, .un, .un, .un, .un, .un, .un, .un]
      = .ok (.nx, [a0, a1, a2, .d y, .d b, .d o, .d r, .own (.l L), .un, .un, .un, .un, .un, .un, .un, .un, .un, .un, .un, .un]) := by
  simp only [m_vb, bnd_ok, bnd_er, m_vr, m_stuck, m_seq, bS_nx, bS_bk, bS_ct, bS_rt, bS_er, m_if, m_ite, bI_t, bI_f, bI_er, m_and, m_or, m_not, m_bool, evB_b, m_opt, m_optn, m_tru, tru_b, tru_i, tru_n, tru_l, tru_t, m_var, var_d, var_own, var_io, var_lk, var_rd, m_c, st_d, st_o, st_l, oc_l, oc_m, rd_d, rd_o, rd_l, rdR_own, rdR_io, rdR_lk, m_bin, m_un, m_call, m_rdn, m_rdc, m_cons, m_conss, m_tup, m_lst, dts_n, dts_c, o_map, o_bind, add_i, sub_i, mul_i, mod_i, fdiv_i, pow_i, neg_i, iadd_i, abs_i, int_i, int_b, len_l, len_t, add_l, add_t, lt_i, le_i, gt_i, ge_i, eq_i, ne_i, eqF_i, neF_i, tuple_l, tuple_t, list_l, list_t, ix_l, ix_t, m_ret, m_drop, m_nx, m_asg, m_nox, nx_ok, set_d, set_o, setD_, wr_un, wr_d, wr_o, wr_rd, m_aug, m_asgD, evD_d, evD_o, m_frzn, m_frzc, m_frz1, fz_d, fz_un, fz_io, fz_lk, fz_rd, fz_o, m_sub, m_augS, m_app, ap_o, ap_io, m_ct, ct_o, ct_io, m_isl, is_o, is_io, m_mut, m_mutB, m_mut0, intD_i, m_sl, m_pn, m_ps, rs_d, rs_l, rsR_rd, rsR_o, rsR_io, sl_l, sl_t, arg_n, arg_c, arg_d, arg_l, ar_o, ar_io, ar_lk, ar_rd, put_n, put_d, put_io, m_put, pt_o, pt_io, i_seq, src_l, src_t, src_o, src_n, sr_o, sr_io, sr_lk, i_rng, i_enum, i_zip, i_rev, unl_n, unl_c, unl_1, ul_lk, ob_t, ob_f, wp_n, wp_c, rt_n, rt_c, fl_un, fl_d, m_unpT, tupD_t, unp_n, unp_c, range_1, range_2, ext_l, ext_t, app_1, m_pc, m_par, rl_n, rl_d, rl_o, rl_l, rlR_o, sr_n, sto_d, sto_o, mulE_i, mulE_t, m_andV, m_orV, m_notE, m_listRg, ite_t, ite_f, m_chain, m_fgt, m_fgtE, fgE_nx, fgE_ct, fgE_bk, fgE_rt, fgE_er, fgts_n, fgts_c, m_fgt1, fg_d, fg_o, fg_un, fg_rd, fg_io, fg_lk, m_raise, List.getElem?_cons_zero, List.getElem?_cons_succ, List.set_cons_zero, List.set_cons_succ, Option.map_some, Option.bind_some, if_true, and_self, m_callF, h]
theorem st_tracks {y b o r : Da} {L : List (List Da)} (hl : L.length ≤ 1000) :
    (vFrz [7] (vAsg ((vCall tupleD ((vCons ((vLcF [17] (vItSeq (vVar 7)) (vSetD 17) (vr true) ((vCall tupleD ((vCons (vVar 17) (vr []))))))) (vr []))))) (vSet 8))) [a0, a1, a2, .d y, .d b, .d o, .d r, .own (.l (L.map PyData.list)), .un, .un, .un, .un, .un, .un, .un, .un, .un, .un, .un, .un]
      = .ok (.nx, [a0, a1, a2, .d y, .d b, .d o, .d r, .d (.list (L.map PyData.list)), .d (.tuple (L.map PyData.tuple)), .un, .un, .un, .un, .un, .un, .un, .un, .un, .un, .un]) := by
  have lc : (vLcF [17] (vItSeq (vVar 7)) (vSetD 17) (vr true) ((vCall tupleD ((vCons (vVar 17) (vr [])))))) [a0, a1, a2, .d y, .d b, .d o, .d r, .d (.list (L.map PyData.list)), .un, .un, .un, .un, .un, .un, .un, .un, .un, .un, .un, .un]
      = .ok (.own (.l (L.map PyData.tuple)), [a0, a1, a2, .d y, .d b, .d o, .d r, .d (.list (L.map PyData.list)), .un, .un, .un, .un, .un, .un, .un, .un, .un, .un, .un, .un]) :=
    lc_map (enc := PyData.list) (xs := L) (L := []) (base := [a0, a1, a2, .d y, .d b, .d o, .d r, .d (.list (L.map PyData.list)), .un, .un, .un, .un, .un, .un, .un, .un, .un, .un, .un, .un]) (s1 := [a0, a1, a2, .d y, .d b, .d o, .d r, .d (.list (L.map PyData.list)), .un, .un, .un, .un, .un, .un, .un, .un, .un, .un, .un, .un]) (by simp only [m_vb, bnd_ok, bnd_er, m_vr, m_stuck, m_seq, bS_nx, bS_bk, bS_ct, bS_rt, bS_er, m_if, m_ite, bI_t, bI_f, bI_er, m_and, m_or, m_not, m_bool, evB_b, m_opt, m_optn, m_tru, tru_b, tru_i, tru_n, tru_l, tru_t, m_var, var_d, var_own, var_io, var_lk, var_rd, m_c, st_d, st_o, st_l, oc_l, oc_m, rd_d, rd_o, rd_l, rdR_own, rdR_io, rdR_lk, m_bin, m_un, m_call, m_rdn, m_rdc, m_cons, m_conss, m_tup, m_lst, dts_n, dts_c, o_map, o_bind, add_i, sub_i, mul_i, mod_i, fdiv_i, pow_i, neg_i, iadd_i, abs_i, int_i, int_b, len_l, len_t, add_l, add_t, lt_i, le_i, gt_i, ge_i, eq_i, ne_i, eqF_i, neF_i, tuple_l, tuple_t, list_l, list_t, ix_l, ix_t, m_ret, m_drop, m_nx, m_asg, m_nox, nx_ok, set_d, set_o, setD_, wr_un, wr_d, wr_o, wr_rd, m_aug, m_asgD, evD_d, evD_o, m_frzn, m_frzc, m_frz1, fz_d, fz_un, fz_io, fz_lk, fz_rd, fz_o, m_sub, m_augS, m_app, ap_o, ap_io, m_ct, ct_o, ct_io, m_isl, is_o, is_io, m_mut, m_mutB, m_mut0, intD_i, m_sl, m_pn, m_ps, rs_d, rs_l, rsR_rd, rsR_o, rsR_io, sl_l, sl_t, arg_n, arg_c, arg_d, arg_l, ar_o, ar_io, ar_lk, ar_rd, put_n, put_d, put_io, m_put, pt_o, pt_io, i_seq, src_l, src_t, src_o, src_n, sr_o, sr_io, sr_lk, i_rng, i_enum, i_zip, i_rev, unl_n, unl_c, unl_1, ul_lk, ob_t, ob_f, wp_n, wp_c, rt_n, rt_c, fl_un, fl_d, m_unpT, tupD_t, unp_n, unp_c, range_1, range_2, ext_l, ext_t, app_1, m_pc, m_par, rl_n, rl_d, rl_o, rl_l, rlR_o, sr_n, sto_d, sto_o, mulE_i, mulE_t, m_andV, m_orV, m_notE, m_listRg, ite_t, ite_f, m_chain, m_fgt, m_fgtE, fgE_nx, fgE_ct, fgE_bk, fgE_rt, fgE_er, fgts_n, fgts_c, m_fgt1, fg_d, fg_o, fg_un, fg_rd, fg_io, fg_lk, m_raise, List.getElem?_cons_zero, List.getElem?_cons_succ, List.set_cons_zero, List.set_cons_succ, Option.map_some, Option.bind_some, if_true, and_self]) rfl rfl
      (fun l _ => ⟨[a0, a1, a2, .d y, .d b, .d o, .d r, .d (.list (L.map PyData.list)), .un, .un, .un, .un, .un, .un, .un, .un, .un, .d (.list l), .un, .un], .d (.tuple l), [a0, a1, a2, .d y, .d b, .d o, .d r, .d (.list (L.map PyData.list)), .un, .un, .un, .un, .un, .un, .un, .un, .un, .d (.list l), .un, .un], by simp only [m_vb, bnd_ok, bnd_er, m_vr, m_stuck, m_seq, bS_nx, bS_bk, bS_ct, bS_rt, bS_er, m_if, m_ite, bI_t, bI_f, bI_er, m_and, m_or, m_not, m_bool, evB_b, m_opt, m_optn, m_tru, tru_b, tru_i, tru_n, tru_l, tru_t, m_var, var_d, var_own, var_io, var_lk, var_rd, m_c, st_d, st_o, st_l, oc_l, oc_m, rd_d, rd_o, rd_l, rdR_own, rdR_io, rdR_lk, m_bin, m_un, m_call, m_rdn, m_rdc, m_cons, m_conss, m_tup, m_lst, dts_n, dts_c, o_map, o_bind, add_i, sub_i, mul_i, mod_i, fdiv_i, pow_i, neg_i, iadd_i, abs_i, int_i, int_b, len_l, len_t, add_l, add_t, lt_i, le_i, gt_i, ge_i, eq_i, ne_i, eqF_i, neF_i, tuple_l, tuple_t, list_l, list_t, ix_l, ix_t, m_ret, m_drop, m_nx, m_asg, m_nox, nx_ok, set_d, set_o, setD_, wr_un, wr_d, wr_o, wr_rd, m_aug, m_asgD, evD_d, evD_o, m_frzn, m_frzc, m_frz1, fz_d, fz_un, fz_io, fz_lk, fz_rd, fz_o, m_sub, m_augS, m_app, ap_o, ap_io, m_ct, ct_o, ct_io, m_isl, is_o, is_io, m_mut, m_mutB, m_mut0, intD_i, m_sl, m_pn, m_ps, rs_d, rs_l, rsR_rd, rsR_o, rsR_io, sl_l, sl_t, arg_n, arg_c, arg_d, arg_l, ar_o, ar_io, ar_lk, ar_rd, put_n, put_d, put_io, m_put, pt_o, pt_io, i_seq, src_l, src_t, src_o, src_n, sr_o, sr_io, sr_lk, i_rng, i_enum, i_zip, i_rev, unl_n, unl_c, unl_1, ul_lk, ob_t, ob_f, wp_n, wp_c, rt_n, rt_c, fl_un, fl_d, m_unpT, tupD_t, unp_n, unp_c, range_1, range_2, ext_l, ext_t, app_1, m_pc, m_par, rl_n, rl_d, rl_o, rl_l, rlR_o, sr_n, sto_d, sto_o, mulE_i, mulE_t, m_andV, m_orV, m_notE, m_listRg, ite_t, ite_f, m_chain, m_fgt, m_fgtE, fgE_nx, fgE_ct, fgE_bk, fgE_rt, fgE_er, fgts_n, fgts_c, m_fgt1, fg_d, fg_o, fg_un, fg_rd, fg_io, fg_lk, m_raise, List.getElem?_cons_zero, List.getElem?_cons_succ, List.set_cons_zero, List.set_cons_succ, Option.map_some, Option.bind_some, if_true, and_self], by simp only [m_vb, bnd_ok, bnd_er, m_vr, m_stuck, m_seq, bS_nx, bS_bk, bS_ct, bS_rt, bS_er, m_if, m_ite, bI_t, bI_f, bI_er, m_and, m_or, m_not, m_bool, evB_b, m_opt, m_optn, m_tru, tru_b, tru_i, tru_n, tru_l, tru_t, m_var, var_d, var_own, var_io, var_lk, var_rd, m_c, st_d, st_o, st_l, oc_l, oc_m, rd_d, rd_o, rd_l, rdR_own, rdR_io, rdR_lk, m_bin, m_un, m_call, m_rdn, m_rdc, m_cons, m_conss, m_tup, m_lst, dts_n, dts_c, o_map, o_bind, add_i, sub_i, mul_i, mod_i, fdiv_i, pow_i, neg_i, iadd_i, abs_i, int_i, int_b, len_l, len_t, add_l, add_t, lt_i, le_i, gt_i, ge_i, eq_i, ne_i, eqF_i, neF_i, tuple_l, tuple_t, list_l, list_t, ix_l, ix_t, m_ret, m_drop, m_nx, m_asg, m_nox, nx_ok, set_d, set_o, setD_, wr_un, wr_d, wr_o, wr_rd, m_aug, m_asgD, evD_d, evD_o, m_frzn, m_frzc, m_frz1, fz_d, fz_un, fz_io, fz_lk, fz_rd, fz_o, m_sub, m_augS, m_app, ap_o, ap_io, m_ct, ct_o, ct_io, m_isl, is_o, is_io, m_mut, m_mutB, m_mut0, intD_i, m_sl, m_pn, m_ps, rs_d, rs_l, rsR_rd, rsR_o, rsR_io, sl_l, sl_t, arg_n, arg_c, arg_d, arg_l, ar_o, ar_io, ar_lk, ar_rd, put_n, put_d, put_io, m_put, pt_o, pt_io, i_seq, src_l, src_t, src_o, src_n, sr_o, sr_io, sr_lk, i_rng, i_enum, i_zip, i_rev, unl_n, unl_c, unl_1, ul_lk, ob_t, ob_f, wp_n, wp_c, rt_n, rt_c, fl_un, fl_d, m_unpT, tupD_t, unp_n, unp_c, range_1, range_2, ext_l, ext_t, app_1, m_pc, m_par, rl_n, rl_d, rl_o, rl_l, rlR_o, sr_n, sto_d, sto_o, mulE_i, mulE_t, m_andV, m_orV, m_notE, m_listRg, ite_t, ite_f, m_chain, m_fgt, m_fgtE, fgE_nx, fgE_ct, fgE_bk, fgE_rt, fgE_er, fgts_n, fgts_c, m_fgt1, fg_d, fg_o, fg_un, fg_rd, fg_io, fg_lk, m_raise, List.getElem?_cons_zero, List.getElem?_cons_succ, List.set_cons_zero, List.set_cons_succ, Option.map_some, Option.bind_some, if_true, and_self], rfl, rfl, rfl⟩) (by omega)
  simp only [m_frzc, m_frzn, m_frz1, List.getElem?_cons_succ, List.getElem?_cons_zero, fz_o, List.set_cons_succ, List.set_cons_zero, oc_l]
  exact asg_tuple lc rfl
theorem st_due {b y o r l t : Da} {D : List Da} (h : ∀ s, callF F__law_pass [.d y, .d o, .d r] s = .ok (.own (.l D), s)) :
    (vFrz [3, 5, 6] (vAsg ((vCall tupleD ((vCons ((vCallF F__law_pass ((vCons (vVar 3) ((vCons (vVar 5) ((vCons (vVar 6) (vr []))))))))) (vr []))))) (vSet 9))) [a0, a1, a2, .d y, .d b, .d o, .d r, .d l, .d t, .un, .un, .un, .un, .un, .un, .un, .un, .un, .un, .un]
      = .ok (.nx, [a0, a1, a2, .d y, .d b, .d o, .d r, .d l, .d t, .d (.tuple D), .un, .un, .un, .un, .un, .un, .un, .un, .un, .un]) := by
  simp only [m_vb, bnd_ok, bnd_er, m_vr, m_stuck, m_seq, bS_nx, bS_bk, bS_ct, bS_rt, bS_er, m_if, m_ite, bI_t, bI_f, bI_er, m_and, m_or, m_not, m_bool, evB_b, m_opt, m_optn, m_tru, tru_b, tru_i, tru_n, tru_l, tru_t, m_var, var_d, var_own, var_io, var_lk, var_rd, m_c, st_d, st_o, st_l, oc_l, oc_m, rd_d, rd_o, rd_l, rdR_own, rdR_io, rdR_lk, m_bin, m_un, m_call, m_rdn, m_rdc, m_cons, m_conss, m_tup, m_lst, dts_n, dts_c, o_map, o_bind, add_i, sub_i, mul_i, mod_i, fdiv_i, pow_i, neg_i, iadd_i, abs_i, int_i, int_b, len_l, len_t, add_l, add_t, lt_i, le_i, gt_i, ge_i, eq_i, ne_i, eqF_i, neF_i, tuple_l, tuple_t, list_l, list_t, ix_l, ix_t, m_ret, m_drop, m_nx, m_asg, m_nox, nx_ok, set_d, set_o, setD_, wr_un, wr_d, wr_o, wr_rd, m_aug, m_asgD, evD_d, evD_o, m_frzn, m_frzc, m_frz1, fz_d, fz_un, fz_io, fz_lk, fz_rd, fz_o, m_sub, m_augS, m_app, ap_o, ap_io, m_ct, ct_o, ct_io, m_isl, is_o, is_io, m_mut, m_mutB, m_mut0, intD_i, m_sl, m_pn, m_ps, rs_d, rs_l, rsR_rd, rsR_o, rsR_io, sl_l, sl_t, arg_n, arg_c, arg_d, arg_l, ar_o, ar_io, ar_lk, ar_rd, put_n, put_d, put_io, m_put, pt_o, pt_io, i_seq, src_l, src_t, src_o, src_n, sr_o, sr_io, sr_lk, i_rng, i_enum, i_zip, i_rev, unl_n, unl_c, unl_1, ul_lk, ob_t, ob_f, wp_n, wp_c, rt_n, rt_c, fl_un, fl_d, m_unpT, tupD_t, unp_n, unp_c, range_1, range_2, ext_l, ext_t, app_1, m_pc, m_par, rl_n, rl_d, rl_o, rl_l, rlR_o, sr_n, sto_d, sto_o, mulE_i, mulE_t, m_andV, m_orV, m_notE, m_listRg, ite_t, ite_f, m_chain, m_fgt, m_fgtE, fgE_nx, fgE_ct, fgE_bk, fgE_rt, fgE_er, fgts_n, fgts_c, m_fgt1, fg_d, fg_o, fg_un, fg_rd, fg_io, fg_lk, m_raise, List.getElem?_cons_zero, List.getElem?_cons_succ, List.set_cons_zero, List.set_cons_succ, Option.map_some, Option.bind_some, if_true, and_self, m_callF, h]
theorem st_same {b y o r l t d : Da} (h1 : ∀ s, callF F_rolled [.d y, .d o, .d r] s = .ok (.d t, s)) (h2 : ∀ s, callF F_pulled [.d y, .d t] s = .ok (.d d, s)) (h3 : ∀ s, callF F_one_pass [.d y, .d o, .d r] s = .ok (.d d, s)) (ha : ∀ s, callF F__law_alike [.d (.list [t, d, d]), .d (.list [t, d, d])] s = .ok (.d (.bool true), s)) :
    (vFrz [3, 5, 6, 8, 9] law_s5) [a0, a1, a2, .d y, .d b, .d o, .d r, .d l, .d t, .d d, .un, .un, .un, .un, .un, .un, .un, .un, .un, .un] = .ok (.nx, [a0, a1, a2, .d y, .d b, .d o, .d r, .d l, .d t, .d d, .un, .un, .un, .un, .un, .un, .un, .un, .un, .un]) := by
  simp only [m_frzc, m_frzn, m_frz1, List.getElem?_cons_succ, List.getElem?_cons_zero, fz_d]
  unfold law_s5
  refine tests_ok ?_
  simp only [m_vb, bnd_ok, bnd_er, m_vr, m_stuck, m_seq, bS_nx, bS_bk, bS_ct, bS_rt, bS_er, m_if, m_ite, bI_t, bI_f, bI_er, m_and, m_or, m_not, m_bool, evB_b, m_opt, m_optn, m_tru, tru_b, tru_i, tru_n, tru_l, tru_t, m_var, var_d, var_own, var_io, var_lk, var_rd, m_c, st_d, st_o, st_l, oc_l, oc_m, rd_d, rd_o, rd_l, rdR_own, rdR_io, rdR_lk, m_bin, m_un, m_call, m_rdn, m_rdc, m_cons, m_conss, m_tup, m_lst, dts_n, dts_c, o_map, o_bind, add_i, sub_i, mul_i, mod_i, fdiv_i, pow_i, neg_i, iadd_i, abs_i, int_i, int_b, len_l, len_t, add_l, add_t, lt_i, le_i, gt_i, ge_i, eq_i, ne_i, eqF_i, neF_i, tuple_l, tuple_t, list_l, list_t, ix_l, ix_t, m_ret, m_drop, m_nx, m_asg, m_nox, nx_ok, set_d, set_o, setD_, wr_un, wr_d, wr_o, wr_rd, m_aug, m_asgD, evD_d, evD_o, m_frzn, m_frzc, m_frz1, fz_d, fz_un, fz_io, fz_lk, fz_rd, fz_o, m_sub, m_augS, m_app, ap_o, ap_io, m_ct, ct_o, ct_io, m_isl, is_o, is_io, m_mut, m_mutB, m_mut0, intD_i, m_sl, m_pn, m_ps, rs_d, rs_l, rsR_rd, rsR_o, rsR_io, sl_l, sl_t, arg_n, arg_c, arg_d, arg_l, ar_o, ar_io, ar_lk, ar_rd, put_n, put_d, put_io, m_put, pt_o, pt_io, i_seq, src_l, src_t, src_o, src_n, sr_o, sr_io, sr_lk, i_rng, i_enum, i_zip, i_rev, unl_n, unl_c, unl_1, ul_lk, ob_t, ob_f, wp_n, wp_c, rt_n, rt_c, fl_un, fl_d, m_unpT, tupD_t, unp_n, unp_c, range_1, range_2, ext_l, ext_t, app_1, m_pc, m_par, rl_n, rl_d, rl_o, rl_l, rlR_o, sr_n, sto_d, sto_o, mulE_i, mulE_t, m_andV, m_orV, m_notE, m_listRg, ite_t, ite_f, m_chain, m_fgt, m_fgtE, fgE_nx, fgE_ct, fgE_bk, fgE_rt, fgE_er, fgts_n, fgts_c, m_fgt1, fg_d, fg_o, fg_un, fg_rd, fg_io, fg_lk, m_raise, List.getElem?_cons_zero, List.getElem?_cons_succ, List.set_cons_zero, List.set_cons_succ, Option.map_some, Option.bind_some, if_true, and_self, m_callF, h1, h2, h3, List.length_cons, List.length_nil, Nat.zero_add, Nat.reduceAdd, Nat.reduceLeDiff, show (3 : Nat) ≤ 16777216 by decide, ha]
theorem st_right {y b o r l t d : Da} {L : List Da} (hl : L.length ≤ 1000) (hx : ∀ x ∈ L, ∀ xs, x = .tuple xs → xs.length ≤ 1000) :
    (vFrz [10] (vAsg (vLcF [18] (vItSeq (vVar 10)) (vSetD 18) (vr true) rightE) (vSet 11))) [a0, a1, a2, .d y, .d b, .d o, .d r, .d l, .d t, .d d, .own (.l L), .un, .un, .un, .un, .un, .un, .un, .un, .un]
      = .ok (.nx, [a0, a1, a2, .d y, .d b, .d o, .d r, .d l, .d t, .d d, .d (.list L), .own (.l (L.map fun x => .bool (ordB x))), .un, .un, .un, .un, .un, .un, .un, .un]) := by
  have lc : (vLcF [18] (vItSeq (vVar 10)) (vSetD 18) (vr true) rightE) [a0, a1, a2, .d y, .d b, .d o, .d r, .d l, .d t, .d d, .d (.list L), .un, .un, .un, .un, .un, .un, .un, .un, .un]
      = .ok (.own (.l (L.map fun x => .bool (ordB x))), [a0, a1, a2, .d y, .d b, .d o, .d r, .d l, .d t, .d d, .d (.list L), .un, .un, .un, .un, .un, .un, .un, .un, .un]) :=
    lc_map (enc := id) (xs := L) (L := []) (base := [a0, a1, a2, .d y, .d b, .d o, .d r, .d l, .d t, .d d, .d (.list L), .un, .un, .un, .un, .un, .un, .un, .un, .un]) (s1 := [a0, a1, a2, .d y, .d b, .d o, .d r, .d l, .d t, .d d, .d (.list L), .un, .un, .un, .un, .un, .un, .un, .un, .un]) (by simp only [m_vb, bnd_ok, bnd_er, m_vr, m_stuck, m_seq, bS_nx, bS_bk, bS_ct, bS_rt, bS_er, m_if, m_ite, bI_t, bI_f, bI_er, m_and, m_or, m_not, m_bool, evB_b, m_opt, m_optn, m_tru, tru_b, tru_i, tru_n, tru_l, tru_t, m_var, var_d, var_own, var_io, var_lk, var_rd, m_c, st_d, st_o, st_l, oc_l, oc_m, rd_d, rd_o, rd_l, rdR_own, rdR_io, rdR_lk, m_bin, m_un, m_call, m_rdn, m_rdc, m_cons, m_conss, m_tup, m_lst, dts_n, dts_c, o_map, o_bind, add_i, sub_i, mul_i, mod_i, fdiv_i, pow_i, neg_i, iadd_i, abs_i, int_i, int_b, len_l, len_t, add_l, add_t, lt_i, le_i, gt_i, ge_i, eq_i, ne_i, eqF_i, neF_i, tuple_l, tuple_t, list_l, list_t, ix_l, ix_t, m_ret, m_drop, m_nx, m_asg, m_nox, nx_ok, set_d, set_o, setD_, wr_un, wr_d, wr_o, wr_rd, m_aug, m_asgD, evD_d, evD_o, m_frzn, m_frzc, m_frz1, fz_d, fz_un, fz_io, fz_lk, fz_rd, fz_o, m_sub, m_augS, m_app, ap_o, ap_io, m_ct, ct_o, ct_io, m_isl, is_o, is_io, m_mut, m_mutB, m_mut0, intD_i, m_sl, m_pn, m_ps, rs_d, rs_l, rsR_rd, rsR_o, rsR_io, sl_l, sl_t, arg_n, arg_c, arg_d, arg_l, ar_o, ar_io, ar_lk, ar_rd, put_n, put_d, put_io, m_put, pt_o, pt_io, i_seq, src_l, src_t, src_o, src_n, sr_o, sr_io, sr_lk, i_rng, i_enum, i_zip, i_rev, unl_n, unl_c, unl_1, ul_lk, ob_t, ob_f, wp_n, wp_c, rt_n, rt_c, fl_un, fl_d, m_unpT, tupD_t, unp_n, unp_c, range_1, range_2, ext_l, ext_t, app_1, m_pc, m_par, rl_n, rl_d, rl_o, rl_l, rlR_o, sr_n, sto_d, sto_o, mulE_i, mulE_t, m_andV, m_orV, m_notE, m_listRg, ite_t, ite_f, m_chain, m_fgt, m_fgtE, fgE_nx, fgE_ct, fgE_bk, fgE_rt, fgE_er, fgts_n, fgts_c, m_fgt1, fg_d, fg_o, fg_un, fg_rd, fg_io, fg_lk, m_raise, List.getElem?_cons_zero, List.getElem?_cons_succ, List.set_cons_zero, List.set_cons_succ, Option.map_some, Option.bind_some, if_true, and_self, List.map_id]) rfl rfl
      (fun x hm => ⟨[a0, a1, a2, .d y, .d b, .d o, .d r, .d l, .d t, .d d, .d (.list L), .un, .un, .un, .un, .un, .un, .un, .d x, .un], .d (.bool (ordB x)), [a0, a1, a2, .d y, .d b, .d o, .d r, .d l, .d t, .d d, .d (.list L), .un, .un, .un, .un, .un, .un, .un, .d x, .un], by simp only [m_vb, bnd_ok, bnd_er, m_vr, m_stuck, m_seq, bS_nx, bS_bk, bS_ct, bS_rt, bS_er, m_if, m_ite, bI_t, bI_f, bI_er, m_and, m_or, m_not, m_bool, evB_b, m_opt, m_optn, m_tru, tru_b, tru_i, tru_n, tru_l, tru_t, m_var, var_d, var_own, var_io, var_lk, var_rd, m_c, st_d, st_o, st_l, oc_l, oc_m, rd_d, rd_o, rd_l, rdR_own, rdR_io, rdR_lk, m_bin, m_un, m_call, m_rdn, m_rdc, m_cons, m_conss, m_tup, m_lst, dts_n, dts_c, o_map, o_bind, add_i, sub_i, mul_i, mod_i, fdiv_i, pow_i, neg_i, iadd_i, abs_i, int_i, int_b, len_l, len_t, add_l, add_t, lt_i, le_i, gt_i, ge_i, eq_i, ne_i, eqF_i, neF_i, tuple_l, tuple_t, list_l, list_t, ix_l, ix_t, m_ret, m_drop, m_nx, m_asg, m_nox, nx_ok, set_d, set_o, setD_, wr_un, wr_d, wr_o, wr_rd, m_aug, m_asgD, evD_d, evD_o, m_frzn, m_frzc, m_frz1, fz_d, fz_un, fz_io, fz_lk, fz_rd, fz_o, m_sub, m_augS, m_app, ap_o, ap_io, m_ct, ct_o, ct_io, m_isl, is_o, is_io, m_mut, m_mutB, m_mut0, intD_i, m_sl, m_pn, m_ps, rs_d, rs_l, rsR_rd, rsR_o, rsR_io, sl_l, sl_t, arg_n, arg_c, arg_d, arg_l, ar_o, ar_io, ar_lk, ar_rd, put_n, put_d, put_io, m_put, pt_o, pt_io, i_seq, src_l, src_t, src_o, src_n, sr_o, sr_io, sr_lk, i_rng, i_enum, i_zip, i_rev, unl_n, unl_c, unl_1, ul_lk, ob_t, ob_f, wp_n, wp_c, rt_n, rt_c, fl_un, fl_d, m_unpT, tupD_t, unp_n, unp_c, range_1, range_2, ext_l, ext_t, app_1, m_pc, m_par, rl_n, rl_d, rl_o, rl_l, rlR_o, sr_n, sto_d, sto_o, mulE_i, mulE_t, m_andV, m_orV, m_notE, m_listRg, ite_t, ite_f, m_chain, m_fgt, m_fgtE, fgE_nx, fgE_ct, fgE_bk, fgE_rt, fgE_er, fgts_n, fgts_c, m_fgt1, fg_d, fg_o, fg_un, fg_rd, fg_io, fg_lk, m_raise, List.getElem?_cons_zero, List.getElem?_cons_succ, List.set_cons_zero, List.set_cons_succ, Option.map_some, Option.bind_some, if_true, and_self, id], right_ok (hx x hm), rfl, rfl, rfl⟩) (by omega)
  simp only [m_frzc, m_frzn, m_frz1, List.getElem?_cons_succ, List.getElem?_cons_zero, fz_o, List.set_cons_succ, List.set_cons_zero, oc_l]
  exact asg_own lc rfl
theorem alike2 {f : VM EV} {k : Nat} {s s' : VS} {L' : List Da} (hf : f s = .ok (.own (.l L'), s')) (hv : s'[k]? = some (.d (.list L'))) (ha : ∀ s, callF F__law_alike [.d (.list L'), .d (.list L')] s = .ok (.d (.bool true), s)) :
    vIf (vNot (vTru (vCallF F__law_alike (vCons f (vCons (vVar k) (vr [])))))) (vRet (vC (.bool false))) vNx s = .ok (.nx, s') := by
  refine tests_ok ?_
  simp only [m_callF, m_cons, hf, bnd_ok, m_vb, m_var, hv, var_d, m_vr, st_o, st_d, oc_l, ha]
theorem st_isord {y b o r l t d : Da} {L : List Da} (hl : L.length ≤ 1000) (hx : ∀ x ∈ L, ∀ xs, x = .tuple xs → xs.length ≤ 1000) (ha : ∀ s, callF F__law_alike [.d (.list (L.map fun x => .bool (ordB x))), .d (.list (L.map fun x => .bool (ordB x)))] s = .ok (.d (.bool true), s)) :
    (vFrz [10, 11] law_s4) [a0, a1, a2, .d y, .d b, .d o, .d r, .d l, .d t, .d d, .d (.list L), .own (.l (L.map fun x => .bool (ordB x))), .un, .un, .un, .un, .un, .un, .un, .un]
      = .ok (.nx, [a0, a1, a2, .d y, .d b, .d o, .d r, .d l, .d t, .d d, .d (.list L), .d (.list (L.map fun x => .bool (ordB x))), .un, .un, .un, .un, .un, .un, .un, .un]) := by
  generalize hR : (L.map fun x => PyData.bool (ordB x)) = R at ha
  have lc : (vLcF [18] (vItSeq (vVar 10)) (vSetD 18) (vr true) ((vCallF F_is_order ((vCons (vVar 18) (vr [])))))) [a0, a1, a2, .d y, .d b, .d o, .d r, .d l, .d t, .d d, .d (.list L), .d (.list R), .un, .un, .un, .un, .un, .un, .un, .un]
      = .ok (.own (.l R), [a0, a1, a2, .d y, .d b, .d o, .d r, .d l, .d t, .d d, .d (.list L), .d (.list R), .un, .un, .un, .un, .un, .un, .un, .un]) := by
    have h := lc_map (h := fun x => PyData.bool (ordB x)) (fi := vItSeq (vVar 10)) (gt := vSetD 18) (te := (vCallF F_is_order ((vCons (vVar 18) (vr []))))) (ix := [18]) (s := [a0, a1, a2, .d y, .d b, .d o, .d r, .d l, .d t, .d d, .d (.list L), .d (.list R), .un, .un, .un, .un, .un, .un, .un, .un]) (enc := id) (xs := L) (L := []) (base := [a0, a1, a2, .d y, .d b, .d o, .d r, .d l, .d t, .d d, .d (.list L), .d (.list R), .un, .un, .un, .un, .un, .un, .un, .un]) (s1 := [a0, a1, a2, .d y, .d b, .d o, .d r, .d l, .d t, .d d, .d (.list L), .d (.list R), .un, .un, .un, .un, .un, .un, .un, .un]) (by simp only [m_vb, bnd_ok, bnd_er, m_vr, m_stuck, m_seq, bS_nx, bS_bk, bS_ct, bS_rt, bS_er, m_if, m_ite, bI_t, bI_f, bI_er, m_and, m_or, m_not, m_bool, evB_b, m_opt, m_optn, m_tru, tru_b, tru_i, tru_n, tru_l, tru_t, m_var, var_d, var_own, var_io, var_lk, var_rd, m_c, st_d, st_o, st_l, oc_l, oc_m, rd_d, rd_o, rd_l, rdR_own, rdR_io, rdR_lk, m_bin, m_un, m_call, m_rdn, m_rdc, m_cons, m_conss, m_tup, m_lst, dts_n, dts_c, o_map, o_bind, add_i, sub_i, mul_i, mod_i, fdiv_i, pow_i, neg_i, iadd_i, abs_i, int_i, int_b, len_l, len_t, add_l, add_t, lt_i, le_i, gt_i, ge_i, eq_i, ne_i, eqF_i, neF_i, tuple_l, tuple_t, list_l, list_t, ix_l, ix_t, m_ret, m_drop, m_nx, m_asg, m_nox, nx_ok, set_d, set_o, setD_, wr_un, wr_d, wr_o, wr_rd, m_aug, m_asgD, evD_d, evD_o, m_frzn, m_frzc, m_frz1, fz_d, fz_un, fz_io, fz_lk, fz_rd, fz_o, m_sub, m_augS, m_app, ap_o, ap_io, m_ct, ct_o, ct_io, m_isl, is_o, is_io, m_mut, m_mutB, m_mut0, intD_i, m_sl, m_pn, m_ps, rs_d, rs_l, rsR_rd, rsR_o, rsR_io, sl_l, sl_t, arg_n, arg_c, arg_d, arg_l, ar_o, ar_io, ar_lk, ar_rd, put_n, put_d, put_io, m_put, pt_o, pt_io, i_seq, src_l, src_t, src_o, src_n, sr_o, sr_io, sr_lk, i_rng, i_enum, i_zip, i_rev, unl_n, unl_c, unl_1, ul_lk, ob_t, ob_f, wp_n, wp_c, rt_n, rt_c, fl_un, fl_d, m_unpT, tupD_t, unp_n, unp_c, range_1, range_2, ext_l, ext_t, app_1, m_pc, m_par, rl_n, rl_d, rl_o, rl_l, rlR_o, sr_n, sto_d, sto_o, mulE_i, mulE_t, m_andV, m_orV, m_notE, m_listRg, ite_t, ite_f, m_chain, m_fgt, m_fgtE, fgE_nx, fgE_ct, fgE_bk, fgE_rt, fgE_er, fgts_n, fgts_c, m_fgt1, fg_d, fg_o, fg_un, fg_rd, fg_io, fg_lk, m_raise, List.getElem?_cons_zero, List.getElem?_cons_succ, List.set_cons_zero, List.set_cons_succ, Option.map_some, Option.bind_some, if_true, and_self, List.map_id]) rfl rfl
      (fun x hm => ⟨[a0, a1, a2, .d y, .d b, .d o, .d r, .d l, .d t, .d d, .d (.list L), .d (.list R), .un, .un, .un, .un, .un, .un, .d x, .un], .d (.bool (ordB x)), [a0, a1, a2, .d y, .d b, .d o, .d r, .d l, .d t, .d d, .d (.list L), .d (.list R), .un, .un, .un, .un, .un, .un, .d x, .un], by simp only [m_vb, bnd_ok, bnd_er, m_vr, m_stuck, m_seq, bS_nx, bS_bk, bS_ct, bS_rt, bS_er, m_if, m_ite, bI_t, bI_f, bI_er, m_and, m_or, m_not, m_bool, evB_b, m_opt, m_optn, m_tru, tru_b, tru_i, tru_n, tru_l, tru_t, m_var, var_d, var_own, var_io, var_lk, var_rd, m_c, st_d, st_o, st_l, oc_l, oc_m, rd_d, rd_o, rd_l, rdR_own, rdR_io, rdR_lk, m_bin, m_un, m_call, m_rdn, m_rdc, m_cons, m_conss, m_tup, m_lst, dts_n, dts_c, o_map, o_bind, add_i, sub_i, mul_i, mod_i, fdiv_i, pow_i, neg_i, iadd_i, abs_i, int_i, int_b, len_l, len_t, add_l, add_t, lt_i, le_i, gt_i, ge_i, eq_i, ne_i, eqF_i, neF_i, tuple_l, tuple_t, list_l, list_t, ix_l, ix_t, m_ret, m_drop, m_nx, m_asg, m_nox, nx_ok, set_d, set_o, setD_, wr_un, wr_d, wr_o, wr_rd, m_aug, m_asgD, evD_d, evD_o, m_frzn, m_frzc, m_frz1, fz_d, fz_un, fz_io, fz_lk, fz_rd, fz_o, m_sub, m_augS, m_app, ap_o, ap_io, m_ct, ct_o, ct_io, m_isl, is_o, is_io, m_mut, m_mutB, m_mut0, intD_i, m_sl, m_pn, m_ps, rs_d, rs_l, rsR_rd, rsR_o, rsR_io, sl_l, sl_t, arg_n, arg_c, arg_d, arg_l, ar_o, ar_io, ar_lk, ar_rd, put_n, put_d, put_io, m_put, pt_o, pt_io, i_seq, src_l, src_t, src_o, src_n, sr_o, sr_io, sr_lk, i_rng, i_enum, i_zip, i_rev, unl_n, unl_c, unl_1, ul_lk, ob_t, ob_f, wp_n, wp_c, rt_n, rt_c, fl_un, fl_d, m_unpT, tupD_t, unp_n, unp_c, range_1, range_2, ext_l, ext_t, app_1, m_pc, m_par, rl_n, rl_d, rl_o, rl_l, rlR_o, sr_n, sto_d, sto_o, mulE_i, mulE_t, m_andV, m_orV, m_notE, m_listRg, ite_t, ite_f, m_chain, m_fgt, m_fgtE, fgE_nx, fgE_ct, fgE_bk, fgE_rt, fgE_er, fgts_n, fgts_c, m_fgt1, fg_d, fg_o, fg_un, fg_rd, fg_io, fg_lk, m_raise, List.getElem?_cons_zero, List.getElem?_cons_succ, List.set_cons_zero, List.set_cons_succ, Option.map_some, Option.bind_some, if_true, and_self, id], by
        have h := fun s => callF_1 (s := s) (order_ok (hx x hm)) dl
        simp only [m_vb, bnd_ok, bnd_er, m_vr, m_stuck, m_seq, bS_nx, bS_bk, bS_ct, bS_rt, bS_er, m_if, m_ite, bI_t, bI_f, bI_er, m_and, m_or, m_not, m_bool, evB_b, m_opt, m_optn, m_tru, tru_b, tru_i, tru_n, tru_l, tru_t, m_var, var_d, var_own, var_io, var_lk, var_rd, m_c, st_d, st_o, st_l, oc_l, oc_m, rd_d, rd_o, rd_l, rdR_own, rdR_io, rdR_lk, m_bin, m_un, m_call, m_rdn, m_rdc, m_cons, m_conss, m_tup, m_lst, dts_n, dts_c, o_map, o_bind, add_i, sub_i, mul_i, mod_i, fdiv_i, pow_i, neg_i, iadd_i, abs_i, int_i, int_b, len_l, len_t, add_l, add_t, lt_i, le_i, gt_i, ge_i, eq_i, ne_i, eqF_i, neF_i, tuple_l, tuple_t, list_l, list_t, ix_l, ix_t, m_ret, m_drop, m_nx, m_asg, m_nox, nx_ok, set_d, set_o, setD_, wr_un, wr_d, wr_o, wr_rd, m_aug, m_asgD, evD_d, evD_o, m_frzn, m_frzc, m_frz1, fz_d, fz_un, fz_io, fz_lk, fz_rd, fz_o, m_sub, m_augS, m_app, ap_o, ap_io, m_ct, ct_o, ct_io, m_isl, is_o, is_io, m_mut, m_mutB, m_mut0, intD_i, m_sl, m_pn, m_ps, rs_d, rs_l, rsR_rd, rsR_o, rsR_io, sl_l, sl_t, arg_n, arg_c, arg_d, arg_l, ar_o, ar_io, ar_lk, ar_rd, put_n, put_d, put_io, m_put, pt_o, pt_io, i_seq, src_l, src_t, src_o, src_n, sr_o, sr_io, sr_lk, i_rng, i_enum, i_zip, i_rev, unl_n, unl_c, unl_1, ul_lk, ob_t, ob_f, wp_n, wp_c, rt_n, rt_c, fl_un, fl_d, m_unpT, tupD_t, unp_n, unp_c, range_1, range_2, ext_l, ext_t, app_1, m_pc, m_par, rl_n, rl_d, rl_o, rl_l, rlR_o, sr_n, sto_d, sto_o, mulE_i, mulE_t, m_andV, m_orV, m_notE, m_listRg, ite_t, ite_f, m_chain, m_fgt, m_fgtE, fgE_nx, fgE_ct, fgE_bk, fgE_rt, fgE_er, fgts_n, fgts_c, m_fgt1, fg_d, fg_o, fg_un, fg_rd, fg_io, fg_lk, m_raise, List.getElem?_cons_zero, List.getElem?_cons_succ, List.set_cons_zero, List.set_cons_succ, Option.map_some, Option.bind_some, if_true, and_self, m_callF, h], rfl, rfl, rfl⟩) (by omega)
    rwa [hR] at h
  simp only [m_frzc, m_frzn, m_frz1, List.getElem?_cons_succ, List.getElem?_cons_zero, fz_o, fz_d, List.set_cons_succ, List.set_cons_zero, oc_l]
  exact alike2 lc rfl ha
end
end Yk05
set_option Elab.async false
set_option linter.all false
set_option maxRecDepth 100000
set_option maxHeartbeats 0
namespace Yk05
open PySem PySem.Spec PyProof.Rows L2 VL LB
section
variable {a0 a1 a2 : SV} {y b o r l t d L R : Da}
def menuD (m : Int) : List Da := [.int m, .int (-1), .none, .bool true, .str "0", .tuple [.int 0]]
theorem menu_no {m : Int} : ∀ x ∈ menuD m, withB (m - 1) x = false := by
  intro x hx
  simp only [menuD, List.mem_cons, List.not_mem_nil, or_false] at hx
  rcases hx with rfl | rfl | rfl | rfl | rfl | rfl
  · show (decide (0 ≤ m) && decide (m ≤ m - 1)) = false
    rw [decide_eq_false (p := m ≤ m - 1) (by omega), Bool.and_false]
  all_goals rfl
theorem st_draw {bag bag1 bag2 ys : List Da} {n : Int} {at' bad : Da}
    (h1 : callF F__law_take [.loan 1, .d (.int n)] [a0, .own (.l bag), a2, .d (.tuple ys), .d (.int n), .d o, .d r, .d l, .d t, .d d, .d L, .d R, .un, .un, .un, .un, .un, .un, .un, .un] = .ok (.d at', [a0, .own (.l bag1), a2, .d (.tuple ys), .d (.int n), .d o, .d r, .d l, .d t, .d d, .d L, .d R, .un, .un, .un, .un, .un, .un, .un, .un]))
    (h2 : callF F__law_some [.loan 1, .d (.list (menuD ys.length))] [a0, .own (.l bag1), a2, .d (.tuple ys), .d (.int n), .d o, .d r, .d l, .d t, .d d, .d L, .d R, .un, .un, .un, .un, .un, .un, .un, .un] = .ok (.d bad, [a0, .own (.l bag2), a2, .d (.tuple ys), .d (.int n), .d o, .d r, .d l, .d t, .d d, .d L, .d R, .un, .un, .un, .un, .un, .un, .un, .un])) :
    (vFrz [3, 4] (vPar [12, 13] (vPc ((vCallF F__law_take ((vCons (vVar 1) ((vCons (vVar 4) (vr []))))))) ((vPc ((vCallF F__law_some ((vCons (vVar 1) ((vCons ((vList ((vCons ((vCall lenD ((vCons (vVar 3) (vr []))))) ((vCons ((vUn negD (vC (.int 1)))) ((vCons (vC .none) ((vCons (vC (.bool true)) ((vCons (vC (.str "0")) ((vCons ((vTuple ((vCons (vC (.int 0)) (vr []))))) (vr []))))))))))))))) (vr []))))))) (vr []))))))
      [a0, .own (.l bag), a2, .d (.tuple ys), .d (.int n), .d o, .d r, .d l, .d t, .d d, .d L, .d R, .un, .un, .un, .un, .un, .un, .un, .un] = .ok (.nx, [a0, .own (.l bag2), a2, .d (.tuple ys), .d (.int n), .d o, .d r, .d l, .d t, .d d, .d L, .d R, .d at', .d bad, .un, .un, .un, .un, .un, .un]) := by
  unfold menuD at h2
  simp only [m_vb, bnd_ok, bnd_er, m_vr, m_stuck, m_seq, bS_nx, bS_bk, bS_ct, bS_rt, bS_er, m_if, m_ite, bI_t, bI_f, bI_er, m_and, m_or, m_not, m_bool, evB_b, m_opt, m_optn, m_tru, tru_b, tru_i, tru_n, tru_l, tru_t, m_var, var_d, var_own, var_io, var_lk, var_rd, m_c, st_d, st_o, st_l, oc_l, oc_m, rd_d, rd_o, rd_l, rdR_own, rdR_io, rdR_lk, m_bin, m_un, m_call, m_rdn, m_rdc, m_cons, m_conss, m_tup, m_lst, dts_n, dts_c, o_map, o_bind, add_i, sub_i, mul_i, mod_i, fdiv_i, pow_i, neg_i, iadd_i, abs_i, int_i, int_b, len_l, len_t, add_l, add_t, lt_i, le_i, gt_i, ge_i, eq_i, ne_i, eqF_i, neF_i, tuple_l, tuple_t, list_l, list_t, ix_l, ix_t, m_ret, m_drop, m_nx, m_asg, m_nox, nx_ok, set_d, set_o, setD_, wr_un, wr_d, wr_o, wr_rd, m_aug, m_asgD, evD_d, evD_o, m_frzn, m_frzc, m_frz1, fz_d, fz_un, fz_io, fz_lk, fz_rd, fz_o, m_sub, m_augS, m_app, ap_o, ap_io, m_ct, ct_o, ct_io, m_isl, is_o, is_io, m_mut, m_mutB, m_mut0, intD_i, m_sl, m_pn, m_ps, rs_d, rs_l, rsR_rd, rsR_o, rsR_io, sl_l, sl_t, arg_n, arg_c, arg_d, arg_l, ar_o, ar_io, ar_lk, ar_rd, put_n, put_d, put_io, m_put, pt_o, pt_io, i_seq, src_l, src_t, src_o, src_n, sr_o, sr_io, sr_lk, i_rng, i_enum, i_zip, i_rev, unl_n, unl_c, unl_1, ul_lk, ob_t, ob_f, wp_n, wp_c, rt_n, rt_c, fl_un, fl_d, m_unpT, tupD_t, unp_n, unp_c, range_1, range_2, ext_l, ext_t, app_1, m_pc, m_par, rl_n, rl_d, rl_o, rl_l, rlR_o, sr_n, sto_d, sto_o, mulE_i, mulE_t, m_andV, m_orV, m_notE, m_listRg, ite_t, ite_f, m_chain, m_fgt, m_fgtE, fgE_nx, fgE_ct, fgE_bk, fgE_rt, fgE_er, fgts_n, fgts_c, m_fgt1, fg_d, fg_o, fg_un, fg_rd, fg_io, fg_lk, m_raise, List.getElem?_cons_zero, List.getElem?_cons_succ, List.set_cons_zero, List.set_cons_succ, Option.map_some, Option.bind_some, if_true, and_self, m_callF, h1, List.length_nil, List.length_cons, Nat.zero_add, Nat.reduceAdd, Nat.zero_le, Nat.reduceLeDiff, show (1 : Nat) ≤ 16777216 by decide, show (6 : Nat) ≤ 16777216 by decide, h2]
theorem st_bent {rs : List Da} {k : Nat} {bad : Da} (hl : rs.length ≤ 1000) :
    (vFrz [6, 12, 13] (vAsg ((vBin addD ((vBin addD ((vSl (vVar 6) (vPart none) (vPart (some (vVar 12))))) ((vTuple ((vCons (vVar 13) (vr []))))))) ((vSl (vVar 6) (vPart (some ((vBin addD (vVar 12) (vC (.int 1)))))) (vPart none))))) (vSet 14)))
      [a0, a1, a2, .d y, .d b, .d o, .d (.tuple rs), .d l, .d t, .d d, .d L, .d R, .d (.int (k : Int)), .d bad, .un, .un, .un, .un, .un, .un] = .ok (.nx, [a0, a1, a2, .d y, .d b, .d o, .d (.tuple rs), .d l, .d t, .d d, .d L, .d R, .d (.int (k : Int)), .d bad, .d (.tuple (rs.take k ++ [bad] ++ rs.drop (k + 1))), .un, .un, .un, .un, .un]) := by
  have c1 : VL.cutD rs none (some (k : Int)) = rs.take k := cut_to (by omega)
  have c2 : VL.cutD rs (some ((k : Int) + 1)) none = rs.drop (k + 1) := cut_from (i := ((k + 1 : Nat) : Int)) (by omega)
  have l1 : (rs.take k).length + ([bad] : List Da).length ≤ 16777216 := by rw [List.length_take]; show _ + 1 ≤ _; omega
  have l2 : (rs.take k ++ [bad]).length + (rs.drop (k + 1)).length ≤ 16777216 := by rw [List.length_append, List.length_take, List.length_drop]; show _ + 1 + _ ≤ _; omega
  have l3 : ([bad] : List Da).length ≤ 16777216 := by show 1 ≤ _; omega
  simp only [m_vb, bnd_ok, bnd_er, m_vr, m_stuck, m_seq, bS_nx, bS_bk, bS_ct, bS_rt, bS_er, m_if, m_ite, bI_t, bI_f, bI_er, m_and, m_or, m_not, m_bool, evB_b, m_opt, m_optn, m_tru, tru_b, tru_i, tru_n, tru_l, tru_t, m_var, var_d, var_own, var_io, var_lk, var_rd, m_c, st_d, st_o, st_l, oc_l, oc_m, rd_d, rd_o, rd_l, rdR_own, rdR_io, rdR_lk, m_bin, m_un, m_call, m_rdn, m_rdc, m_cons, m_conss, m_tup, m_lst, dts_n, dts_c, o_map, o_bind, add_i, sub_i, mul_i, mod_i, fdiv_i, pow_i, neg_i, iadd_i, abs_i, int_i, int_b, len_l, len_t, add_l, add_t, lt_i, le_i, gt_i, ge_i, eq_i, ne_i, eqF_i, neF_i, tuple_l, tuple_t, list_l, list_t, ix_l, ix_t, m_ret, m_drop, m_nx, m_asg, m_nox, nx_ok, set_d, set_o, setD_, wr_un, wr_d, wr_o, wr_rd, m_aug, m_asgD, evD_d, evD_o, m_frzn, m_frzc, m_frz1, fz_d, fz_un, fz_io, fz_lk, fz_rd, fz_o, m_sub, m_augS, m_app, ap_o, ap_io, m_ct, ct_o, ct_io, m_isl, is_o, is_io, m_mut, m_mutB, m_mut0, intD_i, m_sl, m_pn, m_ps, rs_d, rs_l, rsR_rd, rsR_o, rsR_io, sl_l, sl_t, arg_n, arg_c, arg_d, arg_l, ar_o, ar_io, ar_lk, ar_rd, put_n, put_d, put_io, m_put, pt_o, pt_io, i_seq, src_l, src_t, src_o, src_n, sr_o, sr_io, sr_lk, i_rng, i_enum, i_zip, i_rev, unl_n, unl_c, unl_1, ul_lk, ob_t, ob_f, wp_n, wp_c, rt_n, rt_c, fl_un, fl_d, m_unpT, tupD_t, unp_n, unp_c, range_1, range_2, ext_l, ext_t, app_1, m_pc, m_par, rl_n, rl_d, rl_o, rl_l, rlR_o, sr_n, sto_d, sto_o, mulE_i, mulE_t, m_andV, m_orV, m_notE, m_listRg, ite_t, ite_f, m_chain, m_fgt, m_fgtE, fgE_nx, fgE_ct, fgE_bk, fgE_rt, fgE_er, fgts_n, fgts_c, m_fgt1, fg_d, fg_o, fg_un, fg_rd, fg_io, fg_lk, m_raise, List.getElem?_cons_zero, List.getElem?_cons_succ, List.set_cons_zero, List.set_cons_succ, Option.map_some, Option.bind_some, if_true, and_self, c1, c2, l1, l2, l3]
theorem hear_no {s : VS} {p bad : Da} (h : F_one_pass [.d y, .d o, .d p] = .error (.exc "NoTrack" [("track", bad)] [.d y, .d o, .d p])) {i j k : Nat} (h1 : s[i]? = some (.d y)) (h2 : s[j]? = some (.d o)) (h3 : s[k]? = some (.d p)) :
    (vCallF F_one_pass (vCons (vVar i) (vCons (vVar j) (vCons (vVar k) (vr []))))) s = .error (.exc "NoTrack" [("track", bad)] s) := by
  have e := callF_e (m := F_one_pass) (rs := [.d y, .d o, .d p]) (s := s) (by simp [loans]) (by rfl) h
  rw [put_d, put_d, put_d, put_n] at e
  simp only [m_callF, m_cons, m_var, h1, h2, h3, var_d, bnd_ok, m_vb, m_vr, st_d, e]
theorem heard_no {s : VS} {p bad : Da} (h : F_one_pass [.d y, .d o, .d p] = .error (.exc "NoTrack" [("track", bad)] [.d y, .d o, .d p])) {i j k : Nat} (h1 : s[i]? = some (.d y)) (h2 : s[j]? = some (.d o)) (h3 : s[k]? = some (.d p)) :
    vHeard "NoTrack" "told" "no track" ["track"] (vCallF F_one_pass (vCons (vVar i) (vCons (vVar j) (vCons (vVar k) (vr []))))) s = .ok (.d (.tuple [.str "no track", bad]), s) :=
  heard_exc (hear_no h (ioS_get h1) (ioS_get h2) (ioS_get h3)) rfl (mrg_io s)
theorem test_no {s : VS} {bad : Da} {f : VM EV} {i : Nat} (hf : f s = .ok (.d (.tuple [.str "no track", bad]), s)) (hi : s[i]? = some (.d bad)) (ha : ∀ s, callF F__law_alike [.d (.tuple [.str "no track", bad]), .d (.tuple [.str "no track", bad])] s = .ok (.d (.bool true), s)) :
    vIf (vNot (vTru (vCallF F__law_alike (vCons f (vCons (vTuple (vCons (vC (.str "no track")) (vCons (vVar i) (vr [])))) (vr [])))))) (vRet (vC (.bool false))) vNx s = .ok (.nx, s) := by
  refine tests_ok ?_
  have l : ([.str "no track", bad] : List Da).length ≤ 16777216 := by show 2 ≤ _; decide
  simp only [m_callF, m_cons, hf, m_tup, m_c, m_var, hi, var_d, bnd_ok, m_vb, m_vr, st_d, dts_c, dts_n, o_map, m_opt, l, if_true, ha]
theorem st_worse {rs : List Da} {k n : Nat} {bad B : Da} (hb : B = .tuple rs) (hl : rs.length ≤ 1000) (hk : k < n) (hn : n ≤ 1000) :
    (vFrz [4, 12, 14] (vAsg ((vBin addD ((vSl (vVar 14) (vPart none) (vPart (some ((vBin addD (vVar 12) (vC (.int 1)))))))) ((vBin mulE ((vTuple ((vCons ((vUn negD (vC (.int 9)))) (vr []))))) ((vBin subD ((vBin subD (vVar 4) (vVar 12))) (vC (.int 1)))))))) (vSet 15)))
      [a0, a1, a2, .d y, .d (.int (n : Int)), .d o, .d r, .d l, .d t, .d d, .d L, .d R, .d (.int (k : Int)), .d bad, .d B, .un, .un, .un, .un, .un] = .ok (.nx, [a0, a1, a2, .d y, .d (.int (n : Int)), .d o, .d r, .d l, .d t, .d d, .d L, .d R, .d (.int (k : Int)), .d bad, .d B, .d (.tuple (rs.take (k + 1) ++ (List.replicate ((n : Int) - k - 1).toNat [PyData.int (-9)]).flatten)), .un, .un, .un, .un]) := by
  subst hb
  have c1 : VL.cutD rs none (some ((k : Int) + 1)) = rs.take (k + 1) := cut_to (i := ((k + 1 : Nat) : Int)) (by omega)
  have c2 : ([PyData.int (-9)] : List Da) ≠ [] ∧ -1000000 ≤ (n : Int) - k - 1 ∧ (n : Int) - k - 1 ≤ 1000 ∧ ([PyData.int (-9)] : List Da).length ≤ 1000 := ⟨by simp, by omega, by omega, by show 1 ≤ 1000; omega⟩
  have l0 : ([PyData.int (-9)] : List Da).length ≤ 16777216 := by show 1 ≤ _; omega
  have l1 : (rs.take (k + 1)).length + ((List.replicate ((n : Int) - k - 1).toNat [PyData.int (-9)]).flatten).length ≤ 16777216 := by
    rw [List.length_take, PyProof.Rows.lm_len_rep_flat]
    show _ + (_ * 1) ≤ _
    omega
  have c3 : mulE (.tuple [.int (-9)]) (.int ((n : Int) - k - 1)) = some (.d (.tuple (List.replicate ((n : Int) - k - 1).toNat [PyData.int (-9)]).flatten)) := by
    rw [mulE_t, if_pos c2]
  simp only [m_vb, bnd_ok, bnd_er, m_vr, m_stuck, m_seq, bS_nx, bS_bk, bS_ct, bS_rt, bS_er, m_if, m_ite, bI_t, bI_f, bI_er, m_and, m_or, m_not, m_bool, evB_b, m_opt, m_optn, m_tru, tru_b, tru_i, tru_n, tru_l, tru_t, m_var, var_d, var_own, var_io, var_lk, var_rd, m_c, st_d, st_o, st_l, oc_l, oc_m, rd_d, rd_o, rd_l, rdR_own, rdR_io, rdR_lk, m_bin, m_un, m_call, m_rdn, m_rdc, m_cons, m_conss, m_tup, m_lst, dts_n, dts_c, o_map, o_bind, add_i, sub_i, mul_i, mod_i, fdiv_i, pow_i, neg_i, iadd_i, abs_i, int_i, int_b, len_l, len_t, add_l, add_t, lt_i, le_i, gt_i, ge_i, eq_i, ne_i, eqF_i, neF_i, tuple_l, tuple_t, list_l, list_t, ix_l, ix_t, m_ret, m_drop, m_nx, m_asg, m_nox, nx_ok, set_d, set_o, setD_, wr_un, wr_d, wr_o, wr_rd, m_aug, m_asgD, evD_d, evD_o, m_frzn, m_frzc, m_frz1, fz_d, fz_un, fz_io, fz_lk, fz_rd, fz_o, m_sub, m_augS, m_app, ap_o, ap_io, m_ct, ct_o, ct_io, m_isl, is_o, is_io, m_mut, m_mutB, m_mut0, intD_i, m_sl, m_pn, m_ps, rs_d, rs_l, rsR_rd, rsR_o, rsR_io, sl_l, sl_t, arg_n, arg_c, arg_d, arg_l, ar_o, ar_io, ar_lk, ar_rd, put_n, put_d, put_io, m_put, pt_o, pt_io, i_seq, src_l, src_t, src_o, src_n, sr_o, sr_io, sr_lk, i_rng, i_enum, i_zip, i_rev, unl_n, unl_c, unl_1, ul_lk, ob_t, ob_f, wp_n, wp_c, rt_n, rt_c, fl_un, fl_d, m_unpT, tupD_t, unp_n, unp_c, range_1, range_2, ext_l, ext_t, app_1, m_pc, m_par, rl_n, rl_d, rl_o, rl_l, rlR_o, sr_n, sto_d, sto_o, mulE_i, mulE_t, m_andV, m_orV, m_notE, m_listRg, ite_t, ite_f, m_chain, m_fgt, m_fgtE, fgE_nx, fgE_ct, fgE_bk, fgE_rt, fgE_er, fgts_n, fgts_c, m_fgt1, fg_d, fg_o, fg_un, fg_rd, fg_io, fg_lk, m_raise, List.getElem?_cons_zero, List.getElem?_cons_succ, List.set_cons_zero, List.set_cons_succ, Option.map_some, Option.bind_some, if_true, and_self, c1, l0, l1, c3]
end
end Yk05
set_option Elab.async false
set_option linter.all false
set_option maxRecDepth 100000
set_option maxHeartbeats 0
namespace Yk05
open PySem PySem.Spec PyProof.Rows L2 VL LB
/-- what is known of a turn's draws -/
structure Inp (ks : List Int) (ord : List Nat) (rs : List Int) (n : Nat) : Prop where
  k0 : 0 < ks.length
  k4 : ks.length ≤ 4
  kb : ∀ k ∈ ks, k = 0 ∨ k = 1
  n8 : n ≤ 8
  ln : ord.length = n
  ow : ∀ w ∈ ord, w < n
  rl : rs.length = n
  rb : ∀ r ∈ rs, 0 ≤ r ∧ r < ks.length
section
variable {ks : List Int} {ord : List Nat} {rs : List Int} {n : Nat}
abbrev yD (ks : List Int) : Da := .tuple (ks.map PyData.int)
abbrev oD (ord : List Nat) : Da := .tuple (ord.map intN)
abbrev rD (rs : List Int) : Da := .tuple (rs.map PyData.int)
theorem Inp.rolled (I : Inp ks ord rs n) (s : VS) : callF F__law_rolled [.d (yD ks), .d (oD ord), .d (rD rs)] s = .ok (.own (.l (((List.range ks.length).map fun t => (laneP ord rs t).map intN).map PyData.list)), s) := by
  have h := rolled_at (ys := ks.map PyData.int) (o := oD ord) (r := rD rs) (ord := ord) (rs := rs) (s := s) (by rw [List.length_map]; have := I.k4; omega) rfl rfl (fun w hw => by rw [I.rl]; exact I.ow w hw) (by rw [I.ln]; have := I.n8; omega)
  rw [List.length_map] at h
  rw [List.map_map]
  exact h
theorem Inp.rolled2 (I : Inp ks ord rs n) (s : VS) : callF F_rolled [.d (yD ks), .d (oD ord), .d (rD rs)] s = .ok (.d (.tuple (lanesD ord rs ks.length)), s) := by
  have h := rolled2_ok (ys := ks.map PyData.int) (o := oD ord) (r := rD rs) (ord := ord) (rs := rs) (by rw [List.length_map]; have := I.k4; omega) rfl rfl (fun w hw => by rw [I.rl]; exact I.ow w hw) (by rw [I.ln]; have := I.n8; omega)
  rw [List.length_map] at h
  exact callF_3 h dl
theorem Inp.pass (I : Inp ks ord rs n) (s : VS) : callF F__law_pass [.d (yD ks), .d (oD ord), .d (rD rs)] s = .ok (.own (.l ((passP ord rs 0 ks).map intN)), s) :=
  callF_3 (pass_ok (by have := I.k4; omega) rfl rfl (fun w hw => by rw [I.rl]; exact I.ow w hw) (by have := Nat.mul_le_mul I.k4 (Nat.le_trans (Nat.le_of_eq I.ln) I.n8); omega) (by rw [I.ln]; have := I.n8; omega)) ol
theorem Inp.pulled (I : Inp ks ord rs n) (s : VS) : callF F_pulled [.d (yD ks), .d (.tuple (lanesD ord rs ks.length))] s = .ok (.d (tupN (passP ord rs 0 ks)), s) :=
  callF_2 (pulled_ok I.kb (by have := I.k4; omega) (by rw [I.ln]; have := I.n8; omega)) dl
theorem Inp.with (I : Inp ks ord rs n) : ∀ x ∈ rs.map PyData.int, withB (((ks.map PyData.int).length : Int) - 1) x = true := fun x hx => by
  obtain ⟨r, hr, rfl⟩ := List.mem_map.mp hx
  obtain ⟨h1, h2⟩ := I.rb r hr
  rw [List.length_map]
  show (decide (0 ≤ r) && decide (r ≤ (ks.length : Int) - 1)) = true
  rw [decide_eq_true h1, decide_eq_true (show r ≤ (ks.length : Int) - 1 by omega)]; rfl
theorem Inp.one (I : Inp ks ord rs n) (s : VS) : callF F_one_pass [.d (yD ks), .d (oD ord), .d (rD rs)] s = .ok (.d (tupN (passP ord rs 0 ks)), s) :=
  callF_3 (pass_yes (ys := ks.map PyData.int) (rs := rs.map PyData.int) rfl rfl I.with len_t I.rolled2 I.pulled) dl
theorem passP_le (I : Inp ks ord rs n) : (passP ord rs 0 ks).length ≤ 32 := by
  have h1 := passP_len ord rs ks 0
  have h2 := Nat.mul_le_mul I.k4 (Nat.le_trans (Nat.le_of_eq I.ln) I.n8)
  omega
theorem same_alike (I : Inp ks ord rs n) (s : VS) : callF F__law_alike [.d (.list [.tuple (lanesD ord rs ks.length), tupN (passP ord rs 0 ks), tupN (passP ord rs 0 ks)]), .d (.list [.tuple (lanesD ord rs ks.length), tupN (passP ord rs 0 ks), tupN (passP ord rs 0 ks)])] s = .ok (.d (.bool true), s) := by
  have hp := passP_le I
  refine alike_at ⟨64, ?_⟩ ?_
  · have e : shFs 62 (lanesD ord rs ks.length) = true := shFs_all fun x hx => by
      obtain ⟨t, _, rfl⟩ := List.mem_map.mp hx
      unfold tupN; simp only [shF, shFs_intN]
    unfold tupN
    simp only [shF, shFs, e, shFs_intN, Bool.and_self]
  · have e : nodesL (lanesD ord rs ks.length) ≤ 9 * (lanesD ord rs ks.length).length := nodes_le fun x hx => by
      obtain ⟨t, _, rfl⟩ := List.mem_map.mp hx
      have h1 : (laneP ord rs t).length ≤ ord.length := List.length_filter_le _ _
      have h2 := I.n8
      have h3 := I.ln
      unfold tupN; simp only [nodesD, nodes_intN]; omega
    have e2 : (lanesD ord rs ks.length).length = ks.length := by unfold lanesD; rw [List.length_map, List.length_range]
    have h4 := I.k4
    unfold tupN
    simp only [nodesD, nodesL, nodes_intN]
    omega
theorem odds_len (I : Inp ks ord rs n) : ∀ x ∈ odds (ord.map intN) n, ∀ xs, x = .tuple xs → xs.length ≤ 1000 := fun x hx xs e => by
  subst e
  have h1 := I.n8
  have h2 := I.ln
  simp only [odds, List.mem_cons, List.not_mem_nil, or_false, PyData.tuple.injEq, reduceCtorEq, false_or] at hx
  rcases hx with rfl | rfl | rfl | rfl | rfl | rfl | rfl | rfl | rfl | rfl | rfl | rfl
  all_goals simp only [List.length_map, List.length_append, List.length_take, List.length_drop, List.length_cons, List.length_nil]
  all_goals omega
theorem bools_alike (bs : List Bool) (hl : bs.length ≤ 1000) (s : VS) : callF F__law_alike [.d (.list (bs.map PyData.bool)), .d (.list (bs.map PyData.bool))] s = .ok (.d (.bool true), s) := by
  refine alike_at ⟨64, ?_⟩ ?_
  · simp only [shF]
    exact shFs_all fun x hx => by obtain ⟨b, _, rfl⟩ := List.mem_map.mp hx; rfl
  · simp only [nodesD]
    have := nodes_le (c := 1) (l := bs.map PyData.bool) fun x hx => by obtain ⟨b, _, rfl⟩ := List.mem_map.mp hx; exact Nat.le_refl _
    rw [List.length_map] at this
    omega
theorem menu_good {m : Int} : ∀ x ∈ menuD m, shF 3 x = true ∧ nodesD x ≤ 2 := by
  intro x hx
  simp only [menuD, List.mem_cons, List.not_mem_nil, or_false] at hx
  rcases hx with rfl | rfl | rfl | rfl | rfl | rfl
  all_goals exact ⟨by first | rfl | decide +kernel, by simp only [nodesD, nodesL]; omega⟩
theorem bad_alike {m : Int} {x : Da} (hx : x ∈ menuD m) (s : VS) : callF F__law_alike [.d (.tuple [.str "no track", x]), .d (.tuple [.str "no track", x])] s = .ok (.d (.bool true), s) := by
  obtain ⟨h1, h2⟩ := menu_good x hx
  refine alike_at ⟨4, ?_⟩ ?_
  · have e : PyData.canLay0 (.str "no track") = true := by decide +kernel
    simp only [shF, shFs, h1, e, Bool.and_self]
  · simp only [nodesD, nodesL]; omega
end
end Yk05
set_option Elab.async false
set_option linter.all false
set_option maxRecDepth 100000
set_option maxHeartbeats 0
namespace Yk05
open PySem PySem.Spec PyProof.Rows L2 VL LB
section
variable {a0 a2 : SV} {l t d L R : Da}
theorem s3_no {a1 : SV} {y o r : Da} : (vFrz [4] (vFgtE [12, 13, 14, 15] law_s3)) [a0, a1, a2, .d y, .d (.int 0), .d o, .d r, .d l, .d t, .d d, .d L, .d R, .un, .un, .un, .un, .un, .un, .un, .un]
    = .ok (.nx, [a0, a1, a2, .d y, .d (.int 0), .d o, .d r, .d l, .d t, .d d, .d L, .d R, .un, .un, .un, .un, .un, .un, .un, .un]) := by
  unfold law_s3
  simp only [m_vb, bnd_ok, bnd_er, m_vr, m_stuck, m_seq, bS_nx, bS_bk, bS_ct, bS_rt, bS_er, m_if, m_ite, bI_t, bI_f, bI_er, m_and, m_or, m_not, m_bool, evB_b, m_opt, m_optn, m_tru, tru_b, tru_i, tru_n, tru_l, tru_t, m_var, var_d, var_own, var_io, var_lk, var_rd, m_c, st_d, st_o, st_l, oc_l, oc_m, rd_d, rd_o, rd_l, rdR_own, rdR_io, rdR_lk, m_bin, m_un, m_call, m_rdn, m_rdc, m_cons, m_conss, m_tup, m_lst, dts_n, dts_c, o_map, o_bind, add_i, sub_i, mul_i, mod_i, fdiv_i, pow_i, neg_i, iadd_i, abs_i, int_i, int_b, len_l, len_t, add_l, add_t, lt_i, le_i, gt_i, ge_i, eq_i, ne_i, eqF_i, neF_i, tuple_l, tuple_t, list_l, list_t, ix_l, ix_t, m_ret, m_drop, m_nx, m_asg, m_nox, nx_ok, set_d, set_o, setD_, wr_un, wr_d, wr_o, wr_rd, m_aug, m_asgD, evD_d, evD_o, m_frzn, m_frzc, m_frz1, fz_d, fz_un, fz_io, fz_lk, fz_rd, fz_o, m_sub, m_augS, m_app, ap_o, ap_io, m_ct, ct_o, ct_io, m_isl, is_o, is_io, m_mut, m_mutB, m_mut0, intD_i, m_sl, m_pn, m_ps, rs_d, rs_l, rsR_rd, rsR_o, rsR_io, sl_l, sl_t, arg_n, arg_c, arg_d, arg_l, ar_o, ar_io, ar_lk, ar_rd, put_n, put_d, put_io, m_put, pt_o, pt_io, i_seq, src_l, src_t, src_o, src_n, sr_o, sr_io, sr_lk, i_rng, i_enum, i_zip, i_rev, unl_n, unl_c, unl_1, ul_lk, ob_t, ob_f, wp_n, wp_c, rt_n, rt_c, fl_un, fl_d, m_unpT, tupD_t, unp_n, unp_c, range_1, range_2, ext_l, ext_t, app_1, m_pc, m_par, rl_n, rl_d, rl_o, rl_l, rlR_o, sr_n, sto_d, sto_o, mulE_i, mulE_t, m_andV, m_orV, m_notE, m_listRg, ite_t, ite_f, m_chain, m_fgt, m_fgtE, fgE_nx, fgE_ct, fgE_bk, fgE_rt, fgE_er, fgts_n, fgts_c, m_fgt1, fg_d, fg_o, fg_un, fg_rd, fg_io, fg_lk, m_raise, List.getElem?_cons_zero, List.getElem?_cons_succ, List.set_cons_zero, List.set_cons_succ, Option.map_some, Option.bind_some, if_true, and_self, show decide ((0 : Int) < 0) = false by decide]
theorem s3_yes {bag bag1 bag2 ys rs : List Da} {o : Da} {n k : Nat} {bad : Da} (hk : k < n) (hn : n ≤ 1000) (hrl : rs.length = n)
    (h1 : callF F__law_take [.loan 1, .d (.int n)] [a0, .own (.l bag), a2, .d (.tuple ys), .d (.int n), .d o, .d (.tuple rs), .d l, .d t, .d d, .d L, .d R, .un, .un, .un, .un, .un, .un, .un, .un] = .ok (.d (.int (k : Int)), [a0, .own (.l bag1), a2, .d (.tuple ys), .d (.int n), .d o, .d (.tuple rs), .d l, .d t, .d d, .d L, .d R, .un, .un, .un, .un, .un, .un, .un, .un]))
    (h2 : callF F__law_some [.loan 1, .d (.list (menuD ys.length))] [a0, .own (.l bag1), a2, .d (.tuple ys), .d (.int n), .d o, .d (.tuple rs), .d l, .d t, .d d, .d L, .d R, .un, .un, .un, .un, .un, .un, .un, .un] = .ok (.d bad, [a0, .own (.l bag2), a2, .d (.tuple ys), .d (.int n), .d o, .d (.tuple rs), .d l, .d t, .d d, .d L, .d R, .un, .un, .un, .un, .un, .un, .un, .un]))
    (hb : withB ((ys.length : Int) - 1) bad = false) (hw : ∀ x ∈ rs, withB ((ys.length : Int) - 1) x = true)
    (ha : ∀ s, callF F__law_alike [.d (.tuple [.str "no track", bad]), .d (.tuple [.str "no track", bad])] s = .ok (.d (.bool true), s)) :
    (vFrz [4] (vFgtE [12, 13, 14, 15] law_s3)) [a0, .own (.l bag), a2, .d (.tuple ys), .d (.int n), .d o, .d (.tuple rs), .d l, .d t, .d d, .d L, .d R, .un, .un, .un, .un, .un, .un, .un, .un]
      = .ok (.nx, [a0, .own (.l bag2), a2, .d (.tuple ys), .d (.int n), .d o, .d (.tuple rs), .d l, .d t, .d d, .d L, .d R, .un, .un, .un, .un, .un, .un, .un, .un]) := by
  have hpos : decide ((0 : Int) < n) = true := decide_eq_true (by omega)
  have hw2 : ∀ x ∈ rs.take k, withB ((ys.length : Int) - 1) x = true := fun x hx => hw x (List.mem_of_mem_take hx)
  have p1 := pass_no (y := .tuple ys) (o := o) (r := .tuple (rs.take k ++ [bad] ++ rs.drop (k + 1))) (ys := ys) (pre := rs.take k) (post := rs.drop (k + 1)) rfl (by show some _ = some _; rw [List.append_assoc]; rfl) hw2 hb len_t
  have e2 : (rs.take k ++ [bad] ++ rs.drop (k + 1)).take (k + 1) = rs.take k ++ [bad] := by
    have : (rs.take k ++ [bad]).length = k + 1 := by rw [List.length_append, List.length_take]; show min k rs.length + 1 = _; omega
    rw [List.take_append_of_le_length (by omega), List.take_of_length_le (by omega)]
  have p2 := pass_no (y := .tuple ys) (o := o) (r := .tuple (rs.take k ++ [bad] ++ (List.replicate ((n : Int) - k - 1).toNat [PyData.int (-9)]).flatten)) (ys := ys) (pre := rs.take k) (post := (List.replicate ((n : Int) - k - 1).toNat [PyData.int (-9)]).flatten) rfl (by show some _ = some _; rw [List.append_assoc]; rfl) hw2 hb len_t
  have lb : (rs.take k ++ [bad] ++ rs.drop (k + 1)).length ≤ 1000 := by
    rw [List.length_append, List.length_append, List.length_take, List.length_drop]; show _ + 1 + _ ≤ _; omega
  have w := st_worse (a0 := a0) (a1 := .own (.l bag2)) (a2 := a2) (y := .tuple ys) (o := o) (r := .tuple rs) (l := l) (t := t) (d := d) (L := L) (R := R) (bad := bad) (rs := rs.take k ++ [bad] ++ rs.drop (k + 1)) (k := k) (n := n) rfl lb hk hn
  rw [e2] at w
  have body : (vSeq (vFrz [3, 4] (vPar [12, 13] (vPc ((vCallF F__law_take ((vCons (vVar 1) ((vCons (vVar 4) (vr []))))))) ((vPc ((vCallF F__law_some ((vCons (vVar 1) ((vCons ((vList ((vCons ((vCall lenD ((vCons (vVar 3) (vr []))))) ((vCons ((vUn negD (vC (.int 1)))) ((vCons (vC .none) ((vCons (vC (.bool true)) ((vCons (vC (.str "0")) ((vCons ((vTuple ((vCons (vC (.int 0)) (vr []))))) (vr []))))))))))))))) (vr []))))))) (vr []))))))
      r5) [a0, .own (.l bag), a2, .d (.tuple ys), .d (.int n), .d o, .d (.tuple rs), .d l, .d t, .d d, .d L, .d R, .un, .un, .un, .un, .un, .un, .un, .un] = .ok (.nx, [a0, .own (.l bag2), a2, .d (.tuple ys), .d (.int n), .d o, .d (.tuple rs), .d l, .d t, .d d, .d L, .d R, .d (.int (k : Int)), .d bad, .d (.tuple (rs.take k ++ [bad] ++ rs.drop (k + 1))), .d (.tuple (rs.take k ++ [bad] ++ (List.replicate ((n : Int) - k - 1).toNat [PyData.int (-9)]).flatten)), .un, .un, .un, .un]) := by
    refine seq_then (st_draw h1 h2) ?_
    unfold r5
    refine seq_then (st_bent (by omega)) ?_
    unfold r4
    refine seq_then (s1 := [a0, .own (.l bag2), a2, .d (.tuple ys), .d (.int n), .d o, .d (.tuple rs), .d l, .d t, .d d, .d L, .d R, .d (.int (k : Int)), .d bad, .d (.tuple (rs.take k ++ [bad] ++ rs.drop (k + 1))), .un, .un, .un, .un, .un]) ?_ ?_
    · simp only [m_frzc, m_frzn, m_frz1, List.getElem?_cons_succ, List.getElem?_cons_zero, fz_d]
      unfold law_s2
      exact test_no (heard_no p1 rfl rfl rfl) rfl ha
    unfold r3
    refine seq_then w ?_
    unfold r2
    simp only [m_frzc, m_frzn, m_frz1, List.getElem?_cons_succ, List.getElem?_cons_zero, fz_d]
    unfold law_s1
    exact test_no (heard_no p2 rfl rfl rfl) rfl ha
  unfold law_s3
  generalize (vSeq (vFrz [3, 4] (vPar [12, 13] (vPc ((vCallF F__law_take ((vCons (vVar 1) ((vCons (vVar 4) (vr []))))))) ((vPc ((vCallF F__law_some ((vCons (vVar 1) ((vCons ((vList ((vCons ((vCall lenD ((vCons (vVar 3) (vr []))))) ((vCons ((vUn negD (vC (.int 1)))) ((vCons (vC .none) ((vCons (vC (.bool true)) ((vCons (vC (.str "0")) ((vCons ((vTuple ((vCons (vC (.int 0)) (vr []))))) (vr []))))))))))))))) (vr []))))))) (vr []))))))
      r5) = B at body ⊢
  simp only [m_vb, bnd_ok, bnd_er, m_vr, m_stuck, m_seq, bS_nx, bS_bk, bS_ct, bS_rt, bS_er, m_if, m_ite, bI_t, bI_f, bI_er, m_and, m_or, m_not, m_bool, evB_b, m_opt, m_optn, m_tru, tru_b, tru_i, tru_n, tru_l, tru_t, m_var, var_d, var_own, var_io, var_lk, var_rd, m_c, st_d, st_o, st_l, oc_l, oc_m, rd_d, rd_o, rd_l, rdR_own, rdR_io, rdR_lk, m_bin, m_un, m_call, m_rdn, m_rdc, m_cons, m_conss, m_tup, m_lst, dts_n, dts_c, o_map, o_bind, add_i, sub_i, mul_i, mod_i, fdiv_i, pow_i, neg_i, iadd_i, abs_i, int_i, int_b, len_l, len_t, add_l, add_t, lt_i, le_i, gt_i, ge_i, eq_i, ne_i, eqF_i, neF_i, tuple_l, tuple_t, list_l, list_t, ix_l, ix_t, m_ret, m_drop, m_nx, m_asg, m_nox, nx_ok, set_d, set_o, setD_, wr_un, wr_d, wr_o, wr_rd, m_aug, m_asgD, evD_d, evD_o, m_frzn, m_frzc, m_frz1, fz_d, fz_un, fz_io, fz_lk, fz_rd, fz_o, m_sub, m_augS, m_app, ap_o, ap_io, m_ct, ct_o, ct_io, m_isl, is_o, is_io, m_mut, m_mutB, m_mut0, intD_i, m_sl, m_pn, m_ps, rs_d, rs_l, rsR_rd, rsR_o, rsR_io, sl_l, sl_t, arg_n, arg_c, arg_d, arg_l, ar_o, ar_io, ar_lk, ar_rd, put_n, put_d, put_io, m_put, pt_o, pt_io, i_seq, src_l, src_t, src_o, src_n, sr_o, sr_io, sr_lk, i_rng, i_enum, i_zip, i_rev, unl_n, unl_c, unl_1, ul_lk, ob_t, ob_f, wp_n, wp_c, rt_n, rt_c, fl_un, fl_d, m_unpT, tupD_t, unp_n, unp_c, range_1, range_2, ext_l, ext_t, app_1, m_pc, m_par, rl_n, rl_d, rl_o, rl_l, rlR_o, sr_n, sto_d, sto_o, mulE_i, mulE_t, m_andV, m_orV, m_notE, m_listRg, ite_t, ite_f, m_chain, m_fgt, m_fgtE, fgE_nx, fgE_ct, fgE_bk, fgE_rt, fgE_er, fgts_n, fgts_c, m_fgt1, fg_d, fg_o, fg_un, fg_rd, fg_io, fg_lk, m_raise, List.getElem?_cons_zero, List.getElem?_cons_succ, List.set_cons_zero, List.set_cons_succ, Option.map_some, Option.bind_some, if_true, and_self, hpos, body]
end
theorem r16_ok {a0 : SV} {x2 : Da} {bag : List Da} {m : Nat} (hb : BagOk (m + 30) bag) :
    ∃ bag', r16 [a0, .own (.l bag), .d x2, .un, .un, .un, .un, .un, .un, .un, .un, .un, .un, .un, .un, .un, .un, .un, .un, .un] = .ok (.nx, [a0, .own (.l bag'), .un, .un, .un, .un, .un, .un, .un, .un, .un, .un, .un, .un, .un, .un, .un, .un, .un, .un]) ∧ BagOk m bag' := by
  obtain ⟨ks, bag1, e1, k0, k4, kb, hb1⟩ := yard_at (n := m + 25) (m := 4) (k := 1) (s := [a0, .own (.l bag), .d x2, .un, .un, .un, .un, .un, .un, .un, .un, .un, .un, .un, .un, .un, .un, .un, .un, .un]) (b := false) rfl (hb.mono (by omega)) (by decide) (by decide)
  obtain ⟨v, bag2, e2, v0, v1, hb2⟩ := take_at (n := m + 24) (k := 1) (s := [a0, .own (.l bag1), .d x2, .un, .un, .un, .un, .un, .un, .un, .un, .un, .un, .un, .un, .un, .un, .un, .un, .un]) (b := false) (m := 9) rfl (hb1.mono (by omega)) (by decide) (by decide)
  obtain ⟨n, rfl⟩ := Int.eq_ofNat_of_zero_le v0
  have n8 : n ≤ 8 := by omega
  have rl : ((rngI n).map PyData.int).length = n := by unfold rngI; rw [List.length_map, List.length_map, List.length_range]
  obtain ⟨os, bag3, e3, hp, hb3⟩ := mixed_at (n := m + 16) (k := 1) (xs := (rngI n).map PyData.int) (s := [a0, .own (.l bag2), .d x2, .d (yD ks), .d (.int (n : Int)), .un, .un, .un, .un, .un, .un, .un, .un, .un, .un, .un, .un, .un, .un, .un]) (b := false) rfl (by rw [rl]; exact hb2.mono (by omega)) (by rw [rl]; omega)
    (fun x hx => by obtain ⟨i, _, rfl⟩ := List.mem_map.mp hx; rfl)
  have hol := hp.length_eq
  rw [rl] at hol
  obtain ⟨ord, rfl, ow⟩ := ex_map (f := intN) (P := fun w => w < n) (l := os) fun x hx => by
    have := hp.mem_iff.mp hx
    obtain ⟨i, hi, rfl⟩ := List.mem_map.mp this
    unfold rngI at hi
    obtain ⟨w, hw, rfl⟩ := List.mem_map.mp hi
    exact ⟨w, List.mem_range.mp hw, by unfold intN; show PyData.int (0 + (w : Int)) = .int (w : Int); rw [Int.zero_add]⟩
  rw [List.length_map] at hol
  obtain ⟨rs, bag4, e4, hrl, hrb, hb4⟩ := st_roll (a0 := a0) (a2 := .d x2) (b := .int (n : Int)) (n := m + 2) (bag := bag3) (os := ord.map intN) (ys := ks.map PyData.int) (by rw [List.length_map]; exact hb3.mono (by omega)) (by rw [List.length_map]; omega) (by rw [List.length_map]; omega) (by rw [List.length_map]; omega)
  rw [List.length_map] at hrl
  have I : Inp ks ord rs n := ⟨k0, k4, kb, n8, hol, ow, by omega, fun r hr => by have := hrb r hr; rwa [List.length_map] at this⟩
  generalize hdue : (passP ord rs 0 ks).map intN = due
  have fin : ∃ bag', (vFrz [4] (vFgtE [12, 13, 14, 15] law_s3)) [a0, .own (.l bag4), .d x2, .d (yD ks), .d (.int (n : Int)), .d (oD ord), .d (rD rs), .d (.list (((List.range ks.length).map fun t => (laneP ord rs t).map intN).map PyData.list)), .d (.tuple (lanesD ord rs ks.length)), .d (tupN (passP ord rs 0 ks)), .d (.list (odds (ord.map intN) n)), .d (.list ((odds (ord.map intN) n).map fun x => .bool (ordB x))), .un, .un, .un, .un, .un, .un, .un, .un]
      = .ok (.nx, [a0, .own (.l bag'), .d x2, .d (yD ks), .d (.int (n : Int)), .d (oD ord), .d (rD rs), .d (.list (((List.range ks.length).map fun t => (laneP ord rs t).map intN).map PyData.list)), .d (.tuple (lanesD ord rs ks.length)), .d (tupN (passP ord rs 0 ks)), .d (.list (odds (ord.map intN) n)), .d (.list ((odds (ord.map intN) n).map fun x => .bool (ordB x))), .un, .un, .un, .un, .un, .un, .un, .un]) ∧ BagOk m bag' := by
    generalize PyData.list (((List.range ks.length).map fun t => (laneP ord rs t).map intN).map PyData.list) = l
    generalize PyData.tuple (lanesD ord rs ks.length) = t
    generalize tupN (passP ord rs 0 ks) = d
    generalize PyData.list ((odds (ord.map intN) n).map fun x => .bool (ordB x)) = R
    generalize PyData.list (odds (ord.map intN) n) = L
    by_cases hn : n = 0
    · subst hn
      exact ⟨bag4, s3_no, hb4.mono (by omega)⟩
    · obtain ⟨v, bag5, e5, v0, v1, hb5⟩ := take_at (n := m + 1) (k := 1) (s := [a0, .own (.l bag4), .d x2, .d (yD ks), .d (.int (n : Int)), .d (oD ord), .d (rD rs), .d l, .d t, .d d, .d L, .d R, .un, .un, .un, .un, .un, .un, .un, .un]) (b := false) (m := n) rfl hb4 (by omega) (by omega)
      obtain ⟨k, rfl⟩ := Int.eq_ofNat_of_zero_le v0
      obtain ⟨bad, bag6, e6, hbad, hb6⟩ := some_at (n := m) (k := 1) (xs := menuD (ks.map PyData.int).length) (s := [a0, .own (.l bag5), .d x2, .d (yD ks), .d (.int (n : Int)), .d (oD ord), .d (rD rs), .d l, .d t, .d d, .d L, .d R, .un, .un, .un, .un, .un, .un, .un, .un]) (b := false) rfl hb5 (by unfold menuD; simp) (by show 6 ≤ 1000; decide)
      exact ⟨bag6, s3_yes (by omega) (by omega) (by rw [List.length_map]; exact I.rl) e5 e6 (menu_no bad hbad) I.with (bad_alike hbad), hb6⟩
  obtain ⟨bag', e5, hb5⟩ := fin
  refine ⟨bag', ?_, hb5⟩
  have turn : (vSeq (vPar [3, 4] (vPc ((vCallF F__law_yard ((vCons (vVar 1) ((vCons (vC (.int 4)) (vr []))))))) ((vPc ((vCallF F__law_take ((vCons (vVar 1) ((vCons (vC (.int 9)) (vr []))))))) (vr [])))))
      r15) [a0, .own (.l bag), .d x2, .un, .un, .un, .un, .un, .un, .un, .un, .un, .un, .un, .un, .un, .un, .un, .un, .un] = .ok (.nx, [a0, .own (.l bag'), .d x2, .d (yD ks), .d (.int (n : Int)), .d (oD ord), .d (rD rs), .d (.list (((List.range ks.length).map fun t => (laneP ord rs t).map intN).map PyData.list)), .d (.tuple (lanesD ord rs ks.length)), .d (tupN (passP ord rs 0 ks)), .d (.list (odds (ord.map intN) n)), .d (.list ((odds (ord.map intN) n).map fun x => .bool (ordB x))), .un, .un, .un, .un, .un, .un, .un, .un]) := by
    refine seq_then (s1 := [a0, .own (.l bag2), .d x2, .d (yD ks), .d (.int (n : Int)), .un, .un, .un, .un, .un, .un, .un, .un, .un, .un, .un, .un, .un, .un, .un]) ?_ ?_
    · have e1' : callF F__law_yard [.loan 1, .d (.int 4)] [a0, .own (.l bag), .d x2, .un, .un, .un, .un, .un, .un, .un, .un, .un, .un, .un, .un, .un, .un, .un, .un, .un] = .ok (.d (tupI ks), [a0, .own (.l bag1), .d x2, .un, .un, .un, .un, .un, .un, .un, .un, .un, .un, .un, .un, .un, .un, .un, .un, .un]) := e1
      have e2' : callF F__law_take [.loan 1, .d (.int 9)] [a0, .own (.l bag1), .d x2, .un, .un, .un, .un, .un, .un, .un, .un, .un, .un, .un, .un, .un, .un, .un, .un, .un] = .ok (.d (.int n), [a0, .own (.l bag2), .d x2, .un, .un, .un, .un, .un, .un, .un, .un, .un, .un, .un, .un, .un, .un, .un, .un, .un]) := e2
      simp only [m_vb, bnd_ok, bnd_er, m_vr, m_stuck, m_seq, bS_nx, bS_bk, bS_ct, bS_rt, bS_er, m_if, m_ite, bI_t, bI_f, bI_er, m_and, m_or, m_not, m_bool, evB_b, m_opt, m_optn, m_tru, tru_b, tru_i, tru_n, tru_l, tru_t, m_var, var_d, var_own, var_io, var_lk, var_rd, m_c, st_d, st_o, st_l, oc_l, oc_m, rd_d, rd_o, rd_l, rdR_own, rdR_io, rdR_lk, m_bin, m_un, m_call, m_rdn, m_rdc, m_cons, m_conss, m_tup, m_lst, dts_n, dts_c, o_map, o_bind, add_i, sub_i, mul_i, mod_i, fdiv_i, pow_i, neg_i, iadd_i, abs_i, int_i, int_b, len_l, len_t, add_l, add_t, lt_i, le_i, gt_i, ge_i, eq_i, ne_i, eqF_i, neF_i, tuple_l, tuple_t, list_l, list_t, ix_l, ix_t, m_ret, m_drop, m_nx, m_asg, m_nox, nx_ok, set_d, set_o, setD_, wr_un, wr_d, wr_o, wr_rd, m_aug, m_asgD, evD_d, evD_o, m_frzn, m_frzc, m_frz1, fz_d, fz_un, fz_io, fz_lk, fz_rd, fz_o, m_sub, m_augS, m_app, ap_o, ap_io, m_ct, ct_o, ct_io, m_isl, is_o, is_io, m_mut, m_mutB, m_mut0, intD_i, m_sl, m_pn, m_ps, rs_d, rs_l, rsR_rd, rsR_o, rsR_io, sl_l, sl_t, arg_n, arg_c, arg_d, arg_l, ar_o, ar_io, ar_lk, ar_rd, put_n, put_d, put_io, m_put, pt_o, pt_io, i_seq, src_l, src_t, src_o, src_n, sr_o, sr_io, sr_lk, i_rng, i_enum, i_zip, i_rev, unl_n, unl_c, unl_1, ul_lk, ob_t, ob_f, wp_n, wp_c, rt_n, rt_c, fl_un, fl_d, m_unpT, tupD_t, unp_n, unp_c, range_1, range_2, ext_l, ext_t, app_1, m_pc, m_par, rl_n, rl_d, rl_o, rl_l, rlR_o, sr_n, sto_d, sto_o, mulE_i, mulE_t, m_andV, m_orV, m_notE, m_listRg, ite_t, ite_f, m_chain, m_fgt, m_fgtE, fgE_nx, fgE_ct, fgE_bk, fgE_rt, fgE_er, fgts_n, fgts_c, m_fgt1, fg_d, fg_o, fg_un, fg_rd, fg_io, fg_lk, m_raise, List.getElem?_cons_zero, List.getElem?_cons_succ, List.set_cons_zero, List.set_cons_succ, Option.map_some, Option.bind_some, if_true, and_self, m_callF, e1', e2']; rfl
    unfold r15
    refine seq_then (st_order (lstRg_ok (by omega)) e3) ?_
    unfold r14
    refine seq_then e4 ?_
    unfold r13
    refine seq_then (st_lanes I.rolled) ?_
    unfold r12
    refine seq_then (st_tracks (by rw [List.length_map, List.length_range]; omega)) ?_
    unfold r11
    have ht : PyData.tuple (((List.range ks.length).map fun t => (laneP ord rs t).map intN).map PyData.tuple) = .tuple (lanesD ord rs ks.length) := by rw [List.map_map]; rfl
    rw [ht]
    refine seq_then (st_due I.pass) ?_
    unfold r10
    refine seq_then (st_same (d := tupN (passP ord rs 0 ks)) I.rolled2 I.pulled I.one (same_alike I)) ?_
    unfold r9
    refine seq_then (r9_ok (by rw [List.length_map]; omega)) ?_
    unfold r8
    refine seq_then (st_right (by show 14 ≤ 1000; decide) (odds_len I)) ?_
    unfold r7
    refine seq_then (st_isord (by show 14 ≤ 1000; decide) (odds_len I) ?_) e5
    have e : ((odds (ord.map intN) n).map fun x => PyData.bool (ordB x)) = ((odds (ord.map intN) n).map ordB).map PyData.bool := by rw [List.map_map]; rfl
    rw [e]
    exact bools_alike _ (by rw [List.length_map]; show 14 ≤ 1000; decide)
  unfold r16
  generalize (vSeq (vPar [3, 4] (vPc ((vCallF F__law_yard ((vCons (vVar 1) ((vCons (vC (.int 4)) (vr []))))))) ((vPc ((vCallF F__law_take ((vCons (vVar 1) ((vCons (vC (.int 9)) (vr []))))))) (vr [])))))
      r15) = B at turn ⊢
  simp only [m_fgtE, turn, fgE_nx, fgts_c, fgts_n, m_fgt1, List.getElem?_cons_succ, List.getElem?_cons_zero, fg_d, fg_un, List.set_cons_succ, List.set_cons_zero]
theorem plain (ns : List Int) (hn : ns.length ≤ 63) : ∃ st', F_law [.rd (ns.map PyData.int)] = .ok (.d (.bool true), st') := by
  obtain ⟨cs, hbag, hc, hl⟩ := bag_ok ns
  have ca : callF F__law_bag [.loan 0] [.rd (ns.map PyData.int), .un, .un, .un, .un, .un, .un, .un, .un, .un, .un, .un, .un, .un, .un, .un, .un, .un, .un, .un] = .ok (.own (.l (bagL 0 1234567891 0 cs)), [.rd (ns.map PyData.int), .un, .un, .un, .un, .un, .un, .un, .un, .un, .un, .un, .un, .un, .un, .un, .un, .un, .un, .un]) := by
    rw [callF_ok (by simp [loans]) (by rfl) hbag (fun i => by intro z; cases z)]
    rfl
  have loop : ∃ s', law_s6 [.rd (ns.map PyData.int), .own (.l (bagL 0 1234567891 0 cs)), .un, .un, .un, .un, .un, .un, .un, .un, .un, .un, .un, .un, .un, .un, .un, .un, .un, .un] = .ok (.nx, unlock [] s') ∧ ∃ bag, s' = [.rd (ns.map PyData.int), .own (.l bag), .un, .un, .un, .un, .un, .un, .un, .un, .un, .un, .un, .un, .un, .un, .un, .un, .un, .un] ∧ BagOk 0 bag := by
    unfold law_s6
    obtain ⟨s', h1, h2⟩ := for_inv (L := []) (fi := (vItRng ((vCons (vC (.int 8)) (vr []))))) (gt := vSetD 2) (g := r16) (xs := rngD 0 8 1)
      (s := [.rd (ns.map PyData.int), .own (.l (bagL 0 1234567891 0 cs)), .un, .un, .un, .un, .un, .un, .un, .un, .un, .un, .un, .un, .un, .un, .un, .un, .un, .un])
      (s1 := [.rd (ns.map PyData.int), .own (.l (bagL 0 1234567891 0 cs)), .un, .un, .un, .un, .un, .un, .un, .un, .un, .un, .un, .un, .un, .un, .un, .un, .un, .un])
      (fun xs s => ∃ bag, s = [.rd (ns.map PyData.int), .own (.l bag), .un, .un, .un, .un, .un, .un, .un, .un, .un, .un, .un, .un, .un, .un, .un, .un, .un, .un] ∧ BagOk (30 * xs.length) bag)
      (fun x xs s hR => by
        obtain ⟨bag, rfl, hb⟩ := hR
        rw [List.length_cons, Nat.mul_add] at hb
        obtain ⟨bag', h2, hb'⟩ := r16_ok (a0 := .rd (ns.map PyData.int)) (x2 := x) hb
        exact ⟨_, .nx, _, by simp only [m_vb, bnd_ok, bnd_er, m_vr, m_stuck, m_seq, bS_nx, bS_bk, bS_ct, bS_rt, bS_er, m_if, m_ite, bI_t, bI_f, bI_er, m_and, m_or, m_not, m_bool, evB_b, m_opt, m_optn, m_tru, tru_b, tru_i, tru_n, tru_l, tru_t, m_var, var_d, var_own, var_io, var_lk, var_rd, m_c, st_d, st_o, st_l, oc_l, oc_m, rd_d, rd_o, rd_l, rdR_own, rdR_io, rdR_lk, m_bin, m_un, m_call, m_rdn, m_rdc, m_cons, m_conss, m_tup, m_lst, dts_n, dts_c, o_map, o_bind, add_i, sub_i, mul_i, mod_i, fdiv_i, pow_i, neg_i, iadd_i, abs_i, int_i, int_b, len_l, len_t, add_l, add_t, lt_i, le_i, gt_i, ge_i, eq_i, ne_i, eqF_i, neF_i, tuple_l, tuple_t, list_l, list_t, ix_l, ix_t, m_ret, m_drop, m_nx, m_asg, m_nox, nx_ok, set_d, set_o, setD_, wr_un, wr_d, wr_o, wr_rd, m_aug, m_asgD, evD_d, evD_o, m_frzn, m_frzc, m_frz1, fz_d, fz_un, fz_io, fz_lk, fz_rd, fz_o, m_sub, m_augS, m_app, ap_o, ap_io, m_ct, ct_o, ct_io, m_isl, is_o, is_io, m_mut, m_mutB, m_mut0, intD_i, m_sl, m_pn, m_ps, rs_d, rs_l, rsR_rd, rsR_o, rsR_io, sl_l, sl_t, arg_n, arg_c, arg_d, arg_l, ar_o, ar_io, ar_lk, ar_rd, put_n, put_d, put_io, m_put, pt_o, pt_io, i_seq, src_l, src_t, src_o, src_n, sr_o, sr_io, sr_lk, i_rng, i_enum, i_zip, i_rev, unl_n, unl_c, unl_1, ul_lk, ob_t, ob_f, wp_n, wp_c, rt_n, rt_c, fl_un, fl_d, m_unpT, tupD_t, unp_n, unp_c, range_1, range_2, ext_l, ext_t, app_1, m_pc, m_par, rl_n, rl_d, rl_o, rl_l, rlR_o, sr_n, sto_d, sto_o, mulE_i, mulE_t, m_andV, m_orV, m_notE, m_listRg, ite_t, ite_f, m_chain, m_fgt, m_fgtE, fgE_nx, fgE_ct, fgE_bk, fgE_rt, fgE_er, fgts_n, fgts_c, m_fgt1, fg_d, fg_o, fg_un, fg_rd, fg_io, fg_lk, m_raise, List.getElem?_cons_zero, List.getElem?_cons_succ, List.set_cons_zero, List.set_cons_succ, Option.map_some, Option.bind_some, if_true, and_self], h2, .inl rfl, bag', rfl, hb'⟩)
      (by rfl) ⟨_, rfl, ⟨0, 1234567891, 0, cs, rfl, by decide, by decide, by decide, by decide, by rw [rngD_len]; decide, hc, by omega⟩⟩
    obtain ⟨bag, rfl, hb⟩ := h2
    exact ⟨_, h1, bag, rfl, hb⟩
  obtain ⟨s', hs, bag, rfl, _⟩ := loop
  rw [unl_n] at hs
  refine ⟨[.rd (ns.map PyData.int)], run_d (st := [.rd (ns.map PyData.int), .un, .un, .un, .un, .un, .un, .un, .un, .un, .un, .un, .un, .un, .un, .un, .un, .un, .un, .un]) (s := [.rd (ns.map PyData.int), .own (.l bag), .un, .un, .un, .un, .un, .un, .un, .un, .un, .un, .un, .un, .un, .un, .un, .un, .un, .un]) ?_⟩
  unfold g_law
  refine seq_then (s1 := [.rd (ns.map PyData.int), .own (.l (bagL 0 1234567891 0 cs)), .un, .un, .un, .un, .un, .un, .un, .un, .un, .un, .un, .un, .un, .un, .un, .un, .un, .un]) ?_ ?_
  · simp only [m_vb, bnd_ok, bnd_er, m_vr, m_stuck, m_seq, bS_nx, bS_bk, bS_ct, bS_rt, bS_er, m_if, m_ite, bI_t, bI_f, bI_er, m_and, m_or, m_not, m_bool, evB_b, m_opt, m_optn, m_tru, tru_b, tru_i, tru_n, tru_l, tru_t, m_var, var_d, var_own, var_io, var_lk, var_rd, m_c, st_d, st_o, st_l, oc_l, oc_m, rd_d, rd_o, rd_l, rdR_own, rdR_io, rdR_lk, m_bin, m_un, m_call, m_rdn, m_rdc, m_cons, m_conss, m_tup, m_lst, dts_n, dts_c, o_map, o_bind, add_i, sub_i, mul_i, mod_i, fdiv_i, pow_i, neg_i, iadd_i, abs_i, int_i, int_b, len_l, len_t, add_l, add_t, lt_i, le_i, gt_i, ge_i, eq_i, ne_i, eqF_i, neF_i, tuple_l, tuple_t, list_l, list_t, ix_l, ix_t, m_ret, m_drop, m_nx, m_asg, m_nox, nx_ok, set_d, set_o, setD_, wr_un, wr_d, wr_o, wr_rd, m_aug, m_asgD, evD_d, evD_o, m_frzn, m_frzc, m_frz1, fz_d, fz_un, fz_io, fz_lk, fz_rd, fz_o, m_sub, m_augS, m_app, ap_o, ap_io, m_ct, ct_o, ct_io, m_isl, is_o, is_io, m_mut, m_mutB, m_mut0, intD_i, m_sl, m_pn, m_ps, rs_d, rs_l, rsR_rd, rsR_o, rsR_io, sl_l, sl_t, arg_n, arg_c, arg_d, arg_l, ar_o, ar_io, ar_lk, ar_rd, put_n, put_d, put_io, m_put, pt_o, pt_io, i_seq, src_l, src_t, src_o, src_n, sr_o, sr_io, sr_lk, i_rng, i_enum, i_zip, i_rev, unl_n, unl_c, unl_1, ul_lk, ob_t, ob_f, wp_n, wp_c, rt_n, rt_c, fl_un, fl_d, m_unpT, tupD_t, unp_n, unp_c, range_1, range_2, ext_l, ext_t, app_1, m_pc, m_par, rl_n, rl_d, rl_o, rl_l, rlR_o, sr_n, sto_d, sto_o, mulE_i, mulE_t, m_andV, m_orV, m_notE, m_listRg, ite_t, ite_f, m_chain, m_fgt, m_fgtE, fgE_nx, fgE_ct, fgE_bk, fgE_rt, fgE_er, fgts_n, fgts_c, m_fgt1, fg_d, fg_o, fg_un, fg_rd, fg_io, fg_lk, m_raise, List.getElem?_cons_zero, List.getElem?_cons_succ, List.set_cons_zero, List.set_cons_succ, Option.map_some, Option.bind_some, if_true, and_self, m_callF, ca]
  unfold r17
  refine seq_then hs ?_
  unfold r1
  simp only [m_vb, bnd_ok, bnd_er, m_vr, m_stuck, m_seq, bS_nx, bS_bk, bS_ct, bS_rt, bS_er, m_if, m_ite, bI_t, bI_f, bI_er, m_and, m_or, m_not, m_bool, evB_b, m_opt, m_optn, m_tru, tru_b, tru_i, tru_n, tru_l, tru_t, m_var, var_d, var_own, var_io, var_lk, var_rd, m_c, st_d, st_o, st_l, oc_l, oc_m, rd_d, rd_o, rd_l, rdR_own, rdR_io, rdR_lk, m_bin, m_un, m_call, m_rdn, m_rdc, m_cons, m_conss, m_tup, m_lst, dts_n, dts_c, o_map, o_bind, add_i, sub_i, mul_i, mod_i, fdiv_i, pow_i, neg_i, iadd_i, abs_i, int_i, int_b, len_l, len_t, add_l, add_t, lt_i, le_i, gt_i, ge_i, eq_i, ne_i, eqF_i, neF_i, tuple_l, tuple_t, list_l, list_t, ix_l, ix_t, m_ret, m_drop, m_nx, m_asg, m_nox, nx_ok, set_d, set_o, setD_, wr_un, wr_d, wr_o, wr_rd, m_aug, m_asgD, evD_d, evD_o, m_frzn, m_frzc, m_frz1, fz_d, fz_un, fz_io, fz_lk, fz_rd, fz_o, m_sub, m_augS, m_app, ap_o, ap_io, m_ct, ct_o, ct_io, m_isl, is_o, is_io, m_mut, m_mutB, m_mut0, intD_i, m_sl, m_pn, m_ps, rs_d, rs_l, rsR_rd, rsR_o, rsR_io, sl_l, sl_t, arg_n, arg_c, arg_d, arg_l, ar_o, ar_io, ar_lk, ar_rd, put_n, put_d, put_io, m_put, pt_o, pt_io, i_seq, src_l, src_t, src_o, src_n, sr_o, sr_io, sr_lk, i_rng, i_enum, i_zip, i_rev, unl_n, unl_c, unl_1, ul_lk, ob_t, ob_f, wp_n, wp_c, rt_n, rt_c, fl_un, fl_d, m_unpT, tupD_t, unp_n, unp_c, range_1, range_2, ext_l, ext_t, app_1, m_pc, m_par, rl_n, rl_d, rl_o, rl_l, rlR_o, sr_n, sto_d, sto_o, mulE_i, mulE_t, m_andV, m_orV, m_notE, m_listRg, ite_t, ite_f, m_chain, m_fgt, m_fgtE, fgE_nx, fgE_ct, fgE_bk, fgE_rt, fgE_er, fgts_n, fgts_c, m_fgt1, fg_d, fg_o, fg_un, fg_rd, fg_io, fg_lk, m_raise, List.getElem?_cons_zero, List.getElem?_cons_succ, List.set_cons_zero, List.set_cons_succ, Option.map_some, Option.bind_some, if_true, and_self]
end Yk05
open PySem PySem.W PySem.Calls PyProof.Rows
theorem PySem.Challenge.cw_yardpasses_k05_passes_by_rolling_holds : PySem.Challenge.rw_yardpasses_k05_passes_by_rolling.Holds := by
  w_on; o_law
  refine HandSHeadRun.head_any (r := OpenLaw.row PySem.Challenge.rw_yardpasses_k05_passes_by_rolling) (q := view (OpenLaw.row PySem.Challenge.rw_yardpasses_k05_passes_by_rolling).prog [25]) (H := Yk05.hk) (ob := Yk05.ob) (M := 4000) (loose := ["_wall", "YardError", "NoTrack", "is_integer", "is_within", "are_integers", "STUB", "is_order", "rolled", "pulled", "one_pass", "_law_bag", "_law_take", "_law_some", "_law_mixed", "_law_alike", "_law_is_int", "_law_rolled", "_law_pass", "_law_yard", "_law_heard"]) (d := HandSHeadRun.topDef (OpenLaw.row PySem.Challenge.rw_yardpasses_k05_passes_by_rolling).prog 25) (kwd := []) Yk05.ob_eq
    (by kernel_rfl) (fun s => by kernel_rfl) Yk05.run (by kernel_rfl) (by kernel_rfl) (by kernel_rfl) (by rfl) (by first | assumption | decide +kernel) (by decide +kernel) ⟨rfl, rfl, rfl, rfl, rfl, by decide +kernel⟩ ?hw ?hc
  case hw => w_witness2
  case hc =>
    refine VL.walk_vT (l := PySem.Challenge.rw_yardpasses_k05_passes_by_rolling) (n := 63) (k := 6) (x := "script") (m := Yk05.F_law) rfl (by decide) (by kernel_rfl) ⟨rfl, by decide, by decide⟩ ?F Yk05.plain
    intro w mg fa h Y G hmg0
    obtain ⟨K, KX, c⟩ := Y
    have hmg : mg ("law" : PySem.Str) = some (.ref fa) := by
      have e : (HandSHeadRun.topDef (OpenLaw.row PySem.Challenge.rw_yardpasses_k05_passes_by_rolling).prog 25).name = ("law" : PySem.Str) := by kernel_rfl
      rw [← e]
      exact hmg0
    obtain ⟨fd, cs, Tb, t1, t2, t3, t4, hb, hF⟩ := Yk05.facts (w := w) KX G hmg c
    exact ⟨K, fd, cs, Tb, KX, t1, t2, t3, t4, hb, hF⟩
