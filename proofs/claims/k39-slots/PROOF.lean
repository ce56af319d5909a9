import PyProof.Rows.All
import Wide.All
import OpenK.AllK
import Wide.FinOn
import HandS.ForMost
import HandS.ForExc
import HandS.TupAny
import HandS.TupLe
import HandS.TupMul
import HandS.Wide
import HandS.Deep
import HandS.Flow
import HandS.Star
import HandS.Style
import HandS.More
import HandS.SetFor
import HandS.Comp
import KE.GoesZip
import KE.GoesEnum
import KE.GoesMore
import HandS.Rev
import HandS.Zip
import HandS.IsInst
import HandS.WordsDict
import HandS.SortInts
import PyProof.P3In
import KE.KDictZip
import PyProof.ListNew
import HandS.HeadEnd
import HandS.HeadNt
import HandS.HeadHook2
import HandS.Head0
import HandS.Head1
import HandS.Head2
import PySem.Challenge.RW_yardpasses_k39_slots_of_late_wagons
set_option Elab.async false
set_option linter.all false
set_option maxRecDepth 100000
namespace VL
open PySem PySem.Spec PyProof.Rows L2
abbrev Da := PyData
abbrev AS := Addr → Prop
/-- one address more -/
def AS.with (O : AS) (p : Addr) : AS := fun a => O a ∨ a = p
/-- a tuple of the written part -/
def KTup (K : PySem.W.Frag) (a : Addr) (xs : List V) : Prop :=
  ∃ (o : Obj) (its : Array Value) (n : Nat), K.lookup a = some o ∧ o.cls = .type "tuple" ∧ o.data = .seq its n ∧ its.size ≤ sizeLine ∧ Vals xs its.toList
def keyD : Key → Da
  | .inl i => .int i
  | .inr s => .str s
mutual
/-- the value v stands for the datum, apart from the addresses O -/
def Rp (K : PySem.W.Frag) (O : AS) (H : Hp) : Da → V → Prop
  | .none, v => v = .non
  | .bool b, v => v = .bl b
  | .int i, v => v = .int i
  | .str s, v => v = .str s
  | .list ds, v => ∃ a xs, v = .ref a ∧ H a = some (.lst xs) ∧ ¬ O a ∧ RpL K O H ds xs
  | .tuple ds, v => ∃ a xs, v = .ref a ∧ ((H a = some (.tup xs) ∧ ¬ O a) ∨ KTup K a xs) ∧ RpL K O H ds xs
  | .dict kvs, v => ∃ a ks, v = .ref a ∧ H a = some (.dK ks) ∧ ¬ O a ∧ RpD K O H kvs ks
def RpL (K : PySem.W.Frag) (O : AS) (H : Hp) : List Da → List V → Prop
  | [], vs => vs = []
  | d :: ds, vs => ∃ w ws, vs = w :: ws ∧ Rp K O H d w ∧ RpL K O H ds ws
def RpD (K : PySem.W.Frag) (O : AS) (H : Hp) : List (Da × Da) → List (Key × V) → Prop
  | [], ks => ks = []
  | (k, d) :: r, ks => ∃ key w ws, ks = (key, w) :: ws ∧ k = keyD key ∧ Rp K O H d w ∧ RpD K O H r ws
end
theorem Rd.mono {H H' : Hp} {O : AS} {a : Addr} {u : HO} (h : Rd H a u) (hH : ∀ a o, H a = some o → ¬ O a → H' a = some o) (n : ¬ O a) : Rd H' a u := by
  rcases h with h | ⟨o, h⟩
  · exact .inl (hH _ _ h n)
  · exact .inr ⟨o, hH _ _ h n⟩
theorem Rd.there {H : Hp} {a : Addr} {u : HO} (h : Rd H a u) : H a ≠ none := by
  rcases h with h | ⟨o, h⟩ <;> (rw [h]; exact fun z => nomatch z)
section
variable {K : PySem.W.Frag} {O O' : AS} {H H' : Hp}
mutual
theorem Rp.mono (hO : ∀ a, O' a → O a ∨ H a = none) (hH : ∀ a o, H a = some o → ¬ O a → H' a = some o) : ∀ (d : Da) (v : V), Rp K O H d v → Rp K O' H' d v
  | .none, v, h => by simpa only [Rp] using h
  | .bool b, v, h => by simpa only [Rp] using h
  | .int i, v, h => by simpa only [Rp] using h
  | .str s, v, h => by simpa only [Rp] using h
  | .list ds, v, h => by
    simp only [Rp] at h ⊢
    obtain ⟨a, xs, e, r, n, q⟩ := h
    exact ⟨a, xs, e, hH _ _ r n, fun z => (hO a z).elim n (fun q => by rw [r] at q; cases q), RpL.mono hO hH ds xs q⟩
  | .tuple ds, v, h => by
    simp only [Rp] at h ⊢
    obtain ⟨a, xs, e, r, q⟩ := h
    refine ⟨a, xs, e, ?_, RpL.mono hO hH ds xs q⟩
    rcases r with ⟨r, n⟩ | r
    · exact .inl ⟨hH _ _ r n, fun z => (hO a z).elim n (fun q => by rw [r] at q; cases q)⟩
    · exact .inr r
  | .dict kvs, v, h => by
    simp only [Rp] at h ⊢
    obtain ⟨a, xs, e, r, n, q⟩ := h
    exact ⟨a, xs, e, hH _ _ r n, fun z => (hO a z).elim n (fun q => by rw [r] at q; cases q), RpD.mono hO hH kvs xs q⟩
theorem RpL.mono (hO : ∀ a, O' a → O a ∨ H a = none) (hH : ∀ a o, H a = some o → ¬ O a → H' a = some o) : ∀ (ds : List Da) (vs : List V), RpL K O H ds vs → RpL K O' H' ds vs
  | [], vs, h => by simpa only [RpL] using h
  | d :: ds, vs, h => by
    simp only [RpL] at h ⊢
    obtain ⟨w, ws, e, r, q⟩ := h
    exact ⟨w, ws, e, Rp.mono hO hH d w r, RpL.mono hO hH ds ws q⟩
theorem RpD.mono (hO : ∀ a, O' a → O a ∨ H a = none) (hH : ∀ a o, H a = some o → ¬ O a → H' a = some o) : ∀ (ds : List (Da × Da)) (ks : List (Key × V)), RpD K O H ds ks → RpD K O' H' ds ks
  | [], vs, h => by simpa only [RpD] using h
  | (k, d) :: ds, vs, h => by
    simp only [RpD] at h ⊢
    obtain ⟨key, w, ws, e, ek, r, q⟩ := h
    exact ⟨key, w, ws, e, ek, Rp.mono hO hH d w r, RpD.mono hO hH ds ws q⟩
end
mutual
/-- no dict within -/
theorem Rp.dp : ∀ (d : Da) (v : V), d.canLay0 = true → Rp K O H d v → Dp K H v d
  | .none, v, _, h => by simp only [Rp] at h; subst h; exact .non
  | .bool b, v, _, h => by simp only [Rp] at h; subst h; exact .bl b
  | .int i, v, _, h => by simp only [Rp] at h; subst h; exact .int i
  | .str s, v, _, h => by simp only [Rp] at h; subst h; exact .str s
  | .list ds, v, c, h => by
    simp only [Rp] at h
    obtain ⟨a, xs, rfl, r, n, q⟩ := h
    simp only [PyData.canLay0] at c
    exact .lst (.of r) (RpL.dp ds xs c q)
  | .tuple ds, v, c, h => by
    simp only [Rp] at h
    obtain ⟨a, xs, rfl, r, q⟩ := h
    simp only [PyData.canLay0] at c
    refine .tup ?_ (RpL.dp ds xs c q)
    rcases r with ⟨r, _⟩ | r
    · exact .of r
    · exact .inr r
  | .dict kvs, v, c, h => by simp only [PyData.canLay0] at c; cases c
theorem RpL.dp : ∀ (ds : List Da) (vs : List V), PyData.canLayAll0 ds = true → RpL K O H ds vs → DpAll K H vs ds
  | [], vs, _, h => by simp only [RpL] at h; subst h; exact .nil
  | d :: ds, vs, c, h => by
    simp only [RpL] at h
    obtain ⟨w, ws, rfl, r, q⟩ := h
    simp only [PyData.canLayAll0, Bool.and_eq_true] at c
    exact .cons (Rp.dp d w c.1 r) (RpL.dp ds ws c.2 q)
end
theorem RpL.length : ∀ {ds : List Da} {vs : List V}, RpL K O H ds vs → ds.length = vs.length
  | [], vs, h => by simp only [RpL] at h; subst h; rfl
  | d :: ds, vs, h => by
    simp only [RpL] at h
    obtain ⟨w, ws, rfl, r, q⟩ := h
    rw [List.length_cons, List.length_cons, RpL.length q]
theorem RpL.get : ∀ {ds : List Da} {vs : List V} {i : Nat} {d : Da}, RpL K O H ds vs → ds[i]? = some d → ∃ w, vs[i]? = some w ∧ Rp K O H d w
  | [], vs, i, d, h, e => by simp at e
  | d :: ds, vs, 0, x, h, e => by
    simp only [RpL] at h
    obtain ⟨w, ws, rfl, r, q⟩ := h
    simp at e; subst e
    exact ⟨w, rfl, r⟩
  | d :: ds, vs, i + 1, x, h, e => by
    simp only [RpL] at h
    obtain ⟨w, ws, rfl, r, q⟩ := h
    obtain ⟨u, a, b⟩ := RpL.get q (show ds[i]? = some x by simpa using e)
    exact ⟨u, by simpa using a, b⟩
theorem RpL.append : ∀ {ds es : List Da} {vs ws : List V}, RpL K O H ds vs → RpL K O H es ws → RpL K O H (ds ++ es) (vs ++ ws)
  | [], es, vs, ws, h, g => by simp only [RpL] at h; subst h; exact g
  | d :: ds, es, vs, ws, h, g => by
    simp only [RpL] at h
    obtain ⟨w, r, rfl, a, b⟩ := h
    simp only [List.cons_append, RpL]
    exact ⟨w, r ++ ws, rfl, a, RpL.append b g⟩
theorem RpL.one {d : Da} {v : V} (h : Rp K O H d v) : RpL K O H [d] [v] := by
  simp only [RpL]; exact ⟨v, [], rfl, h, rfl⟩
theorem RpL.nil : RpL K O H [] [] := by simp only [RpL]
theorem RpL.cons {d : Da} {v : V} {ds : List Da} {vs : List V} (h : Rp K O H d v) (t : RpL K O H ds vs) : RpL K O H (d :: ds) (v :: vs) := by
  simp only [RpL]; exact ⟨v, vs, rfl, h, t⟩
theorem RpL.take (n : Nat) : ∀ {ds : List Da} {vs : List V}, RpL K O H ds vs → RpL K O H (ds.take n) (vs.take n) := by
  induction n with
  | zero => intro ds vs h; simp only [List.take_zero]; exact .nil
  | succ n ih =>
    intro ds vs h
    cases ds with
    | nil => simp only [RpL] at h; subst h; exact .nil
    | cons d ds =>
      simp only [RpL] at h
      obtain ⟨w, r, rfl, a, b⟩ := h
      exact .cons a (ih b)
theorem RpL.drop (n : Nat) : ∀ {ds : List Da} {vs : List V}, RpL K O H ds vs → RpL K O H (ds.drop n) (vs.drop n) := by
  induction n with
  | zero => intro ds vs h; simpa only [List.drop_zero] using h
  | succ n ih =>
    intro ds vs h
    cases ds with
    | nil => simp only [RpL] at h; subst h; exact .nil
    | cons d ds =>
      simp only [RpL] at h
      obtain ⟨w, r, rfl, a, b⟩ := h
      exact ih b
theorem RpL.reverse : ∀ {ds : List Da} {vs : List V}, RpL K O H ds vs → RpL K O H ds.reverse vs.reverse
  | [], vs, h => by simp only [RpL] at h; subst h; exact .nil
  | d :: ds, vs, h => by
    simp only [RpL] at h
    obtain ⟨w, r, rfl, a, b⟩ := h
    rw [List.reverse_cons, List.reverse_cons]
    exact (RpL.reverse b).append (.one a)
theorem RpL.set {d : Da} {v : V} (i : Nat) (x : Rp K O H d v) : ∀ {ds : List Da} {vs : List V}, RpL K O H ds vs → RpL K O H (ds.set i d) (vs.set i v) := by
  induction i with
  | zero =>
    intro ds vs h
    cases ds with
    | nil => simp only [RpL] at h; subst h; exact .nil
    | cons e ds =>
      simp only [RpL] at h
      obtain ⟨w, r, rfl, a, b⟩ := h
      exact .cons x b
  | succ n ih =>
    intro ds vs h
    cases ds with
    | nil => simp only [RpL] at h; subst h; exact .nil
    | cons e ds =>
      simp only [RpL] at h
      obtain ⟨w, r, rfl, a, b⟩ := h
      exact .cons a (ih b)
theorem RpL.ints : ∀ {ns : List Int} {vs : List V}, RpL K O H (ns.map PyData.int) vs → vs = ns.map V.int
  | [], vs, h => by simpa only [List.map_nil, RpL] using h
  | n :: ns, vs, h => by
    simp only [List.map_cons, RpL, Rp] at h
    obtain ⟨w, ws, rfl, rfl, q⟩ := h
    rw [RpL.ints q]; rfl
theorem RpL.ofInts : ∀ (ns : List Int), RpL K O H (ns.map PyData.int) (ns.map V.int)
  | [] => .nil
  | n :: ns => by
    rw [List.map_cons, List.map_cons]
    exact .cons (by simp only [Rp]) (RpL.ofInts ns)
end
/-! ### frames -/
/-- what a list or dict that stands by itself holds -/
inductive OC where
  | l (xs : List Da)
  | m (kvs : List (Da × Da))
def OC.data : OC → Da
  | .l xs => .list xs
  | .m kvs => .dict kvs
/-- what a name holds: nothing; a datum; a list of its own; one of its own that is a parameter's, to be given back; one that is locked -/
inductive SV where
  | un
  | d (x : Da)
  | own (c : OC)
  | io (c : OC)
  | lk (c : OC)
  | rd (xs : List Da)
abbrev VS := List SV
def Cont (K : PySem.W.Frag) (O : AS) (H : Hp) (p : Addr) : OC → Prop
  | .l xs => ∃ vs, H p = some (.lst vs) ∧ RpL K O H xs vs
  | .m kvs => ∃ ks, H p = some (.dK ks) ∧ RpD K O H kvs ks
/-- a list that one reads: of the heap, of the written part -/
def RdK (K : PySem.W.Frag) (O : AS) (H : Hp) (a : Addr) (vs : List V) : Prop := (Rd H a (.lst vs) ∧ ¬ O a) ∨
  ∃ (o : Obj) (its : Array Value) (n : Nat), K.lookup a = some o ∧ o.cls = .type "list" ∧ o.dict = none ∧ o.data = .seq its n ∧ its.size ≤ sizeLine ∧ Vals vs its.toList
theorem RdK.sq {K : PySem.W.Frag} {O : AS} {H : Hp} {a : Addr} {vs : List V} (h : RdK K O H a vs) : SqL K H a vs := h.imp And.left id
theorem RdK.mono {K : PySem.W.Frag} {O O' : AS} {H H' : Hp} {a : Addr} {vs : List V} (h : RdK K O H a vs) (hO : ∀ a, O' a → O a ∨ H a = none) (hH : ∀ a o, H a = some o → ¬ O a → H' a = some o) : RdK K O' H' a vs :=
  h.imp (fun ⟨r, n⟩ => ⟨Rd.mono r hH n, fun z => (hO a z).elim n (Rd.there r)⟩) id
def SlotOk (K : PySem.W.Frag) (O : AS) (H : Hp) : SV → Option V → Prop
  | .un, _ => True
  | .d x, v => ∃ w, v = some w ∧ Rp K O H x w
  | .own c, v => ∃ p, v = some (.ref p) ∧ Cont K O H p c
  | .io c, v => ∃ p, v = some (.ref p) ∧ Cont K O H p c
  | .lk c, v => ∃ p, v = some (.ref p) ∧ Cont K O H p c
  | .rd xs, v => ∃ a vs, v = some (.ref a) ∧ RdK K O H a vs ∧ RpL K O H xs vs
/-- the slot i holds an object of its own, at p -/
def OwnAt (st : VS) (σ : L2.St) (i : Nat) (p : Addr) : Prop := σ[i]? = some (some (.ref p)) ∧ ∃ c, st[i]? = some (.own c) ∨ st[i]? = some (.io c) ∨ st[i]? = some (.lk c)
def Own (st : VS) (σ : L2.St) : AS := fun p => ∃ i, OwnAt st σ i p
/-- .. one that may change -/
def MutAt (st : VS) (σ : L2.St) (i : Nat) (p : Addr) : Prop := σ[i]? = some (some (.ref p)) ∧ ∃ c, st[i]? = some (.own c) ∨ st[i]? = some (.io c)
def MutO (st : VS) (σ : L2.St) : AS := fun p => ∃ i, MutAt st σ i p
theorem MutO.own {st : VS} {σ : L2.St} {p : Addr} : MutO st σ p → Own st σ p := fun ⟨i, e, c, h⟩ => ⟨i, e, c, h.elim .inl fun h => .inr (.inl h)⟩
/-- the addresses that data keep away from -/
def Av (O : AS) (st : VS) (σ : L2.St) : AS := fun a => O a ∨ Own st σ a
structure FR (K : PySem.W.Frag) (O : AS) (st : VS) (σ : L2.St) (H : Hp) : Prop where
  len : st.length = σ.length
  slot : ∀ (i : Nat) (sv : SV), st[i]? = some sv → ∃ v, σ[i]? = some v ∧ SlotOk K (Av O st σ) H sv v
  inj : ∀ (i j : Nat) (p : Addr), OwnAt st σ i p → OwnAt st σ j p → i = j
  avoid : ∀ (p : Addr), Own st σ p → ¬ O p
  odom : ∀ (p : Addr), O p → H p ≠ none
theorem Cont.there {K : PySem.W.Frag} {O : AS} {H : Hp} {p : Addr} {c : OC} (h : Cont K O H p c) : H p ≠ none := by
  cases c with
  | l xs => obtain ⟨_, e, _⟩ := h; rw [e]; exact fun z => nomatch z
  | m xs => obtain ⟨_, e, _⟩ := h; rw [e]; exact fun z => nomatch z
theorem Cont.mono {K : PySem.W.Frag} {O O' : AS} {H H' : Hp} {p : Addr} (hO : ∀ a, O' a → O a ∨ H a = none) (hH : ∀ a o, H a = some o → ¬ O a → H' a = some o) (hp : H' p = H p) {c : OC} (h : Cont K O H p c) : Cont K O' H' p c := by
  cases c with
  | l xs => obtain ⟨vs, e, r⟩ := h; exact ⟨vs, hp.trans e, RpL.mono hO hH _ _ r⟩
  | m xs => obtain ⟨vs, e, r⟩ := h; exact ⟨vs, hp.trans e, RpD.mono hO hH _ _ r⟩
theorem FR.ownc {K : PySem.W.Frag} {O : AS} {st : VS} {σ : L2.St} {H : Hp} (F : FR K O st σ H) {i : Nat} {p : Addr} (h : OwnAt st σ i p) : ∃ c, (st[i]? = some (.own c) ∨ st[i]? = some (.io c) ∨ st[i]? = some (.lk c)) ∧ Cont K (Av O st σ) H p c := by
  obtain ⟨e, c, h⟩ := h
  refine ⟨c, h, ?_⟩
  rcases h with h | h | h
  all_goals
    obtain ⟨v, ev, q, eq, r⟩ := F.slot i _ h
    rw [e] at ev; cases ev; cases eq
    exact r
theorem FR.ownSome {K : PySem.W.Frag} {O : AS} {st : VS} {σ : L2.St} {H : Hp} (F : FR K O st σ H) {p : Addr} (h : Own st σ p) : H p ≠ none := by
  obtain ⟨i, h⟩ := h
  obtain ⟨c, _, r⟩ := F.ownc h
  exact r.there
/-- from one state of a frame to a later one -/
structure Step (K : PySem.W.Frag) (O : AS) (st : VS) (σ : L2.St) (H : Hp) (st' : VS) (σ' : L2.St) (H' : Hp) : Prop where
  fr : FR K O st' σ' H'
  keep : ∀ (a : Addr) (o : HO), H a = some o → ¬ MutO st σ a → H' a = some o
  new : ∀ (a : Addr), Own st' σ' a → Own st σ a ∨ H a = none
  mnew : ∀ (a : Addr), MutO st' σ' a → MutO st σ a ∨ H a = none
  dom : ∀ (a : Addr), H' a = none → H a = none
  len : σ'.length = σ.length
  io : ∀ (i : Nat) (c : OC), st[i]? = some (.io c) → (∃ c', st'[i]? = some (.io c')) ∧ σ'[i]? = σ[i]?
  lk : ∀ (i : Nat) (c : OC), st[i]? = some (.lk c) → st'[i]? = some (.lk c) ∧ σ'[i]? = σ[i]?
section
variable {K : PySem.W.Frag} {O : AS} {st st1 st2 : VS} {σ σ1 σ2 : L2.St} {H H1 H2 : Hp}
theorem Step.refl (F : FR K O st σ H) : Step K O st σ H st σ H := ⟨F, fun _ _ h _ => h, fun _ h => .inl h, fun _ h => .inl h, fun _ h => h, rfl, fun _ c h => ⟨⟨c, h⟩, rfl⟩, fun _ _ h => ⟨h, rfl⟩⟩
theorem Step.trans (a : Step K O st σ H st1 σ1 H1) (b : Step K O st1 σ1 H1 st2 σ2 H2) : Step K O st σ H st2 σ2 H2 where
  fr := b.fr
  keep := fun x o h n => b.keep x o (a.keep x o h n) fun z => (a.mnew x z).elim n fun q => by rw [h] at q; cases q
  new := fun x h => (b.new x h).elim (a.new x) fun q => .inr (a.dom x q)
  mnew := fun x h => (b.mnew x h).elim (a.mnew x) fun q => .inr (a.dom x q)
  dom := fun x h => a.dom x (b.dom x h)
  len := b.len.trans a.len
  io := fun i c h => by
    obtain ⟨⟨c', h'⟩, e⟩ := a.io i c h
    obtain ⟨q, e'⟩ := b.io i c' h'
    exact ⟨q, e'.trans e⟩
  lk := fun i c h => by
    obtain ⟨h', e⟩ := a.lk i c h
    obtain ⟨q, e'⟩ := b.lk i c h'
    exact ⟨q, e'.trans e⟩
/-- data stay -/
theorem Step.rp (a : Step K O st σ H st1 σ1 H1) {d : Da} {v : V} (h : Rp K (Av O st σ) H d v) : Rp K (Av O st1 σ1) H1 d v :=
  Rp.mono (fun x hx => hx.elim (fun q => .inl (.inl q)) fun q => (a.new x q).elim (fun q => .inl (.inr q)) .inr) (fun x o e n => a.keep x o e fun z => n (.inr z.own)) _ _ h
theorem Step.rpl (a : Step K O st σ H st1 σ1 H1) {d : List Da} {v : List V} (h : RpL K (Av O st σ) H d v) : RpL K (Av O st1 σ1) H1 d v :=
  RpL.mono (fun x hx => hx.elim (fun q => .inl (.inl q)) fun q => (a.new x q).elim (fun q => .inl (.inr q)) .inr) (fun x o e n => a.keep x o e fun z => n (.inr z.own)) _ _ h
/-- new objects alone -/
theorem FR.ext (F : FR K O st σ H) (k : Same H H1) : FR K O st σ H1 := by
  refine ⟨F.len, fun i sv h => ?_, F.inj, F.avoid, fun p h z => F.odom p h (k.free z)⟩
  obtain ⟨v, e, r⟩ := F.slot i sv h
  refine ⟨v, e, ?_⟩
  have hp : ∀ p c, Cont K (Av O st σ) H p c → Cont K (Av O st σ) H1 p c := fun p c q => by
    refine q.mono (fun _ h => .inl h) (fun a o e _ => k a o e) ?_
    cases e : H p with
    | none => exact absurd e q.there
    | some o => exact k _ _ e
  cases sv with
  | un => trivial
  | d x => obtain ⟨w, e, r⟩ := r; exact ⟨w, e, Rp.mono (fun _ h => .inl h) (fun a o e _ => k a o e) _ _ r⟩
  | own c => obtain ⟨p, e, r⟩ := r; exact ⟨p, e, hp p c r⟩
  | io c => obtain ⟨p, e, r⟩ := r; exact ⟨p, e, hp p c r⟩
  | lk c => obtain ⟨p, e, r⟩ := r; exact ⟨p, e, hp p c r⟩
  | rd xs =>
    obtain ⟨a, vs, e, r, q⟩ := r
    exact ⟨a, vs, e, r.mono (fun _ h => .inl h) (fun a o e _ => k a o e), RpL.mono (fun _ h => .inl h) (fun a o e _ => k a o e) _ _ q⟩
theorem Step.ext (F : FR K O st σ H) (k : Same H H1) : Step K O st σ H st σ H1 :=
  ⟨F.ext k, fun a o h _ => k a o h, fun _ h => .inl h, fun _ h => .inl h, fun a h => k.free h, rfl, fun _ c h => ⟨⟨c, h⟩, rfl⟩, fun _ _ h => ⟨h, rfl⟩⟩
/-- a new address is kept away from -/
theorem FR.away (F : FR K O st σ H) {p : Addr} (hp : H p = none) (k : Same H H1) (hp1 : H1 p ≠ none) : FR K (O.with p) st σ H1 := by
  have F1 := F.ext k
  have no : ¬ Own st σ p := fun z => F.ownSome z hp
  have mo : ∀ a, Av (O.with p) st σ a → Av O st σ a ∨ H a = none := fun a h => by
    rcases h with (h | h) | h
    · exact .inl (.inl h)
    · exact .inr (by rw [h]; exact hp)
    · exact .inl (.inr h)
  refine ⟨F.len, fun i sv h => ?_, F.inj, fun q h z => z.elim (F.avoid q h) fun e => no (e ▸ h), fun q h z => h.elim (fun h => F.odom q h (k.free z)) fun e => hp1 (e ▸ z)⟩
  obtain ⟨v, e, r⟩ := F.slot i sv h
  refine ⟨v, e, ?_⟩
  have hpc : ∀ q c, Cont K (Av O st σ) H q c → Cont K (Av (O.with p) st σ) H1 q c := fun q c r => by
    refine r.mono mo (fun a o e _ => k a o e) ?_
    cases e : H q with
    | none => exact absurd e r.there
    | some o => exact k _ _ e
  cases sv with
  | un => trivial
  | d x => obtain ⟨w, e, r⟩ := r; exact ⟨w, e, Rp.mono mo (fun a o e _ => k a o e) _ _ r⟩
  | own c => obtain ⟨p, e, r⟩ := r; exact ⟨p, e, hpc p c r⟩
  | io c => obtain ⟨p, e, r⟩ := r; exact ⟨p, e, hpc p c r⟩
  | lk c => obtain ⟨p, e, r⟩ := r; exact ⟨p, e, hpc p c r⟩
  | rd xs =>
    obtain ⟨a, vs, e, r, q⟩ := r
    exact ⟨a, vs, e, r.mono mo (fun a o e _ => k a o e), RpL.mono mo (fun a o e _ => k a o e) _ _ q⟩
end
/-! ### results -/
inductive Err where
  | exc (C : Str) (fs : List (Str × Da)) (st : VS)
  | stuck
abbrev Res := Except Err
/-- what an expression gives: a datum; a new list or dict; the one that the slot i holds -/
inductive EV where
  | d (x : Da)
  | own (c : OC)
  | loan (i : Nat)
abbrev VM (α : Type) := VS → Res (α × VS)
/-- H0: the heap ahead -/
def ER (K : PySem.W.Frag) (O : AS) (H0 : Hp) (st : VS) (σ : L2.St) (H : Hp) (v : V) : EV → Prop
  | .d x => Rp K (Av O st σ) H x v
  | .own c => ∃ p, v = .ref p ∧ H0 p = none ∧ ¬ O p ∧ FR K (O.with p) st σ H ∧ Cont K (Av (O.with p) st σ) H p c
  | .loan i => σ[i]? = some (some v)
/-- what is wanted of an exception that leaves: the class by its name, its fields in its own dict -/
def XW (K : PySem.W.Frag) (mg : Str → Option Value) (W : WX) (O : AS) (st : VS) (σ : L2.St) (H : Hp) (C : Str) (fs : List (Str × Da)) (st' : VS) : Prop :=
  ∀ (Ca d : Addr) (σ' : L2.St) (H' : Hp) (ws : List (Str × V)), mg C = some (.ref Ca) → Step K O st σ H st' σ' H' → H' d = some (.xd ws) →
    RpL K (Av O st' σ') H' (fs.map (·.2)) (ws.map (·.2)) → fs.map (·.1) = ws.map (·.1) → W (.ref Ca) (some d) σ' H'
/-- what a run comes to -/
def VRun {α : Type} (K : PySem.W.Frag) (mg : Str → Option Value) (W : WX) (O : AS) (st : VS) (σ : L2.St) (H : Hp) (r : Res (α × VS)) (k : α → VS → Prop) : Prop :=
  match r with
  | .ok (a, st') => k a st'
  | .error (.exc C fs st') => XW K mg W O st σ H C fs st'
  | .error .stuck => False
theorem VRun.step {α : Type} {K : PySem.W.Frag} {mg : Str → Option Value} {W : WX} {O : AS} {st st1 : VS} {σ σ1 : L2.St} {H H1 : Hp} {r : Res (α × VS)} {k : α → VS → Prop} (S : Step K O st σ H st1 σ1 H1) (h : VRun K mg W O st σ H r k) : VRun K mg W O st1 σ1 H1 r k := by
  match r, h with
  | .ok (a, st'), h => exact h
  | .error (.exc C fs st'), h => exact fun Ca d σ' H' ws e S' => h Ca d σ' H' ws e (S.trans S')
  | .error .stuck, h => exact h.elim
/-- the reading of an expression -/
def tV (K : PySem.W.Frag) (mg : Str → Option Value) (W : WX) (f : VM EV) : TE := fun σ H Q =>
  ∃ O st, FR K O st σ H ∧ VRun K mg W O st σ H (f st) fun r st' => ∀ v H', Step K O st σ H st' σ H' → ER K O H st' σ H' v r → Q v H'
/-- of a test -/
def tVT (K : PySem.W.Frag) (mg : Str → Option Value) (W : WX) (f : VM Bool) : TT := fun σ H Q =>
  ∃ O st, FR K O st σ H ∧ VRun K mg W O st σ H (f st) fun b st' => ∀ H', Step K O st σ H st' σ H' → Q b H'
end VL
set_option Elab.async false
set_option linter.all false
set_option maxRecDepth 100000
namespace VL
open PySem PySem.Spec PyProof.Rows L2
/-! ### running one behind the other -/
def vb {α β : Type} (f : VM α) (g : α → VM β) : VM β := fun s =>
  match f s with
  | .ok (a, s1) => g a s1
  | .error e => .error e
def vr {α : Type} (a : α) : VM α := fun s => .ok (a, s)
def vStuck {α : Type} : VM α := fun _ => .error .stuck
def vOpt {α : Type} : Option α → VM α
  | some a => vr a
  | none => vStuck
/-- .. read as a datum or as what a slot owns -/
def Ro (K : PySem.W.Frag) (O : AS) (H : Hp) (x : Da) (v : V) : Prop := Rp K O H x v ∨ ∃ p c, v = .ref p ∧ x = OC.data c ∧ Cont K O H p c
def RoL (K : PySem.W.Frag) (O : AS) (H : Hp) : List Da → List V → Prop
  | [], vs => vs = []
  | d :: ds, vs => ∃ w ws, vs = w :: ws ∧ Ro K O H d w ∧ RoL K O H ds ws
/-- a new result -/
def NR (K : PySem.W.Frag) (O : AS) (H H' : Hp) (u : V) : EV → Prop
  | .d x => Rp K O H' x u
  | .own c => ∃ p, u = .ref p ∧ H p = none ∧ Cont K (O.with p) H' p c
  | .loan _ => False
def settle : EV → EV
  | .own c => .d c.data
  | r => r
def vRd (r : EV) : VM Da := fun s =>
  match r with
  | .d x => .ok (x, s)
  | .own c => .ok (c.data, s)
  | .loan i =>
    match s[i]? with
    | some (.own c) => .ok (c.data, s)
    | some (.io c) => .ok (c.data, s)
    | some (.lk c) => .ok (c.data, s)
    | _ => .error .stuck
section
variable {K : PySem.W.Frag} {mg : Str → Option Value} {W : WX} {O : AS} {st st1 st2 : VS} {σ σ1 σ2 : L2.St} {H H0 H1 H2 : Hp} {v : V} {r : EV}
theorem Cont.sub {O' : AS} {p : Addr} {c : OC} (hO : ∀ a, O' a → O a) (h : Cont K O H p c) : Cont K O' H p c := h.mono (fun a z => .inl (hO a z)) (fun _ _ e _ => e) rfl
theorem Rp.sub {O' : AS} {d : Da} (hO : ∀ a, O' a → O a) (h : Rp K O H d v) : Rp K O' H d v := Rp.mono (fun a z => .inl (hO a z)) (fun _ _ e _ => e) _ _ h
theorem RpL.sub {O' : AS} {ds : List Da} {vs : List V} (hO : ∀ a, O' a → O a) (h : RpL K O H ds vs) : RpL K O' H ds vs := RpL.mono (fun a z => .inl (hO a z)) (fun _ _ e _ => e) _ _ h
theorem Cont.rp {p : Addr} {c : OC} (h : Cont K O H p c) (n : ¬ O p) : Rp K O H c.data (.ref p) := by
  cases c with
  | l xs => obtain ⟨vs, e, r⟩ := h; simp only [OC.data, Rp]; exact ⟨p, vs, rfl, e, n, r⟩
  | m kvs => obtain ⟨vs, e, r⟩ := h; simp only [OC.data, Rp]; exact ⟨p, vs, rfl, e, n, r⟩
theorem Av.with_sub {p : Addr} : ∀ a, Av O st σ a → Av (O.with p) st σ a := fun a h => h.elim (fun h => .inl (.inl h)) .inr
theorem ER.settle (h : ER K O H0 st σ H v r) : ER K O H1 st σ H v (settle r) := by
  cases r with
  | d x => exact h
  | loan i => exact h
  | own c =>
    obtain ⟨p, rfl, _, n, F, C⟩ := h
    exact (C.sub Av.with_sub).rp fun z => z.elim n fun z => F.avoid p z (.inr rfl)
/-- a settled result at a later state -/
theorem ER.later (h : ER K O H0 st σ H v (VL.settle r)) (S : Step K O st σ H st1 σ H1) : ER K O H2 st1 σ H1 v (VL.settle r) := by
  cases r with
  | d x => exact S.rp h
  | loan i => exact h
  | own c => exact S.rp (d := c.data) h
theorem ER.back (h : ER K O H1 st σ H v r) (d : ∀ a, H1 a = none → H0 a = none) : ER K O H0 st σ H v r := by
  cases r with
  | d x => exact h
  | loan i => exact h
  | own c =>
    obtain ⟨p, e, n, r⟩ := h
    exact ⟨p, e, d p n, r⟩
theorem vRd_ok {x : Da} (F : FR K O st σ H) (h : ER K O H0 st σ H v r) (e : vRd r st = .ok (x, st1)) : st1 = st ∧ Ro K (Av O st σ) H x v := by
  cases r with
  | d y => cases e; exact ⟨rfl, .inl h⟩
  | own c =>
    cases e
    obtain ⟨p, ev, _, n, F', C⟩ := h
    exact ⟨rfl, .inr ⟨p, c, ev, rfl, C.sub Av.with_sub⟩⟩
  | loan i =>
    have h : σ[i]? = some (some v) := h
    unfold vRd at e
    dsimp only at e
    cases q : st[i]? with
    | none => rw [q] at e; cases e
    | some sv =>
      rw [q] at e
      obtain ⟨w, ew, sl⟩ := F.slot i sv q
      rw [h] at ew; cases ew
      cases sv with
      | un => cases e
      | d x => cases e
      | rd x => cases e
      | own c => cases e; obtain ⟨p, e, C⟩ := sl; cases e; exact ⟨rfl, .inr ⟨p, c, rfl, rfl, C⟩⟩
      | io c => cases e; obtain ⟨p, e, C⟩ := sl; cases e; exact ⟨rfl, .inr ⟨p, c, rfl, rfl, C⟩⟩
      | lk c => cases e; obtain ⟨p, e, C⟩ := sl; cases e; exact ⟨rfl, .inr ⟨p, c, rfl, rfl, C⟩⟩
theorem NR.er {z : EV} (F : FR K O st σ H) (k : Same H H1) (h : NR K (Av O st σ) H H1 v z) : ER K O H st σ H1 v z := by
  cases z with
  | d x => exact h
  | loan i => exact h.elim
  | own c =>
    obtain ⟨p, e, n, C⟩ := h
    refine ⟨p, e, n, fun z => F.odom p z n, F.away n k C.there, C.sub fun a h => ?_⟩
    rcases h with (h | h) | h
    · exact .inl (.inl h)
    · exact .inr h
    · exact .inl (.inr h)
theorem FR.avdom (F : FR K O st σ H) : ∀ a, Av O st σ a → H a ≠ none := fun a h => h.elim (F.odom a) F.ownSome
/-- one expression, then the rest -/
theorem tV.bind {α : Type} {fa : VM EV} {g : EV → VM α} {k : α → VS → Prop} {Q : VK} (F : FR K O st σ H) (h : VRun K mg W O st σ H (vb fa g st) k)
    (cont : ∀ r s1 v H1, Step K O st σ H s1 σ H1 → ER K O H s1 σ H1 v r → VRun K mg W O s1 σ H1 (g r s1) k → Q v H1) : tV K mg W fa σ H Q := by
  refine ⟨O, st, F, ?_⟩
  unfold vb at h
  cases e : fa st with
  | ok p =>
    obtain ⟨r, s1⟩ := p
    rw [e] at h
    exact fun v H1 S E => cont r s1 v H1 S E (h.step S)
  | error er =>
    rw [e] at h
    cases er with
    | exc C fs s1 => exact h
    | stuck => exact h
theorem tVT.bind {α : Type} {fa : VM Bool} {g : Bool → VM α} {k : α → VS → Prop} {Q : Bool → Hp → Prop} (F : FR K O st σ H) (h : VRun K mg W O st σ H (vb fa g st) k)
    (cont : ∀ b s1 H1, Step K O st σ H s1 σ H1 → VRun K mg W O s1 σ H1 (g b s1) k → Q b H1) : tVT K mg W fa σ H Q := by
  refine ⟨O, st, F, ?_⟩
  unfold vb at h
  cases e : fa st with
  | ok p =>
    obtain ⟨r, s1⟩ := p
    rw [e] at h
    exact fun H1 S => cont r s1 H1 S (h.step S)
  | error er =>
    rw [e] at h
    cases er with
    | exc C fs s1 => exact h
    | stuck => exact h
/-- a pure step -/
theorem VRun.rd {α : Type} {g : Da → VM α} {k : α → VS → Prop} (F : FR K O st σ H) (E : ER K O H0 st σ H v r) (h : VRun K mg W O st σ H (vb (vRd r) g st) k) :
    ∃ x, Ro K (Av O st σ) H x v ∧ VRun K mg W O st σ H (g x st) k := by
  unfold vb at h
  cases e : vRd r st with
  | ok p =>
    obtain ⟨x, s1⟩ := p
    rw [e] at h
    obtain ⟨rfl, R⟩ := vRd_ok F E e
    exact ⟨x, R, h⟩
  | error er =>
    rw [e] at h
    have : er = .stuck := by
      cases r with
      | d x => cases e
      | own c => cases e
      | loan i =>
        unfold vRd at e
        dsimp only at e
        split at e <;> cases e
        rfl
    subst this
    exact h.elim
theorem VRun.opt {α β : Type} {o : Option α} {g : α → VM β} {k : β → VS → Prop} (h : VRun K mg W O st σ H (vb (vOpt o) g st) k) : ∃ a, o = some a ∧ VRun K mg W O st σ H (g a st) k := by
  cases o with
  | none => exact h.elim
  | some a => exact ⟨a, rfl, h⟩
theorem VRun.opt1 {α : Type} {o : Option α} {k : α → VS → Prop} (h : VRun K mg W O st σ H (vOpt o st) k) : ∃ a, o = some a ∧ k a st := by
  cases o with
  | none => exact h.elim
  | some a => exact ⟨a, rfl, h⟩
end
theorem PE.wk {X : Cx} {e : Expr} {t t' : TE} (h : PE X e t) (w : ∀ σ H Q, t' σ H Q → t σ H Q) : PE X e t' := ⟨fun pins s σ H Q I q => h.run pins s σ H Q I (w σ H Q q)⟩
theorem PT.wk {X : Cx} {e : Expr} {t t' : TT} (h : PT X e t) (w : ∀ σ H Q, t' σ H Q → t σ H Q) : PT X e t' := ⟨fun pins s σ H Q I q => h.run pins s σ H Q I (w σ H Q q)⟩
theorem PW.wk {X : Cx} {e : Expr} {t t' : TT} (h : PW X e t) (w : ∀ σ H Q, t' σ H Q → t σ H Q) : PW X e t' := ⟨fun wh pins s σ H Q I q => h.run wh pins s σ H Q I (w σ H Q q)⟩
theorem PA.wk {X : Cx} {es : List Expr} {t t' : TA} (h : PA X es t) (w : ∀ σ H Q, t' σ H Q → t σ H Q) : PA X es t' := ⟨fun pos pins s σ H Q I q => h.run pos pins s σ H Q I (w σ H Q q)⟩
/-! ### judgements -/
abbrev VE (X : Cx) (W : WX) (e : Expr) (f : VM EV) : Prop := PE X e (tV X.K X.mg W f)
abbrev VT (X : Cx) (W : WX) (e : Expr) (f : VM Bool) : Prop := PT X e (tVT X.K X.mg W f)
abbrev VW (X : Cx) (W : WX) (e : Expr) (f : VM Bool) : Prop := PW X e (tVT X.K X.mg W f)
section
variable {X : Cx} {W : WX} {a b c : Expr} {pos : Pos} {fa fb fc : VM EV} {ga gb : VM Bool}
/-! names and constants -/
def vVar (i : Nat) : VM EV := fun s =>
  match s[i]? with
  | some (.d x) => .ok (.d x, s)
  | some (.own _) => .ok (.loan i, s)
  | some (.io _) => .ok (.loan i, s)
  | some (.lk _) => .ok (.loan i, s)
  | some (.rd _) => .ok (.loan i, s)
  | _ => .error .stuck
def vC (x : Da) : VM EV := vr (.d x)
theorem ve_wkVar {e : Expr} {i : Nat} (h : PE X e (tVar i)) : VE X W e (vVar i) := by
  refine PE.wk h fun σ H Q h => ?_
  obtain ⟨O, st, F, h⟩ := h
  unfold vVar at h
  cases q : st[i]? with
  | none => rw [q] at h; exact h.elim
  | some sv =>
    rw [q] at h
    obtain ⟨w, ew, sl⟩ := F.slot i sv q
    cases sv with
    | un => exact h.elim
    | d x => obtain ⟨u, rfl, r⟩ := sl; exact ⟨u, ew, h u H (Step.refl F) r⟩
    | own c => obtain ⟨p, rfl, r⟩ := sl; exact ⟨_, ew, h _ H (Step.refl F) ew⟩
    | io c => obtain ⟨p, rfl, r⟩ := sl; exact ⟨_, ew, h _ H (Step.refl F) ew⟩
    | lk c => obtain ⟨p, rfl, r⟩ := sl; exact ⟨_, ew, h _ H (Step.refl F) ew⟩
    | rd xs => obtain ⟨a, vs, rfl, r⟩ := sl; exact ⟨_, ew, h _ H (Step.refl F) ew⟩
theorem vv (i : Nat) {x : Str} {pos : Pos} (hN : X.N[i]? = some x := by rfl) (hv : Vis X.env.scope x := by first | exact Or.inl rfl | exact Or.inr (Or.inl rfl) | exact Or.inr (Or.inr rfl)) (hd : (x == ("__debug__" : Str)) = false := by decide)
    (hcd : (x == ("__classdict__" : Str)) = false := by decide) : VE X W (.Name x pos) (vVar i) := ve_wkVar (pe_var hN hv hd hcd)
theorem ve_c {e : Expr} {v : V} {x : Da} (h : PE X e (tC v)) (r : ∀ O H, Rp X.K O H x v) : VE X W e (vC x) := by
  refine PE.wk h fun σ H Q h => ?_
  obtain ⟨O, st, F, h⟩ := h
  exact h v H (Step.refl F) (r _ _)
theorem ve_int {i j pos} : VE X W (.Constant (.int i) j pos) (vC (.int i)) := ve_c pe_int fun _ _ => by simp only [Rp]
theorem ve_bl {b j pos} : VE X W (.Constant (.bool b) j pos) (vC (.bool b)) := ve_c pe_bl fun _ _ => by simp only [Rp]
theorem ve_non {j pos} : VE X W (.Constant .none j pos) (vC .none) := ve_c pe_non fun _ _ => by simp only [Rp]
theorem ve_str {x j pos} : VE X W (.Constant (.str x) j pos) (vC (.str x)) := ve_c pe_str fun _ _ => by simp only [Rp]
/-! operators -/
/-- f gives what g says of the data -/
def Op2 (X : Cx) (f : Value → Value → Sem Value) (g : Da → Da → Option EV) : Prop :=
  ∃ r, OpR X f r ∧ ∀ O H x y v w z (Q : VK), (∀ a, O a → H a ≠ none) → Ro X.K O H x v → Ro X.K O H y w → g x y = some z → (∀ u H', Same H H' → NR X.K O H H' u z → Q u H') → r v w H Q
def vBin (g : Da → Da → Option EV) (fa fb : VM EV) : VM EV := vb fa fun ra => vb fb fun rb => vb (vRd (settle ra)) fun x => vb (vRd rb) fun y => vOpt (g x y)
theorem bin_wk {r : R2} {g : Da → Da → Option EV} {σ : L2.St} {H : Hp} {Q : VK} (hg : ∀ O H x y v w z (Q : VK), (∀ a, O a → H a ≠ none) → Ro X.K O H x v → Ro X.K O H y w → g x y = some z → (∀ u H', Same H H' → NR X.K O H H' u z → Q u H') → r v w H Q)
    (h : tV X.K X.mg W (vBin g fa fb) σ H Q) : tOp r (tV X.K X.mg W fa) (tV X.K X.mg W fb) σ H Q := by
  obtain ⟨O, st, F, h⟩ := h
  refine tV.bind F h fun ra s1 v H1 S1 E1 h => ?_
  refine tV.bind S1.fr h fun rb s2 w H2 S2 E2 h => ?_
  obtain ⟨x, Rx, h⟩ := h.rd S2.fr ((E1.settle (H1 := H)).later S2 (H2 := H))
  obtain ⟨y, Ry, h⟩ := h.rd S2.fr E2
  obtain ⟨z, ez, h⟩ := h.opt1
  refine hg (Av O s2 σ) H2 x y v w z Q S2.fr.avdom Rx Ry ez fun u H' k n => ?_
  have S := S1.trans S2
  exact h u H' (S.trans (Step.ext S.fr k)) ((NR.er S.fr k n).back S.dom)
theorem ve_bin {op : Operator} {g : Da → Da → Option EV} (ho : Op2 X (binaryOp op) g) (ha : VE X W a fa) (hb : VE X W b fb) : VE X W (.BinOp a op b pos) (vBin g fa fb) := by
  obtain ⟨r, hr, hg⟩ := ho
  exact PE.wk (pe_op hr ha hb) fun σ H Q h => bin_wk hg h
theorem ve_cmp {op : CmpOp} {g : Da → Da → Option EV} (ho : Op2 X (compareOp op) g) (ha : VE X W a fa) (hb : VE X W b fb) (hm : behindInMarks op b = false := by first | exact nomark _ | rfl | with_unfolding_all rfl) : VE X W (.Compare a [op] [b] pos) (vBin g fa fb) := by
  obtain ⟨r, hr, hg⟩ := ho
  exact PE.wk (pe_cmpR hr ha hb hm) fun σ H Q h => bin_wk hg h
/-- a bool that an expression gives -/
def evB : EV → Option Bool
  | .d (.bool b) => some b
  | _ => none
def vBool (f : VM EV) : VM Bool := vb f fun r => vOpt (evB r)
theorem bool_wk {fe : VM EV} {σ : L2.St} {H : Hp} {Q : Bool → Hp → Prop} (h : tVT X.K X.mg W (vBool fe) σ H Q) : tV X.K X.mg W fe σ H (fun x H' => ∃ k, x = .bl k ∧ Q k H') := by
  obtain ⟨O, st, F, h⟩ := h
  refine tV.bind F h fun r s1 v H1 S1 E1 h => ?_
  obtain ⟨k, e, h⟩ := h.opt1
  cases r with
  | d x =>
    cases x with
    | bool b' =>
      cases e
      have E1 : Rp X.K (Av O s1 σ) H1 (.bool k) v := E1
      simp only [Rp] at E1
      exact ⟨k, E1, h H1 S1⟩
    | _ => cases e
  | _ => cases e
theorem vt_cmp {op : CmpOp} {g : Da → Da → Option EV} (ho : Op2 X (compareOp op) g) (ha : VE X W a fa) (hb : VE X W b fb) (hm : behindInMarks op b = false := by first | exact nomark _ | rfl | with_unfolding_all rfl) : VT X W (.Compare a [op] [b] pos) (vBool (vBin g fa fb)) := by
  obtain ⟨r, hr, hg⟩ := ho
  exact PT.wk (pt_cmpR hr ha hb hm) fun σ H Q h => bin_wk hg (bool_wk h)
def Op1 (X : Cx) (f : Value → Sem Value) (g : Da → Option EV) : Prop :=
  ∃ r, UnR X f r ∧ ∀ O H x v z (Q : VK), (∀ a, O a → H a ≠ none) → Ro X.K O H x v → g x = some z → (∀ u H', Same H H' → NR X.K O H H' u z → Q u H') → r v H Q
def vUn (g : Da → Option EV) (fa : VM EV) : VM EV := vb fa fun ra => vb (vRd ra) fun x => vOpt (g x)
theorem ve_un {op : UnaryOp} {g : Da → Option EV} (ho : Op1 X (unaryOp op) g) (ha : VE X W a fa) : VE X W (.UnaryOp op a pos) (vUn g fa) := by
  obtain ⟨r, hr, hg⟩ := ho
  refine PE.wk (pe_un hr ha) fun σ H Q h => ?_
  obtain ⟨O, st, F, h⟩ := h
  refine tV.bind F h fun ra s1 v H1 S1 E1 h => ?_
  obtain ⟨x, Rx, h⟩ := h.rd S1.fr E1
  obtain ⟨z, ez, h⟩ := h.opt1
  refine hg (Av O s1 σ) H1 x v z Q S1.fr.avdom Rx ez fun u H' k n => ?_
  exact h u H' (S1.trans (Step.ext S1.fr k)) ((NR.er S1.fr k n).back S1.dom)
/-- a op1 b op2 c -/
def vChain (g g' : Da → Da → Option EV) (fa fb fc : VM EV) : VM EV := vb fa fun ra => vb fb fun rb => vb (vRd (settle ra)) fun x => vb (vRd (settle rb)) fun y => vb (vOpt ((g x y).bind evB)) fun k =>
  if k = true then vb fc fun rc => vb (vRd (settle rb)) fun y => vb (vRd rc) fun z => vOpt (g' y z) else vC (.bool false)
theorem chain_wk {r r' : R2} {g g' : Da → Da → Option EV} {σ : L2.St} {H : Hp} {Q : VK}
    (hg : ∀ O H x y v w z (Q : VK), (∀ a, O a → H a ≠ none) → Ro X.K O H x v → Ro X.K O H y w → g x y = some z → (∀ u H', Same H H' → NR X.K O H H' u z → Q u H') → r v w H Q)
    (hg' : ∀ O H x y v w z (Q : VK), (∀ a, O a → H a ≠ none) → Ro X.K O H x v → Ro X.K O H y w → g' x y = some z → (∀ u H', Same H H' → NR X.K O H H' u z → Q u H') → r' v w H Q)
    (h : tV X.K X.mg W (vChain g g' fa fb fc) σ H Q) : tChain r r' (tV X.K X.mg W fa) (tV X.K X.mg W fb) (tV X.K X.mg W fc) σ H Q := by
  obtain ⟨O, st, F, h⟩ := h
  refine tV.bind F h fun ra s1 v H1 S1 E1 h => ?_
  refine tV.bind S1.fr h fun rb s2 w H2 S2 E2 h => ?_
  obtain ⟨x, Rx, h⟩ := h.rd S2.fr ((E1.settle (H1 := H)).later S2 (H2 := H))
  obtain ⟨y, Ry, h⟩ := h.rd S2.fr (E2.settle (H1 := H))
  obtain ⟨k, ek, h⟩ := h.opt
  obtain ⟨z, ez, ek⟩ := Option.bind_eq_some_iff.mp ek
  have S := S1.trans S2
  refine hg (Av O s2 σ) H2 x y v w z _ S2.fr.avdom Rx Ry ez fun u H' kp n => ?_
  have S3 := Step.ext S.fr kp
  have S' := S.trans S3
  cases z with
  | d q =>
    cases q with
    | bool b' =>
      cases ek
      have n : Rp X.K (Av O s2 σ) H' (.bool k) u := n
      simp only [Rp] at n
      refine ⟨k, n, ?_⟩
      cases k with
      | false =>
        rw [if_neg Bool.false_ne_true] at h
        exact iteF (h _ H' S' (by show Rp _ _ _ _ _; simp only [Rp]))
      | true =>
        rw [if_pos rfl] at h
        refine iteT (tV.bind S3.fr (h.step S3) fun rc s3 w' H3 S4 E3 h => ?_)
        obtain ⟨y, Ry, h⟩ := h.rd S4.fr (((E2.settle (H1 := H)).later S3 (H2 := H)).later S4 (H2 := H))
        obtain ⟨z, Rz, h⟩ := h.rd S4.fr E3
        obtain ⟨t, et, h⟩ := h.opt1
        refine hg' (Av O s3 σ) H3 y z w w' t Q S4.fr.avdom Ry Rz et fun u2 H4 k4 n4 => ?_
        have T := S'.trans S4
        exact h u2 H4 (T.trans (Step.ext T.fr k4)) ((NR.er T.fr k4 n4).back T.dom)
    | _ => cases ek
  | _ => cases ek
theorem ve_chain {op op' : CmpOp} {g g' : Da → Da → Option EV} (ho : Op2 X (compareOp op) g) (ho' : Op2 X (compareOp op') g') (ha : VE X W a fa) (hb : VE X W b fb) (hc : VE X W c fc)
    (hm : lastMarks [op, op'] [b, c] = false := by with_unfolding_all rfl) : VE X W (.Compare a [op, op'] [b, c] pos) (vChain g g' fa fb fc) := by
  obtain ⟨r, hr, hg⟩ := ho
  obtain ⟨r', hr', hg'⟩ := ho'
  exact PE.wk (pe_chain hr hr' ha hb hc hm) fun σ H Q h => chain_wk hg hg' h
theorem vt_chain {op op' : CmpOp} {g g' : Da → Da → Option EV} (ho : Op2 X (compareOp op) g) (ho' : Op2 X (compareOp op') g') (ha : VE X W a fa) (hb : VE X W b fb) (hc : VE X W c fc)
    (hm : lastMarks [op, op'] [b, c] = false := by with_unfolding_all rfl) : VT X W (.Compare a [op, op'] [b, c] pos) (vBool (vChain g g' fa fb fc)) := by
  obtain ⟨r, hr, hg⟩ := ho
  obtain ⟨r', hr', hg'⟩ := ho'
  exact PT.wk (pt_chain hr hr' ha hb hc hm) fun σ H Q h => chain_wk hg hg' (bool_wk h)
/-! tests -/
/-- the truth of a datum -/
def truD : Da → Option Bool
  | .none => some false
  | .bool b => some b
  | .int i => some (i != 0)
  | .str y => if y.length ≤ 16777216 then some ((y.length : Int) != 0) else none
  | .list xs => some (!xs.isEmpty)
  | .tuple xs => some (!xs.isEmpty)
  | .dict kvs => some (!kvs.isEmpty)
def vTru (f : VM EV) : VM Bool := vb f fun r => vb (vRd r) fun x => vOpt (truD x)
theorem RpD.isEmpty {K : PySem.W.Frag} {O : AS} {H : Hp} : ∀ {ds : List (Da × Da)} {ks : List (Key × V)}, RpD K O H ds ks → ds.isEmpty = ks.isEmpty
  | [], ks, h => by simp only [RpD] at h; subst h; rfl
  | (k, d) :: r, ks, h => by simp only [RpD] at h; obtain ⟨_, _, _, rfl, _⟩ := h; rfl
theorem RpL.isEmpty {K : PySem.W.Frag} {O : AS} {H : Hp} : ∀ {ds : List Da} {ks : List V}, RpL K O H ds ks → ds.isEmpty = ks.isEmpty
  | [], ks, h => by simp only [RpL] at h; subst h; rfl
  | d :: r, ks, h => by simp only [RpL] at h; obtain ⟨_, _, rfl, _⟩ := h; rfl
theorem truV_of {K : PySem.W.Frag} {O : AS} {H : Hp} {x : Da} {v : V} {k : Bool} (R : Ro K O H x v) (e : truD x = some k) : TruV K v H k := by
  rcases R with R | ⟨p, c, rfl, rfl, C⟩
  · cases x with
    | none => simp only [Rp] at R; subst R; cases e; exact rfl
    | bool b => simp only [Rp] at R; subst R; cases e; exact rfl
    | int i => simp only [Rp] at R; subst R; cases e; exact rfl
    | str s =>
      simp only [Rp] at R; subst R
      unfold truD at e
      dsimp only at e
      split at e
      · rename_i hl; cases e; exact ⟨by rw [sizeLine_eq]; exact hl, rfl⟩
      · cases e
    | list xs => simp only [Rp] at R; obtain ⟨a, vs, rfl, r, n, q⟩ := R; cases e; exact .inl ⟨vs, .of r, by rw [q.isEmpty]⟩
    | tuple xs =>
      simp only [Rp] at R; obtain ⟨a, vs, rfl, r, q⟩ := R; cases e
      exact .inr (.inl ⟨vs, r.elim (fun r => .of r.1) .inr, by rw [q.isEmpty]⟩)
    | dict xs => simp only [Rp] at R; obtain ⟨a, vs, rfl, r, n, q⟩ := R; cases e; exact .inr (.inr ⟨vs, r, by rw [q.isEmpty]⟩)
  · cases c with
    | l xs => obtain ⟨vs, r, q⟩ := C; cases e; exact .inl ⟨vs, .of r, by rw [q.isEmpty]⟩
    | m xs => obtain ⟨vs, r, q⟩ := C; cases e; exact .inr (.inr ⟨vs, r, by rw [q.isEmpty]⟩)
theorem vt_tru {e : Expr} {fe : VM EV} (h : VE X W e fe) (he : ∀ whole, isTrue e X.env whole = (do let v ← whole; standAt e.pos; holding [v] (truthy v)) := by intro _; rfl) : VT X W e (vTru fe) := by
  refine PT.wk (pt_truth h he) fun σ H Q h => ?_
  obtain ⟨O, st, F, h⟩ := h
  refine tV.bind F h fun r s1 v H1 S1 E1 h => ?_
  obtain ⟨x, Rx, h⟩ := h.rd S1.fr E1
  obtain ⟨k, ek, h⟩ := h.opt1
  exact ⟨k, truV_of Rx ek, h H1 S1⟩
def vAnd (ga gb : VM Bool) : VM Bool := vb ga fun c => if c = true then gb else vr false
def vOr (ga gb : VM Bool) : VM Bool := vb ga fun c => if c = true then vr true else gb
def vNot (ga : VM Bool) : VM Bool := vb ga fun c => vr (!c)
theorem vt_not (ha : VT X W a ga) : VT X W (.UnaryOp .Not a pos) (vNot ga) := by
  refine PT.wk (pt_not ha) fun σ H Q h => ?_
  obtain ⟨O, st, F, h⟩ := h
  exact tVT.bind F h fun b s1 H1 S1 h => h H1 S1
theorem vw_and1 (ha : VT X W a ga) : VW X W (.BoolOp .And [a] pos) ga := pw_and1 ha
theorem vw_or1 (ha : VT X W a ga) : VW X W (.BoolOp .Or [a] pos) ga := pw_or1 ha
theorem vw_and {rest : List Expr} (ha : VT X W a ga) (hb : VW X W (.BoolOp .And (b :: rest) pos) gb) : VW X W (.BoolOp .And (a :: b :: rest) pos) (vAnd ga gb) := by
  refine PW.wk (pw_and ha hb) fun σ H Q h => ?_
  obtain ⟨O, st, F, h⟩ := h
  refine tVT.bind F h fun b s1 H1 S1 h => ?_
  cases b with
  | true => exact iteT ⟨O, s1, S1.fr, by
      rw [if_pos rfl] at h
      revert h
      cases gb s1 with
      | ok p => exact fun h H' S' => h H' (S1.trans S')
      | error er => cases er <;> exact fun h => h⟩
  | false => exact iteF (h H1 S1)
theorem vw_or {rest : List Expr} (ha : VT X W a ga) (hb : VW X W (.BoolOp .Or (b :: rest) pos) gb) : VW X W (.BoolOp .Or (a :: b :: rest) pos) (vOr ga gb) := by
  refine PW.wk (pw_or ha hb) fun σ H Q h => ?_
  obtain ⟨O, st, F, h⟩ := h
  refine tVT.bind F h fun b s1 H1 S1 h => ?_
  cases b with
  | false => exact iteF ⟨O, s1, S1.fr, by
      rw [if_neg Bool.false_ne_true] at h
      revert h
      cases gb s1 with
      | ok p => exact fun h H' S' => h H' (S1.trans S')
      | error er => cases er <;> exact fun h => h⟩
  | true => exact iteT (h H1 S1)
theorem vt_w {e : Expr} (h : VW X W e ga) : VT X W e ga := PW.pt h
/-- the same as values, of bools -/
def vOfB (g : VM Bool) : VM EV := vb g fun b => vC (.bool b)
end
end VL
set_option Elab.async false
set_option linter.all false
set_option maxRecDepth 100000
namespace VL
open PySem PySem.Spec PyProof.Rows L2
section
variable {K : PySem.W.Frag} {O : AS} {H : Hp} {v w : V}
theorem Ro.none (h : Ro K O H .none v) : v = .non := by
  rcases h with h | ⟨p, c, _, e, _⟩
  · simpa only [Rp] using h
  · cases c <;> cases e
theorem Ro.bool {b : Bool} (h : Ro K O H (.bool b) v) : v = .bl b := by
  rcases h with h | ⟨p, c, _, e, _⟩
  · simpa only [Rp] using h
  · cases c <;> cases e
theorem Ro.int {i : Int} (h : Ro K O H (.int i) v) : v = .int i := by
  rcases h with h | ⟨p, c, _, e, _⟩
  · simpa only [Rp] using h
  · cases c <;> cases e
theorem Ro.str {s : Str} (h : Ro K O H (.str s) v) : v = .str s := by
  rcases h with h | ⟨p, c, _, e, _⟩
  · simpa only [Rp] using h
  · cases c <;> cases e
theorem Ro.list {xs : List Da} (h : Ro K O H (.list xs) v) : ∃ a vs, v = .ref a ∧ H a = some (.lst vs) ∧ RpL K O H xs vs := by
  rcases h with h | ⟨p, c, e1, e, C⟩
  · simp only [Rp] at h
    obtain ⟨a, vs, e, r, n, q⟩ := h
    exact ⟨a, vs, e, r, q⟩
  · cases c with
    | l ys => cases e; obtain ⟨vs, r, q⟩ := C; exact ⟨p, vs, e1, r, q⟩
    | m _ => cases e
theorem Ro.tup {xs : List Da} (h : Ro K O H (.tuple xs) v) : Rp K O H (.tuple xs) v := by
  rcases h with h | ⟨p, c, _, e, _⟩
  · exact h
  · cases c <;> cases e
theorem Rp.tupT {xs : List Da} (h : Rp K O H (.tuple xs) v) : ∃ a vs, v = .ref a ∧ SqT K H a vs ∧ RpL K O H xs vs := by
  simp only [Rp] at h
  obtain ⟨a, vs, e, r, q⟩ := h
  exact ⟨a, vs, e, r.elim (fun r => .of r.1) .inr, q⟩
theorem Ro.tupT {xs : List Da} (h : Ro K O H (.tuple xs) v) : ∃ a vs, v = .ref a ∧ SqT K H a vs ∧ RpL K O H xs vs := h.tup.tupT
theorem Ro.dict {kvs : List (Da × Da)} (h : Ro K O H (.dict kvs) v) : ∃ a ks, v = .ref a ∧ H a = some (.dK ks) ∧ RpD K O H kvs ks := by
  rcases h with h | ⟨p, c, e1, e, C⟩
  · simp only [Rp] at h
    obtain ⟨a, vs, e, r, n, q⟩ := h
    exact ⟨a, vs, e, r, q⟩
  · cases c with
    | m ys => cases e; obtain ⟨vs, r, q⟩ := C; exact ⟨p, vs, e1, r, q⟩
    | l _ => cases e
/-- a list or a tuple -/
def seqD : Da → Option (List Da)
  | .list xs => some xs
  | .tuple xs => some xs
  | _ => .none
theorem Ro.seq {x : Da} {xs : List Da} (h : Ro K O H x v) (e : seqD x = some xs) : ∃ a vs, v = .ref a ∧ (SqL K H a vs ∨ SqT K H a vs) ∧ RpL K O H xs vs := by
  cases x with
  | list ys => cases e; obtain ⟨a, vs, e, r, q⟩ := h.list; exact ⟨a, vs, e, .inl (.of r), q⟩
  | tuple ys => cases e; obtain ⟨a, vs, e, r, q⟩ := h.tupT; exact ⟨a, vs, e, .inr r, q⟩
  | _ => cases e
theorem Ro.dp {x : Da} (c : x.canLay0 = true) (h : Ro K O H x v) : Dp K H v x := by
  rcases h with h | ⟨p, o, rfl, rfl, C⟩
  · exact h.dp x v c
  · cases o with
    | l xs => obtain ⟨vs, r, q⟩ := C; simp only [OC.data, PyData.canLay0] at c; exact .lst (.of r) (q.dp _ _ c)
    | m xs => simp only [OC.data, PyData.canLay0] at c; cases c
/-- the items' addresses are old -/
theorem Same.upd {p : Addr} {o : HO} (hp : H p = Option.none) : Same H (upd H p o) := fun b u e => by rw [upd_ne (ne_of_none e hp)]; exact e
theorem RpL.new {p : Addr} {o : HO} {xs : List Da} {vs : List V} (h : RpL K O H xs vs) (hp : H p = Option.none) : RpL K (O.with p) (L2.upd H p o) xs vs :=
  RpL.mono (fun a z => z.elim .inl fun z => .inr (by rw [z]; exact hp)) (fun a o e _ => Same.upd hp a o e) _ _ h
theorem RpL.same {H' : Hp} {xs : List Da} {vs : List V} (h : RpL K O H xs vs) (k : Same H H') : RpL K O H' xs vs :=
  RpL.mono (fun a z => .inl z) (fun a o e _ => k a o e) _ _ h
theorem Rp.same {H' : Hp} {x : Da} (h : Rp K O H x v) (k : Same H H') : Rp K O H' x v :=
  Rp.mono (fun a z => .inl z) (fun a o e _ => k a o e) _ _ h
theorem NR.lst {p : Addr} {xs : List Da} {vs : List V} (h : RpL K O H xs vs) (hp : H p = Option.none) : NR K O H (L2.upd H p (.lst vs)) (.ref p) (.own (.l xs)) :=
  ⟨p, rfl, hp, vs, upd_same, h.new hp⟩
theorem NR.tup {p : Addr} {xs : List Da} {vs : List V} (hd : ∀ a, O a → H a ≠ Option.none) (h : RpL K O H xs vs) (hp : H p = Option.none) : NR K O H (L2.upd H p (.tup vs)) (.ref p) (.d (.tuple xs)) := by
  show Rp _ _ _ _ _
  simp only [Rp]
  exact ⟨p, vs, rfl, .inl ⟨upd_same, fun z => hd p z hp⟩, h.same (Same.upd hp)⟩
end
theorem Ro.intsL {K : PySem.W.Frag} {O : AS} {H : Hp} {ns : List Int} {vs : List V} (h : RpL K O H (ns.map PyData.int) vs) : vs = ns.map V.int := h.ints
def ints? : List Da → Option (List Int)
  | [] => some []
  | .int i :: r => (ints? r).map (i :: ·)
  | _ => none
theorem ints?_some : ∀ {xs : List Da} {ns : List Int}, ints? xs = some ns → xs = ns.map PyData.int
  | [], ns, h => by cases h; rfl
  | .int i :: r, ns, h => by
    unfold ints? at h
    obtain ⟨ms, e, rfl⟩ := Option.map_eq_some_iff.mp h
    rw [ints?_some e]; rfl
  | .none :: r, ns, h => by cases h
  | .bool _ :: r, ns, h => by cases h
  | .str _ :: r, ns, h => by cases h
  | .list _ :: r, ns, h => by cases h
  | .tuple _ :: r, ns, h => by cases h
  | .dict _ :: r, ns, h => by cases h
theorem ints?_map : ∀ (ns : List Int), ints? (ns.map PyData.int) = some ns
  | [] => rfl
  | n :: ns => by rw [List.map_cons, ints?, ints?_map ns]; rfl
/-! ### operators by the data -/
def addD : Da → Da → Option EV
  | .int i, .int j => some (.d (.int (i + j)))
  | .str a, .str b => if a.length + b.length ≤ 16777216 then some (.d (.str (a ++ b))) else none
  | .list a, .list b => if a.length + b.length ≤ 16777216 then some (.own (.l (a ++ b))) else none
  | .tuple a, .tuple b => if a.length + b.length ≤ 16777216 then some (.d (.tuple (a ++ b))) else none
  | _, _ => none
def subD : Da → Da → Option EV
  | .int i, .int j => some (.d (.int (i - j)))
  | _, _ => none
def mulD : Da → Da → Option EV
  | .int i, .int j => if i.natAbs.log2 + j.natAbs.log2 < 1000000 then some (.d (.int (i * j))) else none
  | .list xs, .int k => if -(2 ^ 63) ≤ k ∧ k < 2 ^ 63 ∧ xs.length * k.toNat ≤ 16777216 then some (.own (.l (List.replicate k.toNat xs).flatten)) else none
  | .tuple xs, .int k => if xs ≠ [] ∧ 2 ≤ k ∧ k ≤ 1000 ∧ xs.length ≤ 1000 then some (.d (.tuple (List.replicate k.toNat xs).flatten)) else none
  | _, _ => none
def fdivD : Da → Da → Option EV
  | .int i, .int j => if 0 < j ∧ j.natAbs.log2 < 9000 then some (.d (.int (i / j))) else none
  | _, _ => none
def modD : Da → Da → Option EV
  | .int i, .int j => if 0 < j then some (.d (.int (i % j))) else none
  | _, _ => none
def powD : Da → Da → Option EV
  | .int i, .int j => if 0 ≤ j ∧ j ≤ 1000000 ∧ i.natAbs < 2 ^ 64 then some (.d (.int (i ^ j.toNat))) else none
  | _, _ => none
def eqD (x y : Da) : Option EV := if SeqAt.shaped x = true ∧ SeqAt.shaped y = true then some (.d (.bool (PyData.eqv x y))) else none
def neD (x y : Da) : Option EV := if SeqAt.shaped x = true ∧ SeqAt.shaped y = true then some (.d (.bool (!PyData.eqv x y))) else none
def isNoneD : Da → Bool
  | .none => true
  | _ => false
def isD : Da → Da → Option EV
  | x, .none => some (.d (.bool (isNoneD x)))
  | _, _ => none
def isnotD : Da → Da → Option EV
  | x, .none => some (.d (.bool (!isNoneD x)))
  | _, _ => none
def negD : Da → Option EV
  | .int i => some (.d (.int (-i)))
  | _ => none
theorem OpR.or {X : Cx} {f : Value → Value → Sem Value} {r r' : R2} (h : OpR X f r) (h' : OpR X f r') : OpR X f (fun x y H Q => r x y H Q ∨ r' x y H Q) := by
  intro pins s σ H x y v u Q I rx ry q
  rcases q with q | q
  · exact h pins s σ H x y v u Q I rx ry q
  · exact h' pins s σ H x y v u Q I rx ry q
section
variable {X : Cx}
theorem RpL.reps {K : PySem.W.Frag} {O : AS} {H : Hp} {xs : List Da} {vs : List V} (h : RpL K O H xs vs) : ∀ n : Nat, RpL K O H (List.replicate n xs).flatten (List.replicate n vs).flatten
  | 0 => .nil
  | n + 1 => by
    rw [List.replicate_succ, List.replicate_succ, List.flatten_cons, List.flatten_cons]
    exact h.append (RpL.reps h n)
theorem o_add : Op2 X (binaryOp .Add) addD := by
  refine ⟨_, OpR.or op_add (OpR.or op_add_str (OpR.or op_cat op_catA)), fun O H x y v w z Q hd hx hy e q => ?_⟩
  cases x with
  | int i =>
    cases y with
    | int j => cases e; obtain rfl := hx.int; obtain rfl := hy.int; exact .inl ⟨i, j, rfl, rfl, q _ H (Same.refl H) (by show Rp _ _ _ _ _; simp only [Rp])⟩
    | _ => cases e
  | str i =>
    cases y with
    | str j =>
      obtain rfl := hx.str; obtain rfl := hy.str
      unfold addD at e; dsimp only at e
      split at e
      · rename_i hl; cases e
        exact .inr (.inl ⟨i, j, rfl, rfl, by rw [sizeLine_eq]; exact hl, q _ H (Same.refl H) (by show Rp _ _ _ _ _; simp only [Rp])⟩)
      · cases e
    | _ => cases e
  | list a =>
    cases y with
    | list b =>
      unfold addD at e; dsimp only at e
      split at e
      · rename_i hl; cases e
        obtain ⟨l, vs, rfl, h1, r1⟩ := hx.list
        obtain ⟨m, ws, rfl, h2, r2⟩ := hy.list
        exact .inr (.inr (.inl ⟨l, m, vs, ws, rfl, rfl, h1, h2, by rw [← r1.length, ← r2.length, sizeLine_eq]; exact hl, fun p hp => q _ _ (Same.upd hp) (NR.lst (r1.append r2) hp)⟩))
      · cases e
    | _ => cases e
  | tuple a =>
    cases y with
    | tuple b =>
      unfold addD at e; dsimp only at e
      split at e
      · rename_i hl; cases e
        have hx' := hx.tup
        have hy' := hy.tup
        obtain ⟨l, vs, rfl, h1, r1⟩ := hx.tupT
        obtain ⟨m, ws, rfl, h2, r2⟩ := hy.tupT
        refine .inr (.inr (.inr ⟨l, m, vs, ws, rfl, rfl, h1, h2, by rw [← r1.length, ← r2.length, sizeLine_eq]; exact hl, fun ev => ?_, fun _ ew => ?_, fun _ _ p hp => q _ _ (Same.upd hp) (NR.tup hd (r1.append r2) hp)⟩))
        · subst ev
          have ea : a = [] := List.eq_nil_of_length_eq_zero r1.length
          subst ea
          exact q _ H (Same.refl H) hy'
        · subst ew
          have eb : b = [] := List.eq_nil_of_length_eq_zero r2.length
          subst eb
          refine q _ H (Same.refl H) ?_
          rw [List.append_nil]; exact hx'
      · cases e
    | _ => cases e
  | _ => cases e
theorem o_sub : Op2 X (binaryOp .Sub) subD := by
  refine ⟨_, op_sub, fun O H x y v w z Q hd hx hy e q => ?_⟩
  cases x with
  | int i =>
    cases y with
    | int j => cases e; obtain rfl := hx.int; obtain rfl := hy.int; exact ⟨i, j, rfl, rfl, q _ H (Same.refl H) (by show Rp _ _ _ _ _; simp only [Rp])⟩
    | _ => cases e
  | _ => cases e
theorem o_mul : Op2 X (binaryOp .Mult) mulD := by
  refine ⟨_, OpR.or op_mulW (OpR.or op_rep op_repT), fun O H x y v w z Q hd hx hy e q => ?_⟩
  cases x with
  | int i =>
    cases y with
    | int j =>
      unfold mulD at e; dsimp only at e
      split at e
      · rename_i hc; cases e; obtain rfl := hx.int; obtain rfl := hy.int
        exact .inl ⟨i, j, rfl, rfl, hc, q _ H (Same.refl H) (by show Rp _ _ _ _ _; simp only [Rp])⟩
      · cases e
    | _ => cases e
  | list a =>
    cases y with
    | int k =>
      unfold mulD at e; dsimp only at e
      split at e
      · rename_i hc; cases e; obtain rfl := hy.int
        obtain ⟨l, vs, rfl, h1, r1⟩ := hx.list
        exact .inr (.inl ⟨l, k, vs, rfl, rfl, h1, hc.1, hc.2.1, by rw [← r1.length, sizeLine_eq]; exact hc.2.2, fun p hp => q _ _ (Same.upd hp) (NR.lst (r1.reps _) hp)⟩)
      · cases e
    | _ => cases e
  | tuple a =>
    cases y with
    | int k =>
      unfold mulD at e; dsimp only at e
      split at e
      · rename_i hc; cases e; obtain rfl := hy.int
        obtain ⟨l, vs, rfl, h1, r1⟩ := hx.tupT
        exact .inr (.inr ⟨l, k, vs, rfl, rfl, h1, fun z => hc.1 (List.eq_nil_of_length_eq_zero (by rw [r1.length, z]; rfl)), hc.2.1, hc.2.2.1, by rw [← r1.length]; exact hc.2.2.2, fun p hp => q _ _ (Same.upd hp) (NR.tup hd (r1.reps _) hp)⟩)
      · cases e
    | _ => cases e
  | _ => cases e
theorem o_fdiv : Op2 X (binaryOp .FloorDiv) fdivD := by
  refine ⟨_, op_fdivW, fun O H x y v w z Q hd hx hy e q => ?_⟩
  cases x with
  | int i =>
    cases y with
    | int j =>
      unfold fdivD at e; dsimp only at e
      split at e
      · rename_i hc; cases e; obtain rfl := hx.int; obtain rfl := hy.int
        exact ⟨i, j, rfl, rfl, hc, q _ H (Same.refl H) (by show Rp _ _ _ _ _; simp only [Rp])⟩
      · cases e
    | _ => cases e
  | _ => cases e
theorem o_mod : Op2 X (binaryOp .Mod) modD := by
  refine ⟨_, op_mod, fun O H x y v w z Q hd hx hy e q => ?_⟩
  cases x with
  | int i =>
    cases y with
    | int j =>
      unfold modD at e; dsimp only at e
      split at e
      · rename_i hc; cases e; obtain rfl := hx.int; obtain rfl := hy.int
        exact ⟨i, j, rfl, rfl, hc, q _ H (Same.refl H) (by show Rp _ _ _ _ _; simp only [Rp])⟩
      · cases e
    | _ => cases e
  | _ => cases e
theorem o_pow : Op2 X (binaryOp .Pow) powD := by
  refine ⟨_, op_pow, fun O H x y v w z Q hd hx hy e q => ?_⟩
  cases x with
  | int i =>
    cases y with
    | int j =>
      unfold powD at e; dsimp only at e
      split at e
      · rename_i hc; cases e; obtain rfl := hx.int; obtain rfl := hy.int
        exact ⟨i, j, rfl, rfl, hc, q _ H (Same.refl H) (by show Rp _ _ _ _ _; simp only [Rp])⟩
      · cases e
    | _ => cases e
  | _ => cases e
theorem o_eq (hu : X.A.units + 64 < cLine) : Op2 X (compareOp .Eq) eqD := by
  refine ⟨_, op_eqD hu, fun O H x y v w z Q hd hx hy e q => ?_⟩
  unfold eqD at e
  split at e
  · rename_i hc; cases e
    exact ⟨x, y, hx.dp (SeqAt.canLay_of_shaped hc.1), hy.dp (SeqAt.canLay_of_shaped hc.2), hc.1, hc.2, q _ H (Same.refl H) (by show Rp _ _ _ _ _; simp only [Rp])⟩
  · cases e
theorem o_ne (hu : X.A.units + 64 < cLine) : Op2 X (compareOp .NotEq) neD := by
  refine ⟨_, op_neD hu, fun O H x y v w z Q hd hx hy e q => ?_⟩
  unfold neD at e
  split at e
  · rename_i hc; cases e
    exact ⟨x, y, hx.dp (SeqAt.canLay_of_shaped hc.1), hy.dp (SeqAt.canLay_of_shaped hc.2), hc.1, hc.2, q _ H (Same.refl H) (by show Rp _ _ _ _ _; simp only [Rp])⟩
  · cases e
theorem Ro.isNone {K : PySem.W.Frag} {O : AS} {H : Hp} {x : Da} {v : V} (h : Ro K O H x v) : decide (v = .non) = isNoneD x := by
  cases x with
  | none => rw [h.none]; rfl
  | bool b => rw [h.bool]; rfl
  | int b => rw [h.int]; rfl
  | str b => rw [h.str]; rfl
  | list b => obtain ⟨a, vs, rfl, _⟩ := h.list; rfl
  | tuple b => obtain ⟨a, vs, rfl, _⟩ := h.tupT; rfl
  | dict b => obtain ⟨a, vs, rfl, _⟩ := h.dict; rfl
theorem o_is : Op2 X (compareOp .Is) isD := by
  refine ⟨_, op_isN, fun O H x y v w z Q hd hx hy e q => ?_⟩
  cases y with
  | none =>
    have e : some (EV.d (.bool (isNoneD x))) = some z := by cases x <;> exact e
    cases e
    exact ⟨hy.none, by rw [hx.isNone]; exact q _ H (Same.refl H) (by show Rp _ _ _ _ _; simp only [Rp])⟩
  | _ => cases x <;> cases e
theorem o_isnot : Op2 X (compareOp .IsNot) isnotD := by
  refine ⟨_, op_notN, fun O H x y v w z Q hd hx hy e q => ?_⟩
  cases y with
  | none =>
    have e : some (EV.d (.bool (!isNoneD x))) = some z := by cases x <;> exact e
    cases e
    exact ⟨hy.none, by rw [hx.isNone]; exact q _ H (Same.refl H) (by show Rp _ _ _ _ _; simp only [Rp])⟩
  | _ => cases x <;> cases e
theorem o_neg : Op1 X (unaryOp .USub) negD := by
  refine ⟨_, un_neg, fun O H x v z Q hd hx e q => ?_⟩
  cases x with
  | int i => cases e; obtain rfl := hx.int; exact ⟨i, rfl, q _ H (Same.refl H) (by show Rp _ _ _ _ _; simp only [Rp])⟩
  | _ => cases e
/-! order: ints, texts, tuples of ints -/
def ordD (pi : Int → Int → Bool) (ps : Str → Str → Bool) (pt : List Int → List Int → Bool) : Da → Da → Option EV
  | .int i, .int j => some (.d (.bool (pi i j)))
  | .str a, .str b => some (.d (.bool (ps a b)))
  | .tuple a, .tuple b => (ints? a).bind fun x => (ints? b).map fun y => .d (.bool (pt x y))
  | _, _ => none
theorem o_ord {f : Value → Value → Sem Value} {pi : Int → Int → Bool} {ps : Str → Str → Bool} {pt : List Int → List Int → Bool}
    (h1 : OpR X f (rI0 fun i j => .bl (pi i j))) (h2 : OpR X f (fun x y H Q => ∃ i j, x = .str i ∧ y = .str j ∧ Q (.bl (ps i j)) H))
    (h3 : OpR X f (fun x y H Q => ∃ a b ns ms, x = .ref a ∧ y = .ref b ∧ SqT X.K H a (ns.map V.int) ∧ SqT X.K H b (ms.map V.int) ∧ Q (.bl (pt ns ms)) H)) : Op2 X f (ordD pi ps pt) := by
  refine ⟨_, OpR.or h1 (OpR.or h2 h3), fun O H x y v w z Q hd hx hy e q => ?_⟩
  cases x with
  | int i =>
    cases y with
    | int j => cases e; obtain rfl := hx.int; obtain rfl := hy.int; exact .inl ⟨i, j, rfl, rfl, q _ H (Same.refl H) (by show Rp _ _ _ _ _; simp only [Rp])⟩
    | _ => cases e
  | str i =>
    cases y with
    | str j => cases e; obtain rfl := hx.str; obtain rfl := hy.str; exact .inr (.inl ⟨i, j, rfl, rfl, q _ H (Same.refl H) (by show Rp _ _ _ _ _; simp only [Rp])⟩)
    | _ => cases e
  | tuple a =>
    cases y with
    | tuple b =>
      obtain ⟨ns, e1, e⟩ := Option.bind_eq_some_iff.mp (show (ints? a).bind _ = some z from e)
      obtain ⟨ms, e2, e⟩ := Option.map_eq_some_iff.mp e
      subst e
      have := ints?_some e1; subst this
      have := ints?_some e2; subst this
      obtain ⟨l, vs, rfl, t1, r1⟩ := hx.tupT
      obtain ⟨m, ws, rfl, t2, r2⟩ := hy.tupT
      rw [r1.ints] at t1
      rw [r2.ints] at t2
      exact .inr (.inr ⟨l, m, ns, ms, rfl, rfl, t1, t2, q _ H (Same.refl H) (by show Rp _ _ _ _ _; simp only [Rp])⟩)
    | _ => cases e
  | _ => cases e
theorem OpR.no {f : Value → Value → Sem Value} {r : R2} (h : ∀ x y H Q, ¬ r x y H Q) : OpR X f r := fun _ _ _ H x y _ _ Q _ _ _ q => (h x y H Q q).elim
end
def ltD : Da → Da → Option EV := ordD (fun i j => decide (i < j)) (fun i j => decide (i.cps.toList < j.cps.toList)) HT.lexLt
theorem o_lt {X : Cx} (hu : X.A.units < cLine) : Op2 X (compareOp .Lt) ltD := o_ord op_lt op_lt_str (op_ltT hu)
end VL
set_option Elab.async false
set_option linter.all false
set_option maxRecDepth 100000
namespace VL
open PySem PySem.Spec PyProof.Rows L2
section
variable {K : PySem.W.Frag} {mg : Str → Option Value} {W : WX} {O O' : AS} {st st1 st2 : VS} {σ σ1 σ2 : L2.St} {H H0 H1 H2 : Hp} {v : V} {r : EV}
theorem SlotOk.sub (hO : ∀ a, O' a → O a) {sv : SV} {ov : Option V} (h : SlotOk K O H sv ov) : SlotOk K O' H sv ov := by
  cases sv with
  | un => trivial
  | d x => obtain ⟨w, e, r⟩ := h; exact ⟨w, e, r.sub hO⟩
  | own c => obtain ⟨p, e, r⟩ := h; exact ⟨p, e, r.sub hO⟩
  | io c => obtain ⟨p, e, r⟩ := h; exact ⟨p, e, r.sub hO⟩
  | lk c => obtain ⟨p, e, r⟩ := h; exact ⟨p, e, r.sub hO⟩
  | rd xs => obtain ⟨a, vs, e, r, q⟩ := h; exact ⟨a, vs, e, r.mono (fun a z => .inl (hO a z)) (fun _ _ e _ => e), q.sub hO⟩
theorem FR.sub (hO : ∀ a, O' a → O a) (F : FR K O st σ H) : FR K O' st σ H := by
  refine ⟨F.len, fun i sv h => ?_, F.inj, fun p h z => F.avoid p h (hO p z), fun p h => F.odom p (hO p h)⟩
  obtain ⟨v, e, s⟩ := F.slot i sv h
  exact ⟨v, e, s.sub fun a z => z.elim (fun z => .inl (hO a z)) .inr⟩
theorem Step.sub (hO : ∀ a, O' a → O a) (S : Step K O st σ H st1 σ1 H1) : Step K O' st σ H st1 σ1 H1 := ⟨S.fr.sub hO, S.keep, S.new, S.mnew, S.dom, S.len, S.io, S.lk⟩
theorem VRun.more {α : Type} {r : Res (α × VS)} {k : α → VS → Prop} (hO : ∀ a, O a → O' a) (h : VRun K mg W O st σ H r k) : VRun K mg W O' st σ H r k := by
  match r, h with
  | .ok (a, st'), h => exact h
  | .error (.exc C fs st'), h =>
    exact fun Ca d σ' H' ws e S' hd hr he => h Ca d σ' H' ws e (S'.sub hO) hd (hr.sub fun a z => z.elim (fun z => .inl (hO a z)) .inr) he
  | .error .stuck, h => exact h.elim
theorem VRun.mono {α : Type} {r : Res (α × VS)} {k k' : α → VS → Prop} (h : VRun K mg W O st σ H r k) (hk : ∀ a s, k a s → k' a s) : VRun K mg W O st σ H r k' := by
  match r, h with
  | .ok (a, st'), h => exact hk _ _ h
  | .error (.exc C fs st'), h => exact h
  | .error .stuck, h => exact h.elim
/-- a slot that may be written -/
def wrOk : Option SV → Bool
  | some (.io _) => false
  | some (.lk _) => false
  | some _ => true
  | none => false
theorem OwnAt.set {i j : Nat} {sv : SV} {ov : Option V} {q : Addr} (h : OwnAt (st.set i sv) (σ.set i ov) j q) : (j = i ∧ ov = some (.ref q) ∧ ∃ c, sv = .own c ∨ sv = .io c ∨ sv = .lk c) ∨ (j ≠ i ∧ OwnAt st σ j q) := by
  obtain ⟨e, c, h⟩ := h
  by_cases hj : j = i
  · subst hj
    refine .inl ⟨rfl, ?_, c, ?_⟩
    · by_cases hl : j < σ.length
      · rw [List.getElem?_set_self hl] at e; exact Option.some.inj e
      · rw [List.getElem?_eq_none (by rw [List.length_set]; omega)] at e; cases e
    · by_cases hl : j < st.length
      · rw [List.getElem?_set_self hl] at h
        exact h.imp Option.some.inj (fun h => h.imp Option.some.inj Option.some.inj)
      · rw [List.getElem?_eq_none (by rw [List.length_set]; omega)] at h
        rcases h with h | h | h <;> cases h
  · refine .inr ⟨hj, ?_, c, ?_⟩
    · rwa [List.getElem?_set_ne (Ne.symm hj)] at e
    · rwa [List.getElem?_set_ne (Ne.symm hj)] at h
theorem MutAt.set {i j : Nat} {sv : SV} {ov : Option V} {q : Addr} (h : MutAt (st.set i sv) (σ.set i ov) j q) : (j = i ∧ ov = some (.ref q) ∧ ∃ c, sv = .own c ∨ sv = .io c) ∨ (j ≠ i ∧ MutAt st σ j q) := by
  obtain ⟨e, c, h⟩ := h
  by_cases hj : j = i
  · subst hj
    refine .inl ⟨rfl, ?_, c, ?_⟩
    · by_cases hl : j < σ.length
      · rw [List.getElem?_set_self hl] at e; exact Option.some.inj e
      · rw [List.getElem?_eq_none (by rw [List.length_set]; omega)] at e; cases e
    · by_cases hl : j < st.length
      · rw [List.getElem?_set_self hl] at h
        exact h.imp Option.some.inj Option.some.inj
      · rw [List.getElem?_eq_none (by rw [List.length_set]; omega)] at h
        rcases h with h | h <;> cases h
  · refine .inr ⟨hj, ?_, c, ?_⟩
    · rwa [List.getElem?_set_ne (Ne.symm hj)] at e
    · rwa [List.getElem?_set_ne (Ne.symm hj)] at h
theorem wr_io {i j : Nat} {sv : SV} (hw : wrOk st[i]? = true) {c : OC} (h : st[j]? = some (.io c)) : (st.set i sv)[j]? = some (.io c) ∧ j ≠ i := by
  have hj : j ≠ i := fun z => by subst z; rw [h] at hw; cases hw
  exact ⟨by rw [List.getElem?_set_ne (Ne.symm hj)]; exact h, hj⟩
theorem wr_lk {i j : Nat} {sv : SV} (hw : wrOk st[i]? = true) {c : OC} (h : st[j]? = some (.lk c)) : (st.set i sv)[j]? = some (.lk c) ∧ j ≠ i := by
  have hj : j ≠ i := fun z => by subst z; rw [h] at hw; cases hw
  exact ⟨by rw [List.getElem?_set_ne (Ne.symm hj)]; exact h, hj⟩
theorem wr_lt {i : Nat} (hw : wrOk st[i]? = true) : i < st.length := by
  by_cases h : i < st.length
  · exact h
  · rw [List.getElem?_eq_none (by omega)] at hw; cases hw
/-- a slot is set to what owns nothing -/
theorem FR.setN {i : Nat} {sv : SV} {ov : Option V} (F : FR K O st σ H) (hsv : SlotOk K (Av O st σ) H sv ov) (hn : ∀ c, sv ≠ .own c ∧ sv ≠ .io c ∧ sv ≠ .lk c) : FR K O (st.set i sv) (σ.set i ov) H := by
  have own : ∀ j q, OwnAt (st.set i sv) (σ.set i ov) j q → OwnAt st σ j q := fun j q h => by
    rcases h.set with ⟨_, _, c, h⟩ | ⟨_, h⟩
    · rcases h with h | h | h
      · exact absurd h (hn c).1
      · exact absurd h (hn c).2.1
      · exact absurd h (hn c).2.2
    · exact h
  have av : ∀ a, Av O (st.set i sv) (σ.set i ov) a → Av O st σ a := fun a h => h.imp id fun ⟨j, h⟩ => ⟨j, own j a h⟩
  refine ⟨by rw [List.length_set, List.length_set]; exact F.len, fun j sv' h => ?_, fun a b p h1 h2 => F.inj a b p (own _ _ h1) (own _ _ h2), fun p ⟨j, h⟩ => F.avoid p ⟨j, own j p h⟩, F.odom⟩
  by_cases hj : j = i
  · subst hj
    have hl : j < st.length := by
      by_cases hl : j < st.length
      · exact hl
      · rw [List.getElem?_eq_none (by rw [List.length_set]; omega)] at h; cases h
    rw [List.getElem?_set_self hl] at h
    cases h
    exact ⟨ov, List.getElem?_set_self (by rw [← F.len]; exact hl), hsv.sub av⟩
  · rw [List.getElem?_set_ne (Ne.symm hj)] at h
    obtain ⟨v, e, s⟩ := F.slot j sv' h
    exact ⟨v, by rw [List.getElem?_set_ne (Ne.symm hj)]; exact e, s.sub av⟩
theorem Step.setN {i : Nat} {sv : SV} {ov : Option V} (S : Step K O st σ H st1 σ1 H1) (hw : wrOk st1[i]? = true) (hsv : SlotOk K (Av O st1 σ1) H1 sv ov) (hn : ∀ c, sv ≠ .own c ∧ sv ≠ .io c ∧ sv ≠ .lk c) :
    Step K O st σ H (st1.set i sv) (σ1.set i ov) H1 := by
  refine S.trans ⟨S.fr.setN hsv hn, fun _ _ h _ => h, fun a ⟨j, h⟩ => ?_, fun a ⟨j, h⟩ => ?_, fun _ h => h, List.length_set, fun j c h => ?_, fun j c h => ?_⟩
  · rcases h.set with ⟨_, _, c, h⟩ | ⟨_, h⟩
    · rcases h with h | h | h
      · exact absurd h (hn c).1
      · exact absurd h (hn c).2.1
      · exact absurd h (hn c).2.2
    · exact .inl ⟨j, h⟩
  · rcases h.set with ⟨_, _, c, h⟩ | ⟨_, h⟩
    · rcases h with h | h
      · exact absurd h (hn c).1
      · exact absurd h (hn c).2.1
    · exact .inl ⟨j, h⟩
  · obtain ⟨a, b⟩ := wr_io (sv := sv) hw h
    exact ⟨⟨c, a⟩, List.getElem?_set_ne (Ne.symm b)⟩
  · obtain ⟨a, b⟩ := wr_lk (sv := sv) hw h
    exact ⟨a, List.getElem?_set_ne (Ne.symm b)⟩
/-- a slot is given a new list of its own -/
theorem FR.setOwn {i : Nat} {p : Addr} {c : OC} (F : FR K (O.with p) st σ H) (n : ¬ O p) (C : Cont K (Av (O.with p) st σ) H p c) (hi : i < st.length) : FR K O (st.set i (.own c)) (σ.set i (some (.ref p))) H := by
  have np : ∀ j, ¬ OwnAt st σ j p := fun j h => F.avoid p ⟨j, h⟩ (.inr rfl)
  have own : ∀ j q, OwnAt (st.set i (.own c)) (σ.set i (some (.ref p))) j q → (j = i ∧ q = p) ∨ OwnAt st σ j q := fun j q h => by
    rcases h.set with ⟨a, b, _⟩ | ⟨_, h⟩
    · cases b; exact .inl ⟨a, rfl⟩
    · exact .inr h
  have av : ∀ a, Av O (st.set i (.own c)) (σ.set i (some (.ref p))) a → Av (O.with p) st σ a := fun a h => by
    rcases h with h | ⟨j, h⟩
    · exact .inl (.inl h)
    · rcases own j a h with ⟨_, e⟩ | h
      · exact .inl (.inr e)
      · exact .inr ⟨j, h⟩
  refine ⟨by rw [List.length_set, List.length_set]; exact F.len, fun j sv' h => ?_, fun a b q h1 h2 => ?_, fun q ⟨j, h⟩ z => ?_, fun q h => F.odom q (.inl h)⟩
  · by_cases hj : j = i
    · subst hj
      rw [List.getElem?_set_self hi] at h
      cases h
      exact ⟨_, List.getElem?_set_self (by rw [← F.len]; exact hi), p, rfl, C.sub av⟩
    · rw [List.getElem?_set_ne (Ne.symm hj)] at h
      obtain ⟨v, e, s⟩ := F.slot j sv' h
      exact ⟨v, by rw [List.getElem?_set_ne (Ne.symm hj)]; exact e, s.sub av⟩
  · rcases own a q h1 with ⟨e1, e2⟩ | h1
    · rcases own b q h2 with ⟨e3, _⟩ | h2
      · rw [e1, e3]
      · rw [e2] at h2; exact absurd h2 (np b)
    · rcases own b q h2 with ⟨_, e2⟩ | h2
      · rw [e2] at h1; exact absurd h1 (np a)
      · exact F.inj a b q h1 h2
  · rcases own j q h with ⟨_, e⟩ | h
    · rw [e] at z; exact n z
    · exact F.avoid q ⟨j, h⟩ (.inl z)
theorem Step.setOwn {i : Nat} {p : Addr} {c : OC} (S : Step K O st σ H st1 σ1 H1) (hw : wrOk st1[i]? = true) (hp : H p = none) (n : ¬ O p) (F : FR K (O.with p) st1 σ1 H1) (C : Cont K (Av (O.with p) st1 σ1) H1 p c) :
    Step K O st σ H (st1.set i (.own c)) (σ1.set i (some (.ref p))) H1 := by
  refine ⟨F.setOwn n C (wr_lt hw), S.keep, fun a ⟨j, h⟩ => ?_, fun a ⟨j, h⟩ => ?_, S.dom, List.length_set.trans S.len, fun j c h => ?_, fun j c h => ?_⟩
  · rcases h.set with ⟨_, e, _⟩ | ⟨_, h⟩
    · cases e; exact .inr hp
    · exact S.new a ⟨j, h⟩
  · rcases h.set with ⟨_, e, _⟩ | ⟨_, h⟩
    · cases e; exact .inr hp
    · exact S.mnew a ⟨j, h⟩
  · obtain ⟨⟨c', h'⟩, e⟩ := S.io j c h
    obtain ⟨a, b⟩ := wr_io (sv := .own c) hw h'
    exact ⟨⟨c', (wr_io hw h').1⟩, by rw [List.getElem?_set_ne (Ne.symm b)]; exact e⟩
  · obtain ⟨h', e⟩ := S.lk j c h
    obtain ⟨a, b⟩ := wr_lk (sv := .own c) hw h'
    exact ⟨(wr_lk hw h').1, by rw [List.getElem?_set_ne (Ne.symm b)]; exact e⟩
/-! ### statements -/
inductive Ctl where
  | nx | bk | ct
  | rt (r : EV)
def CtlK (K : PySem.W.Frag) (O : AS) (st : VS) (σ : L2.St) (H : Hp) (D : Ends) (c : Ctl) (st' : VS) : Prop :=
  match c with
  | .nx => ∀ σ' H', Step K O st σ H st' σ' H' → D.nx σ' H'
  | .bk => ∀ σ' H', Step K O st σ H st' σ' H' → D.bk σ' H'
  | .ct => ∀ σ' H', Step K O st σ H st' σ' H' → D.ct σ' H'
  | .rt r => ∀ v σ' H', Step K O st σ H st' σ' H' → ER K O H st' σ' H' v r → D.rt v H'
theorem CtlK.step {D : Ends} {c : Ctl} {st' : VS} (S : Step K O st σ H st1 σ1 H1) (h : CtlK K O st σ H D c st') : CtlK K O st1 σ1 H1 D c st' := by
  cases c with
  | nx => exact fun σ' H' S' => h σ' H' (S.trans S')
  | bk => exact fun σ' H' S' => h σ' H' (S.trans S')
  | ct => exact fun σ' H' S' => h σ' H' (S.trans S')
  | rt r => exact fun v σ' H' S' E => h v σ' H' (S.trans S') (E.back S.dom)
def tVS (K : PySem.W.Frag) (mg : Str → Option Value) (W : WX) (g : VM Ctl) : TS := fun D σ H => ∃ O st, FR K O st σ H ∧ VRun K mg W O st σ H (g st) (CtlK K O st σ H D)
/-- from a state on -/
theorem tVS.of {g : VM Ctl} {D : Ends} (F : FR K O st σ H) (h : VRun K mg W O st σ H (g st) (CtlK K O st σ H D)) : tVS K mg W g D σ H := ⟨O, st, F, h⟩
def vSeq (f g : VM Ctl) : VM Ctl := vb f fun c => match c with
  | .nx => g
  | c => vr c
theorem vrun_vb {α β : Type} {f : VM α} {g : α → VM β} {k : β → VS → Prop} (h : VRun K mg W O st σ H (vb f g st) k) : VRun K mg W O st σ H (f st) fun a s => VRun K mg W O st σ H (g a s) k := by
  unfold vb at h
  cases e : f st with
  | ok p => rw [e] at h; exact h
  | error er =>
    rw [e] at h
    cases er with
    | exc C fs s1 => exact h
    | stuck => exact h
theorem tVS.seq {f g : VM Ctl} {D : Ends} (h : tVS K mg W (vSeq f g) D σ H) : tVS K mg W f { D with nx := tVS K mg W g D } σ H := by
  obtain ⟨O, st, F, h⟩ := h
  refine ⟨O, st, F, (vrun_vb h).mono fun c s q => ?_⟩
  cases c with
  | nx => exact fun σ' H' S => ⟨O, s, S.fr, (VRun.step S q).mono fun c s' z => z.step S⟩
  | bk => exact q
  | ct => exact q
  | rt r => exact q
end
abbrev VSt (X : Cx) (W : WX) (s : Stmt) (g : VM Ctl) : Prop := PS X s (tVS X.K X.mg W g)
abbrev VSs (X : Cx) (W : WX) (ss : List Stmt) (g : VM Ctl) : Prop := PSs X ss (tVS X.K X.mg W g)
theorem PS.wk {X : Cx} {s : Stmt} {t t' : TS} (h : PS X s t) (w : ∀ D σ H, t' D σ H → t D σ H) : PS X s t' := ⟨fun pins s σ H D I q => h.run pins s σ H D I (w D σ H q)⟩
theorem PSs.wk {X : Cx} {s : List Stmt} {t t' : TS} (h : PSs X s t) (w : ∀ D σ H, t' D σ H → t D σ H) : PSs X s t' := ⟨fun pins s σ H D I q => h.run pins s σ H D I (w D σ H q)⟩
section
variable {X : Cx} {W : WX} {a b c e : Expr} {pos : Pos} {fa fb fc fe : VM EV} {ga gb : VM Bool} {s : Stmt} {ss sb : List Stmt} {g g' : VM Ctl}
def vNx : VM Ctl := vr .nx
theorem vs_nil : VSs X W [] vNx := PSs.wk pss_nil fun D σ H ⟨O, st, F, h⟩ => h σ H (Step.refl F)
theorem vs_cons (h1 : VSt X W s g) (h2 : VSs X W ss g') : VSs X W (s :: ss) (vSeq g g') := PSs.wk (pss_cons h1 h2) fun D σ H h => h.seq
theorem vs_one (h1 : VSt X W s g) : VSs X W [s] g := pss_one h1
theorem vs_pass : VSt X W (.Pass pos) vNx := PS.wk ps_pass fun D σ H ⟨O, st, F, h⟩ => h σ H (Step.refl F)
theorem vs_break : VSt X W (.Break pos) (vr .bk) := PS.wk ps_break fun D σ H ⟨O, st, F, h⟩ => h σ H (Step.refl F)
theorem vs_continue : VSt X W (.Continue pos) (vr .ct) := PS.wk ps_continue fun D σ H ⟨O, st, F, h⟩ => h σ H (Step.refl F)
/-- a ghost: what a slot owns is let go, to be shared as a datum -/
def frz1 (i : Nat) (s : VS) : VS := match s[i]? with
  | some (.own c) => s.set i (.d c.data)
  | _ => s
def vFrz (is : List Nat) (g : VM α) : VM α := fun s => g (is.foldl (fun s i => frz1 i s) s)
theorem Own.frz {K : PySem.W.Frag} {O : AS} {st : VS} {σ : L2.St} {H : Hp} (F : FR K O st σ H) (i : Nat) : Step K O st σ H (frz1 i st) σ H := by
  unfold frz1
  split
  · rename_i c hc
    obtain ⟨ov, eov, p, epv, C⟩ := F.slot i _ hc
    subst epv
    have hi : i < st.length := by
      by_cases h : i < st.length
      · exact h
      · rw [List.getElem?_eq_none (by omega)] at hc; cases hc
    have ip : OwnAt st σ i p := ⟨eov, c, .inl hc⟩
    have hσ : σ.set i (some (.ref p)) = σ := by
      apply List.ext_getElem?
      intro j
      by_cases hj : j = i
      · subst hj; rw [List.getElem?_set_self (by rw [← F.len]; exact hi), eov]
      · rw [List.getElem?_set_ne (Ne.symm hj)]
    -- the other slots keep away from p, the slot itself too
    have own : ∀ j q, OwnAt (st.set i (.d c.data)) σ j q → j ≠ i ∧ OwnAt st σ j q := fun j q h => by
      rw [← hσ] at h
      rcases h.set with ⟨_, _, c, h⟩ | ⟨a, h⟩
      · rcases h with h | h | h <;> cases h
      · exact ⟨a, h⟩
    have mut_ : ∀ j q, MutAt (st.set i (.d c.data)) σ j q → j ≠ i ∧ MutAt st σ j q := fun j q h => by
      rw [← hσ] at h
      rcases h.set with ⟨_, _, c, h⟩ | ⟨a, h⟩
      · rcases h with h | h <;> cases h
      · exact ⟨a, h⟩
    have av : ∀ a, Av O (st.set i (.d c.data)) σ a → Av O st σ a := fun a h => h.imp id fun ⟨j, h⟩ => ⟨j, (own j a h).2⟩
    have FF : FR K O (st.set i (.d c.data)) σ H := by
      refine ⟨by rw [List.length_set]; exact F.len, fun j sv' h => ?_, fun a b q h1 h2 => F.inj a b q (own a q h1).2 (own b q h2).2, fun q ⟨j, h⟩ => F.avoid q ⟨j, (own j q h).2⟩, F.odom⟩
      by_cases hj : j = i
      · subst hj
        rw [List.getElem?_set_self hi] at h
        cases h
        refine ⟨_, eov, .ref p, rfl, (C.sub av).rp fun z => ?_⟩
        rcases z with z | ⟨j', z⟩
        · exact F.avoid p ⟨j, ip⟩ z
        · obtain ⟨n, z⟩ := own j' p z
          exact n (F.inj j' j p z ip)
      · rw [List.getElem?_set_ne (Ne.symm hj)] at h
        obtain ⟨v, e, s⟩ := F.slot j sv' h
        exact ⟨v, e, s.sub av⟩
    refine ⟨FF, fun _ _ h _ => h, fun a ⟨j, h⟩ => .inl ⟨j, (own j a h).2⟩, fun a ⟨j, h⟩ => .inl ⟨j, (mut_ j a h).2⟩, fun _ h => h, rfl, fun j c' h => ⟨⟨c', ?_⟩, rfl⟩, fun j c' h => ⟨?_, rfl⟩⟩
    · have hj : j ≠ i := fun z => by subst z; rw [h] at hc; cases hc
      rw [List.getElem?_set_ne (Ne.symm hj)]; exact h
    · have hj : j ≠ i := fun z => by subst z; rw [h] at hc; cases hc
      rw [List.getElem?_set_ne (Ne.symm hj)]; exact h
  · exact Step.refl F
theorem Step.frzs {K : PySem.W.Frag} {O : AS} {σ : L2.St} {H : Hp} : ∀ (is : List Nat) {st : VS}, FR K O st σ H → Step K O st σ H (is.foldl (fun s i => frz1 i s) st) σ H
  | [], st, F => Step.refl F
  | i :: is, st, F => by
    have a := Own.frz F i
    exact a.trans (Step.frzs is a.fr)
theorem vs_frz (is : List Nat) (h : VSt X W s g) : VSt X W s (vFrz is g) := PS.wk h fun D σ H ⟨O, st, F, q⟩ => by
  have S := Step.frzs is F
  exact ⟨O, _, S.fr, (VRun.step S q).mono fun c s z => z.step S⟩
/-- an expression as a statement -/
def vDrop (f : VM EV) : VM Ctl := vb f fun _ => vNx
theorem tVS.expr {f : VM EV} {g : EV → VM Ctl} {D : Ends} {σ : L2.St} {H : Hp} {K : PySem.W.Frag} {mg : Str → Option Value} {Q : VK} (h : tVS K mg W (vb f g) D σ H)
    (cont : ∀ O st r s1 v H1, Step K O st σ H s1 σ H1 → ER K O H s1 σ H1 v r → VRun K mg W O s1 σ H1 (g r s1) (CtlK K O st σ H D) → Q v H1) : tV K mg W f σ H Q := by
  obtain ⟨O, st, F, h⟩ := h
  exact tV.bind F h fun r s1 v H1 S E h => cont O st r s1 v H1 S E h
theorem vs_expr (he : VE X W e fe) (hs : swapsWith e none pos.line X.env = pure false := by rfl) : VSt X W (.Expr e pos) (vDrop fe) :=
  PS.wk (ps_expr he hs) fun D σ H h => h.expr fun O st r s1 v H1 S E h => h σ H1 S
/-- return -/
def vRet (f : VM EV) : VM Ctl := vb f fun r => vr (.rt r)
theorem vs_ret (he : VE X W e fe) : VSt X W (.Return (some e) pos) (vRet fe) :=
  PS.wk (ps_ret he) fun D σ H h => h.expr fun O st r s1 v H1 S E h => h v σ H1 S E
theorem vs_retN : VSt X W (.Return none pos) (vr (.rt (.d .none))) :=
  PS.wk ps_retN fun D σ H ⟨O, st, F, h⟩ => h .non σ H (Step.refl F) (by show Rp _ _ _ _ _; simp only [Rp])
/-- if -/
def vIf (c : VM Bool) (a b : VM Ctl) : VM Ctl := vb c fun k => if k = true then a else b
theorem vs_if {e : Expr} {sa : List Stmt} (hc : VT X W e ga) (ha : VSs X W sa g) (hb : VSs X W sb g') : VSt X W (.If e sa sb pos) (vIf ga g g') := by
  refine PS.wk (ps_if hc ha hb) fun D σ H h => ?_
  obtain ⟨O, st, F, h⟩ := h
  refine tVT.bind F h fun k s1 H1 S h => ?_
  cases k with
  | true => rw [if_pos rfl] at h; exact iteT ⟨O, s1, S.fr, h.mono fun c s z => z.step S⟩
  | false => rw [if_neg Bool.false_ne_true] at h; exact iteF ⟨O, s1, S.fr, h.mono fun c s z => z.step S⟩
/-- a if c else b -/
def vIte (c : VM Bool) (a b : VM EV) : VM EV := vb c fun k => if k = true then a else b
theorem ve_ite {c a b : Expr} (hc : VT X W c ga) (ha : VE X W a fa) (hb : VE X W b fb) : VE X W (.IfExp c a b pos) (vIte ga fa fb) := by
  refine PE.wk (pe_ifExp hc ha hb) fun σ H Q h => ?_
  obtain ⟨O, st, F, h⟩ := h
  refine tVT.bind F h fun k s1 H1 S h => ?_
  cases k with
  | true => rw [if_pos rfl] at h; exact iteT ⟨O, s1, S.fr, h.mono fun r s z v H' S' E => z v H' (S.trans S') (E.back S.dom)⟩
  | false => rw [if_neg Bool.false_ne_true] at h; exact iteF ⟨O, s1, S.fr, h.mono fun r s z v H' S' E => z v H' (S.trans S') (E.back S.dom)⟩
/-! ### targets -/
/-- it comes to an end, and then k -/
def okK {α : Type} (r : Res (α × VS)) (k : α → VS → Prop) : Prop := match r with
  | .ok (a, st') => k a st'
  | .error _ => False
/-- storing a result -/
def gVT (K : PySem.W.Frag) (f : EV → VM Unit) : TG := fun v σ H Q => ∃ O st0 σ0 H0 st r, Step K O st0 σ0 H0 st σ H ∧ ER K O H0 st σ H v r ∧
  okK (f r st) fun _ st' => ∀ σ' H', Step K O st0 σ0 H0 st' σ' H' → Q σ' H'
abbrev VG (X : Cx) (t : Expr) (f : EV → VM Unit) : Prop := PG X t (gVT X.K f)
theorem PG.wk {X : Cx} {e : Expr} {t t' : TG} (h : PG X e t) (w : ∀ v σ H Q, t' v σ H Q → t v σ H Q) : PG X e t' := ⟨fun pins s σ H v u Q I r q => h.run pins s σ H v u Q I r (w v σ H Q q)⟩
def vSet (i : Nat) (r : EV) : VM Unit := fun s =>
  if wrOk s[i]? = true then
    match r with
    | .d x => .ok ((), s.set i (.d x))
    | .own c => .ok ((), s.set i (.own c))
    | .loan _ => .error .stuck
  else .error .stuck
theorem gVT.name {K : PySem.W.Frag} {i : Nat} {v : V} {σ : L2.St} {H : Hp} {Q : L2.St → Hp → Prop} (h : gVT K (vSet i) v σ H Q) : gName i v σ H Q := by
  obtain ⟨O, st0, σ0, H0, st, r, S, E, h⟩ := h
  unfold vSet at h
  by_cases hw : wrOk st[i]? = true
  · rw [if_pos hw] at h
    cases r with
    | d x => exact h _ _ (S.setN hw ⟨v, rfl, E⟩ fun c => ⟨(fun z => by cases z), (fun z => by cases z), (fun z => by cases z)⟩)
    | own c =>
      obtain ⟨p, rfl, hp, n, F, C⟩ := E
      exact h _ _ (S.setOwn hw hp n F C)
    | loan j => exact h.elim
  · rw [if_neg hw] at h; exact h.elim
theorem vg_name {i : Nat} {x : Str} (hN : X.N.Nodup) (hi : X.N[i]? = some x) (hx : Loc X.env.scope x) (hf : X.fn x = true ∨ X.env.scope.names.lookup x = some .local := by first | exact .inl rfl | exact .inr rfl | assumption) : VG X (.Name x pos) (vSet i) :=
  PG.wk (pg_name hN hi hx hf) fun v σ H Q h => h.name
/-- what raises is left out -/
def vNoX {α : Type} (m : VM α) : VM α := fun s => match m s with
  | .ok p => .ok p
  | .error _ => .error .stuck
def vAsg (f : VM EV) (g : EV → VM Unit) : VM Ctl := vb f fun r => vb (vNoX (g r)) fun _ => vNx
theorem asg_wk {fe : VM EV} {gt : EV → VM Unit} {K : PySem.W.Frag} {mg : Str → Option Value} {D : Ends} {σ : L2.St} {H : Hp} (h : tVS K mg W (vAsg fe gt) D σ H) : tAsg (tV K mg W fe) (gVT K gt) D σ H := by
  refine h.expr fun O st r s1 v H1 S E h => ?_
  refine ⟨O, st, σ, H, s1, r, S, E, ?_⟩
  unfold vb vNoX at h
  cases q : gt r s1 with
  | ok p =>
    obtain ⟨_, s2⟩ := p
    rw [q] at h
    exact fun σ' H' S' => h σ' H' S'
  | error er =>
    rw [q] at h
    exact h.elim
theorem vs_asg {tg : Expr} {gt : EV → VM Unit} (he : VE X W e fe) (hg : VG X tg gt) (hs : swapsWithSole [tg] e pos.line X.env = pure false := by rfl) (hw : swappedStores [tg] e X.env = pure none := by rfl)
    (h1 : (assignEach [tg] X.env).map (·.2) = [assign tg X.env] := by rfl) : VSt X W (.Assign [tg] e pos) (vAsg fe gt) := PS.wk (ps_asg he hg hs hw h1) fun D σ H h => asg_wk h
theorem vs_set {i : Nat} {x : Str} {pos' : Pos} (hN : X.N.Nodup) (hi : X.N[i]? = some x) (hx : Loc X.env.scope x) (he : VE X W e fe) (hs : swapsWith e (some (.Name x pos')) pos.line X.env = pure false := by rfl) (hf : X.fn x = true ∨ X.env.scope.names.lookup x = some .local := by first | exact .inl rfl | exact .inr rfl | assumption) :
    VSt X W (.Assign [.Name x pos'] e pos) (vAsg fe (vSet i)) := by
  refine PS.wk (ps_set hN hi hx he hs hf) fun D σ H h => ?_
  exact (asg_wk h).imp fun O ⟨st, F, q⟩ => ⟨st, F, q.mono fun r s z v H' S E => (z v H' S E).name⟩
end
end VL
set_option Elab.async false
set_option linter.all false
set_option maxRecDepth 100000
namespace VL
open PySem PySem.Spec PyProof.Rows L2
/-! ### argument lists -/
section
variable {K : PySem.W.Frag} {mg : Str → Option Value} {W : WX} {O O' : AS} {st st1 st2 : VS} {σ σ1 σ2 : L2.St} {H H0 H1 H2 : Hp} {v : V} {r : EV}
/-- results that are settled -/
def ERs (K : PySem.W.Frag) (O : AS) (st : VS) (σ : L2.St) (H : Hp) : List V → List EV → Prop
  | [], [] => True
  | v :: vs, r :: rs => ER K O H st σ H v (settle r) ∧ r = settle r ∧ ERs K O st σ H vs rs
  | _, _ => False
theorem settle_settle (r : EV) : settle (settle r) = settle r := by cases r <;> rfl
theorem ERs.later : ∀ {vs : List V} {rs : List EV}, ERs K O st σ H vs rs → Step K O st σ H st1 σ H1 → ERs K O st1 σ H1 vs rs
  | [], [], _, _ => trivial
  | v :: vs, r :: rs, h, S => ⟨h.1.later S, h.2.1, ERs.later h.2.2 S⟩
  | [], _ :: _, h, _ => h.elim
  | _ :: _, [], h, _ => h.elim
theorem ERs.append : ∀ {vs ws : List V} {rs qs : List EV}, ERs K O st σ H vs rs → ERs K O st σ H ws qs → ERs K O st σ H (vs ++ ws) (rs ++ qs)
  | [], ws, [], qs, _, g => g
  | v :: vs, ws, r :: rs, qs, h, g => ⟨h.1, h.2.1, ERs.append h.2.2 g⟩
  | [], _, _ :: _, _, h, _ => h.elim
  | _ :: _, _, [], _, h, _ => h.elim
theorem ERs.length : ∀ {vs : List V} {rs : List EV}, ERs K O st σ H vs rs → vs.length = rs.length
  | [], [], _ => rfl
  | v :: vs, r :: rs, h => by rw [List.length_cons, List.length_cons, ERs.length h.2.2]
  | [], _ :: _, h => h.elim
  | _ :: _, [], h => h.elim
theorem ERs.ofD : ∀ {xs : List Da} {vs : List V}, RpL K (Av O st σ) H xs vs → ERs K O st σ H vs (xs.map .d)
  | [], vs, h => by simp only [RpL] at h; subst h; exact trivial
  | x :: xs, vs, h => by
    simp only [RpL] at h
    obtain ⟨w, ws, rfl, a, b⟩ := h
    exact ⟨a, rfl, ERs.ofD b⟩
/-- the data of results that are to be kept: no loan -/
def evD : EV → Option Da
  | .d x => some x
  | .own c => some c.data
  | .loan _ => none
def dts : List EV → Option (List Da)
  | [] => some []
  | r :: rs => (evD r).bind fun x => (dts rs).map (x :: ·)
theorem ERs.dts : ∀ {vs : List V} {rs : List EV} {xs : List Da}, ERs K O st σ H vs rs → VL.dts rs = some xs → RpL K (Av O st σ) H xs vs
  | [], [], xs, _, e => by cases e; exact .nil
  | v :: vs, r :: rs, xs, h, e => by
    obtain ⟨x, e1, e⟩ := Option.bind_eq_some_iff.mp (show (evD r).bind _ = some xs from e)
    obtain ⟨ys, e2, rfl⟩ := Option.map_eq_some_iff.mp e
    have h1 := h.1
    rw [← h.2.1] at h1
    refine .cons ?_ (ERs.dts h.2.2 e2)
    cases r with
    | d y => cases e1; exact h1
    | own c => cases h.2.1
    | loan i => cases e1
  | [], _ :: _, _, h, _ => h.elim
  | _ :: _, [], _, h, _ => h.elim
/-- .. read, loans too -/
def vRds : List EV → VM (List Da)
  | [] => vr []
  | r :: rs => vb (vRd r) fun x => vb (vRds rs) fun xs => vr (x :: xs)
theorem ERs.rds {α : Type} {k : α → VS → Prop} : ∀ {vs : List V} {rs : List EV} {g : List Da → VM α}, FR K O st σ H → ERs K O st σ H vs rs → VRun K mg W O st σ H (vb (vRds rs) g st) k →
    ∃ xs, RoL K (Av O st σ) H xs vs ∧ VRun K mg W O st σ H (g xs st) k
  | [], [], g, F, _, h => ⟨[], by simp only [RoL], h⟩
  | v :: vs, r :: rs, g, F, E, h => by
    have h' : VRun K mg W O st σ H (vb (vRd r) (fun x => vb (vRds rs) fun xs => g (x :: xs)) st) k := by
      have : vb (vRds (r :: rs)) g = vb (vRd r) (fun x => vb (vRds rs) fun xs => g (x :: xs)) := by
        funext s
        show vb (vb (vRd r) fun x => vb (vRds rs) fun xs => vr (x :: xs)) g s = _
        unfold vb
        cases vRd r s with
        | error e => rfl
        | ok p =>
          obtain ⟨x, s1⟩ := p
          dsimp only
          cases vRds rs s1 with
          | error e => rfl
          | ok q => rfl
      rw [this] at h; exact h
    have E1 := E.1
    rw [← E.2.1] at E1
    obtain ⟨x, Rx, h'⟩ := VRun.rd F E1 h'
    obtain ⟨xs, Rxs, h'⟩ := ERs.rds F E.2.2 h'
    refine ⟨x :: xs, ?_, h'⟩
    simp only [RoL]
    exact ⟨v, vs, rfl, Rx, Rxs⟩
  | [], _ :: _, _, _, h, _ => h.elim
  | _ :: _, [], _, _, h, _ => h.elim
def tVA (K : PySem.W.Frag) (mg : Str → Option Value) (W : WX) (f : VM (List EV)) : TA := fun σ H Q =>
  ∃ O st, FR K O st σ H ∧ VRun K mg W O st σ H (f st) fun rs st' => ∀ vs H', Step K O st σ H st' σ H' → ERs K O st' σ H' vs rs → Q vs H'
theorem tVA.bind {α : Type} {fa : VM (List EV)} {g : List EV → VM α} {k : α → VS → Prop} {Q : List V → Hp → Prop} (F : FR K O st σ H) (h : VRun K mg W O st σ H (vb fa g st) k)
    (cont : ∀ rs s1 vs H1, Step K O st σ H s1 σ H1 → ERs K O s1 σ H1 vs rs → VRun K mg W O s1 σ H1 (g rs s1) k → Q vs H1) : tVA K mg W fa σ H Q :=
  ⟨O, st, F, (vrun_vb h).mono fun rs s q vs H' S E => cont rs s vs H' S E (VRun.step S q)⟩
def vCons (f : VM EV) (fs : VM (List EV)) : VM (List EV) := vb f fun r => vb fs fun rs => vr (settle r :: rs)
def vConsS (f : VM EV) (fs : VM (List EV)) : VM (List EV) := vb f fun r => vb (vRd r) fun x => vb (vOpt (seqD x)) fun xs => vb fs fun rs => vr (xs.map .d ++ rs)
end
abbrev VA (X : Cx) (W : WX) (es : List Expr) (f : VM (List EV)) : Prop := PA X es (tVA X.K X.mg W f)
section
variable {X : Cx} {W : WX} {a b c e o : Expr} {es : List Expr} {pos p : Pos} {fa fb fc fe fo : VM EV} {fs : VM (List EV)} {ga gb : VM Bool}
theorem va_nil : VA X W [] (vr []) := PA.wk pa_nil fun σ H Q ⟨O, st, F, h⟩ => h [] H (Step.refl F) trivial
theorem va_cons (ha : VE X W e fe) (hr : VA X W es fs) (hs : starEach (e :: es) X.env = (false, eval e X.env) :: starEach es X.env := by rfl) : VA X W (e :: es) (vCons fe fs) := by
  refine PA.wk (pa_cons ha hr hs) fun σ H Q h => ?_
  obtain ⟨O, st, F, h⟩ := h
  refine tV.bind F h fun r s1 v H1 S1 E1 h => ?_
  refine tVA.bind S1.fr h fun rs s2 vs H2 S2 E2 h => ?_
  refine h (v :: vs) H2 (S1.trans S2) ⟨?_, (settle_settle r).symm, E2⟩
  rw [settle_settle]
  exact (E1.settle (H1 := H)).later S2 (H2 := H2)
theorem va_star (ha : VE X W e fe) (hr : VA X W es fs) (hs : starEach (.Starred e p :: es) X.env = (true, eval e X.env) :: starEach es X.env := by rfl) : VA X W (.Starred e p :: es) (vConsS fe fs) := by
  refine PA.wk (StX.pa_star ha hr hs) fun σ H Q h => ?_
  obtain ⟨O, st, F, h⟩ := h
  refine tV.bind F h fun r s1 v H1 S1 E1 h => ?_
  obtain ⟨x, Rx, h⟩ := h.rd S1.fr E1
  obtain ⟨xs, ex, h⟩ := h.opt
  obtain ⟨ad, vs, rfl, sq, rl⟩ := Rx.seq ex
  refine ⟨ad, vs, rfl, sq.symm, tVA.bind S1.fr h fun rs s2 ws H2 S2 E2 h => ?_⟩
  exact h (vs ++ ws) H2 (S1.trans S2) (ERs.append (ERs.ofD (S2.rpl rl)) E2)
/-! displays -/
def vTuple (fs : VM (List EV)) : VM EV := vb fs fun rs => vb (vOpt (dts rs)) fun xs => if xs.length ≤ 16777216 then vr (.d (.tuple xs)) else vStuck
def vList (fs : VM (List EV)) : VM EV := vb fs fun rs => vb (vOpt (dts rs)) fun xs => if xs.length ≤ 16777216 then vr (.own (.l xs)) else vStuck
theorem ve_tup {k : Nat} (h : VA X W es fs) : VE X W (.Tuple es k pos) (vTuple fs) := by
  refine PE.wk (pe_tup h) fun σ H Q h => ?_
  obtain ⟨O, st, F, h⟩ := h
  refine tVA.bind F h fun rs s1 vs H1 S1 E1 h => ?_
  obtain ⟨xs, ex, h⟩ := h.opt
  have R := E1.dts ex
  split at h
  · rename_i hl
    refine ⟨by rw [← R.length, sizeLine_eq]; exact hl, fun p hp => ?_⟩
    exact h _ _ (S1.trans (Step.ext S1.fr (Same.upd hp))) ((NR.er S1.fr (Same.upd hp) (NR.tup S1.fr.avdom R hp)).back S1.dom)
  · exact h.elim
theorem ve_lst (h : VA X W es fs) : VE X W (.List es pos) (vList fs) := by
  refine PE.wk (pe_lst h) fun σ H Q h => ?_
  obtain ⟨O, st, F, h⟩ := h
  refine tVA.bind F h fun rs s1 vs H1 S1 E1 h => ?_
  obtain ⟨xs, ex, h⟩ := h.opt
  have R := E1.dts ex
  split at h
  · rename_i hl
    refine ⟨by rw [← R.length, sizeLine_eq]; exact hl, fun p hp => ?_⟩
    exact h _ _ (S1.trans (Step.ext S1.fr (Same.upd hp))) ((NR.er S1.fr (Same.upd hp) (NR.lst R hp)).back S1.dom)
  · exact h.elim
/-! built-ins by values -/
/-- f gives what g says -/
def CallV (X : Cx) (f : Value) (g : List Da → Option EV) : Prop :=
  ∃ r, CallR X f r ∧ ∀ O H xs vs z (Q : VK), (∀ a, O a → H a ≠ none) → RoL X.K O H xs vs → g xs = some z → (∀ u H', Same H H' → NR X.K O H H' u z → Q u H') → r vs H Q
def vCall (g : List Da → Option EV) (fs : VM (List EV)) : VM EV := vb fs fun rs => vb (vRds rs) fun xs => vOpt (g xs)
theorem call_wk {r : List V → Hp → VK → Prop} {g : List Da → Option EV} {σ : L2.St} {H : Hp} {Q : VK}
    (hg : ∀ O H xs vs z (Q : VK), (∀ a, O a → H a ≠ none) → RoL X.K O H xs vs → g xs = some z → (∀ u H', Same H H' → NR X.K O H H' u z → Q u H') → r vs H Q)
    (h : tV X.K X.mg W (vCall g fs) σ H Q) : tCB r (tVA X.K X.mg W fs) σ H Q := by
  obtain ⟨O, st, F, h⟩ := h
  refine tVA.bind F h fun rs s1 vs H1 S1 E1 h => ?_
  obtain ⟨xs, R, h⟩ := E1.rds S1.fr h
  obtain ⟨z, ez, h⟩ := h.opt1
  refine hg (Av O s1 σ) H1 xs vs z Q S1.fr.avdom R ez fun u H' k n => ?_
  exact h u H' (S1.trans (Step.ext S1.fr k)) ((NR.er S1.fr k n).back S1.dom)
theorem ve_callB {x : Str} {id : String} {g : List Da → Option EV} (hc : CallV X (.builtin id) g) (hm : X.mg x = none) (ha : VA X W (e :: es) fs) (hg : Gl X x := by rfl) (hv : bootBuiltins x = some (.builtin id) := by decide +kernel) (hn : x ≠ "__name__" := by decide) (hdb : (x == ("__debug__" : Str)) = false := by decide)
    (he : starEach (e :: es) X.env = (false, eval e X.env) :: starEach es X.env := by rfl) (hpl : (backTo pos (starEach es X.env)).any (·.1) = false := by rfl) : VE X W (.Call (.Name x p) (e :: es) [] pos) (vCall g fs) := by
  obtain ⟨r, hr, hgg⟩ := hc
  exact PE.wk (pe_callB hr hg hm hv ha hn hdb he hpl) fun σ H Q h => call_wk hgg h
theorem ve_callT {x : Str} {T : String} {g : List Da → Option EV} (hc : CallV X (.type T) g) (hm : X.mg x = none) (ha : VA X W (e :: es) fs) (hg : Gl X x := by rfl) (hv : bootBuiltins x = some (.type T) := by decide +kernel) (hn : x ≠ "__name__" := by decide) (hdb : (x == ("__debug__" : Str)) = false := by decide)
    (he : starEach (e :: es) X.env = (false, eval e X.env) :: starEach es X.env := by rfl) (hpl : (backTo pos (starEach es X.env)).any (·.1) = false := by rfl) : VE X W (.Call (.Name x p) (e :: es) [] pos) (vCall g fs) := by
  obtain ⟨r, hr, hgg⟩ := hc
  exact PE.wk (pe_callTy hr hg hm hv ha hn hdb he hpl) fun σ H Q h => call_wk hgg h
/-! subscripts -/
def ixD : Da → Da → Option EV
  | .list xs, .int i => (atI xs i).map .d
  | .tuple xs, .int i => (atI xs i).map .d
  | .str z, .int i => if z.length ≤ 16777216 then (atI z.cps.toList i).map fun c => .d (.str ⟨#[c]⟩) else none
  | _, _ => none
theorem atI_rel {K : PySem.W.Frag} {O : AS} {H : Hp} {xs : List Da} {vs : List V} (R : RpL K O H xs vs) {i : Int} {x : Da} (e : atI xs i = some x) : ∃ w, atI vs i = some w ∧ Rp K O H x w := by
  unfold atI at e ⊢
  rw [← R.length]
  obtain ⟨j, e1, e2⟩ := Option.bind_eq_some_iff.mp e
  rw [e1]
  exact R.get e2
theorem ve_ix (ha : VE X W a fa) (hb : VE X W b fb) (hs : PlainIx b := by exact fun _ _ => rfl) : VE X W (.Subscript a b pos) (vBin ixD fa fb) := by
  refine PE.wk (pe_ix ix_seq ha hb hs) fun σ H Q h => bin_wk (fun O H x y v w z Q hd hx hy e q => ?_) h
  cases y with
  | int i =>
    obtain rfl := hy.int
    cases x with
    | list xs =>
      obtain ⟨d, ed, rfl⟩ := Option.map_eq_some_iff.mp (show (atI xs i).map EV.d = some z from e)
      obtain ⟨l, vs, rfl, h1, r1⟩ := hx.list
      obtain ⟨u, e1, e2⟩ := atI_rel r1 ed
      exact .inl ⟨l, vs, i, u, rfl, rfl, .of h1, e1, q u H (Same.refl H) e2⟩
    | tuple xs =>
      obtain ⟨d, ed, rfl⟩ := Option.map_eq_some_iff.mp (show (atI xs i).map EV.d = some z from e)
      obtain ⟨l, vs, rfl, h1, r1⟩ := hx.tupT
      obtain ⟨u, e1, e2⟩ := atI_rel r1 ed
      exact .inr (.inl ⟨l, vs, i, u, rfl, rfl, h1, e1, q u H (Same.refl H) e2⟩)
    | str s =>
      obtain rfl := hx.str
      unfold ixD at e; dsimp only at e
      split at e
      · rename_i hl
        obtain ⟨d, ed, rfl⟩ := Option.map_eq_some_iff.mp e
        exact .inr (.inr ⟨s, i, d, rfl, rfl, by rw [sizeLine_eq]; exact hl, ed, q _ H (Same.refl H) (by show Rp _ _ _ _ _; simp only [Rp])⟩)
      · cases e
    | _ => cases e
  | _ => cases x <;> cases e
/-! slices -/
def vPart : Option (VM EV) → VM (Option Int)
  | none => vr none
  | some f => vb f fun r => match r with
    | .d (.int i) => vr (some i)
    | _ => vStuck
def tVO (K : PySem.W.Frag) (mg : Str → Option Value) (W : WX) (f : VM (Option Int)) : TO := fun σ H Q =>
  ∃ O st, FR K O st σ H ∧ VRun K mg W O st σ H (f st) fun o st' => ∀ H', Step K O st σ H st' σ H' → Q o H'
abbrev VO (X : Cx) (W : WX) (e : Option Expr) (f : VM (Option Int)) : Prop := PO X e (tVO X.K X.mg W f)
theorem PO.wk {X : Cx} {e : Option Expr} {t t' : TO} (h : PO X e t) (w : ∀ σ H Q, t' σ H Q → t σ H Q) : PO X e t' := ⟨fun pins s σ H Q I q => h.run pins s σ H Q I (w σ H Q q)⟩
theorem vo_none : VO X W none (vPart none) := PO.wk po_none fun σ H Q ⟨O, st, F, h⟩ => h H (Step.refl F)
theorem vo_some (h : VE X W e fe) : VO X W (some e) (vPart (some fe)) := by
  refine PO.wk (po_some h) fun σ H Q h => ?_
  obtain ⟨O, st, F, h⟩ := h
  refine tV.bind F h fun r s1 v H1 S1 E1 h => ?_
  cases r with
  | d x =>
    cases x with
    | int i =>
      have E1 : Rp X.K (Av O s1 σ) H1 (.int i) v := E1
      simp only [Rp] at E1
      exact ⟨i, E1, h H1 S1⟩
    | _ => exact h.elim
  | _ => exact h.elim
def cutD (xs : List Da) (lo hi : Option Int) : List Da := (xs.drop (HT.sIx xs.length 0 lo)).take (HT.sIx xs.length xs.length hi - HT.sIx xs.length 0 lo)
def slD (x : Da) (lo hi : Option Int) : Option EV :=
  match x with
  | .list xs => some (.own (.l (cutD xs lo hi)))
  | .tuple xs => some (.d (.tuple (cutD xs lo hi)))
  | .str z => if z.length ≤ 16777216 then some (.d (.str (cutS z lo hi))) else none
  | _ => none
/-- what may be cut: a datum, a loan, the script -/
def vRdS (r : EV) : VM Da := fun s =>
  match r with
  | .loan i =>
    match s[i]? with
    | some (.rd xs) => .ok (.list xs, s)
    | _ => vRd (.loan i) s
  | r => vRd r s
def vSl (fe : VM EV) (lo hi : VM (Option Int)) : VM EV := vb fe fun r => vb lo fun l => vb hi fun h => vb (vRdS (settle r)) fun x => vOpt (slD x l h)
theorem RpL.cut {K : PySem.W.Frag} {O : AS} {H : Hp} {xs : List Da} {vs : List V} (R : RpL K O H xs vs) (lo hi : Option Int) : RpL K O H (cutD xs lo hi) (cutV vs lo hi) := by
  unfold cutD cutV
  rw [← R.length]
  exact (R.drop _).take _
theorem SlR.or3 {r r' r'' : V → Option Int → Option Int → Hp → VK → Prop} (h : SlR X r) (h' : SlR X r') (h'' : SlR X r'') : SlR X (fun x lo hi H Q => r x lo hi H Q ∨ r' x lo hi H Q ∨ r'' x lo hi H Q) := SlR.or h (SlR.or h' h'')
theorem ve_slice {lo hi : Option Expr} {p2 : Pos} {fl fh : VM (Option Int)} (he : VE X W e fe) (hl : VO X W lo fl) (hh : VO X W hi fh) : VE X W (.Subscript e (.Slice lo hi none p2) pos) (vSl fe fl fh) := by
  refine PE.wk (pe_slice (SlR.or3 sl_list sl_tupA sl_str) he hl hh) fun σ H Q h => ?_
  obtain ⟨O, st, F, h⟩ := h
  refine tV.bind F h fun r s1 v H1 S1 E1 h => ?_
  refine ⟨O, s1, S1.fr, (vrun_vb h).mono fun l s2 q H2 S2 => ?_⟩
  refine ⟨O, s2, S2.fr, (vrun_vb (VRun.step S2 q)).mono fun u s3 q H3 S3 => ?_⟩
  have h := VRun.step S3 q
  have S := (S1.trans S2).trans S3
  have E3 := ((E1.settle (H1 := H)).later S2 (H2 := H)).later S3 (H2 := H)
  -- the script
  by_cases hr : ∃ i xs, settle r = .loan i ∧ s3[i]? = some (.rd xs)
  · obtain ⟨i, xs, er, ei⟩ := hr
    have : vb (vRdS (settle r)) (fun x => vOpt (slD x l u)) s3 = vOpt (slD (.list xs) l u) s3 := by
      unfold vb vRdS
      rw [er]; dsimp only; rw [ei]
    rw [this] at h
    rw [er] at E3
    have E3 : σ[i]? = some (some v) := E3
    obtain ⟨ov, eov, ad, vs, eo, rd, R⟩ := S3.fr.slot i _ ei
    rw [E3] at eov
    cases eov
    cases eo
    exact .inl ⟨ad, vs, rfl, rd.sq, fun p hp => h _ _ (S.trans (Step.ext S.fr (Same.upd hp))) ((NR.er S3.fr (Same.upd hp) (NR.lst (R.cut l u) hp)).back S.dom)⟩
  · have : vRdS (settle r) s3 = vRd (settle r) s3 := by
      unfold vRdS
      split
      · rename_i i er
        split
        · rename_i xs ei; exact absurd ⟨i, xs, er, ei⟩ hr
        · rw [er]
      · rfl
    have h' : VRun X.K X.mg W O s3 σ H3 (vb (vRd (settle r)) (fun x => vOpt (slD x l u)) s3) fun r st' => ∀ (v : V) (H' : Hp), Step X.K O st σ H st' σ H' → ER X.K O H st' σ H' v r → Q v H' := by
      unfold vb at h ⊢
      rw [this] at h; exact h
    obtain ⟨x, Rx, h'⟩ := h'.rd S3.fr E3
    obtain ⟨z, ez, h'⟩ := h'.opt1
    cases x with
    | list xs =>
      cases ez
      obtain ⟨ad, vs, rfl, h1, R⟩ := Rx.list
      exact .inl ⟨ad, vs, rfl, .of h1, fun p hp => h' _ _ (S.trans (Step.ext S.fr (Same.upd hp))) ((NR.er S3.fr (Same.upd hp) (NR.lst (R.cut l u) hp)).back S.dom)⟩
    | tuple xs =>
      cases ez
      have Rt := Rx.tup
      obtain ⟨ad, vs, rfl, h1, R⟩ := Rx.tupT
      refine .inr (.inl ⟨ad, vs, rfl, h1, fun hw => ?_, fun _ p hp => ?_⟩)
      · have e : cutD xs l u = xs := by
          unfold cutD
          rw [R.length, hw.1, hw.2, List.drop_zero, ← R.length, Nat.sub_zero, List.take_length]
        rw [e] at h'
        exact h' _ _ S Rt
      · exact h' _ _ (S.trans (Step.ext S.fr (Same.upd hp))) ((NR.er S3.fr (Same.upd hp) (NR.tup S3.fr.avdom (R.cut l u) hp)).back S.dom)
    | str z =>
      obtain rfl := Rx.str
      unfold slD at ez; dsimp only at ez
      split at ez
      · rename_i hz; cases ez
        exact .inr (.inr ⟨z, rfl, by rw [sizeLine_eq]; exact hz, h' _ _ S (by show Rp _ _ _ _ _; simp only [Rp])⟩)
      · cases ez
    | _ => cases ez
end
end VL
set_option Elab.async false
set_option linter.all false
set_option maxRecDepth 100000
namespace VL
open PySem PySem.Spec PyProof.Rows L2
/-! ### what a slot owns is changed -/
def putC (i : Nat) (c : OC) (s : VS) : VS := match s[i]? with
  | some (.own _) => s.set i (.own c)
  | some (.io _) => s.set i (.io c)
  | _ => s
/-- the list of its own that a result stands for, where it may be changed -/
def mutL (r : EV) (s : VS) : Option (Nat × List Da) := match r with
  | .loan i => match s[i]? with
    | some (.own (.l xs)) => some (i, xs)
    | some (.io (.l xs)) => some (i, xs)
    | _ => none
  | _ => none
def mutM (r : EV) (s : VS) : Option (Nat × List (Da × Da)) := match r with
  | .loan i => match s[i]? with
    | some (.own (.m xs)) => some (i, xs)
    | some (.io (.m xs)) => some (i, xs)
    | _ => none
  | _ => none
section
variable {K : PySem.W.Frag} {mg : Str → Option Value} {W : WX} {O O' : AS} {st st1 st2 : VS} {σ σ1 σ2 : L2.St} {H H0 H1 H2 : Hp} {v : V} {r : EV}
theorem FR.put {i : Nat} {p : Addr} {c c' : OC} {o : HO} (F : FR K O st σ H) (hs : st[i]? = some (.own c) ∨ st[i]? = some (.io c)) (hp : σ[i]? = some (some (.ref p))) (hC : Cont K (Av O st σ) (upd H p o) p c') :
    Step K O st σ H (putC i c' st) σ (upd H p o) := by
  have hi : i < st.length := by
    by_cases h : i < st.length
    · exact h
    · rw [List.getElem?_eq_none (by omega)] at hs; rcases hs with h | h <;> cases h
  have ip : OwnAt st σ i p := ⟨hp, c, hs.imp id .inl⟩
  obtain ⟨sv, hsv, hput, hkind⟩ : ∃ sv, (sv = .own c' ∨ sv = .io c') ∧ putC i c' st = st.set i sv ∧ ((sv = .own c' ∧ st[i]? = some (.own c)) ∨ (sv = .io c' ∧ st[i]? = some (.io c))) := by
    rcases hs with h | h
    · exact ⟨.own c', .inl rfl, by unfold putC; rw [h], .inl ⟨rfl, h⟩⟩
    · exact ⟨.io c', .inr rfl, by unfold putC; rw [h], .inr ⟨rfl, h⟩⟩
  rw [hput]
  have hσ : σ.set i (some (.ref p)) = σ := by
    apply List.ext_getElem?
    intro j
    by_cases hj : j = i
    · subst hj; rw [List.getElem?_set_self (by rw [← F.len]; exact hi), hp]
    · rw [List.getElem?_set_ne (Ne.symm hj)]
  have own : ∀ j q, OwnAt (st.set i sv) σ j q → OwnAt st σ j q := fun j q h => by
    rw [← hσ] at h
    rcases h.set with ⟨rfl, e, _⟩ | ⟨_, h⟩
    · cases e; exact ip
    · exact h
  have muto : ∀ j q, MutAt (st.set i sv) σ j q → MutAt st σ j q := fun j q h => by
    rw [← hσ] at h
    rcases h.set with ⟨rfl, e, _⟩ | ⟨_, h⟩
    · cases e; exact ⟨hp, c, hs⟩
    · exact h
  have own' : ∀ j q, OwnAt st σ j q → OwnAt (st.set i sv) σ j q := fun j q h => by
    by_cases hj : j = i
    · subst hj
      have : q = p := by
        have := h.1
        rw [hp] at this; cases this; rfl
      subst this
      exact ⟨hp, c', by rw [List.getElem?_set_self hi]; rcases hsv with rfl | rfl; exact .inl rfl; exact .inr (.inl rfl)⟩
    · obtain ⟨e, c, h⟩ := h
      exact ⟨e, c, by rw [List.getElem?_set_ne (Ne.symm hj)]; exact h⟩
  have av : ∀ a, Av O (st.set i sv) σ a → Av O st σ a := fun a h => h.imp id fun ⟨j, h⟩ => ⟨j, own j a h⟩
  have pAv : Av O st σ p := .inr ⟨i, ip⟩
  have hH : ∀ a o', H a = some o' → ¬ Av O st σ a → upd H p o a = some o' := fun a o' e n => by
    rw [upd_ne fun z => n (by rw [z]; exact pAv)]; exact e
  have old : ∀ a o', H a = some o' → a ≠ p → upd H p o a = some o' := fun a o' e n => by rw [upd_ne n]; exact e
  refine ⟨⟨by rw [List.length_set]; exact F.len, fun j sv' h => ?_, fun a b q h1 h2 => F.inj a b q (own a q h1) (own b q h2), fun q ⟨j, h⟩ => F.avoid q ⟨j, own j q h⟩, fun q h z => ?_⟩, fun a o' e n => ?_, fun a ⟨j, h⟩ => .inl ⟨j, own j a h⟩, fun a ⟨j, h⟩ => .inl ⟨j, muto j a h⟩, fun a h => ?_, rfl, fun j c2 h => ?_, fun j c2 h => ?_⟩
  · by_cases hj : j = i
    · subst hj
      rw [List.getElem?_set_self hi] at h
      cases h
      refine ⟨_, hp, ?_⟩
      rcases hsv with rfl | rfl
      · exact ⟨p, rfl, hC.sub av⟩
      · exact ⟨p, rfl, hC.sub av⟩
    · rw [List.getElem?_set_ne (Ne.symm hj)] at h
      obtain ⟨v, e, s⟩ := F.slot j sv' h
      refine ⟨v, e, ?_⟩
      have hc : ∀ q cc, OwnAt st σ j q → Cont K (Av O st σ) H q cc → Cont K (Av O (st.set i sv) σ) (upd H p o) q cc := fun q cc hq C => by
        refine (C.mono (fun _ z => .inl z) hH ?_).sub av
        exact upd_ne fun z => hj (F.inj j i p (z ▸ hq) ip)
      cases sv' with
      | un => trivial
      | d x => obtain ⟨w, e, r⟩ := s; exact ⟨w, e, (Rp.mono (fun _ z => .inl z) hH _ _ r).sub av⟩
      | own cc => obtain ⟨q, eq, C⟩ := s; subst eq; exact ⟨q, rfl, hc q cc ⟨e, cc, .inl h⟩ C⟩
      | io cc => obtain ⟨q, eq, C⟩ := s; subst eq; exact ⟨q, rfl, hc q cc ⟨e, cc, .inr (.inl h)⟩ C⟩
      | lk cc => obtain ⟨q, eq, C⟩ := s; subst eq; exact ⟨q, rfl, hc q cc ⟨e, cc, .inr (.inr h)⟩ C⟩
      | rd xs =>
        obtain ⟨a, vs, e, r, q⟩ := s
        exact ⟨a, vs, e, r.mono (fun a z => .inl (av a z)) hH, (RpL.mono (fun _ z => .inl z) hH _ _ q).sub av⟩
  · by_cases hq : q = p
    · subst hq; rw [upd_same] at z; cases z
    · rw [upd_ne hq] at z; exact F.odom q h z
  · exact old a o' e fun z => n ⟨i, by rw [z]; exact ⟨hp, c, hs⟩⟩
  · by_cases hq : a = p
    · subst hq; rw [upd_same] at h; cases h
    · rw [upd_ne hq] at h; exact h
  · by_cases hj : j = i
    · subst hj
      rcases hkind with ⟨rfl, e⟩ | ⟨rfl, e⟩
      · rw [e] at h; cases h
      · exact ⟨⟨c', List.getElem?_set_self hi⟩, rfl⟩
    · exact ⟨⟨c2, by rw [List.getElem?_set_ne (Ne.symm hj)]; exact h⟩, rfl⟩
  · have hj : j ≠ i := fun z => by
      subst z
      rcases hs with q | q <;> (rw [q] at h; cases h)
    exact ⟨by rw [List.getElem?_set_ne (Ne.symm hj)]; exact h, rfl⟩
theorem mutL_ok {i : Nat} {xs : List Da} (F : FR K O st σ H) (E : ER K O H0 st σ H v r) (e : mutL r st = some (i, xs)) :
    ∃ p vs, v = .ref p ∧ σ[i]? = some (some (.ref p)) ∧ (st[i]? = some (.own (.l xs)) ∨ st[i]? = some (.io (.l xs))) ∧ H p = some (.lst vs) ∧ RpL K (Av O st σ) H xs vs := by
  unfold mutL at e
  cases r with
  | loan j =>
    have E : σ[j]? = some (some v) := E
    dsimp only at e
    split at e
    · rename_i xs' hs; cases e
      obtain ⟨ov, eo, p, ep, vs, h1, h2⟩ := F.slot _ _ hs
      rw [E] at eo; cases eo; cases ep
      exact ⟨p, vs, rfl, E, .inl hs, h1, h2⟩
    · rename_i xs' hs; cases e
      obtain ⟨ov, eo, p, ep, vs, h1, h2⟩ := F.slot _ _ hs
      rw [E] at eo; cases eo; cases ep
      exact ⟨p, vs, rfl, E, .inr hs, h1, h2⟩
    · cases e
  | _ => cases e
end
/-- a method that changes its list: g the list's new items and what comes back -/
def MutV (X : Cx) (id : String) (g : List Da → List Da → Option (List Da × Da)) : Prop :=
  ∃ r, MtR X id r ∧ ∀ O H p ws xs vs as ys z (Q : VK), H p = some (.lst ws) → RpL X.K O H xs ws → RpL X.K O H as vs → g xs as = some (ys, z) →
    (∀ u ws', RpL X.K O H ys ws' → Rp X.K O H z u → Q u (upd H p (.lst ws'))) → r (.ref p) vs H Q
/-- .. its arguments only read -/
def MutB (X : Cx) (id : String) (g : List Da → List Da → Option (List Da × Da)) : Prop :=
  ∃ r, MtR X id r ∧ ∀ O H p ws xs vs as ys z (Q : VK), H p = some (.lst ws) → RpL X.K O H xs ws → RoL X.K O H as vs → g xs as = some (ys, z) →
    (∀ u ws', RpL X.K O H ys ws' → Rp X.K O H z u → Q u (upd H p (.lst ws'))) → r (.ref p) vs H Q
/-- the receiver stands for a list that may be changed -/
def vIsL (r : EV) : VM Unit := fun s => if (mutL r s).isSome then .ok ((), s) else .error .stuck
def vApp (g : List Da → List Da → Option (List Da × Da)) (r : EV) (as : List Da) : VM EV := fun s =>
  match mutL r s with
  | some (i, xs) => match g xs as with
    | some (ys, z) => .ok (.d z, putC i (.l ys) s)
    | none => .error .stuck
  | none => .error .stuck
def vMut (g : List Da → List Da → Option (List Da × Da)) (fo : VM EV) (fs : VM (List EV)) : VM EV := vb fo fun ro => vb (vIsL ro) fun _ => vb fs fun rs => vb (vOpt (dts rs)) fun as => vApp g ro as
def vMutB (g : List Da → List Da → Option (List Da × Da)) (fo : VM EV) (fs : VM (List EV)) : VM EV := vb fo fun ro => vb (vIsL ro) fun _ => vb fs fun rs => vb (vRds rs) fun as => vApp g ro as
def vMut0 (g : List Da → List Da → Option (List Da × Da)) (fo : VM EV) : VM EV := vb fo fun ro => vb (vIsL ro) fun _ => vApp g ro []
section
variable {X : Cx} {W : WX} {a b c e o : Expr} {es : List Expr} {pos p : Pos} {fa fb fc fe fo : VM EV} {fs : VM (List EV)} {ga gb : VM Bool}
section
variable {K : PySem.W.Frag} {mg : Str → Option Value} {O : AS} {st s2 : VS} {σ : L2.St} {H H0 H1 H2 : Hp} {v : V} {r : EV} {Q : VK} {as : List Da} {g : List Da → List Da → Option (List Da × Da)}
theorem putL {i : Nat} {p : Addr} {xs ys : List Da} {ws' : List V} (F : FR K O s2 σ H2) (hst : s2[i]? = some (.own (.l xs)) ∨ s2[i]? = some (.io (.l xs))) (hσ : σ[i]? = some (some (.ref p))) (R' : RpL K (Av O s2 σ) H2 ys ws') :
    Step K O s2 σ H2 (putC i (.l ys) s2) σ (upd H2 p (.lst ws')) := by
  have pAv : Av O s2 σ p := .inr ⟨i, hσ, _, hst.imp id .inl⟩
  refine F.put hst hσ ⟨ws', upd_same, RpL.mono (fun _ z => .inl z) (fun a o' e n => ?_) _ _ R'⟩
  rw [upd_ne fun z => n (by rw [z]; exact pAv)]; exact e
theorem VRun.isL {α : Type} {k : α → VS → Prop} {f : Unit → VM α} (F : FR K O st σ H) (E : ER K O H0 st σ H v r) (h : VRun K mg W O st σ H (vb (vIsL r) f st) k) :
    (∃ p vs, v = .ref p ∧ H p = some (.lst vs)) ∧ VRun K mg W O st σ H (f () st) k := by
  unfold vb vIsL at h
  by_cases q : (mutL r st).isSome = true
  · rw [if_pos q] at h
    obtain ⟨⟨i, xs⟩, e⟩ := Option.isSome_iff_exists.mp q
    obtain ⟨p, vs, e1, _, _, e2, _⟩ := mutL_ok F E e
    exact ⟨⟨p, vs, e1, e2⟩, h⟩
  · rw [if_neg q] at h; exact h.elim
theorem VRun.app (S : Step K O st σ H s2 σ H2) (E : ER K O H0 s2 σ H2 v r)
    (h : VRun K mg W O s2 σ H2 (vApp g r as s2) fun r st' => ∀ v H', Step K O st σ H st' σ H' → ER K O H st' σ H' v r → Q v H') :
    ∃ p ws xs ys z, v = .ref p ∧ H2 p = some (.lst ws) ∧ RpL K (Av O s2 σ) H2 xs ws ∧ g xs as = some (ys, z) ∧ (∀ u ws', RpL K (Av O s2 σ) H2 ys ws' → Rp K (Av O s2 σ) H2 z u → Q u (upd H2 p (.lst ws'))) := by
  unfold vApp at h
  cases em : mutL r s2 with
  | none => rw [em] at h; exact h.elim
  | some ix =>
    obtain ⟨i, xs⟩ := ix
    rw [em] at h
    dsimp only at h
    cases eg : g xs as with
    | none => rw [eg] at h; exact h.elim
    | some yz =>
      obtain ⟨ys, z⟩ := yz
      rw [eg] at h
      obtain ⟨p, ws, rfl, hσ, hst, hp, R⟩ := mutL_ok S.fr E em
      refine ⟨p, ws, xs, ys, z, rfl, hp, R, eg, fun u ws' R' Rz => ?_⟩
      have S2 := putL S.fr hst hσ R'
      exact h u _ (S.trans S2) (S2.rp Rz)
theorem ER.loan_later {s1 : VS} (E : ER K O H0 s1 σ H v r) (S : Step K O s1 σ H s2 σ H1) : ∃ H0 r', ER K O H0 s2 σ H1 v r' ∧ (∀ as, vApp g r as = vApp g r' as) := by
  cases r with
  | loan i => exact ⟨H0, .loan i, E, fun _ => rfl⟩
  | d x => exact ⟨H0, .d x, S.rp E, fun _ => rfl⟩
  | own c => exact ⟨H0, .d c.data, (E.settle (H1 := H0)).later S (H2 := H0), fun _ => rfl⟩
end
theorem ve_mut {name : Str} {id : String} {apos cpos : Pos} {g : List Da → List Da → Option (List Da × Da)} (pa : PlainAttrs "list") (slot : Slot "list" name id) (hty : typeOf (.builtin id) = pure (.type "method_descriptor")) (hm : MutV X id g) (ho : VE X W o fo) (ha : VA X W (e :: es) fs)
    (hbase : attributeBase o name X.env (eval o X.env) = eval o X.env := by rfl)
    (hfew : ((backTo cpos (starEach (e :: es) X.env)).all (fun x => !x.1) && (backToKw cpos (keywordEach [] X.env)).all (fun x => x.1.isSome)
      && decide ((e :: es).length + ([] : List Keyword).length + (if ([] : List Keyword).isEmpty then 0 else 1) < 30)) = true := by rfl)
    (hline : (apos.endLine == cpos.line) = true := by rfl) (hs : starEach (e :: es) X.env = (false, eval e X.env) :: starEach es X.env := by rfl) (hplain : (backTo cpos (starEach es X.env)).any (·.1) = false := by rfl) :
    VE X W (.Call (.Attribute o name apos) (e :: es) [] cpos) (vMut g fo fs) := by
  obtain ⟨r, hr, hg⟩ := hm
  refine PE.wk (pe_bm pa slot hty hr ho ha hbase hfew hline hs hplain) fun σ H Q h => ?_
  obtain ⟨O, st, F, h⟩ := h
  refine tV.bind F h fun ro s1 v H1 S1 E1 h => ?_
  obtain ⟨⟨p, vs, rfl, hp⟩, h⟩ := VRun.isL S1.fr E1 h
  refine ⟨.inl ⟨rfl, vs, .of hp⟩, tVA.bind S1.fr h fun rs s2 as H2 S2 E2 h => ?_⟩
  obtain ⟨xs, ea, h⟩ := h.opt
  obtain ⟨H0, r', E', em⟩ := E1.loan_later (g := g) S2
  rw [em] at h
  obtain ⟨p', ws, ys, zs, z, ep, hp', R, eg, q⟩ := VRun.app (S1.trans S2) E' h
  cases ep
  exact hg _ H2 p ws ys as xs zs z Q hp' R (E2.dts ea) eg q
theorem ve_mutB {name : Str} {id : String} {apos cpos : Pos} {g : List Da → List Da → Option (List Da × Da)} (pa : PlainAttrs "list") (slot : Slot "list" name id) (hty : typeOf (.builtin id) = pure (.type "method_descriptor")) (hm : MutB X id g) (ho : VE X W o fo) (ha : VA X W (e :: es) fs)
    (hbase : attributeBase o name X.env (eval o X.env) = eval o X.env := by rfl)
    (hfew : ((backTo cpos (starEach (e :: es) X.env)).all (fun x => !x.1) && (backToKw cpos (keywordEach [] X.env)).all (fun x => x.1.isSome)
      && decide ((e :: es).length + ([] : List Keyword).length + (if ([] : List Keyword).isEmpty then 0 else 1) < 30)) = true := by rfl)
    (hline : (apos.endLine == cpos.line) = true := by rfl) (hs : starEach (e :: es) X.env = (false, eval e X.env) :: starEach es X.env := by rfl) (hplain : (backTo cpos (starEach es X.env)).any (·.1) = false := by rfl) :
    VE X W (.Call (.Attribute o name apos) (e :: es) [] cpos) (vMutB g fo fs) := by
  obtain ⟨r, hr, hg⟩ := hm
  refine PE.wk (pe_bm pa slot hty hr ho ha hbase hfew hline hs hplain) fun σ H Q h => ?_
  obtain ⟨O, st, F, h⟩ := h
  refine tV.bind F h fun ro s1 v H1 S1 E1 h => ?_
  obtain ⟨⟨p, vs, rfl, hp⟩, h⟩ := VRun.isL S1.fr E1 h
  refine ⟨.inl ⟨rfl, vs, .of hp⟩, tVA.bind S1.fr h fun rs s2 as H2 S2 E2 h => ?_⟩
  obtain ⟨xs, ea, h⟩ := E2.rds S2.fr h
  obtain ⟨H0, r', E', em⟩ := E1.loan_later (g := g) S2
  rw [em] at h
  obtain ⟨p', ws, ys, zs, z, ep, hp', R, eg, q⟩ := VRun.app (S1.trans S2) E' h
  cases ep
  exact hg _ H2 p ws ys as xs zs z Q hp' R ea eg q
theorem ve_mut0 {name : Str} {id : String} {apos cpos : Pos} {g : List Da → List Da → Option (List Da × Da)} (pa : PlainAttrs "list") (slot : Slot "list" name id) (hty : typeOf (.builtin id) = pure (.type "method_descriptor")) (hm : MutV X id g) (ho : VE X W o fo)
    (hbase : attributeBase o name X.env (eval o X.env) = eval o X.env := by rfl) (hline : (apos.endLine == cpos.line) = true := by rfl) :
    VE X W (.Call (.Attribute o name apos) [] [] cpos) (vMut0 g fo) := by
  obtain ⟨r, hr, hg⟩ := hm
  refine PE.wk (pe_bm0 pa slot hty hr ho hbase hline) fun σ H Q h => ?_
  obtain ⟨O, st, F, h⟩ := h
  refine tV.bind F h fun ro s1 v H1 S1 E1 h => ?_
  obtain ⟨⟨p, vs, rfl, hp⟩, h⟩ := VRun.isL S1.fr E1 h
  refine ⟨.inl ⟨rfl, vs, .of hp⟩, ?_⟩
  obtain ⟨p', ws, ys, zs, z, ep, hp', R, eg, q⟩ := VRun.app S1 E1 h
  cases ep
  exact hg _ H1 p ws ys [] [] zs z Q hp' R .nil eg q
/-! append, extend, pop, insert -/
theorem cap_lt {n m : Nat} (e : n = m) (h : n < 16777216) : m < sizeLine := by subst e; have := sizeLine_eq; omega
theorem cap_le {n m : Nat} (e : n = m) (h : n ≤ 16777216) : m ≤ sizeLine := by subst e; have := sizeLine_eq; omega
def appendD : List Da → List Da → Option (List Da × Da)
  | xs, [x] => if xs.length < 16777216 then some (xs ++ [x], .none) else none
  | _, _ => none
theorem m_append : MutV X "list.append" appendD := by
  refine ⟨rAppend, mt_append, fun O H p ws xs vs as ys z Q hp R Ra e q => ?_⟩
  match as, Ra, e with
  | [x], Ra, e =>
    unfold appendD at e; dsimp only at e
    split at e
    · rename_i hl; cases e
      simp only [RpL] at Ra
      obtain ⟨w, r, rfl, Rx, rfl⟩ := Ra
      exact ⟨p, ws, w, rfl, rfl, hp, cap_lt R.length hl, q .non _ (R.append (.one Rx)) (by simp only [Rp])⟩
    · cases e
def extendD : List Da → List Da → Option (List Da × Da)
  | xs, [.list zs] => if xs.length + zs.length ≤ 16777216 then some (xs ++ zs, .none) else none
  | xs, [.tuple zs] => if xs.length + zs.length ≤ 16777216 then some (xs ++ zs, .none) else none
  | _, _ => none
theorem list_extend_tup (l : Addr) (items : Array Value) (n : Nat) (b : Addr) (items2 : Array Value) (n2 : Nat) (dd : Option Addr) (sl : Array (Option Value)) (hs0 : ¬(!items.isEmpty && Builtin.List.listTooLong (items.size + items2.size)) = true) (hs1 : items.size ≤ sizeLine) (hs2 : items.size + items2.size ≤ sizeLine + 1) :
    Meets (Builtin.«list.extend» ⟨[.ref l, .ref b], []⟩) (fun _ R s => s.heap.get? l = some { cls := .type "list", dict := none, data := .seq items n, slots := #[] } ∧ s.heap.get? b = some { cls := .type "tuple", dict := dd, data := .seq items2 n2, slots := sl } ∧ R (.ok (.ret Value.none)) { s with heap := s.heap.update l (Obj.mapSeq fun x => x ++ items2), toks := s.toks }) :=
  .of_wp fun prog w A R s h => by
    obtain ⟨hp, g, d, tk, os⟩ := s; obtain ⟨hl, hb, h⟩ := h; have f1 := AutoSeq1.idx_int; have f2 := AutoSeq1.sub_tuple_tuple; have f3 := AutoSeq1.sub_list_list; have f4 := AutoSeq1.sub_tuple_list; have f5 := AutoSeq1.sub_list_tuple;
    have hz' : (items ++ items2).size ≤ sizeLine + 1 := by rw [Array.size_append]; exact hs2
    wp_walk using (wpAny_updateSeq hl rfl (hz := hs1) (_hz' := hz')), wpAny_loadPart' hl, wpAny_loadPart' hb; exact ⟨_, rfl, h⟩
def rExtendT (K : PySem.W.Frag) : V → List V → Hp → VK → Prop := fun x vs H Q => ∃ l b xs zs, x = .ref l ∧ vs = [.ref b] ∧ H l = some (.lst xs) ∧ SqT K H b zs ∧ xs.length + zs.length ≤ sizeLine ∧ Q .non (upd H l (.lst (xs ++ zs)))
theorem mt_extendT : MtR X "list.extend" (rExtendT X.K) := by
  intro pins s σ H x vs v us Q I rx rv h
  obtain ⟨l, b, xs, zs, rfl, rfl, hH, hB, hz, q⟩ := h
  cases rx
  obtain ⟨u, rfl, ru⟩ := rv.one
  cases ru
  obtain ⟨z, its, n, r, hl, e⟩ := I.lstM hH
  obtain ⟨its2, r2, ⟨⟨cls, dd, data, sl⟩, e2, hc, n2, hd⟩, hz2⟩ := I.tuple hB
  simp only at hc hd
  subst hc hd
  have hl2 := r2.length
  have hsz : its.toArray.size + its2.toArray.size ≤ sizeLine := by rw [List.size_toArray, List.size_toArray]; omega
  have hlong : ¬ (!its.toArray.isEmpty && Builtin.List.listTooLong (its.toArray.size + its2.toArray.size)) = true := by
    rw [notLongL hsz, Bool.and_false]
    exact Bool.false_ne_true
  refine call_meets F.slot_list_extend ⟨_, e, rfl⟩ F.entry_list_extend (F.args_list_extend_2 _ _)
    (list_extend_tup l its.toArray n b its2.toArray n2 dd sl hlong (by rw [List.size_toArray]; omega) (by omega)) ⟨e, e2, ?_⟩
  refine ⟨.non, _, I.lset (its' := its ++ its2) hH e (by simp) (r.append r2) ?_, rfl, q⟩
  rw [List.length_append]
  omega
theorem MtR.or {id : String} {r r' : V → List V → Hp → VK → Prop} (h : MtR X id r) (h' : MtR X id r') : MtR X id (fun x xs H Q => r x xs H Q ∨ r' x xs H Q) := by
  intro pins s σ H x xs v us Q I rx rv q
  rcases q with q | q
  · exact h pins s σ H x xs v us Q I rx rv q
  · exact h' pins s σ H x xs v us Q I rx rv q
theorem extendD_some {xs as ys : List Da} {z : Da} (e : extendD xs as = some (ys, z)) : ∃ zs, (as = [.list zs] ∨ as = [.tuple zs]) ∧ xs.length + zs.length ≤ 16777216 ∧ ys = xs ++ zs ∧ z = .none := by
  unfold extendD at e
  split at e
  · split at e
    · rename_i zs hl; cases e; exact ⟨zs, .inl rfl, hl, rfl, rfl⟩
    · cases e
  · split at e
    · rename_i zs hl; cases e; exact ⟨zs, .inr rfl, hl, rfl, rfl⟩
    · cases e
  · cases e
theorem m_extend : MutB X "list.extend" extendD := by
  refine ⟨_, MtR.or (show MtR X "list.extend" rExtend from mt_extend) mt_extendT, fun O H p ws xs vs as ys z Q hp R Ra e q => ?_⟩
  obtain ⟨zs, ea, hl, rfl, rfl⟩ := extendD_some e
  have hw := R.length
  rcases ea with rfl | rfl
  · simp only [RoL] at Ra
    obtain ⟨w, r, rfl, Rx, rfl⟩ := Ra
    obtain ⟨b, us, rfl, hb, Rz⟩ := Rx.list
    exact .inl ⟨p, b, ws, us, rfl, rfl, hp, hb, cap_le (by rw [hw, Rz.length]) hl, q .non _ (R.append Rz) (by simp only [Rp])⟩
  · simp only [RoL] at Ra
    obtain ⟨w, r, rfl, Rx, rfl⟩ := Ra
    obtain ⟨b, us, rfl, hb, Rz⟩ := Rx.tupT
    exact .inr ⟨p, b, ws, us, rfl, rfl, hp, hb, cap_le (by rw [hw, Rz.length]) hl, q .non _ (R.append Rz) (by simp only [Rp])⟩
def popD : List Da → List Da → Option (List Da × Da)
  | xs, [] => xs[xs.length - 1]?.map fun y => (xs.dropLast, y)
  | _, _ => none
theorem RpL.dropLast {K : PySem.W.Frag} {O : AS} {H : Hp} {xs : List Da} {vs : List V} (R : RpL K O H xs vs) : RpL K O H xs.dropLast vs.dropLast := by
  rw [List.dropLast_eq_take, List.dropLast_eq_take, ← R.length]; exact R.take _
theorem RpL.eraseIdx {K : PySem.W.Frag} {O : AS} {H : Hp} {xs : List Da} {vs : List V} (R : RpL K O H xs vs) (k : Nat) : RpL K O H (xs.eraseIdx k) (vs.eraseIdx k) := by
  rw [List.eraseIdx_eq_take_drop_succ, List.eraseIdx_eq_take_drop_succ]; exact (R.take _).append (R.drop _)
theorem m_pop : MutV X "list.pop" popD := by
  refine ⟨rPop, mt_pop, fun O H p ws xs vs as ys z Q hp R Ra e q => ?_⟩
  match as, Ra, e with
  | [], Ra, e =>
    simp only [RpL] at Ra; subst Ra
    obtain ⟨y, e1, e2⟩ := Option.map_eq_some_iff.mp (show xs[xs.length - 1]?.map _ = some (ys, z) from e)
    cases e2
    obtain ⟨w, e3, Rw⟩ := R.get e1
    exact ⟨p, ws, w, rfl, rfl, hp, by rw [← R.length]; exact e3, q w _ R.dropLast Rw⟩
def popAtD : List Da → List Da → Option (List Da × Da)
  | xs, [.int i] => if -1000000000 ≤ i ∧ i < 1000000000 then (ixN xs.length i).bind fun k => xs[k]?.map fun y => (xs.eraseIdx k, y) else none
  | _, _ => none
theorem popAtD_some {xs as ys : List Da} {z : Da} (e : popAtD xs as = some (ys, z)) : ∃ i k, as = [.int i] ∧ -1000000000 ≤ i ∧ i < 1000000000 ∧ ixN xs.length i = some k ∧ xs[k]? = some z ∧ ys = xs.eraseIdx k := by
  unfold popAtD at e
  split at e
  · split at e
    · rename_i i hi
      obtain ⟨k, e0, e⟩ := Option.bind_eq_some_iff.mp e
      obtain ⟨y, e1, e2⟩ := Option.map_eq_some_iff.mp e
      cases e2
      exact ⟨i, k, rfl, hi.1, hi.2, e0, e1, rfl⟩
    · cases e
  · cases e
theorem m_popAt : MutV X "list.pop" popAtD := by
  refine ⟨rPopAt, mt_popAt, fun O H p ws xs vs as ys z Q hp R Ra e q => ?_⟩
  obtain ⟨i, k, rfl, h1, h2, e0, e1, rfl⟩ := popAtD_some e
  simp only [RpL, Rp] at Ra
  obtain ⟨w, r, rfl, rfl, rfl⟩ := Ra
  obtain ⟨w, e3, Rw⟩ := R.get e1
  exact ⟨p, ws, i, k, w, rfl, rfl, hp, by omega, by omega, by rw [← R.length]; exact (ixN_seq e0).1, e3, q w _ (R.eraseIdx k) Rw⟩
def insertD : List Da → List Da → Option (List Da × Da)
  | xs, [.int i, y] => if xs.length < 16777216 ∧ 0 ≤ i ∧ i < 1000000000 then some (xs.take i.toNat ++ [y] ++ xs.drop i.toNat, .none) else none
  | _, _ => none
theorem insertD_some {xs as ys : List Da} {z : Da} (e : insertD xs as = some (ys, z)) : ∃ i y, as = [.int i, y] ∧ xs.length < 16777216 ∧ 0 ≤ i ∧ i < 1000000000 ∧ ys = xs.take i.toNat ++ [y] ++ xs.drop i.toNat ∧ z = .none := by
  unfold insertD at e
  split at e
  · split at e
    · rename_i i y hi
      cases e
      exact ⟨i, y, rfl, hi.1, hi.2.1, hi.2.2, rfl, rfl⟩
    · cases e
  · cases e
theorem m_insert : MutV X "list.insert" insertD := by
  refine ⟨_, mt_insert, fun O H p ws xs vs as ys z Q hp R Ra e q => ?_⟩
  obtain ⟨i, y, rfl, h0, h1, h2, rfl, rfl⟩ := insertD_some e
  simp only [RpL] at Ra
  obtain ⟨w, r, rfl, Ri, w2, r2, rfl, Ry, rfl⟩ := Ra
  simp only [Rp] at Ri; subst Ri
  exact ⟨p, ws, i, w2, rfl, rfl, hp, cap_lt R.length h0, h1, by omega, q .non _ (((R.take _).append (.one Ry)).append (R.drop _)) (by simp only [Rp])⟩
end
end VL
set_option Elab.async false
set_option linter.all false
set_option maxRecDepth 100000
namespace VL
open PySem PySem.Spec PyProof.Rows L2
/-! ### targets that are given data -/
def gVD (K : PySem.W.Frag) (vs : List Nat) (f : Da → VM Unit) : TG := fun v σ H Q => ∃ O st x, FR K O st σ H ∧ Rp K (Av O st σ) H x v ∧
  okK (f x st) fun _ st' => ∀ σ' H', Step K O st σ H st' σ' H' → (∀ j, j ∉ vs → σ'[j]? = σ[j]?) → Q σ' H'
def gVDs (K : PySem.W.Frag) (vs : List Nat) (f : List Da → VM Unit) : TGs := fun ws σ H Q => ∃ O st xs, FR K O st σ H ∧ RpL K (Av O st σ) H xs ws ∧
  okK (f xs st) fun _ st' => ∀ σ' H', Step K O st σ H st' σ' H' → (∀ j, j ∉ vs → σ'[j]? = σ[j]?) → Q σ' H'
abbrev VGD (X : Cx) (vs : List Nat) (t : Expr) (f : Da → VM Unit) : Prop := PG X t (gVD X.K vs f)
abbrev VGDs (X : Cx) (vs : List Nat) (ts : List Expr) (f : List Da → VM Unit) : Prop := PGs X ts (gVDs X.K vs f)
theorem PGs.wk {X : Cx} {e : List Expr} {t t' : TGs} (h : PGs X e t) (w : ∀ v σ H Q, t' v σ H Q → t v σ H Q) : PGs X e t' := ⟨fun pins s σ H v u Q I r q => h.run pins s σ H v u Q I r (w v σ H Q q)⟩
def vSetD (i : Nat) (x : Da) : VM Unit := fun s => if wrOk s[i]? = true then .ok ((), s.set i (.d x)) else .error .stuck
def vUnp : List (Da → VM Unit) → List Da → VM Unit
  | [], [] => vr ()
  | f :: fs, x :: xs => vb (f x) fun _ => vUnp fs xs
  | _, _ => vStuck
def tupD : Da → Option (List Da)
  | .tuple xs => some xs
  | _ => none
def vUnpT (fs : List (Da → VM Unit)) (x : Da) : VM Unit := vb (vOpt (tupD x)) fun xs => vUnp fs xs
section
variable {X : Cx} {W : WX} {a b c e o : Expr} {es ts : List Expr} {pos p : Pos} {fa fb fc fe fo : VM EV} {fs : VM (List EV)} {ga gb : VM Bool} {f : Da → VM Unit} {fl : List (Da → VM Unit)} {ix : List Nat}
theorem gVD.name {K : PySem.W.Frag} {i : Nat} {v : V} {σ : L2.St} {H : Hp} {Q : L2.St → Hp → Prop} (hv : i ∈ ix) (h : gVD K ix (vSetD i) v σ H Q) : gName i v σ H Q := by
  obtain ⟨O, st, x, F, R, h⟩ := h
  unfold vSetD at h
  by_cases hw : wrOk st[i]? = true
  · rw [if_pos hw] at h
    exact h _ _ ((Step.refl F).setN hw ⟨v, rfl, R⟩ fun c => ⟨(fun z => by cases z), (fun z => by cases z), (fun z => by cases z)⟩) fun j hj => List.getElem?_set_ne fun z => hj (by rw [← z]; exact hv)
  · rw [if_neg hw] at h; exact h.elim
theorem vgd_name {i : Nat} {x : Str} (hN : X.N.Nodup) (hi : X.N[i]? = some x) (hx : Loc X.env.scope x) (hf : X.fn x = true ∨ X.env.scope.names.lookup x = some .local := by first | exact .inl rfl | exact .inr rfl | assumption) (hv : i ∈ ix := by decide) : VGD X ix (.Name x pos) (vSetD i) :=
  PG.wk (pg_name hN hi hx hf) fun v σ H Q h => h.name hv
theorem vgds_nil : VGDs X ix [] (vUnp []) := PGs.wk pgs_nil fun vs σ H Q ⟨O, st, xs, F, R, h⟩ => by
  cases xs with
  | nil => simp only [RpL] at R; exact ⟨R, h σ H (Step.refl F) fun _ _ => rfl⟩
  | cons x xs => exact h.elim
theorem vgds_cons (h1 : VGD X ix e f) (h2 : VGDs X ix es (vUnp fl)) (hs : (assignEach (e :: es) X.env).map (·.2) = assign e X.env :: (assignEach es X.env).map (·.2) := by rfl) : VGDs X ix (e :: es) (vUnp (f :: fl)) := by
  refine PGs.wk (pgs_cons h1 h2 hs) fun vs σ H Q ⟨O, st, xs, F, R, h⟩ => ?_
  cases xs with
  | nil => exact h.elim
  | cons x xs =>
    simp only [RpL] at R
    obtain ⟨v, vr, rfl, Rv, Rr⟩ := R
    refine ⟨v, vr, rfl, O, st, x, F, Rv, ?_⟩
    have h : okK (vb (f x) (fun _ => vUnp fl xs) st) fun _ st' => ∀ σ' H', Step X.K O st σ H st' σ' H' → (∀ j, j ∉ ix → σ'[j]? = σ[j]?) → Q σ' H' := h
    unfold vb at h
    cases q : f x st with
    | error er => rw [q] at h; exact h
    | ok p =>
      obtain ⟨_, s1⟩ := p
      rw [q] at h
      refine fun σ1 H1 S1 a1 => ⟨O, s1, xs, S1.fr, S1.rpl Rr, ?_⟩
      dsimp only at h
      cases q2 : vUnp fl xs s1 with
      | error er => rw [q2] at h; exact h
      | ok p => rw [q2] at h; exact fun σ' H' S' a' => h σ' H' (S1.trans S') fun j hj => (a' j hj).trans (a1 j hj)
theorem vgd_tup {k : Nat} {n : Nat} (hc : X.calm = true) (h : VGDs X ix es (vUnp fl)) (hn : (assignEach es X.env).length = n := by rfl) (hst : (assignEach es X.env).findIdx? (·.1) = none := by rfl) (hl : fl.length = n := by rfl) : VGD X ix (.Tuple es k pos) (vUnpT fl) := by
  refine PG.wk (pg_tup hc h hn hst) fun v σ H Q ⟨O, st, x, F, R, h⟩ => ?_
  cases x with
  | tuple xs =>
    obtain ⟨ad, vs, rfl, sq, Rl⟩ := R.tupT
    have h : okK (vUnp fl xs st) fun _ st' => ∀ σ' H', Step X.K O st σ H st' σ' H' → (∀ j, j ∉ ix → σ'[j]? = σ[j]?) → Q σ' H' := h
    have len : ∀ {fl : List (Da → VM Unit)} {xs : List Da} {st : VS}, (∃ p, vUnp fl xs st = .ok p) → fl.length = xs.length := by
      intro fl
      induction fl with
      | nil =>
        intro xs st ⟨p, e⟩
        cases xs with
        | nil => rfl
        | cons _ _ => cases e
      | cons f fl ih =>
        intro xs st ⟨p, e⟩
        cases xs with
        | nil => cases e
        | cons x xs =>
          have e : vb (f x) (fun _ => vUnp fl xs) st = .ok p := e
          unfold vb at e
          split at e
          · rw [List.length_cons, List.length_cons, ih ⟨_, e⟩]
          · cases e
    have hlen : fl.length = xs.length := by
      cases q : vUnp fl xs st with
      | error er => rw [q] at h; exact h.elim
      | ok p => exact len ⟨p, q⟩
    exact ⟨ad, vs, rfl, sq, by rw [← Rl.length, ← hlen, hl], O, st, xs, F, Rl, h⟩
  | _ => exact h.elim
/-- data into a target -/
def vAsgD (f : VM EV) (g : Da → VM Unit) : VM Ctl := vb f fun r => vb (vOpt (evD r)) fun x => vb (vNoX (g x)) fun _ => vNx
theorem ER.evD {K : PySem.W.Frag} {O : AS} {H0 H : Hp} {st : VS} {σ : L2.St} {v : V} {r : EV} {x : Da} (E : ER K O H0 st σ H v r) (e : VL.evD r = some x) : Rp K (Av O st σ) H x v := by
  cases r with
  | d y => cases e; exact E
  | own c => cases e; exact ER.settle (H1 := H0) E
  | loan i => cases e
theorem asgD_wk {gt : Da → VM Unit} {K : PySem.W.Frag} {mg : Str → Option Value} {D : Ends} {σ : L2.St} {H : Hp} (h : tVS K mg W (vAsgD fe gt) D σ H) : tAsg (tV K mg W fe) (gVD K ix gt) D σ H := by
  refine h.expr fun O st r s1 v H1 S E h => ?_
  obtain ⟨x, ex, h⟩ := h.opt
  refine ⟨O, s1, x, S.fr, E.evD ex, ?_⟩
  unfold vb vNoX at h
  cases q : gt x s1 with
  | ok p =>
    obtain ⟨_, s2⟩ := p
    rw [q] at h
    exact fun σ' H' S' _ => h σ' H' (S.trans S')
  | error er => rw [q] at h; exact h.elim
theorem vs_asgD {tg : Expr} {gt : Da → VM Unit} (he : VE X W e fe) (hg : VGD X ix tg gt) (hs : swapsWithSole [tg] e pos.line X.env = pure false := by rfl) (hw : swappedStores [tg] e X.env = pure none := by rfl)
    (h1 : (assignEach [tg] X.env).map (·.2) = [assign tg X.env] := by rfl) : VSt X W (.Assign [tg] e pos) (vAsgD fe gt) := PS.wk (ps_asg he hg hs hw h1) fun D σ H h => asgD_wk (ix := ix) h
/-! xs[i] = v -/
def setD : List Da → List Da → Option (List Da × Da)
  | xs, [.int k, v] => (ixN xs.length k).map fun j => (xs.set j v, .none)
  | _, _ => none
theorem setD_some {xs as ys : List Da} {z : Da} (e : setD xs as = some (ys, z)) : ∃ k v j, as = [.int k, v] ∧ ixN xs.length k = some j ∧ ys = xs.set j v ∧ z = .none := by
  unfold setD at e
  split at e
  · rename_i k v
    obtain ⟨j, e0, e1⟩ := Option.map_eq_some_iff.mp e
    cases e1
    exact ⟨k, v, j, rfl, e0, rfl, rfl⟩
  · cases e
def vSub (fo fi : VM EV) (x : Da) : VM Unit := vb fo fun ro => vb fi fun ri => vb (vRd ri) fun i => vb (vApp setD ro [i, x]) fun _ => vr ()
theorem tV.bind0 {α : Type} {K : PySem.W.Frag} {mg : Str → Option Value} {O : AS} {st : VS} {σ : L2.St} {H : Hp} {f : VM EV} {g : EV → VM α} {Q : VK} {k : α → VS → Prop} (F : FR K O st σ H)
    (h : okK (vb f g st) k)
    (cont : ∀ r s1 v H1, Step K O st σ H s1 σ H1 → ER K O H s1 σ H1 v r → okK (g r s1) k → Q v H1) : tV K mg W f σ H Q := by
  refine ⟨O, st, F, ?_⟩
  unfold vb at h
  cases e : f st with
  | ok p =>
    obtain ⟨r, s1⟩ := p
    rw [e] at h
    exact fun v H1 S E => cont r s1 v H1 S E h
  | error er => rw [e] at h; exact h.elim
theorem vgd_sub (ho : VE X W o fo) (hi : VE X W a fa) (ha : ∀ v, assign (.Subscript o a pos) X.env v = (do
      let ov ← holding [v] (eval o X.env)
      let iv ← holding [v, ov] (eval a X.env)
      standAt pos
      holding [v, ov, iv] (setItem ov iv v)
      release [v, ov, iv] []) := by intro _; rfl) : VGD X ix (.Subscript o a pos) (vSub fo fa) := by
  refine PG.wk (pg_sub ho hi set_list ha) fun v σ H Q ⟨O, st, x, F, R, h⟩ => ?_
  refine tV.bind0 (g := fun ro => vb fa fun ri => vb (vRd ri) fun i => vb (vApp setD ro [i, x]) fun _ => vr ()) (k := fun _ st' => ∀ σ' H', Step X.K O st σ H st' σ' H' → (∀ j, j ∉ ix → σ'[j]? = σ[j]?) → Q σ' H') F h fun ro s1 ov H1 S1 E1 h => ?_
  refine tV.bind0 (g := fun ri => vb (vRd ri) fun i => vb (vApp setD ro [i, x]) fun _ => vr ()) (k := fun _ st' => ∀ σ' H', Step X.K O st σ H st' σ' H' → (∀ j, j ∉ ix → σ'[j]? = σ[j]?) → Q σ' H') S1.fr h fun ri s2 iv H2 S2 E2 h => ?_
  have S := S1.trans S2
  have Rx := S.rp R
  -- as a run
  have h' : VRun X.K X.mg W O s2 σ H2 (vb (vRd ri) (fun i => vb (vApp setD ro [i, x]) fun _ => (vr () : VM Unit)) s2) fun _ st' => ∀ σ' H', Step X.K O st σ H st' σ' H' → (∀ j, j ∉ ix → σ'[j]? = σ[j]?) → Q σ' H' := by
    cases q : vb (vRd ri) (fun i => vb (vApp setD ro [i, x]) fun _ => (vr () : VM Unit)) s2 with
    | ok p => rw [q] at h; exact h
    | error er => rw [q] at h; exact h.elim
  obtain ⟨i, Ri, h'⟩ := h'.rd S2.fr E2
  obtain ⟨H0, r', E', em⟩ := E1.loan_later (g := setD) S2
  have h2 := vrun_vb h'
  rw [em] at h2
  obtain ⟨p, ws, xs, ys, z, rfl, hp, Rl, eg, q⟩ := VRun.app (Q := fun _ H' => ∃ σ', σ' = σ ∧ Q σ' H') S E' (h2.mono fun r st' z v H' S' E => ⟨σ, rfl, z σ H' S' fun _ _ => rfl⟩)
  obtain ⟨k, v', j, e1, e2, rfl, rfl⟩ := setD_some eg
  cases e1
  obtain rfl := Ri.int
  refine ⟨p, ws, k, j, rfl, rfl, hp, by rw [← Rl.length]; exact e2, ?_⟩
  obtain ⟨σ', ee, qq⟩ := q .non _ (Rl.set j Rx) (by simp only [Rp])
  rw [ee] at qq
  exact qq
/-! x op= e -/
theorem ip_of {op : Operator} {r : R2} (h : OpR X (inplaceOp op) r) : PIp X op r := h
def vAug (i : Nat) (g : Da → Da → Option EV) (f : VM EV) : VM Ctl := vb (vVar i) fun r0 => vb f fun r => vb (vRd r0) fun x => vb (vRd r) fun y => vb (vOpt (g x y)) fun z => vb (vNoX (vSet i z)) fun _ => vNx
/-- the operator, in place, of what is no list -/
def flatD : Da → Bool
  | .int _ => true
  | .str _ => true
  | _ => false
theorem vs_aug {i : Nat} {x : Str} {op : Operator} {g : Da → Da → Option EV} {pos' : Pos} (hN : X.N.Nodup) (hi : X.N[i]? = some x) (hx : Loc X.env.scope x) (he : VE X W e fe) (ho : Op2 X (inplaceOp op) g) (hf : X.fn x = true ∨ X.env.scope.names.lookup x = some .local := by first | exact .inl rfl | exact .inr rfl | assumption) :
    VSt X W (.AugAssign (.Name x pos') op e pos) (vAug i g fe) := by
  obtain ⟨r, hr, hg⟩ := ho
  refine PS.wk (ps_aug hN hi hx he (ip_of hr) hf) fun D σ H h => ?_
  obtain ⟨O, st, F, h⟩ := h
  -- the name's value
  have h0 := vrun_vb h
  unfold vVar at h0
  cases q : st[i]? with
  | none => rw [q] at h0; exact h0.elim
  | some sv =>
    rw [q] at h0
    obtain ⟨w, ew, sl⟩ := F.slot i sv q
    have main : ∀ (u : V) (r0 : EV), w = some u → ER X.K O H st σ H u r0 → VRun X.K X.mg W O st σ H ((vb fe fun r => vb (vRd r0) fun x => vb (vRd r) fun y => vb (vOpt (g x y)) fun z => vb (vNoX (vSet i z)) fun _ => vNx) st) (CtlK X.K O st σ H D) →
        (r0 = settle r0) → tAug i (tV X.K X.mg W fe) r D σ H := fun u r0 eu E0 h er => by
      subst eu
      refine ⟨u, ew, tV.bind F h fun r1 s1 v H1 S1 E1 h => ?_⟩
      rw [er] at E0
      have E0' := E0.later S1 (H2 := H)
      rw [← er] at E0'
      obtain ⟨xd, Rx, h⟩ := h.rd S1.fr E0'
      obtain ⟨yd, Ry, h⟩ := h.rd S1.fr E1
      obtain ⟨z, ez, h⟩ := h.opt
      refine hg _ H1 xd yd u v z _ S1.fr.avdom Rx Ry ez fun zv H2 k n => ?_
      have S2 := S1.trans (Step.ext S1.fr k)
      have Ez := (NR.er S1.fr k n).back S1.dom
      refine gVT.name (K := X.K) ⟨O, st, σ, H, s1, z, S2, Ez, ?_⟩
      unfold vb vNoX at h
      cases q : vSet i z s1 with
      | ok p => rw [q] at h; exact fun σ' H' S' => h σ' H' S'
      | error er => rw [q] at h; exact h.elim
    cases sv with
    | un => exact h0.elim
    | d y => obtain ⟨u, e, R⟩ := sl; exact main u (.d y) e R h0 rfl
    | own c => obtain ⟨p, e, R⟩ := sl; exact main _ (.loan i) e (by rw [e] at ew; exact ew) h0 rfl
    | io c => obtain ⟨p, e, R⟩ := sl; exact main _ (.loan i) e (by rw [e] at ew; exact ew) h0 rfl
    | lk c => obtain ⟨p, e, R⟩ := sl; exact main _ (.loan i) e (by rw [e] at ew; exact ew) h0 rfl
    | rd xs => obtain ⟨p, vs, e, R⟩ := sl; exact main _ (.loan i) e (by rw [e] at ew; exact ew) h0 rfl
def iaddD : Da → Da → Option EV
  | .int i, .int j => some (.d (.int (i + j)))
  | .str a, .str b => if a.length + b.length ≤ 16777216 then some (.d (.str (a ++ b))) else none
  | _, _ => none
theorem i_add : Op2 X (inplaceOp .Add) iaddD := by
  refine ⟨_, OpR.or iop_add iop_add_str, fun O H x y v w z Q hd hx hy e q => ?_⟩
  cases x with
  | int i =>
    cases y with
    | int j => cases e; obtain rfl := hx.int; obtain rfl := hy.int; exact .inl ⟨i, j, rfl, rfl, q _ H (Same.refl H) (by show Rp _ _ _ _ _; simp only [Rp])⟩
    | _ => cases e
  | str i =>
    cases y with
    | str j =>
      obtain rfl := hx.str; obtain rfl := hy.str
      unfold iaddD at e; dsimp only at e
      split at e
      · rename_i hl; cases e
        exact .inr ⟨i, j, rfl, rfl, by rw [sizeLine_eq]; exact hl, q _ H (Same.refl H) (by show Rp _ _ _ _ _; simp only [Rp])⟩
      · cases e
    | _ => cases e
  | _ => cases e
theorem i_sub : Op2 X (inplaceOp .Sub) subD := by
  refine ⟨_, iop_sub, fun O H x y v w z Q hd hx hy e q => ?_⟩
  cases x with
  | int i =>
    cases y with
    | int j => cases e; obtain rfl := hx.int; obtain rfl := hy.int; exact ⟨i, j, rfl, rfl, q _ H (Same.refl H) (by show Rp _ _ _ _ _; simp only [Rp])⟩
    | _ => cases e
  | _ => cases e
/-! xs[i] op= e -/
theorem get_list : PGet X (rIxL X.K) := by
  intro pins s σ H x y v u Q I rx ry h
  obtain ⟨p, xs, i, z, rfl, rfl, hq, he, q⟩ := h
  cases rx
  obtain ⟨t, rfl⟩ := ry
  obtain ⟨its, r, pl, hz⟩ := I.list hq
  obtain ⟨j, hj, ej⟩ := Option.bind_eq_some_iff.mp (show (ixN xs.length i).bind _ = some z from he)
  obtain ⟨h1, h2, h3, h4⟩ := ixN_seq hj
  obtain ⟨w, ew, rw'⟩ := r.get ej
  have hl := r.length
  have hn := line63
  have fin : EP X pins σ Q w s := ⟨z, H, I, rw', q⟩
  by_cases h0 : 0 ≤ i
  · have hk : i.toNat = j := by
      rw [seqIndex_of h0 h4] at h1
      exact Option.some.inj h1
    exact PySem.wpAny_getItem_list pl.isList h0 (by omega) (by rw [hk]; simpa using ew) fin
  · have hk : (i + (its.toArray.size : Int)).toNat = j := by
      rw [seqIndex_neg (by omega) h3] at h1
      rw [List.size_toArray, ← hl]
      exact Option.some.inj h1
    exact wpAny_getItem_list_neg pl.isList (by omega) (by rw [List.size_toArray] <;> omega) (by omega) (by rw [hk]; simpa using ew) fin
def intD : Da → Option Int
  | .int i => some i
  | _ => none
def vCt (r : EV) : VM (List Da) := fun s => match mutL r s with
  | some (_, xs) => .ok (xs, s)
  | none => .error .stuck
theorem VRun.ct {α : Type} {K : PySem.W.Frag} {mg : Str → Option Value} {O : AS} {st : VS} {σ : L2.St} {H H0 : Hp} {v : V} {r : EV} {k : α → VS → Prop} {f : List Da → VM α} (F : FR K O st σ H) (E : ER K O H0 st σ H v r) (h : VRun K mg W O st σ H (vb (vCt r) f st) k) :
    ∃ xs p vs, v = .ref p ∧ H p = some (.lst vs) ∧ RpL K (Av O st σ) H xs vs ∧ VRun K mg W O st σ H (f xs st) k := by
  unfold vb vCt at h
  cases e : mutL r st with
  | none => rw [e] at h; exact h.elim
  | some ix =>
    obtain ⟨i, xs⟩ := ix
    rw [e] at h
    obtain ⟨p, vs, e1, _, _, e2, R⟩ := mutL_ok F E e
    exact ⟨xs, p, vs, e1, e2, R, h⟩
theorem ER.loan_later2 {K : PySem.W.Frag} {O : AS} {H0 H H1 : Hp} {s1 s2 : VS} {σ : L2.St} {v : V} {r : EV} (E : ER K O H0 s1 σ H v r) (S : Step K O s1 σ H s2 σ H1) : ∃ H0 r', ER K O H0 s2 σ H1 v r' ∧ (∀ g as, vApp g r as = vApp g r' as) ∧ vCt r = vCt r' := by
  cases r with
  | loan i => exact ⟨H0, .loan i, E, fun _ _ => rfl, rfl⟩
  | d x => exact ⟨H0, .d x, S.rp E, fun _ _ => rfl, rfl⟩
  | own c => exact ⟨H0, .d c.data, (E.settle (H1 := H0)).later S (H2 := H0), fun _ _ => rfl, rfl⟩
def vAugS (g : Da → Da → Option EV) (fo fi fe : VM EV) : VM Ctl := vb fo fun ro => vb fi fun ri => vb (vRd ri) fun i => vb (vOpt (intD i)) fun k => vb (vCt ro) fun xs => vb (vOpt (atI xs k)) fun old => vb fe fun re => vb (vRd re) fun y =>
  vb (vOpt ((g old y).bind evD)) fun new => vb (vApp setD ro [.int k, new]) fun _ => vNx
theorem vs_augS {tpos : Pos} {op : Operator} {g : Da → Da → Option EV} (ho : VE X W o fo) (hi : VE X W a fa) (he : VE X W e fe) (hop : Op2 X (inplaceOp op) g)
    (ha : ∀ ov iv new, augStore a ov iv new = (do holding [new, ov, iv] (setItem ov iv new); release [new, ov, iv] []; pure .next) := by intros; rfl) :
    VSt X W (.AugAssign (.Subscript o a tpos) op e pos) (vAugS g fo fa fe) := by
  obtain ⟨r, hr, hg⟩ := hop
  refine PS.wk (ps_augS ho hi get_list he (ip_of hr) set_list ha) fun D σ H h => ?_
  obtain ⟨O, st, F, h⟩ := h
  refine tV.bind F h fun ro s1 ov H1 S1 E1 h => ?_
  refine tV.bind S1.fr h fun ri s2 iv H2 S2 E2 h => ?_
  obtain ⟨i, Ri, h⟩ := h.rd S2.fr E2
  obtain ⟨k, ek, h⟩ := h.opt
  obtain rfl : i = .int k := by
    cases i with
    | int j => cases ek; rfl
    | _ => cases ek
  obtain rfl := Ri.int
  obtain ⟨H0, r2, E', em, ec⟩ := E1.loan_later2 S2
  rw [ec] at h
  obtain ⟨xs, p, vs, rfl, hp, Rl, h⟩ := h.ct S2.fr E'
  obtain ⟨old, eo, h⟩ := h.opt
  obtain ⟨w, ew, Rw⟩ := atI_rel Rl eo
  refine ⟨p, vs, k, w, rfl, rfl, .of hp, ew, ?_⟩
  refine tV.bind S2.fr h fun re s3 y H3 S3 E3 h => ?_
  obtain ⟨yd, Ry, h⟩ := h.rd S3.fr E3
  obtain ⟨new, en, h⟩ := h.opt
  obtain ⟨z, ez1, ez2⟩ := Option.bind_eq_some_iff.mp en
  have Rw3 := S3.rp Rw
  refine hg _ H3 old yd w y z _ S3.fr.avdom (.inl Rw3) Ry ez1 fun u H4 k4 n4 => ?_
  have S4 := Step.ext S3.fr k4
  have E4 := NR.er S3.fr k4 n4
  have Rn := E4.evD ez2
  have h := VRun.step S4 h
  obtain ⟨H0', r3, E'', em3⟩ := E'.loan_later (g := setD) (S3.trans S4)
  have h2 := vrun_vb h
  rw [em, em3] at h2
  have S := ((S1.trans S2).trans S3).trans S4
  obtain ⟨p', ws, ys, zs, z', ep, hp', Rl', eg, q⟩ := VRun.app (Q := fun _ H' => D.nx σ H') S E'' (h2.mono fun r st' z v H' S' E => z σ H' S')
  cases ep
  obtain ⟨k', v', j, e1, e2, rfl, rfl⟩ := setD_some eg
  cases e1
  exact ⟨p, ws, k, j, rfl, rfl, hp', by rw [← Rl'.length]; exact e2, q .non _ (Rl'.set j Rn) (by simp only [Rp])⟩
end
end VL
set_option Elab.async false
set_option linter.all false
set_option maxRecDepth 100000
namespace VL
open PySem PySem.Spec PyProof.Rows L2
/-- what a body knows of where it stands -/
structure VC (X : Cx) (W : WX) (k : Nat) : Prop where
  calm : X.calm = true
  nd : X.N.Nodup
  tk : Takes X W
  rm : Room k X.A
theorem VC.hu {X : Cx} {W : WX} {k : Nat} (c : VC X W k) : X.A.units + 64 < cLine := c.rm.units
theorem VC.hu0 {X : Cx} {W : WX} {k : Nat} (c : VC X W k) : X.A.units < cLine := c.rm.units0
/-- what is wanted of an exception, whatever the slots; where they are the given ones -/
def WN (E : XK) : WX := fun cls d _ H => E cls d H
def WS (σ0 : L2.St) (E : XK) : WX := fun cls d σ H => σ = σ0 → E cls d H
abbrev FM := VS → Res (EV × VS)
/-- THE PROMISE of a def whose mirror is m -/
def spV (K : PySem.W.Frag) (mg : Str → Option Value) (n : Nat) (m : FM) : Sp := fun vs H Q E => vs.length = n ∧ ∃ O st0, FR K O st0 (vs.map some) H ∧ (∀ (i : Nat) (c : OC), st0[i]? ≠ some (.own c)) ∧
  VRun K mg (WS (vs.map some) E) O st0 (vs.map some) H (m st0) fun r st' => ∀ v H', Step K O st0 (vs.map some) H st' (vs.map some) H' → ER K O H st' (vs.map some) H' v r → Q v H'
/-! ### the body -/
/-- what is given back: a datum, or a list of one's own -/
def retV (c : Ctl) (s : VS) : Option EV := match c with
  | .nx => some (.d .none)
  | .rt (.loan i) => match s[i]? with
    | some (.own c) => some (.own c)
    | _ => none
  | .rt r => some r
  | _ => none
/-- the parameters behind it -/
def outs : VS → VS → VS
  | .io _ :: st0, sv :: s => sv :: outs st0 s
  | x :: st0, _ :: s => x :: outs st0 s
  | st0, _ => st0
def runF (N : Nat) (g : VM Ctl) : FM := fun st0 =>
  match g (st0 ++ List.replicate (N - st0.length) .un) with
  | .ok (c, s) => match retV c s with
    | some r => .ok (r, outs st0 s)
    | none => .error .stuck
  | .error (.exc C fs s) => .error (.exc C fs (outs st0 s))
  | .error .stuck => .error .stuck
theorem outs_get : ∀ {st0 s : VS} {i : Nat} {sv : SV}, st0.length ≤ s.length → st0[i]? = some sv → ∃ sv', s[i]? = some sv' ∧ (outs st0 s)[i]? = some (match sv with
    | .io _ => sv'
    | x => x)
  | [], s, i, sv, _, h => by simp at h
  | x :: st0, [], i, sv, hl, h => by simp at hl
  | x :: st0, y :: s, 0, sv, hl, h => by
    simp at h; subst h
    refine ⟨y, rfl, ?_⟩
    cases x <;> rfl
  | x :: st0, y :: s, i + 1, sv, hl, h => by
    obtain ⟨sv', h1, h2⟩ := outs_get (st0 := st0) (s := s) (i := i) (sv := sv) (by simpa using hl) (by simpa using h)
    refine ⟨sv', by simpa using h1, ?_⟩
    cases x <;> (show (_ :: outs st0 s)[i + 1]? = _; simpa using h2)
theorem outs_len : ∀ {st0 s : VS}, st0.length ≤ s.length → (outs st0 s).length = st0.length
  | [], s, _ => by cases s <;> rfl
  | x :: st0, [], hl => by simp at hl
  | x :: st0, y :: s, hl => by
    have ih := outs_len (st0 := st0) (s := s) (by simpa using hl)
    cases x <;> (show (_ :: outs st0 s).length = _; simp [ih])
theorem start_map (N : List Str) (vs : List V) : L2.start N vs = vs.map some ++ List.replicate (N.length - vs.length) none := rfl
section
variable {K : PySem.W.Frag} {mg : Str → Option Value} {W : WX} {O : AS} {H H' : Hp} {vs : List V} {st0 : VS} {n : Nat}
theorem own_ext {i : Nat} {p : Addr} (hl : st0.length = vs.length) : OwnAt (st0 ++ List.replicate n .un) (vs.map some ++ List.replicate n none) i p ↔ OwnAt st0 (vs.map some) i p := by
  constructor
  · rintro ⟨e, c, h⟩
    by_cases hi : i < st0.length
    · rw [List.getElem?_append_left (by rw [List.length_map, ← hl]; exact hi)] at e
      rw [List.getElem?_append_left hi] at h
      exact ⟨e, c, h⟩
    · rw [List.getElem?_append_right (by omega), List.getElem?_replicate] at h
      rcases h with h | h | h <;> (split at h <;> cases h)
  · rintro ⟨e, c, h⟩
    have hi : i < st0.length := by
      by_cases hi : i < st0.length
      · exact hi
      · rw [List.getElem?_eq_none (by omega)] at h; rcases h with h | h | h <;> cases h
    exact ⟨by rw [List.getElem?_append_left (by rw [List.length_map, ← hl]; exact hi)]; exact e, c, by rw [List.getElem?_append_left hi]; exact h⟩
theorem FR.start (F : FR K O st0 (vs.map some) H) : FR K O (st0 ++ List.replicate n .un) (vs.map some ++ List.replicate n none) H := by
  have hl : st0.length = vs.length := by rw [F.len, List.length_map]
  have av : Av O (st0 ++ List.replicate n .un) (vs.map some ++ List.replicate n none) = Av O st0 (vs.map some) := by
    funext a
    exact propext ⟨fun h => h.imp id fun ⟨j, h⟩ => ⟨j, (own_ext hl).mp h⟩, fun h => h.imp id fun ⟨j, h⟩ => ⟨j, (own_ext hl).mpr h⟩⟩
  refine ⟨by simp [hl], fun i sv h => ?_, fun i j p h1 h2 => F.inj i j p ((own_ext hl).mp h1) ((own_ext hl).mp h2), fun p ⟨j, h⟩ => F.avoid p ⟨j, (own_ext hl).mp h⟩, F.odom⟩
  rw [av]
  by_cases hi : i < st0.length
  · rw [List.getElem?_append_left hi] at h
    obtain ⟨v, e, s⟩ := F.slot i sv h
    exact ⟨v, by rw [List.getElem?_append_left (by rw [List.length_map, ← hl]; exact hi)]; exact e, s⟩
  · rw [List.getElem?_append_right (by omega), List.getElem?_replicate] at h
    split at h
    · cases h
      rename_i hn
      refine ⟨none, ?_, trivial⟩
      rw [List.getElem?_append_right (by rw [List.length_map]; omega), List.getElem?_replicate, List.length_map, ← hl, if_pos hn]
    · cases h
/-- the parameters' slots behind the body -/
structure Outs (st0 s : VS) (σ0 σ' : L2.St) : Prop where
  len : (VL.outs st0 s).length = st0.length
  get : ∀ (i : Nat) (sv : SV), (VL.outs st0 s)[i]? = some sv → ∃ sv0, st0[i]? = some sv0 ∧ ((∃ c c', sv0 = SV.io c ∧ s[i]? = some (SV.io c') ∧ sv = SV.io c' ∧ σ'[i]? = σ0[i]?) ∨ (∃ c, sv0 = SV.lk c ∧ s[i]? = some (SV.lk c) ∧ sv = SV.lk c ∧ σ'[i]? = σ0[i]?) ∨
    ((∀ c, sv0 ≠ .io c ∧ sv0 ≠ .lk c ∧ sv0 ≠ .own c) ∧ sv = sv0))
  io : ∀ (i : Nat) (c : OC), st0[i]? = some (.io c) → ∃ c', s[i]? = some (.io c') ∧ (VL.outs st0 s)[i]? = some (.io c')
  lk : ∀ (i : Nat) (c : OC), st0[i]? = some (.lk c) → (VL.outs st0 s)[i]? = some (.lk c)
theorem Outs.of {s : VS} {σ' : L2.St} (F : FR K O st0 (vs.map some) H) (hno : ∀ (i : Nat) (c : OC), st0[i]? ≠ some (.own c)) (S : Step K O (st0 ++ List.replicate n .un) (vs.map some ++ List.replicate n none) H s σ' H') : Outs st0 s (vs.map some) σ' := by
  have hl : st0.length = vs.length := by rw [F.len, List.length_map]
  have hs : st0.length ≤ s.length := by rw [S.fr.len, S.len]; simp [hl]
  have io : ∀ (i : Nat) (c : OC), st0[i]? = some (.io c) → (∃ c', s[i]? = some (.io c')) ∧ σ'[i]? = (vs.map some)[i]? := fun i c h => by
    have hi : i < st0.length := by
      by_cases hi : i < st0.length
      · exact hi
      · rw [List.getElem?_eq_none (by omega)] at h; cases h
    obtain ⟨a, b⟩ := S.io i c (by rw [List.getElem?_append_left hi]; exact h)
    exact ⟨a, by rw [b, List.getElem?_append_left (by rw [List.length_map, ← hl]; exact hi)]⟩
  have lk : ∀ (i : Nat) (c : OC), st0[i]? = some (.lk c) → s[i]? = some (.lk c) ∧ σ'[i]? = (vs.map some)[i]? := fun i c h => by
    have hi : i < st0.length := by
      by_cases hi : i < st0.length
      · exact hi
      · rw [List.getElem?_eq_none (by omega)] at h; cases h
    obtain ⟨a, b⟩ := S.lk i c (by rw [List.getElem?_append_left hi]; exact h)
    exact ⟨a, by rw [b, List.getElem?_append_left (by rw [List.length_map, ← hl]; exact hi)]⟩
  refine ⟨outs_len hs, fun i sv h => ?_, fun i c h => ?_, fun i c h => ?_⟩
  · have hi : i < st0.length := by
      by_cases hi : i < st0.length
      · exact hi
      · rw [List.getElem?_eq_none (by rw [outs_len hs]; omega)] at h; cases h
    obtain ⟨sv0, h0⟩ : ∃ sv0, st0[i]? = some sv0 := ⟨_, List.getElem?_eq_getElem hi⟩
    obtain ⟨sv', h1, h2⟩ := outs_get hs h0
    refine ⟨sv0, h0, ?_⟩
    rw [h] at h2
    cases sv0 with
    | io c =>
      obtain ⟨⟨c', e⟩, e2⟩ := io i c h0
      rw [e] at h1; cases h1
      exact .inl ⟨c, c', rfl, e, Option.some.inj h2, e2⟩
    | lk c => obtain ⟨e, e2⟩ := lk i c h0; exact .inr (.inl ⟨c, rfl, e, Option.some.inj h2, e2⟩)
    | un => exact .inr (.inr ⟨fun c => ⟨(fun z => by cases z), (fun z => by cases z), (fun z => by cases z)⟩, Option.some.inj h2⟩)
    | d x => exact .inr (.inr ⟨fun c => ⟨(fun z => by cases z), (fun z => by cases z), (fun z => by cases z)⟩, Option.some.inj h2⟩)
    | rd x => exact .inr (.inr ⟨fun c => ⟨(fun z => by cases z), (fun z => by cases z), (fun z => by cases z)⟩, Option.some.inj h2⟩)
    | own x => exact absurd h0 (hno i x)
  · obtain ⟨⟨c', e⟩, _⟩ := io i c h
    obtain ⟨sv', h1, h2⟩ := outs_get hs h
    rw [e] at h1; cases h1
    exact ⟨c', e, h2⟩
  · obtain ⟨sv', h1, h2⟩ := outs_get hs h
    exact h2
theorem Outs.own {s : VS} {σ0 σ' : L2.St} (B : Outs st0 s σ0 σ') {i : Nat} {p : Addr} (h : OwnAt (outs st0 s) σ0 i p) : OwnAt s σ' i p ∧ OwnAt st0 σ0 i p := by
  obtain ⟨e, c, h⟩ := h
  have : ∃ sv, (outs st0 s)[i]? = some sv ∧ (sv = .own c ∨ sv = .io c ∨ sv = .lk c) := by
    rcases h with h | h | h
    · exact ⟨_, h, .inl rfl⟩
    · exact ⟨_, h, .inr (.inl rfl)⟩
    · exact ⟨_, h, .inr (.inr rfl)⟩
  obtain ⟨sv, h, hsv⟩ := this
  obtain ⟨sv0, h0, h1⟩ := B.get i sv h
  rcases h1 with ⟨c0, c', rfl, e1, rfl, e2⟩ | ⟨c0, rfl, e1, rfl, e2⟩ | ⟨hn, rfl⟩
  · exact ⟨⟨by rw [e2]; exact e, c', .inr (.inl e1)⟩, e, c0, .inr (.inl h0)⟩
  · exact ⟨⟨by rw [e2]; exact e, c0, .inr (.inr e1)⟩, e, c0, .inr (.inr h0)⟩
  · rcases hsv with rfl | rfl | rfl
    · exact absurd rfl (hn c).2.2
    · exact absurd rfl (hn c).1
    · exact absurd rfl (hn c).2.1
theorem Outs.mut {s : VS} {σ0 σ' : L2.St} (B : Outs st0 s σ0 σ') {i : Nat} {p : Addr} (h : MutAt (outs st0 s) σ0 i p) : MutAt st0 σ0 i p := by
  obtain ⟨e, c, h⟩ := h
  have : ∃ sv, (outs st0 s)[i]? = some sv ∧ (sv = .own c ∨ sv = .io c) := by
    rcases h with h | h
    · exact ⟨_, h, .inl rfl⟩
    · exact ⟨_, h, .inr rfl⟩
  obtain ⟨sv, h, hsv⟩ := this
  obtain ⟨sv0, h0, h1⟩ := B.get i sv h
  rcases h1 with ⟨c0, c', rfl, e1, rfl, e2⟩ | ⟨c0, rfl, e1, rfl, e2⟩ | ⟨hn, rfl⟩
  · exact ⟨e, c0, .inr h0⟩
  · rcases hsv with z | z <;> cases z
  · rcases hsv with rfl | rfl
    · exact absurd rfl (hn c).2.2
    · exact absurd rfl (hn c).1
theorem FR.outs {O2 : AS} {s : VS} {σ' : L2.St} (F : FR K O st0 (vs.map some) H) (B : Outs st0 s (vs.map some) σ') (S : FR K O s σ' H') (keep : ∀ a o, H a = some o → ¬ MutO st0 (vs.map some) a → H' a = some o)
    (h1 : ∀ a, O2 a → O a ∨ H a = none) (h2 : ∀ a, O2 a → H' a ≠ none) (h3 : ∀ a, O2 a → ¬ Own (VL.outs st0 s) (vs.map some) a)
    (h4 : ∀ (i : Nat) (p : Addr) (c : OC), (s[i]? = some (.io c) ∨ s[i]? = some (.lk c)) → σ'[i]? = some (some (.ref p)) → Cont K (Av O2 (VL.outs st0 s) (vs.map some)) H' p c) : FR K O2 (VL.outs st0 s) (vs.map some) H' := by
  have hl : st0.length = vs.length := by rw [F.len, List.length_map]
  have mo : ∀ a, Av O2 (VL.outs st0 s) (vs.map some) a → Av O st0 (vs.map some) a ∨ H a = none := fun a z => by
    rcases z with z | ⟨j, z⟩
    · exact (h1 a z).imp .inl id
    · exact .inl (.inr ⟨j, (B.own z).2⟩)
  have ke : ∀ a o, H a = some o → ¬ Av O st0 (vs.map some) a → H' a = some o := fun a o e nn => keep a o e fun z => nn (.inr z.own)
  refine ⟨by rw [B.len, hl, List.length_map], fun i sv h => ?_, fun i j p h1 h2 => S.inj i j p (B.own h1).1 (B.own h2).1, fun p h z => h3 p z h, h2⟩
  obtain ⟨sv0, h0, hk⟩ := B.get i sv h
  obtain ⟨v, ev, s0⟩ := F.slot i sv0 h0
  refine ⟨v, ev, ?_⟩
  rcases hk with ⟨c0, c', rfl, e1, rfl, e2⟩ | ⟨c0, rfl, e1, rfl, e2⟩ | ⟨hn, rfl⟩
  · obtain ⟨p, ep, _⟩ := s0
    exact ⟨p, ep, h4 i p c' (.inl e1) (by rw [e2, ev, ep])⟩
  · obtain ⟨p, ep, _⟩ := s0
    exact ⟨p, ep, h4 i p c0 (.inr e1) (by rw [e2, ev, ep])⟩
  · cases sv with
    | un => trivial
    | d x => obtain ⟨w, ew, R⟩ := s0; exact ⟨w, ew, Rp.mono mo ke _ _ R⟩
    | own c => exact absurd rfl (hn c).2.2
    | io c => exact absurd rfl (hn c).1
    | lk c => exact absurd rfl (hn c).2.1
    | rd xs =>
      obtain ⟨a, ws, ew, R, Rl⟩ := s0
      exact ⟨a, ws, ew, R.mono mo ke, RpL.mono mo ke _ _ Rl⟩
theorem mut_start {p : Addr} (hl : st0.length = vs.length) (h : MutO (st0 ++ List.replicate n .un) (vs.map some ++ List.replicate n none) p) : MutO st0 (vs.map some) p := by
  obtain ⟨i, e, c, h⟩ := h
  by_cases hi : i < st0.length
  · rw [List.getElem?_append_left (by rw [List.length_map, ← hl]; exact hi)] at e
    rw [List.getElem?_append_left hi] at h
    exact ⟨i, e, c, h⟩
  · rw [List.getElem?_append_right (by omega), List.getElem?_replicate] at h
    rcases h with h | h <;> (split at h <;> cases h)
/-- back to the parameters -/
theorem Step.back {s : VS} {σ' : L2.St} (F : FR K O st0 (vs.map some) H) (hno : ∀ (i : Nat) (c : OC), st0[i]? ≠ some (.own c)) (S : Step K O (st0 ++ List.replicate n .un) (vs.map some ++ List.replicate n none) H s σ' H') :
    Step K O st0 (vs.map some) H (outs st0 s) (vs.map some) H' := by
  have hl : st0.length = vs.length := by rw [F.len, List.length_map]
  have B := Outs.of F hno S
  have keep : ∀ a o, H a = some o → ¬ MutO st0 (vs.map some) a → H' a = some o := fun a o e n => S.keep a o e fun z => n (mut_start hl z)
  refine ⟨FR.outs F B S.fr keep (fun _ z => .inl z) S.fr.odom (fun a z ⟨j, h⟩ => S.fr.avoid a ⟨j, (B.own h).1⟩ z) fun i p c h e => ?_, keep, fun a ⟨j, h⟩ => .inl ⟨j, (B.own h).2⟩, fun a ⟨j, h⟩ => .inl ⟨j, B.mut h⟩, S.dom, rfl, fun i c h => ?_, fun i c h => ⟨B.lk i c h, rfl⟩⟩
  · obtain ⟨c', hh, C⟩ := S.fr.ownc (i := i) (p := p) ⟨e, c, .inr h⟩
    have : c' = c := by
      rcases hh with q | q | q <;> rcases h with h | h <;> (rw [h] at q; cases q <;> rfl)
    subst this
    exact C.sub fun a z => z.imp id fun ⟨j, z⟩ => ⟨j, (B.own z).1⟩
  · obtain ⟨c', _, e⟩ := B.io i c h
    exact ⟨⟨c', e⟩, rfl⟩
/-- a def's body keeps the promise -/
theorem run_body {N : List Str} {g : VM Ctl} {Q : VK} {E : XK} (h : spV K mg vs.length (runF N.length g) vs H Q E) : tVS K mg (WN E) g { nx := fun _ H' => Q .non H', rt := Q } (L2.start N vs) H := by
  obtain ⟨_, O, st0, F, hno, h⟩ := h
  have hl : st0.length = vs.length := by rw [F.len, List.length_map]
  rw [start_map]
  refine ⟨O, st0 ++ List.replicate (N.length - vs.length) .un, F.start, ?_⟩
  unfold runF at h
  rw [hl] at h
  cases q : g (st0 ++ List.replicate (N.length - vs.length) .un) with
  | error er =>
    rw [q] at h
    cases er with
    | stuck => exact h
    | exc C fs s =>
      have h : XW K mg (WS (vs.map some) E) O st0 (vs.map some) H C fs (outs st0 s) := h
      refine fun Ca d σ' H' ws e S hd hr he => ?_
      have B := Outs.of F hno S
      exact h Ca d (vs.map some) H' ws e (Step.back F hno S) hd (hr.sub fun a z => z.imp id fun ⟨j, z⟩ => ⟨j, (B.own z).1⟩) he rfl
  | ok p =>
    obtain ⟨c, s⟩ := p
    rw [q] at h
    dsimp only at h
    cases er : retV c s with
    | none => rw [er] at h; exact h.elim
    | some r =>
      rw [er] at h
      have h : ∀ v H', Step K O st0 (vs.map some) H (outs st0 s) (vs.map some) H' → ER K O H (outs st0 s) (vs.map some) H' v r → Q v H' := h
      have keep : ∀ {σ' : L2.St} {H' : Hp}, Step K O (st0 ++ List.replicate (N.length - vs.length) .un) (vs.map some ++ List.replicate (N.length - vs.length) none) H s σ' H' → ∀ a o, H a = some o → ¬ MutO st0 (vs.map some) a → H' a = some o := fun S a o e n => S.keep a o e fun z => n (mut_start hl z)
      cases c with
      | nx =>
        cases er
        exact fun σ' H' S => h .non H' (Step.back F hno S) (by show Rp _ _ _ _ _; simp only [Rp])
      | bk => cases er
      | ct => cases er
      | rt r0 =>
        refine fun v σ' H' S Er => ?_
        have B := Outs.of F hno S
        refine h v H' (Step.back F hno S) ?_
        cases r0 with
        | d x => cases er; exact Rp.sub (fun a z => z.imp id fun ⟨j, z⟩ => ⟨j, (B.own z).1⟩) Er
        | own c =>
          cases er
          obtain ⟨p, ev, hp, np, FF, C⟩ := Er
          refine ⟨p, ev, hp, np, FR.outs F B S.fr (keep S) (fun a z => z.imp id fun z => by rw [z]; exact hp) FF.odom (fun a z ⟨j, h⟩ => FF.avoid a ⟨j, (B.own h).1⟩ z) fun i q c' h e => ?_, C.sub fun a z => z.imp id fun ⟨j, z⟩ => ⟨j, (B.own z).1⟩⟩
          obtain ⟨c2, hh, C2⟩ := FF.ownc (i := i) (p := q) ⟨e, c', .inr h⟩
          have : c2 = c' := by
            rcases hh with q | q | q <;> rcases h with h | h <;> (rw [h] at q; cases q <;> rfl)
          subst this
          exact C2.sub fun a z => z.imp id fun ⟨j, z⟩ => ⟨j, (B.own z).1⟩
        | loan i =>
          have er : (match s[i]? with
            | some (.own c) => some (EV.own c)
            | _ => none) = some r := er
          split at er
          · rename_i c hc
            cases er
            have Er : σ'[i]? = some (some v) := Er
            obtain ⟨ov, eo, p, ep, C⟩ := S.fr.slot i _ hc
            rw [Er] at eo; cases eo; cases ep
            have hown : OwnAt s σ' i p := ⟨Er, c, .inl hc⟩
            have np : ¬ O p := S.fr.avoid p ⟨i, hown⟩
            -- no parameter lies there
            have nop : ∀ j, ¬ OwnAt (outs st0 s) (vs.map some) j p := fun j z => by
              have e := S.fr.inj j i p (B.own z).1 hown
              subst e
              obtain ⟨_, c', h'⟩ := z
              have : ∃ sv, (outs st0 s)[j]? = some sv ∧ (sv = .own c' ∨ sv = .io c' ∨ sv = .lk c') := by
                rcases h' with h | h | h
                · exact ⟨_, h, .inl rfl⟩
                · exact ⟨_, h, .inr (.inl rfl)⟩
                · exact ⟨_, h, .inr (.inr rfl)⟩
              obtain ⟨sv, h', hsv⟩ := this
              obtain ⟨sv0, h0, hk⟩ := B.get j sv h'
              rcases hk with ⟨c0, c1, rfl, e1, rfl, e2⟩ | ⟨c0, rfl, e1, rfl, e2⟩ | ⟨hn, rfl⟩
              · rw [hc] at e1; cases e1
              · rw [hc] at e1; cases e1
              · rcases hsv with rfl | rfl | rfl
                · exact (hn c').2.2 rfl
                · exact (hn c').1 rfl
                · exact (hn c').2.1 rfl
            have hp : H p = none := by
              rcases S.new p ⟨i, hown⟩ with ⟨j, z⟩ | z
              · have z := (own_ext hl).mp z
                exfalso
                obtain ⟨e, c', h'⟩ := z
                rcases h' with h' | h' | h'
                · exact hno j c' h'
                · obtain ⟨c1, _, h2⟩ := B.io j c' h'
                  exact nop j ⟨e, c1, .inr (.inl h2)⟩
                · exact nop j ⟨e, c', .inr (.inr (B.lk j c' h'))⟩
              · exact z
            have sub : ∀ a, Av (O.with p) (outs st0 s) (vs.map some) a → Av O s σ' a := fun a z => by
              rcases z with (z | z) | ⟨j, z⟩
              · exact .inl z
              · rw [z]; exact .inr ⟨i, hown⟩
              · exact .inr ⟨j, (B.own z).1⟩
            refine ⟨p, rfl, hp, np, FR.outs F B S.fr (keep S) (fun a z => z.imp id fun z => by rw [z]; exact hp) (fun a z => z.elim (S.fr.odom a) fun z => by rw [z]; exact C.there) (fun a z ⟨j, h⟩ => z.elim (S.fr.avoid a ⟨j, (B.own h).1⟩) fun z => nop j (z ▸ h)) fun j q c' h e => ?_, C.sub sub⟩
            obtain ⟨c2, hh, C2⟩ := S.fr.ownc (i := j) (p := q) ⟨e, c', .inr h⟩
            have : c2 = c' := by
              rcases hh with q | q | q <;> rcases h with h | h <;> (rw [h] at q; cases q <;> rfl)
            subst this
            exact C2.sub sub
          · cases er
end
end VL
set_option Elab.async false
set_option linter.all false
set_option maxRecDepth 100000
namespace VL
open PySem PySem.Spec PyProof.Rows L2
/-! ### a call of a def -/
def argSV1 (s : VS) : EV → Option SV
  | .d x => some (.d x)
  | .own c => some (.d c.data)
  | .loan i => match s[i]? with
    | some (.own c) => some (.io c)
    | some (.io c) => some (.io c)
    | some (.lk c) => some (.lk c)
    | some (.rd xs) => some (.rd xs)
    | _ => none
def argSV (s : VS) : List EV → Option VS
  | [] => some []
  | r :: rs => (argSV1 s r).bind fun a => (argSV s rs).map (a :: ·)
def loans : List EV → List Nat
  | [] => []
  | .loan i :: rs => i :: loans rs
  | _ :: rs => loans rs
def putOuts : List EV → VS → VS → VS
  | .loan i :: rs, .io c :: o, s => putOuts rs o (putC i c s)
  | _ :: rs, _ :: o, s => putOuts rs o s
  | _, _, s => s
def callF (m : FM) (rs : List EV) : VM EV := fun s =>
  if (loans rs).Nodup then
    match argSV s rs with
    | some st0 => match m st0 with
      | .ok (.loan _, _) => .error .stuck
      | .ok (r, o) => .ok (r, putOuts rs o s)
      | .error (.exc C fs o) => .error (.exc C fs (putOuts rs o s))
      | .error .stuck => .error .stuck
    | none => .error .stuck
  else .error .stuck
def vCallF (m : FM) (fs : VM (List EV)) : VM EV := vb fs fun rs => callF m rs
theorem putC_get (i : Nat) (c : OC) (s : VS) (j : Nat) : (j ≠ i ∧ (putC i c s)[j]? = s[j]?) ∨ (j = i ∧ ((∃ c0 : OC, s[i]? = some (.own c0) ∧ (putC i c s)[i]? = some (.own c)) ∨ (∃ c0 : OC, s[i]? = some (.io c0) ∧ (putC i c s)[i]? = some (.io c)) ∨ ((∀ c0 : OC, s[i]? ≠ some (.own c0) ∧ s[i]? ≠ some (.io c0)) ∧ putC i c s = s))) := by
  have hi : ∀ sv, s[i]? = some sv → i < s.length := fun sv h => by
    by_cases hi : i < s.length
    · exact hi
    · rw [List.getElem?_eq_none (by omega)] at h; cases h
  by_cases hj : j = i
  · refine .inr ⟨hj, ?_⟩
    unfold putC
    split
    · rename_i c0 h; exact .inl ⟨c0, h, List.getElem?_set_self (hi _ h)⟩
    · rename_i c0 h; exact .inr (.inl ⟨c0, h, List.getElem?_set_self (hi _ h)⟩)
    · rename_i h1 h2
      exact .inr (.inr ⟨fun c0 => ⟨fun z => h1 c0 z, fun z => h2 c0 z⟩, rfl⟩)
  · refine .inl ⟨hj, ?_⟩
    unfold putC
    split
    · exact List.getElem?_set_ne (Ne.symm hj)
    · exact List.getElem?_set_ne (Ne.symm hj)
    · rfl
theorem putC_len (i : Nat) (c : OC) (s : VS) : (putC i c s).length = s.length := by
  unfold putC; split <;> first | exact List.length_set | rfl
theorem putOuts_len : ∀ (rs : List EV) (o s : VS), (putOuts rs o s).length = s.length
  | [], o, s => by cases o <;> rfl
  | r :: rs, [], s => by cases r <;> rfl
  | r :: rs, x :: o, s => by
    cases r <;> cases x <;> first | exact putOuts_len rs o s | (show (putOuts rs o (putC _ _ s)).length = _; rw [putOuts_len, putC_len])
/-- what the slots are behind it -/
def PutP (rs : List EV) (o s s2 : VS) (i : Nat) : Prop :=
    (s2[i]? = s[i]? ∧ ∀ (j : Nat) (c : OC), rs[j]? = some (.loan i) → o[j]? = some (.io c) → ∀ (c0 : OC), s[i]? ≠ some (.own c0) ∧ s[i]? ≠ some (.io c0)) ∨
    (∃ (j : Nat) (c c0 : OC), rs[j]? = some (.loan i) ∧ o[j]? = some (.io c) ∧ ((s[i]? = some (.own c0) ∧ s2[i]? = some (.own c)) ∨ (s[i]? = some (.io c0) ∧ s2[i]? = some (.io c))))
theorem putOuts_get : ∀ (rs : List EV) (o s : VS), (loans rs).Nodup → ∀ (i : Nat), PutP rs o s (putOuts rs o s) i
  | [], o, s, _, i => .inl ⟨by cases o <;> rfl, fun j c h => by simp at h⟩
  | r :: rs, [], s, _, i => .inl ⟨by cases r <;> rfl, fun j c h g => by simp at g⟩
  | r :: rs, x :: o, s, nd, i => by
    have skip : (∀ (k : Nat) (c : OC), r = .loan k → x ≠ .io c) → (loans rs).Nodup → putOuts (r :: rs) (x :: o) s = putOuts rs o s → PutP (r :: rs) (x :: o) s (putOuts (r :: rs) (x :: o) s) i := fun hn nd' e => by
      rw [e]
      rcases putOuts_get rs o s nd' i with ⟨a, b⟩ | ⟨j, c, c0, a, b, d⟩
      · refine .inl ⟨a, fun j c h g => ?_⟩
        cases j with
        | zero => simp at h g; exact absurd g (hn i c h)
        | succ j => exact b j c (by simpa using h) (by simpa using g)
      · exact .inr ⟨j + 1, c, c0, by simpa using a, by simpa using b, d⟩
    cases r with
    | d y => exact skip (fun k c z => by cases z) nd (by cases x <;> rfl)
    | own y => exact skip (fun k c z => by cases z) nd (by cases x <;> rfl)
    | loan k =>
      have nd2 : (loans rs).Nodup := (List.nodup_cons.mp nd).2
      have nk : k ∉ loans rs := (List.nodup_cons.mp nd).1
      have nkj : ∀ j : Nat, rs[j]? ≠ some (.loan k) := fun j h => nk (mem_loans rs j k h)
      cases x with
      | io c =>
        have e : putOuts (.loan k :: rs) (.io c :: o) s = putOuts rs o (putC k c s) := rfl
        rw [e]
        rcases putOuts_get rs o (putC k c s) nd2 i with ⟨a, b⟩ | ⟨j, c', c0, a, b, d⟩
        · rcases putC_get k c s i with ⟨hik, e2⟩ | ⟨hik, e2⟩
          · refine .inl ⟨a.trans e2, fun j c' h g => ?_⟩
            cases j with
            | zero => simp at h; exact absurd h.symm hik
            | succ j => have := b j c' (by simpa using h) (by simpa using g); rw [e2] at this; exact this
          · subst hik
            rcases e2 with ⟨c0, h1, h2⟩ | ⟨c0, h1, h2⟩ | ⟨hn, e2⟩
            · exact .inr ⟨0, c, c0, rfl, rfl, .inl ⟨h1, a.trans h2⟩⟩
            · exact .inr ⟨0, c, c0, rfl, rfl, .inr ⟨h1, a.trans h2⟩⟩
            · exact .inl ⟨by rw [a, e2], fun _ _ _ _ => hn⟩
        · have hik : i ≠ k := fun z => by subst z; exact nkj j a
          rcases putC_get k c s i with ⟨_, e2⟩ | ⟨z, _⟩
          · rw [e2] at d
            exact .inr ⟨j + 1, c', c0, by simpa using a, by simpa using b, d⟩
          · exact absurd z hik
      | un => exact skip (fun k c _ z => by cases z) nd2 rfl
      | d y => exact skip (fun k c _ z => by cases z) nd2 rfl
      | own y => exact skip (fun k c _ z => by cases z) nd2 rfl
      | lk y => exact skip (fun k c _ z => by cases z) nd2 rfl
      | rd y => exact skip (fun k c _ z => by cases z) nd2 rfl
where
  mem_loans : ∀ (rs : List EV) (j k : Nat), rs[j]? = some (.loan k) → k ∈ loans rs
    | [], j, k, h => by simp at h
    | .d x :: rs, 0, k, h => by simp at h
    | .own x :: rs, 0, k, h => by simp at h
    | .loan i :: rs, 0, k, h => by simp at h; subst h; exact List.mem_cons_self
    | .d x :: rs, j + 1, k, h => mem_loans rs j k (by simpa using h)
    | .own x :: rs, j + 1, k, h => mem_loans rs j k (by simpa using h)
    | .loan i :: rs, j + 1, k, h => List.mem_cons_of_mem _ (mem_loans rs j k (by simpa using h))
theorem loans_inj : ∀ {rs : List EV} {i j k : Nat}, (loans rs).Nodup → rs[i]? = some (.loan k) → rs[j]? = some (.loan k) → i = j
  | [], i, j, k, _, h, _ => by simp at h
  | .d x :: rs, 0, j, k, _, h, _ => by simp at h
  | .own x :: rs, 0, j, k, _, h, _ => by simp at h
  | .d x :: rs, i + 1, 0, k, _, _, h => by simp at h
  | .own x :: rs, i + 1, 0, k, _, _, h => by simp at h
  | .d x :: rs, i + 1, j + 1, k, nd, h, g => congrArg Nat.succ (loans_inj (rs := rs) nd (by simpa using h) (by simpa using g))
  | .own x :: rs, i + 1, j + 1, k, nd, h, g => congrArg Nat.succ (loans_inj (rs := rs) nd (by simpa using h) (by simpa using g))
  | .loan l :: rs, 0, 0, k, _, _, _ => rfl
  | .loan l :: rs, 0, j + 1, k, nd, h, g => by
    simp at h; subst h
    exact absurd (putOuts_get.mem_loans rs j l (by simpa using g)) (List.nodup_cons.mp nd).1
  | .loan l :: rs, i + 1, 0, k, nd, h, g => by
    simp at g; subst g
    exact absurd (putOuts_get.mem_loans rs i l (by simpa using h)) (List.nodup_cons.mp nd).1
  | .loan l :: rs, i + 1, j + 1, k, nd, h, g => congrArg Nat.succ (loans_inj (rs := rs) (List.nodup_cons.mp nd).2 (by simpa using h) (by simpa using g))
theorem argSV_get : ∀ {rs : List EV} {s st0 : VS}, argSV s rs = some st0 → st0.length = rs.length ∧ ∀ (j : Nat) (r : EV), rs[j]? = some r → ∃ a, argSV1 s r = some a ∧ st0[j]? = some a
  | [], s, st0, h => by cases h; exact ⟨rfl, fun j r h => by simp at h⟩
  | r :: rs, s, st0, h => by
    obtain ⟨a, h1, h⟩ := Option.bind_eq_some_iff.mp (show (argSV1 s r).bind _ = some st0 from h)
    obtain ⟨t, h2, rfl⟩ := Option.map_eq_some_iff.mp h
    obtain ⟨l, g⟩ := argSV_get h2
    refine ⟨by rw [List.length_cons, List.length_cons, l], fun j r' hj => ?_⟩
    cases j with
    | zero => simp at hj; subst hj; exact ⟨a, h1, rfl⟩
    | succ j =>
      obtain ⟨b, e1, e2⟩ := g j r' (by simpa using hj)
      exact ⟨b, e1, by simpa using e2⟩
section
variable {K : PySem.W.Frag} {mg : Str → Option Value} {W : WX} {O : AS} {H H2 : Hp} {s st0 o : VS} {σ : L2.St} {vs : List V} {rs : List EV}
theorem ERs.get : ∀ {vs : List V} {rs : List EV} {j : Nat} {r : EV}, ERs K O s σ H vs rs → rs[j]? = some r → ∃ v, vs[j]? = some v ∧ ER K O H s σ H v r ∧ r = settle r
  | [], [], j, r, _, h => by simp at h
  | v :: vs, r' :: rs, 0, r, E, h => by
    simp at h; subst h
    have E1 := E.1
    rw [← E.2.1] at E1
    exact ⟨v, rfl, E1, E.2.1⟩
  | v :: vs, r' :: rs, j + 1, r, E, h => by
    obtain ⟨u, a, b⟩ := ERs.get (j := j) (r := r) E.2.2 (by simpa using h)
    exact ⟨u, by simpa using a, b⟩
  | [], _ :: _, _, _, h, _ => h.elim
  | _ :: _, [], _, _, h, _ => h.elim
/-- what the callee has to keep away from -/
def O2 (O : AS) (s : VS) (σ : L2.St) (st0 : VS) (vs : List V) : AS := fun a => O a ∨ (Own s σ a ∧ ¬ Own st0 (vs.map some) a)
structure ArgOk (K : PySem.W.Frag) (O : AS) (s : VS) (σ : L2.St) (H : Hp) (rs : List EV) (vs : List V) (st0 : VS) : Prop where
  nd : (loans rs).Nodup
  lv : vs.length = rs.length
  ls : st0.length = rs.length
  /-- a parameter's own object is the one of the slot that was lent -/
  own : ∀ (j : Nat) (p : Addr), OwnAt st0 (vs.map some) j p → ∃ i, rs[j]? = some (.loan i) ∧ OwnAt s σ i p ∧ (MutAt st0 (vs.map some) j p → MutAt s σ i p)
  fr : FR K (O2 O s σ st0 vs) st0 (vs.map some) H
  noown : ∀ (i : Nat) (c : OC), st0[i]? ≠ some (.own c)
theorem ArgOk.of (F : FR K O s σ H) (E : ERs K O s σ H vs rs) (nd : (loans rs).Nodup) (h : argSV s rs = some st0) : ArgOk K O s σ H rs vs st0 := by
  obtain ⟨ls, get⟩ := argSV_get h
  have lv := E.length
  have each : ∀ (j : Nat) (sv : SV), st0[j]? = some sv → ∃ r v, rs[j]? = some r ∧ vs[j]? = some v ∧ argSV1 s r = some sv ∧ ER K O H s σ H v r ∧ r = settle r := fun j sv hj => by
    have hl : j < rs.length := by
      by_cases hl : j < rs.length
      · exact hl
      · rw [List.getElem?_eq_none (by omega)] at hj; cases hj
    obtain ⟨r, hr⟩ : ∃ r, rs[j]? = some r := ⟨_, List.getElem?_eq_getElem hl⟩
    obtain ⟨v, hv, Er, es⟩ := E.get hr
    obtain ⟨a, e1, e2⟩ := get j r hr
    rw [hj] at e2; cases e2
    exact ⟨r, v, hr, hv, e1, Er, es⟩
  have noown : ∀ (i : Nat) (c : OC), st0[i]? ≠ some (.own c) := fun i c h => by
    obtain ⟨r, v, _, _, e, _⟩ := each i _ h
    cases r with
    | d x => cases e
    | own x => cases e
    | loan k => unfold argSV1 at e; dsimp only at e; split at e <;> cases e
  have own : ∀ (j : Nat) (p : Addr), OwnAt st0 (vs.map some) j p → ∃ i, rs[j]? = some (.loan i) ∧ OwnAt s σ i p ∧ (MutAt st0 (vs.map some) j p → MutAt s σ i p) := fun j p ⟨e, c, hc⟩ => by
    have : ∃ sv, st0[j]? = some sv ∧ (sv = .io c ∨ sv = .lk c) := by
      rcases hc with h | h | h
      · exact absurd h (noown j c)
      · exact ⟨_, h, .inl rfl⟩
      · exact ⟨_, h, .inr rfl⟩
    obtain ⟨sv, hsv, hk⟩ := this
    obtain ⟨r, v, hr, hv, ea, Er, _⟩ := each j sv hsv
    rw [List.getElem?_map, hv] at e
    cases e
    cases r with
    | d x => cases ea; rcases hk with z | z <;> cases z
    | own x => cases ea; rcases hk with z | z <;> cases z
    | loan i =>
      have Er : σ[i]? = some (some (.ref p)) := Er
      refine ⟨i, hr, ?_⟩
      unfold argSV1 at ea; dsimp only at ea
      split at ea
      · rename_i c' hs; exact ⟨⟨Er, c', .inl hs⟩, fun _ => ⟨Er, c', .inl hs⟩⟩
      · rename_i c' hs; exact ⟨⟨Er, c', .inr (.inl hs)⟩, fun _ => ⟨Er, c', .inr hs⟩⟩
      · rename_i c' hs
        cases ea
        refine ⟨⟨Er, c', .inr (.inr hs)⟩, fun ⟨_, c2, z⟩ => ?_⟩
        rcases z with z | z <;> (rw [hsv] at z; cases z)
      · cases ea; rcases hk with z | z <;> cases z
      · cases ea
  have av : ∀ a, Av (O2 O s σ st0 vs) st0 (vs.map some) a ↔ Av O s σ a := fun a => by
    constructor
    · rintro ((h | ⟨h, _⟩) | ⟨j, h⟩)
      · exact .inl h
      · exact .inr h
      · obtain ⟨i, _, h, _⟩ := own j a h; exact .inr ⟨i, h⟩
    · rintro (h | h)
      · exact .inl (.inl h)
      · by_cases q : Own st0 (vs.map some) a
        · exact .inr q
        · exact .inl (.inr ⟨h, q⟩)
  have sub : ∀ a, Av (O2 O s σ st0 vs) st0 (vs.map some) a → Av O s σ a := fun a h => (av a).mp h
  refine ⟨nd, lv, ls, own, ⟨by rw [ls, List.length_map, lv], fun j sv h => ?_, fun i j p h1 h2 => ?_, fun p hp z => ?_, fun p z => z.elim (F.odom p) fun z => F.ownSome z.1⟩, noown⟩
  · obtain ⟨r, v, hr, hv, ea, Er, _⟩ := each j sv h
    refine ⟨some v, by rw [List.getElem?_map, hv]; rfl, ?_⟩
    cases r with
    | d x => cases ea; exact ⟨v, rfl, Rp.sub sub Er⟩
    | own c => cases ea; exact ⟨v, rfl, Rp.sub sub (ER.settle (H1 := H) Er)⟩
    | loan i =>
      have Er : σ[i]? = some (some v) := Er
      unfold argSV1 at ea; dsimp only at ea
      split at ea
      · rename_i c hs; cases ea
        obtain ⟨ov, eo, p, ep, C⟩ := F.slot i _ hs
        rw [Er] at eo; cases eo
        exact ⟨p, ep, C.sub sub⟩
      · rename_i c hs; cases ea
        obtain ⟨ov, eo, p, ep, C⟩ := F.slot i _ hs
        rw [Er] at eo; cases eo
        exact ⟨p, ep, C.sub sub⟩
      · rename_i c hs; cases ea
        obtain ⟨ov, eo, p, ep, C⟩ := F.slot i _ hs
        rw [Er] at eo; cases eo
        exact ⟨p, ep, C.sub sub⟩
      · rename_i xs hs; cases ea
        obtain ⟨ov, eo, a, ws, ep, R, Rl⟩ := F.slot i _ hs
        rw [Er] at eo; cases eo
        exact ⟨a, ws, ep, R.mono (fun a z => .inl (sub a z)) (fun _ _ e _ => e), Rl.sub sub⟩
      · cases ea
  · obtain ⟨k, e1, o1, _⟩ := own i p h1
    obtain ⟨l, e2, o2, _⟩ := own j p h2
    have := F.inj k l p o1 o2
    subst this
    exact loans_inj nd e1 e2
  · rcases z with z | ⟨_, z⟩
    · obtain ⟨j, hp⟩ := hp
      obtain ⟨i, _, h, _⟩ := own j p hp
      exact F.avoid p ⟨i, h⟩ z
    · exact z hp
/-- behind the call -/
theorem ArgOk.step (A : ArgOk K O s σ H rs vs st0) (F : FR K O s σ H) (E : ERs K O s σ H vs rs) (S : Step K (O2 O s σ st0 vs) st0 (vs.map some) H o (vs.map some) H2) :
    Step K O s σ H (putOuts rs o s) σ H2 ∧ ∀ a, Av O (putOuts rs o s) σ a → Av (O2 O s σ st0 vs) o (vs.map some) a := by
  have ownO : ∀ a, Own st0 (vs.map some) a → Own o (vs.map some) a := fun a ⟨j, h⟩ => by
    obtain ⟨e, c, h⟩ := h
    rcases h with h | h | h
    · exact absurd h (A.noown j c)
    · obtain ⟨⟨c', h'⟩, _⟩ := S.io j c h; exact ⟨j, e, c', .inr (.inl h')⟩
    · obtain ⟨h', _⟩ := S.lk j c h; exact ⟨j, e, c, .inr (.inr h')⟩
  have get := putOuts_get rs o s A.nd
  -- kinds
  have own : ∀ i p, OwnAt (putOuts rs o s) σ i p → OwnAt s σ i p := fun i p ⟨e, c, h⟩ => by
    rcases get i with ⟨g, _⟩ | ⟨j, c1, c0, _, _, g⟩
    · rw [g] at h; exact ⟨e, c, h⟩
    · rcases g with ⟨g, _⟩ | ⟨g, _⟩
      · exact ⟨e, c0, .inl g⟩
      · exact ⟨e, c0, .inr (.inl g)⟩
  have own' : ∀ i p, OwnAt s σ i p → OwnAt (putOuts rs o s) σ i p := fun i p ⟨e, c, h⟩ => by
    rcases get i with ⟨g, _⟩ | ⟨j, c1, c0, _, _, g⟩
    · rw [← g] at h; exact ⟨e, c, h⟩
    · rcases g with ⟨_, g⟩ | ⟨_, g⟩
      · exact ⟨e, c1, .inl g⟩
      · exact ⟨e, c1, .inr (.inl g)⟩
  have mut_ : ∀ i p, MutAt (putOuts rs o s) σ i p → MutAt s σ i p := fun i p ⟨e, c, h⟩ => by
    rcases get i with ⟨g, _⟩ | ⟨j, c1, c0, _, _, g⟩
    · rw [g] at h; exact ⟨e, c, h⟩
    · rcases g with ⟨g, _⟩ | ⟨g, _⟩
      · exact ⟨e, c0, .inl g⟩
      · exact ⟨e, c0, .inr g⟩
  have av : ∀ a, Av O (putOuts rs o s) σ a → Av (O2 O s σ st0 vs) o (vs.map some) a := fun a z => by
    rcases z with z | ⟨i, z⟩
    · exact .inl (.inl z)
    · by_cases q : Own st0 (vs.map some) a
      · exact .inr (ownO a q)
      · exact .inl (.inr ⟨⟨i, own i a z⟩, q⟩)
  have mutS : ∀ a, MutO st0 (vs.map some) a → MutO s σ a := fun a ⟨j, h⟩ => by
    have ho : OwnAt st0 (vs.map some) j a := let ⟨e, c, h⟩ := h; ⟨e, c, h.imp id .inl⟩
    obtain ⟨i, _, _, g⟩ := A.own j a ho
    exact ⟨i, g h⟩
  have keep : ∀ a ob, H a = some ob → ¬ MutO s σ a → H2 a = some ob := fun a ob e n => S.keep a ob e fun z => n (mutS a z)
  have mo : ∀ a, Av O (putOuts rs o s) σ a → Av O s σ a ∨ H a = none := fun a z => .inl (z.imp id fun ⟨i, z⟩ => ⟨i, own i a z⟩)
  have ke : ∀ a ob, H a = some ob → ¬ Av O s σ a → H2 a = some ob := fun a ob e n => keep a ob e fun z => n (.inr z.own)
  refine ⟨⟨⟨by rw [putOuts_len]; exact F.len, fun i sv h => ?_, fun i j p h1 h2 => F.inj i j p (own i p h1) (own j p h2), fun p ⟨i, h⟩ => F.avoid p ⟨i, own i p h⟩, fun p hp z => F.odom p hp (S.dom p z)⟩, keep, fun a ⟨i, h⟩ => .inl ⟨i, own i a h⟩, fun a ⟨i, h⟩ => .inl ⟨i, mut_ i a h⟩, S.dom, rfl, fun i c h => ?_, fun i c h => ?_⟩, av⟩
  · -- a slot
    rcases get i with ⟨g, gn⟩ | ⟨j, c1, c0, hr, ho, g⟩
    · rw [g] at h
      obtain ⟨v, ev, sl⟩ := F.slot i sv h
      refine ⟨v, ev, ?_⟩
      -- its object was not lent to be changed
      have stay : ∀ p c, OwnAt s σ i p → Cont K (Av O s σ) H p c → Cont K (Av O (putOuts rs o s) σ) H2 p c := fun p c hp C => by
        refine C.mono mo ke ?_
        have nm : ¬ MutO st0 (vs.map some) p := fun ⟨j, hj⟩ => by
          have hoj : OwnAt st0 (vs.map some) j p := let ⟨e, c, h⟩ := hj; ⟨e, c, h.imp id .inl⟩
          obtain ⟨i', er, o', gm⟩ := A.own j p hoj
          have := F.inj i' i p o' hp
          subst this
          obtain ⟨_, c2, hc2⟩ := hj
          rcases hc2 with hc2 | hc2
          · exact A.noown j c2 hc2
          · obtain ⟨⟨c3, ho3⟩, _⟩ := S.io j c2 hc2
            obtain ⟨_, c4, h4⟩ := gm ⟨hoj.1, c2, .inr hc2⟩
            rcases h4 with h4 | h4
            · exact (gn j c3 er ho3 c4).1 h4
            · exact (gn j c3 er ho3 c4).2 h4
        cases q : H p with
        | none => exact absurd q C.there
        | some ob => exact S.keep p ob q nm
      cases sv with
      | un => trivial
      | d x => obtain ⟨w, ew, R⟩ := sl; exact ⟨w, ew, Rp.mono mo ke _ _ R⟩
      | own c => obtain ⟨p, ep, C⟩ := sl; subst ep; exact ⟨p, rfl, stay p c ⟨ev, c, .inl h⟩ C⟩
      | io c => obtain ⟨p, ep, C⟩ := sl; subst ep; exact ⟨p, rfl, stay p c ⟨ev, c, .inr (.inl h)⟩ C⟩
      | lk c => obtain ⟨p, ep, C⟩ := sl; subst ep; exact ⟨p, rfl, stay p c ⟨ev, c, .inr (.inr h)⟩ C⟩
      | rd xs => obtain ⟨a, ws, ep, R, Rl⟩ := sl; exact ⟨a, ws, ep, R.mono mo ke, RpL.mono mo ke _ _ Rl⟩
    · -- lent and given back
      obtain ⟨v, hv, Er, _⟩ := E.get hr
      have Er : σ[i]? = some (some v) := Er
      obtain ⟨ov, eo, p, ep, C⟩ := S.fr.slot j _ ho
      rw [List.getElem?_map, hv] at eo
      cases eo
      cases ep
      refine ⟨_, Er, ?_⟩
      have C' := C.sub av
      rcases g with ⟨_, g⟩ | ⟨_, g⟩
      · rw [g] at h; cases h; exact ⟨p, rfl, C'⟩
      · rw [g] at h; cases h; exact ⟨p, rfl, C'⟩
  · rcases get i with ⟨g, _⟩ | ⟨j, c1, c0, _, _, g⟩
    · exact ⟨⟨c, by rw [g]; exact h⟩, rfl⟩
    · rcases g with ⟨g, _⟩ | ⟨_, g⟩
      · rw [h] at g; cases g
      · exact ⟨⟨c1, g⟩, rfl⟩
  · rcases get i with ⟨g, _⟩ | ⟨j, c1, c0, _, _, g⟩
    · exact ⟨by rw [g]; exact h, rfl⟩
    · rcases g with ⟨g, _⟩ | ⟨g, _⟩ <;> (rw [h] at g; cases g)
end
section
variable {X : Cx} {W : WX} {e : Expr} {es : List Expr} {pos p : Pos} {fs : VM (List EV)} {k j n : Nat} {f : Addr} {fd : FuncData} {ps : List Str} {m : FM} {x : Str}
/-- what is given back keeps away from the caller's own too -/
theorem FR.put2 {K : PySem.W.Frag} {O : AS} {s st0 o : VS} {σ : L2.St} {H H2 : Hp} {vs : List V} {rs : List EV} {q : Addr} (A : ArgOk K O s σ H rs vs st0) (F : FR K O s σ H) (E : ERs K O s σ H vs rs)
    (S : Step K (O2 O s σ st0 vs) st0 (vs.map some) H o (vs.map some) H2) (hq : H q = none) (FF : FR K ((O2 O s σ st0 vs).with q) o (vs.map some) H2) : FR K (O.with q) (putOuts rs o s) σ H2 := by
  obtain ⟨S', av⟩ := A.step F E S
  have av2 : ∀ a, Av (O.with q) (putOuts rs o s) σ a → Av ((O2 O s σ st0 vs).with q) o (vs.map some) a := fun a z => by
    rcases z with (z | z) | z
    · exact (av a (.inl z)).imp .inl id
    · exact .inl (.inr z)
    · exact (av a (.inr z)).imp .inl id
  have noq : ¬ Own (putOuts rs o s) σ q := fun z => (S'.new q z).elim (fun z => F.ownSome z hq) fun _ => by
    have := av q (.inr z)
    rcases this with z | z
    · exact (z.elim (F.odom q) fun z => F.ownSome z.1) hq
    · exact FF.avoid q z (.inr rfl)
  have mo : ∀ a, Av (O.with q) (putOuts rs o s) σ a → Av O s σ a ∨ H a = none := fun a z => by
    rcases z with (z | z) | z
    · exact .inl (.inl z)
    · exact .inr (by rw [z]; exact hq)
    · exact (S'.new a z).imp .inr id
  have ke : ∀ a ob, H a = some ob → ¬ Av O s σ a → H2 a = some ob := fun a ob e n => S'.keep a ob e fun z => n (.inr z.own)
  refine ⟨S'.fr.len, fun i sv h => ?_, S'.fr.inj, fun p hp z => z.elim (S'.fr.avoid p hp) fun z => noq (z ▸ hp), fun p z => z.elim (S'.fr.odom p) fun z => by rw [z]; exact FF.odom q (.inr rfl)⟩
  have keepd : ∀ {d : Da} {w : V}, Rp K (Av O s σ) H d w → Rp K (Av (O.with q) (putOuts rs o s) σ) H2 d w := fun R => Rp.mono mo ke _ _ R
  -- a slot that owns, behind it
  have cont : ∀ p c, OwnAt (putOuts rs o s) σ i p → (putOuts rs o s)[i]? = some sv → Cont K (Av O (putOuts rs o s) σ) H2 p c → (sv = .own c ∨ sv = .io c ∨ sv = .lk c) → Cont K (Av (O.with q) (putOuts rs o s) σ) H2 p c := fun p c ow h C hk => by
    rcases putOuts_get rs o s A.nd i with ⟨g, gn⟩ | ⟨j, c1, c0, hr, ho, g⟩
    · rw [g] at h
      obtain ⟨v, ev, sl⟩ := F.slot i sv h
      have hp0 : OwnAt s σ i p ∧ Cont K (Av O s σ) H p c := by
        rcases hk with rfl | rfl | rfl
        · obtain ⟨p', ep, C0⟩ := sl
          have e := ow.1; rw [ev, ep] at e; cases e
          exact ⟨⟨ow.1, c, .inl h⟩, C0⟩
        · obtain ⟨p', ep, C0⟩ := sl
          have e := ow.1; rw [ev, ep] at e; cases e
          exact ⟨⟨ow.1, c, .inr (.inl h)⟩, C0⟩
        · obtain ⟨p', ep, C0⟩ := sl
          have e := ow.1; rw [ev, ep] at e; cases e
          exact ⟨⟨ow.1, c, .inr (.inr h)⟩, C0⟩
      refine hp0.2.mono mo ke ?_
      have nm : ¬ MutO st0 (vs.map some) p := fun ⟨j, hj⟩ => by
        have hoj : OwnAt st0 (vs.map some) j p := let ⟨e, c, h⟩ := hj; ⟨e, c, h.imp id .inl⟩
        obtain ⟨i', er, o', gm⟩ := A.own j p hoj
        have := F.inj i' i p o' hp0.1
        subst this
        obtain ⟨_, c2, hc2⟩ := hj
        rcases hc2 with hc2 | hc2
        · exact A.noown j c2 hc2
        · obtain ⟨⟨c3, ho3⟩, _⟩ := S.io j c2 hc2
          obtain ⟨_, c4, h4⟩ := gm ⟨hoj.1, c2, .inr hc2⟩
          rcases h4 with h4 | h4
          · exact (gn j c3 er ho3 c4).1 h4
          · exact (gn j c3 er ho3 c4).2 h4
      cases qq : H p with
      | none => exact absurd qq hp0.2.there
      | some ob => exact S.keep p ob qq nm
    · obtain ⟨v, hv, Er, _⟩ := E.get hr
      have Er : σ[i]? = some (some v) := Er
      obtain ⟨ov, eo, p', ep, C2⟩ := FF.slot j _ ho
      rw [List.getElem?_map, hv] at eo
      cases eo
      cases ep
      have e := ow.1; rw [Er] at e; cases e
      have ec : c1 = c := by
        rcases g with ⟨_, g⟩ | ⟨_, g⟩ <;> (rw [g] at h; cases h; rcases hk with z | z | z <;> cases z <;> rfl)
      subst ec
      exact C2.sub av2
  obtain ⟨v, ev, sl⟩ := S'.fr.slot i sv h
  refine ⟨v, ev, ?_⟩
  cases sv with
  | un => trivial
  | own c => obtain ⟨p, ep, C⟩ := sl; subst ep; exact ⟨p, rfl, cont p c ⟨ev, c, .inl h⟩ h C (.inl rfl)⟩
  | io c => obtain ⟨p, ep, C⟩ := sl; subst ep; exact ⟨p, rfl, cont p c ⟨ev, c, .inr (.inl h)⟩ h C (.inr (.inl rfl))⟩
  | lk c => obtain ⟨p, ep, C⟩ := sl; subst ep; exact ⟨p, rfl, cont p c ⟨ev, c, .inr (.inr h)⟩ h C (.inr (.inr rfl))⟩
  | d x =>
    have h0 : s[i]? = some (.d x) := by
      rcases putOuts_get rs o s A.nd i with ⟨g, _⟩ | ⟨j, c1, c0, _, _, g⟩
      · rw [← g]; exact h
      · rcases g with ⟨_, g⟩ | ⟨_, g⟩ <;> (rw [h] at g; cases g)
    obtain ⟨v0, ev0, w, ew, R⟩ := F.slot i _ h0
    rw [ev] at ev0; cases ev0
    exact ⟨w, ew, keepd R⟩
  | rd xs =>
    have h0 : s[i]? = some (.rd xs) := by
      rcases putOuts_get rs o s A.nd i with ⟨g, _⟩ | ⟨j, c1, c0, _, _, g⟩
      · rw [← g]; exact h
      · rcases g with ⟨_, g⟩ | ⟨_, g⟩ <;> (rw [h] at g; cases g)
    obtain ⟨v0, ev0, a, ws, ew, R, Rl⟩ := F.slot i _ h0
    rw [ev] at ev0; cases ev0
    exact ⟨a, ws, ew, R.mono mo ke, RpL.mono mo ke _ _ Rl⟩
theorem callF_wk {σ : L2.St} {H : Hp} {Q : VK} (hn : ∀ s (rs : List EV) (r : List EV × VS), fs s = .ok r → r.1.length = n) (h : tV X.K X.mg W (vCallF m fs) σ H Q) : tCallS (spV X.K X.mg n m) (WE W) (tVA X.K X.mg W fs) σ H Q := by
  obtain ⟨O, st, F, h⟩ := h
  have len : ∀ rs s1, fs st = .ok (rs, s1) → rs.length = n := fun rs s1 e => hn st rs (rs, s1) e
  refine ⟨O, st, F, ?_⟩
  have h := vrun_vb h
  cases efs : fs st with
  | error er => rw [efs] at h; cases er <;> exact h
  | ok q0 =>
  obtain ⟨rs, s1⟩ := q0
  rw [efs] at h
  refine fun vs H1 S1 E1 => ?_
  have hl : vs.length = n := E1.length.trans (len rs s1 efs)
  have h : VRun X.K X.mg W O s1 σ H1 (callF m rs s1) _ := VRun.step S1 h
  unfold callF at h
  by_cases nd : (loans rs).Nodup
  · rw [if_pos nd] at h
    cases ea : argSV s1 rs with
    | none => rw [ea] at h; exact h.elim
    | some st0 =>
      rw [ea] at h
      dsimp only at h
      have A := ArgOk.of S1.fr E1 nd ea
      refine ⟨hl, _, st0, A.fr, A.noown, ?_⟩
      cases em : m st0 with
      | error er =>
        rw [em] at h
        cases er with
        | stuck => exact h
        | exc C fs o =>
          have h : XW X.K X.mg W O s1 σ H1 C fs (putOuts rs o s1) := h
          refine fun Ca d σ' H' ws e S hd hr he eσ => ?_
          subst eσ
          obtain ⟨S', av⟩ := A.step S1.fr E1 S
          exact h Ca d σ H' ws e S' hd (hr.sub av) he
      | ok q =>
        obtain ⟨r, o⟩ := q
        rw [em] at h
        refine fun v H' S Er => ?_
        obtain ⟨S', av⟩ := A.step S1.fr E1 S
        have hL : ∀ i, r ≠ .loan i := fun i z => by subst z; exact h
        have h : ∀ v H', Step X.K O st σ H (putOuts rs o s1) σ H' → ER X.K O H (putOuts rs o s1) σ H' v r → Q v H' := by
          cases r with
          | loan i => exact absurd rfl (hL i)
          | d x => exact h
          | own c => exact h
        refine h v H' (S1.trans S') ?_
        cases r with
        | d x => exact Rp.sub av Er
        | own c =>
          obtain ⟨q, ev, hq, nq, FF, C⟩ := Er
          refine ⟨q, ev, S1.dom q hq, fun z => nq (.inl z), FR.put2 A S1.fr E1 S hq FF, C.sub fun a z => ?_⟩
          rcases z with (z | z) | z
          · exact (av a (.inl z)).imp .inl id
          · exact .inl (.inr z)
          · exact (av a (.inr z)).imp .inl id
        | loan i => exact absurd rfl (hL i)
  · rw [if_neg nd] at h; exact h.elim
/-- f(e, ..) -/
theorem ve_call {W : WX} (c : VC X W k) (G : FnOk X.prog X.w X.K X.mg X.base (L2.CX X.prog X.w) j f fd ps (spV X.K X.mg n m)) (hj : j ≤ k) (hm : X.mg x = some (.ref f)) (hk : PySem.W.keepIn X.K (.ref f) = true) (hb : Binds X.K fd ps [])
    (ha : VA X W (e :: es) fs) (hn : ∀ s (r : List EV × VS), fs s = .ok r → r.1.length = n) (hg : Gl X x := by rfl) (hdb : (x == ("__debug__" : Str)) = false := by decide)
    (he : starEach (e :: es) X.env = (false, eval e X.env) :: starEach es X.env := by rfl) (hpl : (backTo pos (starEach es X.env)).any (·.1) = false := by rfl) : VE X W (.Call (.Name x p) (e :: es) [] pos) (vCallF m fs) :=
  PE.wk (pe_callS G (c.rm.mono hj) hg hm hk hb (fun σ => passAt c.tk σ) ha hdb he hpl) fun σ H Q h => callF_wk (fun s rs r e => hn s r e) h
theorem vcons_len {f : VM EV} {fs : VM (List EV)} {n : Nat} (h : ∀ s (r : List EV × VS), fs s = .ok r → r.1.length = n) : ∀ s (r : List EV × VS), vCons f fs s = .ok r → r.1.length = n + 1 := fun s r e => by
  unfold vCons vb at e
  split at e
  · dsimp only at e
    split at e
    · rename_i q
      cases e
      show _ + 1 = _
      rw [h _ _ q]
    · cases e
  · cases e
theorem vnil_len : ∀ s (r : List EV × VS), (vr [] : VM (List EV)) s = .ok r → r.1.length = 0 := fun s r e => by cases e; rfl
end
section
variable {P : Program} {w : World} {K : PySem.W.Frag} {mg : Str → Option Value} {base : Heap}
/-- A DEF: its body's derivation gives its promise -/
theorem fn_v {x qual : Str} {st : Stmt} {f : Addr} {fd : FuncData} {N ps : List Str} {k : Nat} {g : VM Ctl} (F : Fun K x qual st f fd) (S : FnScope N ps (defScope st))
    (hb : ∀ (cdv : Value) (A : Around) (outer : List Env) (s : Shared) (H : Hp) (E : XK), VC (cxOf (L2.CX P w) P w K mg base N qual (defScope st) f cdv A outer s H E) (WN E) k →
      VSs (cxOf (L2.CX P w) P w K mg base N qual (defScope st) f cdv A outer s H E) (WN E) (defBody st) g) :
    FnOk P w K mg base (L2.CX P w) (k + 1) f fd ps (spV K mg ps.length (runF N.length g)) := by
  refine F.okX S (fun vs H Q E h => h.1) (fun cdv A outer s H vs Q E hr h => ⟨_, hb cdv A outer s H E ⟨rfl, S.nd, takes_of rfl rfl rfl rfl, hr⟩, ?_⟩)
  have hl := h.1
  rw [← hl] at h
  exact run_body h
end
end VL
set_option Elab.async false
set_option linter.all false
set_option maxRecDepth 100000
namespace VL
open PySem PySem.Spec PyProof.Rows L2
/-! ### what is walked stands still: locks -/
/-- a slot that is locked, and whether it is a parameter's -/
abbrev Lks := List (Nat × Bool)
def ownB (b : Bool) (c : OC) : SV := if b then .io c else .own c
def unlock1 (i : Nat) (b : Bool) (s : VS) : VS := match s[i]? with
  | some (.lk c) => s.set i (ownB b c)
  | _ => s
def unlock : Lks → VS → VS
  | [], s => s
  | (i, b) :: L, s => unlock1 i b (unlock L s)
/-- s1 is s, locked -/
inductive LkS : Lks → VS → VS → Prop
  | nil {s : VS} : LkS [] s s
  | cons {i : Nat} {b : Bool} {c : OC} {L : Lks} {s s1 : VS} : s[i]? = some (ownB b c) → LkS L (s.set i (.lk c)) s1 → LkS ((i, b) :: L) s s1
section
variable {K : PySem.W.Frag} {mg : Str → Option Value} {W : WX} {O O' : AS} {s s1 s2 st : VS} {σ σ1 σ2 : L2.St} {H H0 H1 H2 : Hp} {v : V} {r : EV} {i : Nat} {b : Bool} {c : OC}
theorem ownB_cases (b : Bool) (c : OC) : (b = false ∧ ownB b c = .own c) ∨ (b = true ∧ ownB b c = .io c) := by cases b; exact .inl ⟨rfl, rfl⟩; exact .inr ⟨rfl, rfl⟩
theorem lt_of_get {sv : SV} (h : s[i]? = some sv) : i < s.length := by
  by_cases hi : i < s.length
  · exact hi
  · rw [List.getElem?_eq_none (by omega)] at h; cases h
/-- the kind of an owning slot does not matter to what stands -/
theorem FR.rekind {sv sv' : SV} (F : FR K O s σ H) (h : s[i]? = some sv) (hk : ∃ c, (sv = .own c ∨ sv = .io c ∨ sv = .lk c) ∧ (sv' = .own c ∨ sv' = .io c ∨ sv' = .lk c)) : FR K O (s.set i sv') σ H ∧ (∀ j p, OwnAt (s.set i sv') σ j p ↔ OwnAt s σ j p) := by
  obtain ⟨c, h1, h2⟩ := hk
  have hi := lt_of_get h
  have own : ∀ j p, OwnAt (s.set i sv') σ j p ↔ OwnAt s σ j p := fun j p => by
    by_cases hj : j = i
    · subst hj
      constructor
      · rintro ⟨e, _⟩
        exact ⟨e, c, by rw [h]; rcases h1 with z | z | z <;> subst z; exact .inl rfl; exact .inr (.inl rfl); exact .inr (.inr rfl)⟩
      · rintro ⟨e, _⟩
        exact ⟨e, c, by rw [List.getElem?_set_self hi]; rcases h2 with z | z | z <;> subst z; exact .inl rfl; exact .inr (.inl rfl); exact .inr (.inr rfl)⟩
    · constructor
      · rintro ⟨e, c', q⟩; rw [List.getElem?_set_ne (Ne.symm hj)] at q; exact ⟨e, c', q⟩
      · rintro ⟨e, c', q⟩; exact ⟨e, c', by rw [List.getElem?_set_ne (Ne.symm hj)]; exact q⟩
  have av : ∀ a, Av O (s.set i sv') σ a → Av O s σ a := fun a z => z.imp id fun ⟨j, z⟩ => ⟨j, (own j a).mp z⟩
  refine ⟨⟨by rw [List.length_set]; exact F.len, fun j sv0 hj => ?_, fun a b p x y => F.inj a b p ((own a p).mp x) ((own b p).mp y), fun p ⟨j, z⟩ => F.avoid p ⟨j, (own j p).mp z⟩, F.odom⟩, own⟩
  by_cases e : j = i
  · subst e
    rw [List.getElem?_set_self hi] at hj
    cases hj
    obtain ⟨v, ev, sl⟩ := F.slot j sv h
    refine ⟨v, ev, ?_⟩
    have : ∃ p, v = some (.ref p) ∧ Cont K (Av O s σ) H p c := by rcases h1 with z | z | z <;> (subst z; exact sl)
    obtain ⟨p, ep, C⟩ := this
    rcases h2 with z | z | z <;> (subst z; exact ⟨p, ep, C.sub av⟩)
  · rw [List.getElem?_set_ne (Ne.symm e)] at hj
    obtain ⟨v, ev, sl⟩ := F.slot j sv0 hj
    exact ⟨v, ev, sl.sub av⟩
theorem FR.lock (F : FR K O s σ H) (h : s[i]? = some (ownB b c)) : FR K O (s.set i (.lk c)) σ H ∧ (∀ j p, OwnAt (s.set i (.lk c)) σ j p ↔ OwnAt s σ j p) :=
  F.rekind h ⟨c, (ownB_cases b c).elim (fun z => .inl z.2) fun z => .inr (.inl z.2), .inr (.inr rfl)⟩
theorem FR.unlock1 (F : FR K O s σ H) (b : Bool) (h : s[i]? = some (.lk c)) : FR K O (s.set i (ownB b c)) σ H ∧ (∀ j p, OwnAt (s.set i (ownB b c)) σ j p ↔ OwnAt s σ j p) :=
  F.rekind h ⟨c, .inr (.inr rfl), (ownB_cases b c).elim (fun z => .inl z.2) fun z => .inr (.inl z.2)⟩
/-- a run from the locked state is one from the unlocked -/
theorem Step.unlock1 (F : FR K O s σ H) (h : s[i]? = some (ownB b c)) (S : Step K O (s.set i (.lk c)) σ H s2 σ2 H2) : Step K O s σ H (VL.unlock1 i b s2) σ2 H2 ∧ (∀ j p, OwnAt (VL.unlock1 i b s2) σ2 j p ↔ OwnAt s2 σ2 j p) := by
  have hi := lt_of_get h
  obtain ⟨e2, eσ⟩ := S.lk i c (List.getElem?_set_self hi)
  have hu : VL.unlock1 i b s2 = s2.set i (ownB b c) := by unfold VL.unlock1; rw [e2]
  rw [hu]
  obtain ⟨FU, ou⟩ := S.fr.unlock1 b e2
  obtain ⟨FL, ol⟩ := F.lock h
  have ml : ∀ j p, MutAt (s.set i (.lk c)) σ j p → MutAt s σ j p := fun j p ⟨e, c', q⟩ => by
    by_cases hj : j = i
    · subst hj; rw [List.getElem?_set_self hi] at q; rcases q with q | q <;> cases q
    · rw [List.getElem?_set_ne (Ne.symm hj)] at q; exact ⟨e, c', q⟩
  have hi2 := lt_of_get e2
  refine ⟨⟨FU, fun a o e n => S.keep a o e fun ⟨j, z⟩ => n ⟨j, ml j a z⟩, fun a ⟨j, z⟩ => (S.new a ⟨j, (ou j a).mp z⟩).imp (fun ⟨k, z⟩ => ⟨k, (ol k a).mp z⟩) id, fun a ⟨j, z⟩ => ?_, S.dom, S.len, fun j c' hj => ?_, fun j c' hj => ?_⟩, ou⟩
  · by_cases hj : j = i
    · subst hj
      refine .inl ⟨j, ?_⟩
      obtain ⟨e, _⟩ := z
      rw [eσ] at e
      exact ⟨e, c, by rw [h]; rcases ownB_cases b c with ⟨_, q⟩ | ⟨_, q⟩ <;> rw [q]; exact .inl rfl; exact .inr rfl⟩
    · obtain ⟨e, c', q⟩ := z
      rw [List.getElem?_set_ne (Ne.symm hj)] at q
      exact (S.mnew a ⟨j, e, c', q⟩).imp (fun ⟨k, z⟩ => ⟨k, ml k a z⟩) id
  · by_cases e : j = i
    · subst e
      rw [h] at hj
      rcases ownB_cases b c with ⟨_, q⟩ | ⟨_, q⟩
      · rw [q] at hj; cases hj
      · rw [q] at hj; cases hj
        exact ⟨⟨c, by rw [List.getElem?_set_self hi2, q]⟩, eσ⟩
    · obtain ⟨⟨c2, q⟩, e3⟩ := S.io j c' (by rw [List.getElem?_set_ne (Ne.symm e)]; exact hj)
      exact ⟨⟨c2, by rw [List.getElem?_set_ne (Ne.symm e)]; exact q⟩, e3⟩
  · have e : j ≠ i := fun z => by
      subst z
      rw [h] at hj
      rcases ownB_cases b c with ⟨_, q⟩ | ⟨_, q⟩ <;> (rw [q] at hj; cases hj)
    obtain ⟨q, e3⟩ := S.lk j c' (by rw [List.getElem?_set_ne (Ne.symm e)]; exact hj)
    exact ⟨by rw [List.getElem?_set_ne (Ne.symm e)]; exact q, e3⟩
theorem LkS.fr {L : Lks} (h : LkS L s s1) : FR K O s σ H → FR K O s1 σ H := by
  induction h with
  | nil => exact id
  | cons e _ ih => exact fun F => ih (F.lock e).1
theorem LkS.step {L : Lks} (h : LkS L s s1) : ∀ {s2 : VS}, FR K O s σ H → Step K O s1 σ H s2 σ2 H2 → Step K O s σ H (VL.unlock L s2) σ2 H2 ∧ (∀ j p, OwnAt (VL.unlock L s2) σ2 j p ↔ OwnAt s2 σ2 j p) := by
  induction h with
  | nil => exact fun _ S => ⟨S, fun _ _ => Iff.rfl⟩
  | cons e l ih =>
    intro s2 F S
    obtain ⟨S', o'⟩ := ih (F.lock e).1 S
    obtain ⟨S2, o2⟩ := Step.unlock1 F e S'
    exact ⟨S2, fun j p => (o2 j p).trans (o' j p)⟩
theorem LkS.own {L : Lks} (h : LkS L s s1) (F : FR K O s σ H) : ∀ j p, OwnAt s1 σ j p ↔ OwnAt s σ j p := by
  induction h with
  | nil => exact fun _ _ => Iff.rfl
  | cons e l ih => exact fun j p => (ih (F.lock e).1 j p).trans ((F.lock e).2 j p)
/-- frames, unlocked -/
theorem FR.unl {L : Lks} : ∀ {s2 : VS}, FR K O s2 σ H → (∀ p ∈ L, ∃ c, s2[p.1]? = some (.lk c)) → (L.map (·.1)).Nodup → FR K O (VL.unlock L s2) σ H ∧ ∀ j, j ∉ L.map (·.1) → (VL.unlock L s2)[j]? = s2[j]? := by
  induction L with
  | nil => exact fun F _ _ => ⟨F, fun _ _ => rfl⟩
  | cons p L ih =>
    intro s2 F h nd
    obtain ⟨i, b⟩ := p
    obtain ⟨F', g⟩ := ih F (fun q hq => h q (List.mem_cons_of_mem _ hq)) (List.nodup_cons.mp nd).2
    obtain ⟨c, hc⟩ := h (i, b) List.mem_cons_self
    have hc' : (VL.unlock L s2)[i]? = some (.lk c) := by rw [g i (List.nodup_cons.mp nd).1]; exact hc
    have hu : VL.unlock ((i, b) :: L) s2 = (VL.unlock L s2).set i (ownB b c) := by
      show VL.unlock1 i b (VL.unlock L s2) = _
      unfold VL.unlock1; rw [hc']
    rw [hu]
    refine ⟨(F'.unlock1 b hc').1, fun j hj => ?_⟩
    have hji : j ≠ i := fun z => hj (by rw [z]; exact List.mem_cons_self)
    rw [List.getElem?_set_ne (Ne.symm hji)]
    exact g j fun z => hj (List.mem_cons_of_mem _ z)
theorem LkS.lks {L : Lks} (h : LkS L s s1) : (∀ p ∈ L, ∃ c, s1[p.1]? = some (.lk c)) ∧ (L.map (·.1)).Nodup ∧ (∀ (j : Nat) (c : OC), s[j]? = some (.lk c) → s1[j]? = some (.lk c) ∧ j ∉ L.map (·.1)) := by
  induction h with
  | nil => exact ⟨(fun _ h => by cases h), List.nodup_nil, fun j c h => ⟨h, by simp⟩⟩
  | cons e l ih =>
    rename_i i b c L s s1
    obtain ⟨a, nd, g⟩ := ih
    have hi := lt_of_get e
    obtain ⟨q, nq⟩ := g i c (List.getElem?_set_self hi)
    refine ⟨fun p hp => ?_, List.nodup_cons.mpr ⟨nq, nd⟩, fun j c' hj => ?_⟩
    · rcases List.mem_cons.mp hp with rfl | hp
      · exact ⟨c, q⟩
      · exact a p hp
    · have hji : j ≠ i := fun z => by
        subst z
        rw [e] at hj
        rcases ownB_cases b c with ⟨_, q⟩ | ⟨_, q⟩ <;> (rw [q] at hj; cases hj)
      obtain ⟨x, y⟩ := g j c' (by rw [List.getElem?_set_ne (Ne.symm hji)]; exact hj)
      exact ⟨x, fun z => by rcases List.mem_cons.mp z with z | z; exact hji z; exact y z⟩
theorem LkS.er {L : Lks} (h : LkS L s s1) (F : FR K O s σ H) (S : Step K O s1 σ H s2 σ2 H2) (E : ER K O H0 s2 σ2 H2 v r) : ER K O H0 (VL.unlock L s2) σ2 H2 v r := by
  obtain ⟨S', ow⟩ := h.step F S
  have av : ∀ {O : AS} a, Av O (VL.unlock L s2) σ2 a → Av O s2 σ2 a := fun a z => z.imp id fun ⟨j, z⟩ => ⟨j, (ow j a).mp z⟩
  cases r with
  | d x => exact Rp.sub (fun a z => av a z) E
  | loan i => exact E
  | own c =>
    obtain ⟨p, ev, hp, np, FF, C⟩ := E
    obtain ⟨l1, nd, _⟩ := h.lks
    refine ⟨p, ev, hp, np, (FR.unl FF (fun q hq => ?_) nd).1, C.sub fun a z => av a z⟩
    obtain ⟨c', hc⟩ := l1 q hq
    exact ⟨c', (S.lk q.1 c' hc).1⟩
/-- the way on, from the locked state -/
theorem CtlK.unlock {L : Lks} {D : Ends} {cc : Ctl} (h : LkS L s s1) (S0 : Step K O st σ H s σ1 H1) (q : CtlK K O st σ H D cc (VL.unlock L s2)) : CtlK K O s1 σ1 H1 D cc s2 := by
  cases cc with
  | nx => exact fun σ' H' S => q σ' H' (S0.trans (h.step S0.fr S).1)
  | bk => exact fun σ' H' S => q σ' H' (S0.trans (h.step S0.fr S).1)
  | ct => exact fun σ' H' S => q σ' H' (S0.trans (h.step S0.fr S).1)
  | rt r => exact fun v σ' H' S E => q v σ' H' (S0.trans (h.step S0.fr S).1) ((h.er S0.fr S E).back S0.dom)
theorem XW.unlock {L : Lks} {C : Str} {fs : List (Str × Da)} (h : LkS L s s1) (S0 : Step K O st σ H s σ1 H1) (q : XW K mg W O st σ H C fs (VL.unlock L s2)) : XW K mg W O s1 σ1 H1 C fs s2 := fun Ca d σ' H' ws e S hd hr he => by
  obtain ⟨S', ow⟩ := h.step S0.fr S
  exact q Ca d σ' H' ws e (S0.trans S') hd (hr.sub fun a z => z.imp id fun ⟨j, z⟩ => ⟨j, (ow j a).mp z⟩) he
/-- data and what is locked stand -/
structure Pres (K : PySem.W.Frag) (O : AS) (s : VS) (σ : L2.St) (H : Hp) (O' : AS) (s' : VS) (σ' : L2.St) (H' : Hp) : Prop where
  rp : ∀ (d : Da) (v : V), Rp K (Av O s σ) H d v → Rp K (Av O' s' σ') H' d v
  lk : ∀ (i : Nat) (c : OC) (p : Addr), s[i]? = some (.lk c) → σ[i]? = some (some (.ref p)) → Cont K (Av O' s' σ') H' p c
theorem Step.pres (S : Step K O s σ H s2 σ2 H2) : Pres K O s σ H O s2 σ2 H2 := ⟨fun d v h => S.rp h, fun i c p h e => by
  obtain ⟨h2, e2⟩ := S.lk i c h
  obtain ⟨v, ev, q, eq, C⟩ := S.fr.slot i _ h2
  rw [e2, e] at ev; cases ev; cases eq
  exact C⟩
/-- the iterator J hands out xs, as long as they do -/
def JV (K : PySem.W.Frag) (O : AS) (s1 : VS) (σ1 : L2.St) (H1 : Hp) (J : It) (xs : List Da) : Prop := ∀ O' st' σ' H', Pres K O s1 σ1 H1 O' st' σ' H' →
  (∀ i x, xs[i]? = some x → J.go i H' ∧ ∀ v H2, J.yld i H' v H2 → Same H' H2 ∧ ((∀ a, Av O' st' σ' a → H' a ≠ none) → Rp K (Av O' st' σ') H2 x v)) ∧ (∀ i, xs.length ≤ i → J.stop i H')
def tVI (K : PySem.W.Frag) (mg : Str → Option Value) (W : WX) (f : VM (List Da × Lks)) : TI := fun σ H R => ∃ O st, FR K O st σ H ∧ VRun K mg W O st σ H (f st) fun p s1 => ∀ J H1 s0, Step K O st σ H s0 σ H1 → LkS p.2 s0 s1 → JV K O s1 σ H1 J p.1 → R J H1
end
abbrev VI (X : Cx) (W : WX) (tg iter : Expr) (f : VM (List Da × Lks)) : Prop := PI X tg iter (tVI X.K X.mg W f)
theorem PI.wk {X : Cx} {tg iter : Expr} {t t' : TI} (h : PI X tg iter t) (w : ∀ σ H R, t' σ H R → t σ H R) : PI X tg iter t' := ⟨fun pins s σ H R I q => h.run pins s σ H R I (w σ H R q)⟩
section
variable {X : Cx} {W : WX} {a b c e o tg iter : Expr} {es ts : List Expr} {pos p : Pos} {fa fb fc fe fo : VM EV} {fs : VM (List EV)} {ga gb : VM Bool} {f : Da → VM Unit} {ix : List Nat} {fi : VM (List Da × Lks)} {body : List Stmt} {g : VM Ctl}
/-! ### for -/
def vForL (gt : Da → VM Unit) (g : VM Ctl) : List Da → VM Ctl
  | [] => vNx
  | x :: xs => vb (vNoX (gt x)) fun _ => vb g fun c => match c with
    | .nx => vForL gt g xs
    | .ct => vForL gt g xs
    | .bk => vNx
    | .rt r => vr (.rt r)
def vFor (fi : VM (List Da × Lks)) (gt : Da → VM Unit) (g : VM Ctl) : VM Ctl := vb fi fun p => fun s => match vForL gt g p.1 s with
  | .ok (c, s2) => .ok (c, unlock p.2 s2)
  | .error (.exc C fs s2) => .error (.exc C fs (unlock p.2 s2))
  | .error .stuck => .error .stuck
theorem drop_cons {α : Type} {xs : List α} {i : Nat} {x : α} {r : List α} (h : xs.drop i = x :: r) : xs[i]? = some x ∧ xs.drop (i + 1) = r := by
  have h1 : (xs.drop i)[0]? = some x := by rw [h]; rfl
  rw [List.getElem?_drop] at h1
  refine ⟨by simpa using h1, ?_⟩
  rw [← List.drop_drop, h]; rfl
theorem vs_for (c : X.calm = true) (hi : VI X W tg iter fi) (hg : VGD X ix tg f) (hb : VSs X W body g) (hs : ∀ x, foldedSetIterable iter X.env x = pure x := by intro _; rfl) (hp : PassesOwn (model X.prog X.w) X.A X.env X.xe) :
    VSt X W (.For tg iter body [] pos) (vFor fi f g) := by
  refine PS.wk (ps_for hp c hi hg hb hs) fun D σ H h => ?_
  obtain ⟨O, st, F, h⟩ := h
  refine ⟨O, st, F, (vrun_vb h).mono fun p s1 q J H1 s0 S0 lk jv => ?_⟩
  obtain ⟨xs, L⟩ := p
  have F1 := lk.fr S0.fr
  -- from the locked state on
  have q1 : VRun X.K X.mg W O s1 σ H1 (vForL f g xs s1) (CtlK X.K O s1 σ H1 D) := by
    dsimp only at q
    cases e : vForL f g xs s1 with
    | ok r => obtain ⟨cc, s2⟩ := r; rw [e] at q; exact CtlK.unlock lk S0 q
    | error er =>
      rw [e] at q
      cases er with
      | stuck => exact q
      | exc C fs s2 => exact XW.unlock lk S0 q
  refine ⟨fun i m σ' H' => i + m = xs.length ∧ ∃ st', Step X.K O s1 σ H1 st' σ' H' ∧ VRun X.K X.mg W O st' σ' H' (vForL f g (xs.drop i) st') (CtlK X.K O s1 σ H1 D), ⟨xs.length, by omega, s1, Step.refl F1, q1⟩, ?_⟩
  rintro i m σ' H' ⟨em, st', S, q⟩
  obtain ⟨jgo, jst⟩ := jv O st' σ' H' S.pres
  cases ed : xs.drop i with
  | nil =>
    have hl : xs.length ≤ i := List.drop_eq_nil_iff.mp ed
    rw [ed] at q
    exact .inl ⟨jst i hl, q σ' H' S⟩
  | cons x r =>
    obtain ⟨ex, er⟩ := drop_cons ed
    have hlt : i < xs.length := by
      by_cases hl : i < xs.length
      · exact hl
      · rw [List.getElem?_eq_none (by omega)] at ex; cases ex
    obtain ⟨go, yl⟩ := jgo i x ex
    rw [ed] at q
    refine .inr ⟨go, fun σ2 H2 => (i + 1) + (m - 1) = xs.length ∧ ∃ s2, Step X.K O s1 σ H1 s2 σ2 H2 ∧ VRun X.K X.mg W O s2 σ2 H2 (vForL f g (xs.drop (i + 1)) s2) (CtlK X.K O s1 σ H1 D), fun σ2 H2 z => ⟨m - 1, by omega, z⟩, fun v H2 hy => ?_⟩
    obtain ⟨sm, rp⟩ := yl v H2 hy
    have Se := Step.ext S.fr sm
    refine ⟨O, st', x, Se.fr, rp S.fr.avdom, ?_⟩
    have q : VRun X.K X.mg W O st' σ' H' (vb (vNoX (f x)) (fun _ => vb g fun c => match c with
      | .nx => vForL f g r
      | .ct => vForL f g r
      | .bk => vNx
      | .rt r => vr (.rt r)) st') (CtlK X.K O s1 σ H1 D) := q
    unfold vb vNoX at q
    cases eg : f x st' with
    | error er => rw [eg] at q; exact q.elim
    | ok pr =>
      obtain ⟨_, s3⟩ := pr
      rw [eg] at q
      refine fun σ3 H3 S3 _ => ⟨O, s3, S3.fr, ?_⟩
      have S' := (S.trans Se).trans S3
      refine (vrun_vb (f := g) (VRun.step (Se.trans S3) q)).mono fun cc s4 z => ?_
      cases cc with
      | nx => exact fun σ4 H4 S4 => ⟨by omega, s4, S'.trans S4, by rw [er]; exact (VRun.step S4 z)⟩
      | ct => exact fun σ4 H4 S4 => ⟨by omega, s4, S'.trans S4, by rw [er]; exact (VRun.step S4 z)⟩
      | bk => exact fun σ4 H4 S4 => z σ4 H4 (S'.trans S4)
      | rt r0 => exact fun v4 σ4 H4 S4 E4 => z v4 σ4 H4 (S'.trans S4) (E4.back S'.dom)
/-! ### while -/
/-- so many turns at most -/
def fuel : Nat := 1000000000
def vWhileN (c : VM Bool) (g : VM Ctl) : Nat → VM Ctl
  | 0 => vStuck
  | n + 1 => vb c fun k => if k = true then vb g fun cc => match cc with
      | .nx => vWhileN c g n
      | .ct => vWhileN c g n
      | .bk => vNx
      | .rt r => vr (.rt r)
    else vNx
def vWhile (c : VM Bool) (g : VM Ctl) : VM Ctl := vWhileN c g fuel
theorem vs_while (hc : VT X W e ga) (hb : VSs X W body g) (hp : PassesOwn (model X.prog X.w) X.A X.env X.xe) : VSt X W (.While e body [] pos) (vWhile ga g) := by
  refine PS.wk (ps_while hp hc hb) fun D σ H h => ?_
  obtain ⟨O, st, F, h⟩ := h
  refine ⟨fun m σ' H' => ∃ st', Step X.K O st σ H st' σ' H' ∧ VRun X.K X.mg W O st' σ' H' (vWhileN ga g m st') (CtlK X.K O st σ H D), ⟨fuel, st, Step.refl F, h⟩, ?_⟩
  rintro m σ' H' ⟨st', S, q⟩
  cases m with
  | zero => exact q.elim
  | succ m =>
    refine tVT.bind S.fr q fun k s1 H1 S1 q => ?_
    cases k with
    | false => rw [if_neg Bool.false_ne_true] at q; exact iteF (q σ' H1 (S.trans S1))
    | true =>
      rw [if_pos rfl] at q
      refine iteT ⟨fun σ2 H2 => ∃ s2, Step X.K O st σ H s2 σ2 H2 ∧ VRun X.K X.mg W O s2 σ2 H2 (vWhileN ga g m s2) (CtlK X.K O st σ H D), fun σ2 H2 z => ⟨m, Nat.lt_succ_self m, z⟩, O, s1, S1.fr, (vrun_vb q).mono fun cc s2 z => ?_⟩
      have S' := S.trans S1
      cases cc with
      | nx => exact fun σ4 H4 S4 => ⟨s2, S'.trans S4, VRun.step S4 z⟩
      | ct => exact fun σ4 H4 S4 => ⟨s2, S'.trans S4, VRun.step S4 z⟩
      | bk => exact fun σ4 H4 S4 => z σ4 H4 (S'.trans S4)
      | rt r0 => exact fun v4 σ4 H4 S4 E4 => z v4 σ4 H4 (S'.trans S4) (E4.back S'.dom)
end
end VL
set_option Elab.async false
set_option linter.all false
set_option maxRecDepth 100000
namespace VL
open PySem PySem.Spec PyProof.Rows L2
/-! ### what is walked -/
def iSeq (K : PySem.W.Frag) (tl : TE) : TI := fun σ H R => tl σ H fun x H1 => ∃ a, x = .ref a ∧ (((∃ xs, SqL K H1 a xs) ∧ R (Itl K a) H1) ∨ ((∃ xs, SqT K H1 a xs) ∧ R (Itt K a) H1))
section
variable {X : Cx} {W : WX} {a b c e o tg iter : Expr} {es ts : List Expr} {pos p : Pos} {fa fb fc fe fo : VM EV} {fs : VM (List EV)} {ga gb : VM Bool} {f : Da → VM Unit} {ix : List Nat} {fi : VM (List Da × Lks)} {body : List Stmt} {g : VM Ctl}
theorem pi_seq {l : Expr} {tl : TE} (hl : PE X l tl) : PI X tg l (iSeq X.K tl) := by
  refine ⟨fun pins s σ H R I h => ?_⟩
  refine thn (hl.run pins s σ H _ I h) fun v s1 ⟨x, H1, I1, r1, q1⟩ => ?_
  obtain ⟨a, e, q⟩ := q1
  subst e
  cases r1
  rcases q with ⟨⟨xs, hq⟩, q⟩ | ⟨⟨xs, hq⟩, q⟩
  · obtain ⟨its, rv, p, hz⟩ := I1.list hq
    refine wpAny_pyIter_list p.isList ?_
    refine ⟨s1.heap.objs.size, [s1.heap.objs.size], _, _, H1, rfl, I1.kept (t' := s1.toks) fun b o e => Heap.get?_push_of_some _ e, turn_list a _, ⟨_, Heap.get?_push_size _ rfl, rfl, rfl⟩, fun b hb => ?_, q⟩
    have e : b = s1.heap.objs.size := by simpa using hb
    subst e
    exact I1.fpOk (Nat.le_refl _) (I1.hok.fresh (Nat.le_refl _))
  · obtain ⟨its, rv, p, hz⟩ := I1.tuple hq
    refine wpAny_pyIter_tuple (show s1.heap.IsTuple a its.toArray from p) ?_
    refine ⟨s1.heap.objs.size, [s1.heap.objs.size], _, _, H1, rfl, I1.kept (t' := s1.toks) fun b o e => Heap.get?_push_of_some _ e, turn_tuple a _, ⟨_, Heap.get?_push_size _ rfl, rfl, rfl⟩, fun b hb => ?_, q⟩
    have e : b = s1.heap.objs.size := by simpa using hb
    subst e
    exact I1.fpOk (Nat.le_refl _) (I1.hok.fresh (Nat.le_refl _))
/-- what is walked: a datum, or the list of a slot, locked -/
def vSrc (r : EV) : VM (List Da × Lks) := fun s => match r with
  | .d x => match seqD x with
    | some xs => .ok ((xs, []), s)
    | none => .error .stuck
  | .own (.l xs) => .ok ((xs, []), s)
  | .own (.m _) => .error .stuck
  | .loan i => match s[i]? with
    | some (.own (.l xs)) => .ok ((xs, [(i, false)]), s.set i (.lk (.l xs)))
    | some (.io (.l xs)) => .ok ((xs, [(i, true)]), s.set i (.lk (.l xs)))
    | some (.lk (.l xs)) => .ok ((xs, []), s)
    | _ => .error .stuck
/-- a list that stands as long as the frame lives on -/
inductive SrcL (K : PySem.W.Frag) (O : AS) (s : VS) (σ : L2.St) (H : Hp) (a : Addr) (xs : List Da) : Prop where
  | dl (vs : List V) (h : H a = some (.lst vs)) (n : ¬ Av O s σ a) (R : RpL K (Av O s σ) H xs vs) : SrcL K O s σ H a xs
  | lk (i : Nat) (e : σ[i]? = some (some (.ref a))) (h : s[i]? = some (.lk (.l xs))) : SrcL K O s σ H a xs
/-- a tuple -/
abbrev SrcT (K : PySem.W.Frag) (O : AS) (s : VS) (σ : L2.St) (H : Hp) (a : Addr) (xs : List Da) : Prop := Rp K (Av O s σ) H (.tuple xs) (.ref a)
theorem SrcL.get {K : PySem.W.Frag} {O O' : AS} {s s' : VS} {σ σ' : L2.St} {H H' : Hp} {a : Addr} {xs : List Da} (h : SrcL K O s σ H a xs) (P : Pres K O s σ H O' s' σ' H') : ∃ vs, RpL K (Av O' s' σ') H' xs vs ∧ SqL K H' a vs := by
  cases h with
  | dl vs h n R =>
    have := P.rp (.list xs) (.ref a) (by simp only [Rp]; exact ⟨a, vs, rfl, h, n, R⟩)
    simp only [Rp] at this
    obtain ⟨a', ws, e, h', n', R'⟩ := this
    cases e
    exact ⟨ws, R', .of h'⟩
  | lk i e h =>
    obtain ⟨vs, h1, R⟩ := P.lk i _ a h e
    exact ⟨vs, R, .of h1⟩
theorem SrcL.jv {K : PySem.W.Frag} {O : AS} {s : VS} {σ : L2.St} {H : Hp} {a : Addr} {xs : List Da} (h : SrcL K O s σ H a xs) : JV K O s σ H (Itl K a) xs := fun O' st' σ' H' P => by
  obtain ⟨vs, R, g⟩ := h.get P
  refine ⟨fun i x hx => ?_, fun i hi => ⟨vs, g, by rw [← R.length]; exact hi⟩⟩
  obtain ⟨w, hw, Rw⟩ := R.get hx
  refine ⟨⟨vs, w, g, hw⟩, fun v H2 hy => ?_⟩
  obtain ⟨e, hy⟩ := hy
  subst e
  have := hy vs g
  rw [hw] at this; cases this
  exact ⟨Same.refl _, fun _ => Rw⟩
theorem SrcT.jv {K : PySem.W.Frag} {O : AS} {s : VS} {σ : L2.St} {H : Hp} {a : Addr} {xs : List Da} (h : SrcT K O s σ H a xs) : JV K O s σ H (Itt K a) xs := fun O' st' σ' H' P => by
  obtain ⟨a', vs, e, g, R⟩ := (P.rp _ _ h).tupT
  cases e
  refine ⟨fun i x hx => ?_, fun i hi => ⟨vs, g, by rw [← R.length]; exact hi⟩⟩
  obtain ⟨w, hw, Rw⟩ := R.get hx
  refine ⟨⟨vs, w, g, hw⟩, fun v H2 hy => ?_⟩
  obtain ⟨e, hy⟩ := hy
  subst e
  have := hy vs g
  rw [hw] at this; cases this
  exact ⟨Same.refl _, fun _ => Rw⟩
theorem vSrc_ok {K : PySem.W.Frag} {O : AS} {H0 : Hp} {s s1 : VS} {σ : L2.St} {H : Hp} {v : V} {r : EV} {xs : List Da} {L : Lks} (F : FR K O s σ H) (E : ER K O H0 s σ H v r) (h : vSrc r s = .ok ((xs, L), s1)) :
    ∃ a, v = .ref a ∧ LkS L s s1 ∧ (SrcL K O s1 σ H a xs ∨ SrcT K O s1 σ H a xs) := by
  unfold vSrc at h
  cases r with
  | d x =>
    dsimp only at h
    cases e : seqD x with
    | none => rw [e] at h; cases h
    | some ys =>
      rw [e] at h; cases h
      cases x with
      | list zs =>
        cases e
        have E : Rp K (Av O s σ) H (.list xs) v := E
        simp only [Rp] at E
        obtain ⟨a, vs, rfl, h, n, R⟩ := E
        exact ⟨a, rfl, .nil, .inl (.dl vs h n R)⟩
      | tuple zs =>
        cases e
        have E : Rp K (Av O s σ) H (.tuple xs) v := E
        obtain ⟨a, vs, rfl, _⟩ := E.tupT
        exact ⟨a, rfl, .nil, .inr E⟩
      | _ => cases e
  | own c =>
    cases c with
    | m _ => cases h
    | l ys =>
      cases h
      have E2 : Rp K (Av O s σ) H (.list xs) v := ER.settle (H1 := H0) E
      simp only [Rp] at E2
      obtain ⟨a, vs, rfl, h, n, R⟩ := E2
      exact ⟨a, rfl, .nil, .inl (.dl vs h n R)⟩
  | loan i =>
    have E : σ[i]? = some (some v) := E
    dsimp only at h
    split at h
    · rename_i ys hs; cases h
      obtain ⟨ov, eo, p, ep, _⟩ := F.slot i _ hs
      rw [E] at eo; cases eo; cases ep
      exact ⟨p, rfl, .cons (b := false) hs .nil, .inl (.lk i E (List.getElem?_set_self (lt_of_get hs)))⟩
    · rename_i ys hs; cases h
      obtain ⟨ov, eo, p, ep, _⟩ := F.slot i _ hs
      rw [E] at eo; cases eo; cases ep
      exact ⟨p, rfl, .cons (b := true) hs .nil, .inl (.lk i E (List.getElem?_set_self (lt_of_get hs)))⟩
    · rename_i ys hs; cases h
      obtain ⟨ov, eo, p, ep, _⟩ := F.slot i _ hs
      rw [E] at eo; cases eo; cases ep
      exact ⟨p, rfl, .nil, .inl (.lk i E hs)⟩
    · cases h
theorem vSrc_err {s : VS} {r : EV} {er : Err} (h : vSrc r s = .error er) : er = .stuck := by
  unfold vSrc at h
  split at h
  · split at h <;> cases h; rfl
  · cases h
  · cases h; rfl
  · split at h <;> cases h; rfl
/-- a list, a tuple, walked -/
def vItSeq (fe : VM EV) : VM (List Da × Lks) := vb fe vSrc
theorem vi_seq (he : VE X W e fe) : VI X W tg e (vItSeq fe) := by
  refine PI.wk (pi_seq he) fun σ H R h => ?_
  obtain ⟨O, st, F, h⟩ := h
  refine tV.bind F h fun r s1 v H1 S1 E1 h => ?_
  cases q : vSrc r s1 with
  | error er => rw [q] at h; rw [vSrc_err q] at h; exact h.elim
  | ok p =>
    obtain ⟨⟨xs, L⟩, s2⟩ := p
    rw [q] at h
    obtain ⟨a, rfl, lk, src⟩ := vSrc_ok S1.fr E1 q
    refine ⟨a, rfl, ?_⟩
    rcases src with src | src
    · obtain ⟨vs, _, g⟩ := src.get (Step.refl (lk.fr S1.fr)).pres
      exact .inl ⟨⟨vs, g⟩, h _ H1 s1 S1 lk src.jv⟩
    · obtain ⟨_, vs, e, g, _⟩ := Rp.tupT src
      cases e
      exact .inr ⟨⟨vs, g⟩, h _ H1 s1 S1 lk src.jv⟩
/-! range -/
def rngD (lo : Int) (n : Nat) (c : Int) : List Da := (List.range n).map fun i : Nat => PyData.int (lo + (i : Int) * c)
theorem rngD_get {lo : Int} {n : Nat} {c : Int} {i : Nat} {x : Da} (h : (rngD lo n c)[i]? = some x) : i < n ∧ x = .int (lo + (i : Int) * c) := by
  unfold rngD at h
  rw [List.getElem?_map] at h
  obtain ⟨j, e, rfl⟩ := Option.map_eq_some_iff.mp h
  obtain ⟨hi, e⟩ := List.getElem?_eq_some_iff.mp e
  rw [List.getElem_range] at e
  subst e
  exact ⟨by simpa using hi, rfl⟩
theorem rngD_len (lo : Int) (n : Nat) (c : Int) : (rngD lo n c).length = n := by unfold rngD; simp
theorem jv_rng {K : PySem.W.Frag} {O : AS} {s : VS} {σ : L2.St} {H : Hp} {lo : Int} {n : Nat} : JV K O s σ H (Itr lo n) (rngD lo n 1) := fun O' st' σ' H' S =>
  ⟨fun i x hx => by
    obtain ⟨hi, rfl⟩ := rngD_get hx
    refine ⟨hi, fun v H2 hy => ?_⟩
    obtain ⟨e, hy⟩ := hy
    subst e
    exact ⟨Same.refl _, fun _ => by simp only [Rp]; rw [hy, Int.mul_one]⟩, fun i hi => by rw [rngD_len] at hi; exact hi⟩
theorem jv_rngC {K : PySem.W.Frag} {O : AS} {s : VS} {σ : L2.St} {H : Hp} {lo c : Int} {n : Nat} : JV K O s σ H (Itc lo c n) (rngD lo n c) := fun O' st' σ' H' S =>
  ⟨fun i x hx => by
    obtain ⟨hi, rfl⟩ := rngD_get hx
    refine ⟨hi, fun v H2 hy => ?_⟩
    obtain ⟨e, hy⟩ := hy
    subst e
    exact ⟨Same.refl _, fun _ => by simp only [Rp]; rw [hy]⟩, fun i hi => by rw [rngD_len] at hi; exact hi⟩
/-- the ints of a range: one, two or three arguments -/
def rangeD : List Da → Option (List Da)
  | [.int j] => if -1000000000 ≤ j ∧ j ≤ 1000000000 then some (rngD 0 j.toNat 1) else none
  | [.int i, .int j] => if -1000000000 ≤ i ∧ i ≤ 1000000000 ∧ -1000000000 ≤ j ∧ j ≤ 1000000000 then some (rngD i (j - i).toNat 1) else none
  | [.int i, .int j, .int c] => if -1000000000 ≤ i ∧ i ≤ 1000000000 ∧ -1000000000 ≤ j ∧ j ≤ 1000000000 ∧ c = -1 then some (rngD i (i - j).toNat (-1)) else none
  | _ => none
def vItRng (fs : VM (List EV)) : VM (List Da × Lks) := vb fs fun rs => vb (vRds rs) fun xs => vb (vOpt (rangeD xs)) fun ys => vr (ys, [])
theorem RoL.one {K : PySem.W.Frag} {O : AS} {H : Hp} {x : Da} {vs : List V} (h : RoL K O H [x] vs) : ∃ v, vs = [v] ∧ Ro K O H x v := by
  simp only [RoL] at h
  obtain ⟨w, ws, rfl, r, rfl⟩ := h
  exact ⟨w, rfl, r⟩
theorem RoL.two {K : PySem.W.Frag} {O : AS} {H : Hp} {x y : Da} {vs : List V} (h : RoL K O H [x, y] vs) : ∃ v w, vs = [v, w] ∧ Ro K O H x v ∧ Ro K O H y w := by
  simp only [RoL] at h
  obtain ⟨w, ws, rfl, r, w2, ws2, rfl, r2, rfl⟩ := h
  exact ⟨w, w2, rfl, r, r2⟩
theorem RoL.three {K : PySem.W.Frag} {O : AS} {H : Hp} {x y z : Da} {vs : List V} (h : RoL K O H [x, y, z] vs) : ∃ v w u, vs = [v, w, u] ∧ Ro K O H x v ∧ Ro K O H y w ∧ Ro K O H z u := by
  simp only [RoL] at h
  obtain ⟨w, ws, rfl, r, w2, ws2, rfl, r2, w3, ws3, rfl, r3, rfl⟩ := h
  exact ⟨w, w2, w3, rfl, r, r2, r3⟩
theorem vi_range1 (hm : X.mg "range" = none) (ha : VA X W [a] fs) (hg : Gl X "range" := by rfl) (hs : starEach [a] X.env = [(false, eval a X.env)] := by rfl) (hl : ∀ s (r : List EV × VS), fs s = .ok r → r.1.length = 1) : VI X W tg (.Call (.Name "range" p) [a] [] pos) (vItRng fs) := by
  refine PI.wk (pi_range1 hg hm ha hs) fun σ H R h => ?_
  obtain ⟨O, st, F, h⟩ := h
  have len := hl st
  refine ⟨O, st, F, ?_⟩
  have h := vrun_vb h
  cases ef : fs st with
  | error er => rw [ef] at h; cases er <;> exact h
  | ok q =>
    obtain ⟨rs, s1⟩ := q
    rw [ef] at h
    have l1 := len _ ef
    refine fun vs H1 S1 E1 => ?_
    obtain ⟨xs, Rx, h⟩ := E1.rds S1.fr (VRun.step S1 h)
    obtain ⟨ys, ey, h⟩ := h.opt
    unfold rangeD at ey
    split at ey
    · obtain ⟨v, rfl, R⟩ := Rx.one
      obtain rfl := R.int
      split at ey
      · rename_i j hj; cases ey
        exact ⟨j, rfl, by omega, by omega, h _ H1 s1 S1 .nil jv_rng⟩
      · cases ey
    · obtain ⟨v, w, rfl, _⟩ := Rx.two
      have := E1.length
      rw [show rs.length = 1 from l1] at this; cases this
    · obtain ⟨v, w, u, rfl, _⟩ := Rx.three
      have := E1.length
      rw [show rs.length = 1 from l1] at this; cases this
    · cases ey
theorem vi_range2 (hm : X.mg "range" = none) (ha : VA X W [a, b] fs) (hg : Gl X "range" := by rfl) (hs : starEach [a, b] X.env = [(false, eval a X.env), (false, eval b X.env)] := by rfl) (hs2 : starEach [b] X.env = [(false, eval b X.env)] := by rfl) (hl : ∀ s (r : List EV × VS), fs s = .ok r → r.1.length = 2) : VI X W tg (.Call (.Name "range" p) [a, b] [] pos) (vItRng fs) := by
  refine PI.wk (pi_range2 hg hm ha hs hs2) fun σ H R h => ?_
  obtain ⟨O, st, F, h⟩ := h
  have len := hl st
  refine ⟨O, st, F, ?_⟩
  have h := vrun_vb h
  cases ef : fs st with
  | error er => rw [ef] at h; cases er <;> exact h
  | ok q =>
    obtain ⟨rs, s1⟩ := q
    rw [ef] at h
    have l1 := len _ ef
    refine fun vs H1 S1 E1 => ?_
    obtain ⟨xs, Rx, h⟩ := E1.rds S1.fr (VRun.step S1 h)
    obtain ⟨ys, ey, h⟩ := h.opt
    unfold rangeD at ey
    split at ey
    · obtain ⟨v, rfl, R⟩ := Rx.one
      have := E1.length
      rw [show rs.length = 2 from l1] at this; cases this
    · obtain ⟨v, w, rfl, R, R2⟩ := Rx.two
      obtain rfl := R.int
      obtain rfl := R2.int
      split at ey
      · rename_i i j hj; cases ey
        exact ⟨i, j, rfl, ⟨by omega, by omega, by omega, by omega⟩, h _ H1 s1 S1 .nil jv_rng⟩
      · cases ey
    · obtain ⟨v, w, u, rfl, _⟩ := Rx.three
      have := E1.length
      rw [show rs.length = 2 from l1] at this; cases this
    · cases ey
theorem vi_range3 (hm : X.mg "range" = none) (ha : VA X W [a, b, c] fs) (hg : Gl X "range" := by rfl) (hl : ∀ s (r : List EV × VS), fs s = .ok r → r.1.length = 3) (hs : starEach [a, b, c] X.env = (false, eval a X.env) :: starEach [b, c] X.env := by rfl) (hpl : (backTo pos (starEach [b, c] X.env)).any (·.1) = false := by rfl) : VI X W tg (.Call (.Name "range" p) [a, b, c] [] pos) (vItRng fs) := by
  refine PI.wk (pi_range3 hg hm ha hs hpl) fun σ H R h => ?_
  obtain ⟨O, st, F, h⟩ := h
  have len := hl st
  refine ⟨O, st, F, ?_⟩
  have h := vrun_vb h
  cases ef : fs st with
  | error er => rw [ef] at h; cases er <;> exact h
  | ok q =>
    obtain ⟨rs, s1⟩ := q
    rw [ef] at h
    have l1 := len _ ef
    refine fun vs H1 S1 E1 => ?_
    obtain ⟨xs, Rx, h⟩ := E1.rds S1.fr (VRun.step S1 h)
    obtain ⟨ys, ey, h⟩ := h.opt
    unfold rangeD at ey
    split at ey
    · obtain ⟨v, rfl, R⟩ := Rx.one
      have := E1.length
      rw [show rs.length = 3 from l1] at this; cases this
    · obtain ⟨v, w, rfl, R, R2⟩ := Rx.two
      have := E1.length
      rw [show rs.length = 3 from l1] at this; cases this
    · obtain ⟨v, w, u, rfl, R, R2, R3⟩ := Rx.three
      obtain rfl := R.int
      obtain rfl := R2.int
      obtain rfl := R3.int
      split at ey
      · rename_i i j cc hj
        obtain ⟨h1, h2, h3, h4, rfl⟩ := hj
        cases ey
        exact ⟨i, j, -1, (i - j).toNat, rfl, RgC.neg (by omega) (by omega) (by omega) (by omega), h _ H1 s1 S1 .nil jv_rngC⟩
      · cases ey
    · cases ey
end
end VL
set_option Elab.async false
set_option linter.all false
set_option maxRecDepth 100000
namespace VL
open PySem PySem.Spec PyProof.Rows L2
/-! ### comprehensions -/
/-- the slots of the block's own names, forgotten -/
def wipeV (ix : List Nat) (s : VS) : VS := ix.foldr (fun j s => s.set j .un) s
/-- .. given back -/
def restV (s0 : VS) (ix : List Nat) (s : VS) : VS := ix.foldr (fun j s => s.set j (s0[j]?.getD .un)) s
/-- a slot that owns nothing -/
def flatS : Option SV → Bool
  | some .un => true
  | some (.d _) => true
  | none => true
  | _ => false
def vWipe (ix : List Nat) : VM Unit := fun s => if ix.all (fun j => flatS s[j]?) = true then .ok ((), wipeV ix s) else .error .stuck
section
variable {K : PySem.W.Frag} {mg : Str → Option Value} {W : WX} {O O' : AS} {s s0 s1 s2 st : VS} {σ σ1 σ2 : L2.St} {H H0 H1 H2 : Hp} {v : V} {r : EV} {ix : List Nat}
theorem wipeV_len : ∀ (ix : List Nat) (s : VS), (wipeV ix s).length = s.length
  | [], s => rfl
  | j :: ix, s => by show ((wipeV ix s).set j .un).length = _; rw [List.length_set, wipeV_len]
theorem wipeV_get (j : Nat) : ∀ (ix : List Nat) (s : VS), (j ∉ ix → (wipeV ix s)[j]? = s[j]?) ∧ (j ∈ ix → ∀ sv, (wipeV ix s)[j]? = some sv → sv = .un)
  | [], s => ⟨fun _ => rfl, fun h => by cases h⟩
  | i :: ix, s => by
    obtain ⟨h1, h2⟩ := wipeV_get j ix s
    show (_ → ((wipeV ix s).set i .un)[j]? = _) ∧ (_ → ∀ sv, ((wipeV ix s).set i .un)[j]? = some sv → _)
    by_cases e : j = i
    · subst e
      refine ⟨fun h => absurd List.mem_cons_self h, fun _ sv h => ?_⟩
      have hl : j < (wipeV ix s).length := by
        by_cases hl : j < (wipeV ix s).length
        · exact hl
        · rw [List.getElem?_eq_none (by rw [List.length_set]; omega)] at h; cases h
      rw [List.getElem?_set_self hl] at h
      cases h; rfl
    · rw [List.getElem?_set_ne (Ne.symm e)]
      exact ⟨fun h => h1 fun z => h (List.mem_cons_of_mem _ z), fun h => h2 ((List.mem_cons.mp h).resolve_left e)⟩
theorem wipe_get (j : Nat) : ∀ (ix : List Nat) (σ : L2.St), j ∉ ix → (wipe σ ix)[j]? = σ[j]?
  | [], σ, _ => rfl
  | i :: ix, σ, h => by
    show ((wipe σ ix).set i none)[j]? = _
    rw [List.getElem?_set_ne fun z => h (by rw [z]; exact List.mem_cons_self)]
    exact wipe_get j ix σ fun z => h (List.mem_cons_of_mem _ z)
theorem wipe_some2 (j : Nat) : ∀ (ix : List Nat) (σ : L2.St), j < σ.length → ∃ v, (wipe σ ix)[j]? = some v := fun ix σ h => by
  have : j < (wipe σ ix).length := by rw [wipe_length]; exact h
  exact ⟨_, List.getElem?_eq_getElem this⟩
theorem flat_all (h : ix.all (fun j => flatS s[j]?) = true) {j : Nat} (hj : j ∈ ix) : flatS s[j]? = true := List.all_eq_true.mp h j hj
theorem flat_no {j : Nat} (h : flatS s[j]? = true) (c : OC) : s[j]? ≠ some (.own c) ∧ s[j]? ≠ some (.io c) ∧ s[j]? ≠ some (.lk c) := ⟨(fun z => by rw [z] at h; cases h), (fun z => by rw [z] at h; cases h), (fun z => by rw [z] at h; cases h)⟩
theorem own_wipe (h : ix.all (fun j => flatS s[j]?) = true) (j : Nat) (p : Addr) : OwnAt (wipeV ix s) (wipe σ ix) j p ↔ OwnAt s σ j p := by
  by_cases hj : j ∈ ix
  · constructor
    · rintro ⟨_, c, q⟩
      rcases q with q | q | q <;> (have := (wipeV_get j ix s).2 hj _ q; cases this)
    · rintro ⟨_, c, q⟩
      have := flat_no (flat_all h hj) c
      rcases q with q | q | q
      · exact absurd q this.1
      · exact absurd q this.2.1
      · exact absurd q this.2.2
  · unfold OwnAt
    rw [(wipeV_get j ix s).1 hj, wipe_get j ix σ hj]
theorem mut_wipe (h : ix.all (fun j => flatS s[j]?) = true) (j : Nat) (p : Addr) : MutAt (wipeV ix s) (wipe σ ix) j p ↔ MutAt s σ j p := by
  by_cases hj : j ∈ ix
  · constructor
    · rintro ⟨_, c, q⟩
      rcases q with q | q <;> (have := (wipeV_get j ix s).2 hj _ q; cases this)
    · rintro ⟨_, c, q⟩
      have := flat_no (flat_all h hj) c
      rcases q with q | q
      · exact absurd q this.1
      · exact absurd q this.2.1
  · unfold MutAt
    rw [(wipeV_get j ix s).1 hj, wipe_get j ix σ hj]
theorem FR.wipe (F : FR K O s σ H) (h : ix.all (fun j => flatS s[j]?) = true) : FR K O (wipeV ix s) (L2.wipe σ ix) H := by
  have av : ∀ a, Av O (wipeV ix s) (L2.wipe σ ix) a → Av O s σ a := fun a z => z.imp id fun ⟨j, z⟩ => ⟨j, (own_wipe h j a).mp z⟩
  refine ⟨by rw [wipeV_len, wipe_length]; exact F.len, fun j sv hj => ?_, fun a b p x y => F.inj a b p ((own_wipe h a p).mp x) ((own_wipe h b p).mp y), fun p ⟨j, z⟩ => F.avoid p ⟨j, (own_wipe h j p).mp z⟩, F.odom⟩
  by_cases hx : j ∈ ix
  · have := (wipeV_get j ix s).2 hx sv hj
    subst this
    obtain ⟨v, hv⟩ := wipe_some2 j ix σ (by rw [← F.len, ← wipeV_len ix s]; exact lt_of_get hj)
    exact ⟨v, hv, trivial⟩
  · rw [(wipeV_get j ix s).1 hx] at hj
    obtain ⟨v, ev, sl⟩ := F.slot j sv hj
    exact ⟨v, by rw [wipe_get j ix σ hx]; exact ev, sl.sub av⟩
theorem restV_len (s0 : VS) : ∀ (ix : List Nat) (s : VS), (restV s0 ix s).length = s.length
  | [], s => rfl
  | j :: ix, s => by show ((restV s0 ix s).set j _).length = _; rw [List.length_set, restV_len]
theorem restV_get (s0 : VS) (j : Nat) : ∀ (ix : List Nat) (s : VS), (j ∉ ix → (restV s0 ix s)[j]? = s[j]?) ∧ (j ∈ ix → ∀ sv, (restV s0 ix s)[j]? = some sv → sv = s0[j]?.getD .un)
  | [], s => ⟨fun _ => rfl, fun h => by cases h⟩
  | i :: ix, s => by
    obtain ⟨h1, h2⟩ := restV_get s0 j ix s
    show (_ → ((restV s0 ix s).set i _)[j]? = _) ∧ (_ → ∀ sv, ((restV s0 ix s).set i _)[j]? = some sv → _)
    by_cases e : j = i
    · subst e
      refine ⟨fun h => absurd List.mem_cons_self h, fun _ sv h => ?_⟩
      have hl : j < (restV s0 ix s).length := by
        by_cases hl : j < (restV s0 ix s).length
        · exact hl
        · rw [List.getElem?_eq_none (by rw [List.length_set]; omega)] at h; cases h
      rw [List.getElem?_set_self hl] at h
      cases h; rfl
    · rw [List.getElem?_set_ne (Ne.symm e)]
      exact ⟨fun h => h1 fun z => h (List.mem_cons_of_mem _ z), fun h => h2 ((List.mem_cons.mp h).resolve_left e)⟩
/-- behind the comprehension: the block's names stand for what they stood for -/
theorem Step.rest {D : Addr} (F : FR K O s0 σ H) (h : ix.all (fun j => flatS s0[j]?) = true) (hD : H D = none) (S : Step K (O.with D) (wipeV ix s0) (L2.wipe σ ix) H s2 (L2.wipe σ ix) H2) (h2 : ix.all (fun j => flatS s2[j]?) = true) :
    Step K O s0 σ H (restV s0 ix s2) σ H2 ∧ FR K (O.with D) (restV s0 ix s2) σ H2 ∧ (∀ j p, OwnAt (restV s0 ix s2) σ j p ↔ OwnAt s2 (L2.wipe σ ix) j p) := by
  have get : ∀ j sv, (restV s0 ix s2)[j]? = some sv → (j ∉ ix ∧ s2[j]? = some sv) ∨ (j ∈ ix ∧ sv = s0[j]?.getD .un ∧ flatS (some sv) = true) := fun j sv hj => by
    by_cases hx : j ∈ ix
    · have e := (restV_get s0 j ix s2).2 hx sv hj
      refine .inr ⟨hx, e, ?_⟩
      have := flat_all h hx
      rw [e]
      cases q : s0[j]? with
      | none => rfl
      | some z => rw [q] at this; exact this
    · rw [(restV_get s0 j ix s2).1 hx] at hj; exact .inl ⟨hx, hj⟩
  have own : ∀ j p, OwnAt (restV s0 ix s2) σ j p ↔ OwnAt s2 (L2.wipe σ ix) j p := fun j p => by
    by_cases hx : j ∈ ix
    · constructor
      · rintro ⟨_, c, q⟩
        rcases q with q | q | q <;> (rcases get j _ q with ⟨z, _⟩ | ⟨_, _, z⟩; exact absurd hx z; cases z)
      · rintro ⟨_, c, q⟩
        have := flat_no (flat_all h2 hx) c
        rcases q with q | q | q
        · exact absurd q this.1
        · exact absurd q this.2.1
        · exact absurd q this.2.2
    · unfold OwnAt
      rw [(restV_get s0 j ix s2).1 hx, wipe_get j ix σ hx]
  have mut_ : ∀ j p, MutAt (restV s0 ix s2) σ j p ↔ MutAt s2 (L2.wipe σ ix) j p := fun j p => by
    by_cases hx : j ∈ ix
    · constructor
      · rintro ⟨_, c, q⟩
        rcases q with q | q <;> (rcases get j _ q with ⟨z, _⟩ | ⟨_, _, z⟩; exact absurd hx z; cases z)
      · rintro ⟨_, c, q⟩
        have := flat_no (flat_all h2 hx) c
        rcases q with q | q
        · exact absurd q this.1
        · exact absurd q this.2.1
    · unfold MutAt
      rw [(restV_get s0 j ix s2).1 hx, wipe_get j ix σ hx]
  have len2 : s2.length = s0.length := by rw [S.fr.len, wipe_length, F.len]
  have keep : ∀ a o, H a = some o → ¬ MutO s0 σ a → H2 a = some o := fun a o e n => S.keep a o e fun ⟨j, z⟩ => n ⟨j, (mut_wipe h j a).mp z⟩
  have dom : ∀ a, H2 a = none → H a = none := S.dom
  have mo : ∀ a, Av (O.with D) (restV s0 ix s2) σ a → Av O s0 σ a ∨ H a = none := fun a z => by
    rcases z with (z | z) | ⟨j, z⟩
    · exact .inl (.inl z)
    · exact .inr (by rw [z]; exact hD)
    · rcases S.new a ⟨j, (own j a).mp z⟩ with ⟨k, z⟩ | z
      · exact .inl (.inr ⟨k, (own_wipe h k a).mp z⟩)
      · exact .inr z
  have ke : ∀ a o, H a = some o → ¬ Av O s0 σ a → H2 a = some o := fun a o e n => keep a o e fun z => n (.inr z.own)
  have av : ∀ a, Av (O.with D) (restV s0 ix s2) σ a → Av (O.with D) s2 (L2.wipe σ ix) a := fun a z => z.imp id fun ⟨j, z⟩ => ⟨j, (own j a).mp z⟩
  have FD : FR K (O.with D) (restV s0 ix s2) σ H2 := by
    refine ⟨by rw [restV_len, len2, F.len], fun j sv hj => ?_, fun a b p x y => S.fr.inj a b p ((own a p).mp x) ((own b p).mp y), fun p ⟨j, z⟩ => S.fr.avoid p ⟨j, (own j p).mp z⟩, S.fr.odom⟩
    rcases get j sv hj with ⟨hx, hj2⟩ | ⟨hx, e, fl⟩
    · obtain ⟨v, ev, sl⟩ := S.fr.slot j sv hj2
      exact ⟨v, by rw [← wipe_get j ix σ hx]; exact ev, sl.sub av⟩
    · have hl : j < s0.length := by rw [← len2, ← restV_len s0 ix s2]; exact lt_of_get hj
      have e0 : s0[j]? = some sv := by
        rw [e]
        rw [List.getElem?_eq_getElem hl]; rfl
      obtain ⟨v, ev, sl⟩ := F.slot j sv e0
      refine ⟨v, ev, ?_⟩
      cases sv with
      | un => trivial
      | d x => obtain ⟨w, ew, R⟩ := sl; exact ⟨w, ew, Rp.mono mo ke _ _ R⟩
      | own c => cases fl
      | io c => cases fl
      | lk c => cases fl
      | rd c => cases fl
  refine ⟨⟨FD.sub fun a z => .inl z, keep, fun a ⟨j, z⟩ => (S.new a ⟨j, (own j a).mp z⟩).imp (fun ⟨k, z⟩ => ⟨k, (own_wipe h k a).mp z⟩) id,
    fun a ⟨j, z⟩ => (S.mnew a ⟨j, (mut_ j a).mp z⟩).imp (fun ⟨k, z⟩ => ⟨k, (mut_wipe h k a).mp z⟩) id, dom, rfl, fun j c hj => ?_, fun j c hj => ?_⟩, FD, own⟩
  · have hx : j ∉ ix := fun z => (flat_no (flat_all h z) c).2.1 hj
    obtain ⟨⟨c', q⟩, _⟩ := S.io j c (by rw [(wipeV_get j ix s0).1 hx]; exact hj)
    exact ⟨⟨c', by rw [(restV_get s0 j ix s2).1 hx]; exact q⟩, rfl⟩
  · have hx : j ∉ ix := fun z => (flat_no (flat_all h z) c).2.2 hj
    obtain ⟨q, _⟩ := S.lk j c (by rw [(wipeV_get j ix s0).1 hx]; exact hj)
    exact ⟨by rw [(restV_get s0 j ix s2).1 hx]; exact q, rfl⟩
/-- the end of a turn -/
theorem Step.wipe (S : Step K O (wipeV ix s0) (L2.wipe σ ix) H s2 σ2 H2) (e : L2.wipe σ2 ix = L2.wipe σ ix) (h2 : ix.all (fun j => flatS s2[j]?) = true) : Step K O (wipeV ix s0) (L2.wipe σ ix) H (wipeV ix s2) (L2.wipe σ ix) H2 := by
  have F2 := S.fr.wipe h2
  rw [e] at F2
  refine ⟨F2, S.keep, fun a ⟨j, z⟩ => S.new a ⟨j, ?_⟩, fun a ⟨j, z⟩ => S.mnew a ⟨j, ?_⟩, S.dom, rfl, fun j c hj => ?_, fun j c hj => ?_⟩
  · rw [← e] at z; exact (own_wipe h2 j a).mp z
  · rw [← e] at z; exact (mut_wipe h2 j a).mp z
  · obtain ⟨⟨c', q⟩, e2⟩ := S.io j c hj
    have hx : j ∉ ix := fun z => (flat_no (flat_all h2 z) c').2.1 q
    exact ⟨⟨c', by rw [(wipeV_get j ix s2).1 hx]; exact q⟩, rfl⟩
  · obtain ⟨q, e2⟩ := S.lk j c hj
    have hx : j ∉ ix := fun z => (flat_no (flat_all h2 z) c).2.2 q
    exact ⟨by rw [(wipeV_get j ix s2).1 hx]; exact q, rfl⟩
end
/-- nothing is let out of a comprehension -/
abbrev W0 : WX := fun _ _ _ _ => False
/-- the turns: acc what is made so far -/
def vLcL (ix : List Nat) (gt : Da → VM Unit) (tt : VM Bool) (te : VM EV) : List Da → List Da → VM (List Da)
  | [], acc => vr acc
  | x :: xs, acc => vb (gt x) fun _ => vb tt fun b => if b = true then vb te fun r => vb (vOpt (evD r)) fun y => if acc.length < 16777216 then vb (vWipe ix) fun _ => vLcL ix gt tt te xs (acc ++ [y]) else vStuck
      else vb (vWipe ix) fun _ => vLcL ix gt tt te xs acc
def vLc (ix : List Nat) (fi : VM (List Da × Lks)) (gt : Da → VM Unit) (tt : VM Bool) (te : VM EV) : VM EV := vb fi fun p => fun s =>
  if ix.all (fun j => flatS s[j]?) = true then
    match vLcL ix gt tt te p.1 [] (wipeV ix s) with
    | .ok (ys, s2) => .ok (.own (.l ys), unlock p.2 (restV s ix s2))
    | .error _ => .error .stuck
  else .error .stuck
def vTT (K : PySem.W.Frag) (mg : Str → Option Value) (W : WX) (f : VM Bool) : TT := tVT K mg W f
theorem PTs.wk {X : Cx} {e : List Expr} {t t' : TT} (h : PTs X e t) (w : ∀ σ H Q, t' σ H Q → t σ H Q) : PTs X e t' := ⟨fun pins s σ H Q I q => h.run pins s σ H Q I (w σ H Q q)⟩
abbrev VTs (X : Cx) (W : WX) (es : List Expr) (f : VM Bool) : Prop := PTs X es (tVT X.K X.mg W f)
theorem vts_nil {X : Cx} {W : WX} : VTs X W [] (vr true) := PTs.wk pts_nil fun σ H Q ⟨O, st, F, h⟩ => h H (Step.refl F)
theorem vts_one {X : Cx} {W : WX} {e : Expr} {f : VM Bool} (h : VT X W e f) : VTs X W [e] f := pts_one h
section
variable {X : Cx} {W : WX} {elt tg iter : Expr} {ifs : List Expr} {scope : Scope} {own : List (Str × Nat)} {pos : Pos} {fi : VM (List Da × Lks)} {f : Da → VM Unit} {tt : VM Bool} {te : VM EV}
/-- what a comprehension reads -/
theorem lc_wk {ix : List Nat} {σ : L2.St} {H : Hp} {Q : VK} (h : tV X.K X.mg W (vLc ix fi f tt te) σ H Q) :
    tLc (tVI X.K X.mg W fi) (gVD X.K ix f) (tVT X.K X.mg W0 tt) (tV X.K X.mg W0 te) ix σ H Q := by
  obtain ⟨O, st, F, h⟩ := h
  refine ⟨O, st, F, (vrun_vb h).mono fun p s1 q J H1 s0 S0 lk jv D hD => ?_⟩
  obtain ⟨xs, L⟩ := p
  dsimp only at q lk jv
  by_cases fl : ix.all (fun j => flatS s1[j]?) = true
  · rw [if_pos fl] at q
    have F1 := lk.fr S0.fr
    have FD : FR X.K (O.with D) s1 σ (upd H1 D (.lst [])) := F1.away hD (Same.upd hD) (by rw [upd_same]; exact fun z => nomatch z)
    have FW := FD.wipe fl
    -- the turns from a state on
    let Res := fun (rest acc : List Da) (s : VS) => ∃ ys s2, vLcL ix f tt te rest acc s = .ok (ys, s2) ∧ (∀ v H', Step X.K O st σ H (unlock L (restV s1 ix s2)) σ H' → ER X.K O H (unlock L (restV s1 ix s2)) σ H' v (.own (.l ys)) → Q v H')
    have res0 : Res xs [] (wipeV ix s1) := by
      cases e : vLcL ix f tt te xs [] (wipeV ix s1) with
      | error er => rw [e] at q; exact q.elim
      | ok p => obtain ⟨ys, s2⟩ := p; rw [e] at q; exact ⟨ys, s2, e, q⟩
    -- data and locks at a turn
    have pres : ∀ {s' : VS} {σ' : L2.St} {H' : Hp}, Step X.K (O.with D) (wipeV ix s1) (wipe σ ix) H1 s' σ' H' → Pres X.K O s1 σ H1 (O.with D) s' σ' H' := fun S => by
      refine ⟨fun d v h => S.rp (Rp.mono (fun a z => ?_) (fun a o e _ => e) _ _ h), fun i c p hi e => ?_⟩
      · rcases z with (z | z) | ⟨j, z⟩
        · exact .inl (.inl z)
        · exact .inr (by rw [z]; exact hD)
        · exact .inl (.inr ⟨j, (own_wipe fl j a).mp z⟩)
      · have hx : i ∉ ix := fun z => (flat_no (flat_all fl z) c).2.2 hi
        obtain ⟨h2, e2⟩ := S.lk i c (by rw [(wipeV_get i ix s1).1 hx]; exact hi)
        obtain ⟨v, ev, q, eq, C⟩ := S.fr.slot i _ h2
        rw [e2, wipe_get i ix σ hx, e] at ev; cases ev; cases eq
        exact C
    refine ⟨fun i m H' => i + m = xs.length ∧ ∃ acc s', ∃ ws, Step X.K (O.with D) (wipeV ix s1) (wipe σ ix) H1 s' (wipe σ ix) H' ∧ ix.all (fun j => flatS s'[j]?) = true ∧
        H' D = some (.lst ws) ∧ RpL X.K (Av (O.with D) s' (wipe σ ix)) H' acc ws ∧ Res (xs.drop i) acc s', ⟨xs.length, by omega, [], wipeV ix s1, [], ⟨FW, fun a o e _ => Same.upd hD a o e, fun _ h => .inl h, fun _ h => .inl h, fun a h => Same.free (Same.upd hD) h, rfl, fun _ c h => ⟨⟨c, h⟩, rfl⟩, fun _ _ h => ⟨h, rfl⟩⟩, ?_, upd_same, .nil, res0⟩, ?_⟩
    · refine List.all_eq_true.mpr fun j hj => ?_
      cases e : (wipeV ix s1)[j]? with
      | none => rfl
      | some sv => rw [(wipeV_get j ix s1).2 hj sv e]; rfl
    · rintro i m H' ⟨em, acc, s', ws, S, fl', hHD, R, ys, s2, er, fin⟩
      obtain ⟨jgo, jst⟩ := jv _ _ _ _ (pres S)
      cases ed : xs.drop i with
      | nil =>
        have hl : xs.length ≤ i := List.drop_eq_nil_iff.mp ed
        rw [ed] at er
        cases er
        obtain ⟨SR, FRD, ownR⟩ := Step.rest F1 fl hD S fl'
        refine .inl ⟨jst i hl, ?_⟩
        have St := (lk.step S0.fr SR).1
        refine fin (.ref D) H' (S0.trans St) (LkS.er lk S0.fr SR ?_)
        refine ⟨D, rfl, S0.dom D hD, fun z => F1.odom D z hD, FRD, ws, hHD, R.sub fun a z => z.imp id fun ⟨j, z⟩ => ⟨j, (ownR j a).mp z⟩⟩
      | cons x rest =>
        obtain ⟨ex, er'⟩ := drop_cons ed
        have hlt : i < xs.length := by
          by_cases hl : i < xs.length
          · exact hl
          · rw [List.getElem?_eq_none (by omega)] at ex; cases ex
        obtain ⟨go, yl⟩ := jgo i x ex
        rw [ed] at er
        refine .inr ⟨go, fun H2 => (i + 1) + (m - 1) = xs.length ∧ ∃ acc s', ∃ ws, Step X.K (O.with D) (wipeV ix s1) (wipe σ ix) H1 s' (wipe σ ix) H2 ∧ ix.all (fun j => flatS s'[j]?) = true ∧
          H2 D = some (.lst ws) ∧ RpL X.K (Av (O.with D) s' (wipe σ ix)) H2 acc ws ∧ Res (xs.drop (i + 1)) acc s', fun H2 z => ⟨m - 1, by omega, z⟩, fun v H2 hy => ?_⟩
        obtain ⟨sm, rp⟩ := yl v H2 hy
        have Se := Step.ext S.fr sm
        have rp' := rp S.fr.avdom
        -- what a turn comes to, as a run in which nothing raises
        have er : vb (f x) (fun _ => vb tt fun b => if b = true then vb te fun r => vb (vOpt (evD r)) fun y => if acc.length < 16777216 then vb (vWipe ix) fun _ => vLcL ix f tt te rest (acc ++ [y]) else vStuck
          else vb (vWipe ix) fun _ => vLcL ix f tt te rest acc) s' = .ok (ys, s2) := er
        refine ⟨O.with D, s', x, Se.fr, rp', ?_⟩
        unfold vb at er
        cases eg : f x s' with
        | error e => rw [eg] at er; cases er
        | ok pr =>
          obtain ⟨_, s3⟩ := pr
          rw [eg] at er
          refine fun σ3 H3 S3 agree => ?_
          have T3 := (S.trans Se).trans S3
          have ew : wipe σ3 ix = wipe σ ix := by
            apply List.ext_getElem?
            intro j
            by_cases hj : j ∈ ix
            · have l3 : σ3.length = σ.length := by rw [T3.len, wipe_length]
              have n1 : ∀ (τ : L2.St), j < τ.length → (wipe τ ix)[j]? = some none := fun τ hl => by
                have : ∀ (ix : List Nat), j ∈ ix → (wipe τ ix)[j]? = some none := by
                  intro ix
                  induction ix with
                  | nil => intro h; cases h
                  | cons k ix ih =>
                    intro h
                    show ((wipe τ ix).set k none)[j]? = _
                    by_cases e : j = k
                    · subst e; rw [List.getElem?_set_self (by rw [wipe_length]; exact hl)]
                    · rw [List.getElem?_set_ne (Ne.symm e)]; exact ih ((List.mem_cons.mp h).resolve_left e)
                exact this ix hj
              by_cases hl : j < σ.length
              · rw [n1 σ3 (by rw [l3]; exact hl), n1 σ hl]
              · rw [List.getElem?_eq_none (by rw [wipe_length]; omega), List.getElem?_eq_none (by rw [wipe_length]; omega)]
            · rw [wipe_get j ix σ3 hj, agree j hj]
          refine ⟨ew, O.with D, s3, T3.fr, ?_⟩
          dsimp only at er
          cases et : tt s3 with
          | error e => rw [et] at er; cases er
          | ok pr =>
            obtain ⟨b, s4⟩ := pr
            rw [et] at er
            refine fun H4 S4 => ?_
            have T4 := T3.trans S4
            have hH4 : ∀ {H5 : Hp} {s5 : VS}, Step X.K (O.with D) s' (wipe σ ix) H' s5 σ3 H5 → H5 D = some (.lst ws) := fun T => T.keep D _ hHD fun z => S.fr.avoid D z.own (.inr rfl)
            cases b with
            | false =>
              refine iteF ?_
              have er : vb (vWipe ix) (fun _ => vLcL ix f tt te rest acc) s4 = .ok (ys, s2) := er
              unfold vb vWipe at er
              by_cases fl4 : ix.all (fun j => flatS s4[j]?) = true
              · rw [if_pos fl4] at er
                have U := (Se.trans S3).trans S4
                refine ⟨by omega, acc, wipeV ix s4, ws, Step.wipe T4 ew fl4, ?_, hH4 U, ?_, ys, s2, by rw [er']; exact er, fin⟩
                · refine List.all_eq_true.mpr fun j hj => ?_
                  cases e : (wipeV ix s4)[j]? with
                  | none => rfl
                  | some sv => rw [(wipeV_get j ix s4).2 hj sv e]; rfl
                · rw [← ew]
                  exact (U.rpl R).sub fun a z => z.imp id fun ⟨j, z⟩ => ⟨j, (own_wipe fl4 j a).mp z⟩
              · rw [if_neg fl4] at er; cases er
            | true =>
              refine iteT ⟨O.with D, s4, T4.fr, ?_⟩
              have er : vb te (fun r => vb (vOpt (evD r)) fun y => if acc.length < 16777216 then vb (vWipe ix) fun _ => vLcL ix f tt te rest (acc ++ [y]) else vStuck) s4 = .ok (ys, s2) := er
              unfold vb at er
              cases ee : te s4 with
              | error e => rw [ee] at er; cases er
              | ok pr =>
                obtain ⟨r, s5⟩ := pr
                rw [ee] at er
                dsimp only at er
                refine fun y H5 S5 E5 => ?_
                have T5 := T4.trans S5
                have U := ((Se.trans S3).trans S4).trans S5
                have hD5 := hH4 U
                cases ev : evD r with
                | none => rw [ev] at er; cases er
                | some yd =>
                  rw [ev] at er
                  have Ry := E5.evD ev
                  have er : (if acc.length < 16777216 then vb (vWipe ix) fun _ => vLcL ix f tt te rest (acc ++ [yd]) else vStuck) s5 = .ok (ys, s2) := er
                  by_cases hc : acc.length < 16777216
                  · rw [if_pos hc] at er
                    unfold vb vWipe at er
                    by_cases fl5 : ix.all (fun j => flatS s5[j]?) = true
                    · rw [if_pos fl5] at er
                      refine ⟨ws, hD5, cap_lt R.length hc, ?_⟩
                      -- the new list grows
                      have R5 := U.rpl R
                      have avD : ∀ {s : VS} {τ : L2.St}, Av (O.with D) s τ D := fun {_ _} => .inl (.inr rfl)
                      have grow : ∀ a o, H5 a = some o → ¬ Av (O.with D) s5 σ3 a → upd H5 D (.lst (ws ++ [y])) a = some o := fun a o e n => by rw [upd_ne fun z => n (by rw [z]; exact avD)]; exact e
                      have FG : FR X.K (O.with D) s5 σ3 (upd H5 D (.lst (ws ++ [y]))) := by
                        refine ⟨T5.fr.len, fun j sv hj => ?_, T5.fr.inj, T5.fr.avoid, fun p hp z => ?_⟩
                        · obtain ⟨v, ev, sl⟩ := T5.fr.slot j sv hj
                          refine ⟨v, ev, ?_⟩
                          have own1 : ∀ p c, OwnAt s5 σ3 j p → Cont X.K (Av (O.with D) s5 σ3) H5 p c → Cont X.K (Av (O.with D) s5 σ3) (upd H5 D (.lst (ws ++ [y]))) p c := fun p c hp C =>
                            C.mono (fun _ z => .inl z) grow (upd_ne fun z => T5.fr.avoid p ⟨j, hp⟩ (.inr z))
                          cases sv with
                          | un => trivial
                          | d x => obtain ⟨w, ew, R⟩ := sl; exact ⟨w, ew, Rp.mono (fun _ z => .inl z) grow _ _ R⟩
                          | own c => obtain ⟨p, ep, C⟩ := sl; subst ep; exact ⟨p, rfl, own1 p c ⟨ev, c, .inl hj⟩ C⟩
                          | io c => obtain ⟨p, ep, C⟩ := sl; subst ep; exact ⟨p, rfl, own1 p c ⟨ev, c, .inr (.inl hj)⟩ C⟩
                          | lk c => obtain ⟨p, ep, C⟩ := sl; subst ep; exact ⟨p, rfl, own1 p c ⟨ev, c, .inr (.inr hj)⟩ C⟩
                          | rd xs => obtain ⟨a, vs, ep, R, Rl⟩ := sl; exact ⟨a, vs, ep, R.mono (fun _ z => .inl z) grow, RpL.mono (fun _ z => .inl z) grow _ _ Rl⟩
                        · by_cases e : p = D
                          · rw [e, upd_same] at z; cases z
                          · rw [upd_ne e] at z; exact T5.fr.odom p hp z
                      have T6 : Step X.K (O.with D) (wipeV ix s1) (wipe σ ix) H1 s5 σ3 (upd H5 D (.lst (ws ++ [y]))) :=
                        ⟨FG, fun a o e n => by rw [upd_ne (ne_of_none e hD)]; exact T5.keep a o e n, T5.new, T5.mnew, fun a z => by
                          by_cases e : a = D
                          · rw [e]; exact hD
                          · rw [upd_ne e] at z; exact T5.dom a z, T5.len, T5.io, T5.lk⟩
                      have R6 : RpL X.K (Av (O.with D) s5 σ3) (upd H5 D (.lst (ws ++ [y]))) (acc ++ [yd]) (ws ++ [y]) := RpL.mono (fun _ z => .inl z) grow _ _ (R5.append (.one Ry))
                      refine ⟨by omega, acc ++ [yd], wipeV ix s5, ws ++ [y], Step.wipe T6 ew fl5, ?_, upd_same, ?_, ys, s2, by rw [er']; exact er, fin⟩
                      · refine List.all_eq_true.mpr fun j hj => ?_
                        cases e : (wipeV ix s5)[j]? with
                        | none => rfl
                        | some sv => rw [(wipeV_get j ix s5).2 hj sv e]; rfl
                      · rw [← ew]
                        exact R6.sub fun a z => z.imp id fun ⟨j, z⟩ => ⟨j, (own_wipe fl5 j a).mp z⟩
                    · rw [if_neg fl5] at er; cases er
                  · rw [if_neg hc] at er; cases er
  · rw [if_neg fl] at q; exact q.elim
/-- [elt for target in iter if ..] -/
theorem ve_lc {k : Nat} (c : VC X W k) (hi : VI X W tg iter fi) (ok : BlkOk X.N X.env.scope scope own)
    (hg : ∀ (s : Shared) (H : Hp) (C : Addr) (cl : List (Str × Addr)) (fp : List Addr), VGD (X.blk s H scope (compEnvC scope cl C X.env) fp) (own.map (·.2)) tg f)
    (ht : ∀ (s : Shared) (H : Hp) (C : Addr) (cl : List (Str × Addr)) (fp : List Addr), VC (X.blk s H scope (compEnvC scope cl C X.env) fp) W0 k → VTs (X.blk s H scope (compEnvC scope cl C X.env) fp) W0 ifs tt)
    (he : ∀ (s : Shared) (H : Hp) (C : Addr) (cl : List (Str × Addr)) (fp : List Addr), VC (X.blk s H scope (compEnvC scope cl C X.env) fp) W0 k → VE (X.blk s H scope (compEnvC scope cl C X.env) fp) W0 elt te) (hs : ∀ x, foldedSetIterable iter X.env x = pure x := by intro _; rfl) :
    VE X W (.ListComp elt [⟨tg, iter, ifs, 0⟩] scope pos) (vLc (own.map (·.2)) fi f tt te) := by
  have cb : ∀ (s : Shared) (H : Hp) (C : Addr) (cl : List (Str × Addr)) (fp : List Addr), VC (X.blk s H scope (compEnvC scope cl C X.env) fp) W0 k := fun s H C cl fp => ⟨c.calm, c.nd, takes0, c.rm⟩
  exact PE.wk (pe_lc c.calm c.nd hi ok hg (fun s H C cl fp => ht s H C cl fp (cb s H C cl fp)) (fun s H C cl fp => he s H C cl fp (cb s H C cl fp)) hs) fun σ H Q h => lc_wk h
end
end VL
set_option Elab.async false
set_option linter.all false
set_option maxRecDepth 100000
namespace VL
open PySem PySem.Spec PyProof.Rows L2
/-! ### enumerate, zip, reversed of lists and tuples -/
def Sq (k : Bool) (K : PySem.W.Frag) (H : Hp) (a : Addr) (xs : List V) : Prop := if k = true then SqL K H a xs else SqT K H a xs
def ItAt (k : Bool) (h : Heap) (it a : Addr) (i : Nat) : Prop := if k = true then h.IsListIter it a i else h.IsTupleIter it a i
def SqH (k : Bool) (h : Heap) (a : Addr) (items : Array Value) : Prop := if k = true then h.IsList a items else h.IsTuple a items
def itObj (k : Bool) (a : Addr) : Obj := if k = true then { cls := .type "list_iterator", data := .fields #[.ref a, .int 0 0] } else { cls := .type "tuple_iterator", data := .fields #[.ref a, .int 0 0] }
theorem sq_draws {prog : Program} {w : World} {A : Around} (hh : A.handled = none) (k : Bool) (it a : Addr) (hne : a ≠ it) (items : Array Value) :
    Draws prog w A it [it, a] items.size (fun i v => items[i]? = some v) (fun i h => ItAt k h it a i ∧ SqH k h a items) := by
  cases k with
  | true => exact Draws.list hh it a hne items
  | false => exact Draws.tuple hh it a hne items
theorem sq_begins (k : Bool) (a : Addr) (items : Array Value) : Begins (.ref a) (itObj k a) (fun h => SqH k h a items) := by
  cases k with
  | true => exact begins_list a items
  | false => exact begins_tuple a items
theorem itAt_new {k : Bool} {h : Heap} {it a : Addr} (e : h.get? it = some (itObj k a)) : ItAt k h it a 0 := by
  cases k with
  | true => exact ⟨_, e, rfl, rfl⟩
  | false => exact ⟨_, e, rfl, rfl⟩
theorem ItAt.obj {k : Bool} {h : Heap} {it a : Addr} {i : Nat} (e : ItAt k h it a i) : ∃ o, h.get? it = some o ∧ ∀ v, o.data ≠ .cell v := by
  cases k with
  | true => obtain ⟨o, e, c, d⟩ := (show h.IsListIter it a i from e); exact ⟨o, e, fun v z => by rw [d] at z; cases z⟩
  | false => obtain ⟨o, e, c, d⟩ := (show h.IsTupleIter it a i from e); exact ⟨o, e, fun v z => by rw [d] at z; cases z⟩
theorem ItAt.at {k : Bool} {h h' : Heap} {it a : Addr} {i : Nat} (e : ItAt k h it a i) (q : ∀ o, h.get? it = some o → h'.get? it = some o) : ItAt k h' it a i := by
  cases k with
  | true => exact (show h.IsListIter it a i from e).at q
  | false => exact (show h.IsTupleIter it a i from e).at q
section
variable {X : Cx} {pins : List (Addr × Obj)} {σ : L2.St} {H : Hp} {s : Shared}
theorem Inv.sq {k : Bool} {a : Addr} {xs : List V} (I : Inv X pins σ H s) (h : Sq k X.K H a xs) : ∃ its : List Value, Vals xs its ∧ SqH k s.heap a its.toArray ∧ a < s.heap.objs.size := by
  cases k with
  | true => obtain ⟨its, r, p, _⟩ := I.list h; exact ⟨its, r, p.isList, p.lt⟩
  | false => obtain ⟨its, r, p, _⟩ := I.tuple h; exact ⟨its, r, p, by obtain ⟨o, e, _⟩ := id p; exact Heap.lt_size e⟩
theorem Inv.sq_inj {k : Bool} {a : Addr} {xs ys : List V} (I : Inv X pins σ H s) (h : Sq k X.K H a xs) (h' : Sq k X.K H a ys) : xs = ys := by
  cases k with
  | true => exact I.list_inj h h'
  | false => exact I.tuple_inj h h'
end
/-- each item with its count in a new pair -/
def ItE (K : PySem.W.Frag) (k : Bool) (a : Addr) (c : Int) (n : Nat) : It :=
  ⟨fun i H => i < n ∧ ∃ (xs : List V) (x : V), Sq k K H a xs ∧ xs[i]? = some x, fun i H v H' => ∃ T x, v = .ref T ∧ H T = none ∧ H' = upd H T (.tup [.int (c + (i : Int)), x]) ∧ ∀ xs, Sq k K H a xs → xs[i]? = some x, fun i H => n ≤ i ∧ ∃ xs : List V, Sq k K H a xs ∧ xs.length = n⟩
theorem turn_enumS {P : Program} {w : World} {K : PySem.W.Frag} {elts : List Expr} {kk : Nat} {tpos : Pos} (k : Bool) (a e it : Addr) (c : Int) (n : Nat) (hae : a ≠ e) (hai : a ≠ it) (hne : e ≠ it) :
    Turn P w K (.Tuple elts kk tpos) (ItE K k a c n) [e, it] e (fun i h => i ≤ n ∧ (∃ old, IsEnum h e it (c + ((i : Nat) : Int)) old) ∧ ItAt k h it a i) where
  mem := by simp
  obj := fun i h st b hb => by
    obtain ⟨_, ⟨old, he⟩, hi⟩ := st
    have e' : b = e ∨ b = it := by simpa using hb
    rcases e' with z | z
    · rw [z]; exact ⟨_, he, fun v q => nomatch q⟩
    · rw [z]; exact hi.obj
  keep := fun i h h' st k => let ⟨hn, ⟨old, he⟩, hi⟩ := st; ⟨hn, ⟨old, k e (by simp) _ he⟩, hi.at fun o q => k it (by simp) o q⟩
  item := by
    intro X hP hw hK hc i pins s σ H E I hf st hg
    subst hP hw hK
    obtain ⟨hin, ⟨old, he⟩, hit⟩ := st
    obtain ⟨hlt', xs, x, hq, hx⟩ := hg
    obtain ⟨its, rv, p, _⟩ := Inv.sq I hq
    obtain ⟨u, hu, ru⟩ := rv.get hx
    have hel : e < s.heap.objs.size := Heap.lt_size he
    have hil : it < s.heap.objs.size := by obtain ⟨_, q, _⟩ := hit.obj; exact Heap.lt_size q
    have hlt : i < its.toArray.size := by
      have := List.getElem?_eq_some_iff.mp hu
      simpa using this.1
    refine wpAny_pyNext_enum_itemC (sq_draws (A := X.A.in1) (I.ok.hd hc) k it a hai its.toArray) he ⟨hit, p⟩ hlt hne (by simp [hne, Ne.symm hae]) fun y h' tk hy ho st' hT hsz hk => ?_
    have ey : y = u := by
      have : its.toArray[i]? = some u := by simpa using hu
      rw [this] at hy; exact (Option.some.inj hy).symm
    subst ey
    refine ⟨_, rfl, wpAny_letOwnedTupleGo_enum (s := { s with heap := h', toks := tk + 1 }) ho fun h'' he' sb => ?_⟩
    have hT2 : h''.get? s.heap.objs.size = some { cls := .type "tuple", data := .seq #[.int (c + (i : Nat)) tk, y] } := (sb.2 _ (Nat.ne_of_gt hel)).trans hT
    have new : ObjOk X.prog X.w (upd H s.heap.objs.size (.tup [.int (c + (i : Nat)), x])) h'' s.heap.objs.size (.tup [.int (c + (i : Nat)), x]) :=
      ⟨by show 2 ≤ sizeLine; decide, [.int (c + (i : Nat)) tk, y], .cons ⟨_, rfl⟩ (.cons ru .nil), ⟨_, hT2, rfl, _, rfl⟩⟩
    have I1 : Inv X pins σ (upd H s.heap.objs.size (.tup [.int (c + (i : Nat)), x])) { s with heap := h'', toks := tk + 1 } :=
      I.turnedNew (ch := [e, it]) (fun b ob hb q => (sb.2 b (fun z => hb (by simp [z]))).trans (hk b ob (fun z => hb (by simp [z])) (fun z => hb (by simp [z])) q)) hf (Nat.le_refl _) new
    refine ⟨.ref s.heap.objs.size, _, I1, rfl, ⟨_, x, rfl, I.hok.fresh (Nat.le_refl _), rfl, fun ys hy => by rw [Inv.sq_inj I hy hq]; exact hx⟩, ⟨hlt', ⟨y, ?_⟩, st'.1.at fun o q => (sb.2 it (Ne.symm hne)).trans q⟩, fun b hb => ?_⟩
    · have e1 : c + ((i + 1 : Nat) : Int) = c + (i : Int) + 1 := by omega
      rw [e1]; exact he'
    · have hb' : b < s.heap.objs.size := by
        have e' : b = e ∨ b = it := by simpa using hb
        rcases e' with z | z
        · rw [z]; exact hel
        · rw [z]; exact hil
      rw [upd_ne (Nat.ne_of_lt hb')]
      exact (hf b hb).1
  done := by
    intro X hP hw hK hc i pins s σ H E I hf st hg
    subst hP hw hK
    obtain ⟨hin, ⟨old, he⟩, hit⟩ := st
    obtain ⟨hge, xs, hq, hx⟩ := hg
    obtain ⟨its, rv, p, _⟩ := Inv.sq I hq
    have hl := rv.length
    have hi : i = its.toArray.size := by rw [List.size_toArray, ← hl, hx]; exact Nat.le_antisymm hin hge
    subst hi
    refine wpAny_pyNext_enum_endD (sq_draws (A := X.A.in1) (I.ok.hd hc) k it a hai its.toArray) he ⟨hit, p⟩ fun h' hx => ⟨rfl, I.turnedL (t' := s.toks) (ch := [e, it]) (fun b o hb q => hx b o (fun z => hb (by simp [z])) q) hf⟩
  self := fun A i s Q E st h => let ⟨_, ⟨_, he⟩, _⟩ := st; wpAny_pyIter_enum he h
set_option maxHeartbeats 1000000 in
theorem meets_enum1 {v : Value} {o : Obj} {H : Heap → Prop} (B : Begins v o H) :
    Meets (Builtin.«enumerate.__new__» ⟨[.type "enumerate", v], []⟩) (fun _ R s => H s.heap ∧
      R (.ok (.ret (.ref (s.heap.push o).objs.size))) { s with heap := (s.heap.push o).push { cls := .type "enumerate", data := .fields #[.none, .bool false, .ref s.heap.objs.size, rawInt 0, .none, .none] } }) :=
  .of_wp fun prog w A R s h => by
    obtain ⟨hp, g, d, tk, os⟩ := s; obtain ⟨h1, h⟩ := h
    have hsub := sub_enumerate
    have q1 : ∀ {A' : Around} {E : Value → Shared → Prop} {Q : Value → Shared → Prop}, Q (.ref hp.objs.size) ⟨hp.push o, g, d, tk, os⟩ → wpAny (model prog w) A' (pyIter v) Q E ⟨hp, g, d, tk, os⟩ :=
      fun q => B.iter prog w _ _ ⟨hp, g, d, tk, os⟩ _ h1 q
    wp_walk using q1
    refine wpAny_stack_any fun st => wpAny_pure ?_
    split
    · rename_i c _ _ _ _ _
      cases (c == Value.type "enumerate")
      · wp_walk using q1
        exact ⟨_, rfl, h⟩
      · wp_walk using q1
        exact ⟨_, rfl, h⟩
    · wp_walk using q1
      exact ⟨_, rfl, h⟩
theorem call_enumS1 {prog : Program} {w : World} {A : Around} {E : Value → Shared → Prop} {s : Shared} {k : Bool} {a : Addr} {items : Array Value} {Q : Value → Shared → Prop} (p : SqH k s.heap a items)
    (h : ∀ h', IsEnum h' (s.heap.objs.size + 1) s.heap.objs.size 0 .none → h'.get? s.heap.objs.size = some (itObj k a) → h'.objs.size = s.heap.objs.size + 2 →
      (∀ b o, s.heap.get? b = some o → h'.get? b = some o) → Q (.ref (s.heap.objs.size + 1)) { s with heap := h' }) : wpAny (model prog w) A (call (.type "enumerate") [.ref a]) Q E s := by
  have B := sq_begins k a items
  refine callType_new F.called_enumerate (by decide) (F.typeCall_enumerate_1 _) (F.newCall_enumerate_1 _) (fun obj => F.args_object_init_2 obj _) F.entry_enumerate_new
    (meets_enum1 B) ⟨p, ?_⟩
  generalize itObj k a = o at h B
  have hz : (s.heap.push o).objs.size = s.heap.objs.size + 1 := Heap.size_push ..
  show _ ∧ _
  rw [hz]
  have he : IsEnum ((s.heap.push o).push { cls := .type "enumerate", data := .fields #[.none, .bool false, .ref s.heap.objs.size, rawInt 0, .none, .none] }) (s.heap.objs.size + 1) s.heap.objs.size 0 .none := by
    have := Heap.get?_push_size (s.heap.push o) (o := { cls := .type "enumerate", data := .fields #[.none, .bool false, .ref s.heap.objs.size, rawInt 0, .none, .none] }) rfl
    rw [hz] at this; exact this
  exact ⟨⟨_, he, rfl⟩, h _ he (Heap.get?_push_of_some _ (Heap.get?_push_size _ B.free)) (by rw [Heap.size_push, hz]) fun b o x => Heap.get?_push_of_some _ (Heap.get?_push_of_some _ x)⟩
/-- enumerate(xs) -/
def iEnumS (K : PySem.W.Frag) (ta : TA) : TI := fun σ H R => ta σ H fun vs H1 => ∃ k a xs, vs = [.ref a] ∧ Sq k K H1 a xs ∧ R (ItE K k a 0 xs.length) H1
theorem pi_enumS {X : Cx} {e : Expr} {ta : TA} {p pos tpos : Pos} {elts : List Expr} {kk : Nat} (hg : Gl X "enumerate") (hm : X.mg "enumerate" = none) (ha : PA X [e] ta) (hs : starEach [e] X.env = [(false, eval e X.env)] := by rfl) :
    PI X (.Tuple elts kk tpos) (.Call (.Name "enumerate" p) [e] [] pos) (iEnumS X.K ta) := by
  refine ⟨fun pins s σ H R I h => ?_⟩
  refine Call_ (ld_blt I hg hm boot_enumerate (PyProof.Rows.callWith_type1 (thn (ha.run pos pins s σ H _ I h) fun us s1 ⟨vs, H1, I1, r1, q1⟩ => ?_) hs rfl))
  obtain ⟨k, a, xs, ex, hq, q⟩ := q1
  subst ex
  cases r1 with
  | cons r rr =>
    cases rr
    cases r
    obtain ⟨its, rv, p', hlt⟩ := Inv.sq I1 hq
    refine call_enumS1 p' fun h' he hit hsz hk => wpAny_pyIter_enum he ?_
    have I2 : Inv X pins σ H1 { s1 with heap := h' } := I1.kept (t' := s1.toks) hk
    refine ⟨s1.heap.objs.size + 1, [s1.heap.objs.size + 1, s1.heap.objs.size], _, _, H1, rfl, I2, turn_enumS k a (s1.heap.objs.size + 1) s1.heap.objs.size 0 xs.length (Nat.ne_of_lt (Nat.lt_succ_of_lt hlt)) (Nat.ne_of_lt hlt) (Nat.succ_ne_self _), ⟨Nat.zero_le _, ⟨.none, he⟩, itAt_new hit⟩, fun b hb => ?_, q⟩
    have e' : b = s1.heap.objs.size + 1 ∨ b = s1.heap.objs.size := by simpa using hb
    have hle : s1.heap.objs.size ≤ b := by
      rcases e' with z | z
      · rw [z]; exact Nat.le_add_right _ _
      · rw [z]; exact Nat.le_refl _
    exact I1.fpOk hle (I1.hok.fresh hle)
/-- pairs of the items of two -/
def ItZ (K : PySem.W.Frag) (k : Bool) (a : Addr) (k2 : Bool) (b : Addr) (n : Nat) : It :=
  ⟨fun i H => i < n ∧ ∃ (xs ys : List V) (x y : V), Sq k K H a xs ∧ Sq k2 K H b ys ∧ xs[i]? = some x ∧ ys[i]? = some y,
    fun i H v H' => ∃ T x y, v = .ref T ∧ H T = none ∧ H' = upd H T (.tup [x, y]) ∧ (∀ xs, Sq k K H a xs → xs[i]? = some x) ∧ ∀ ys, Sq k2 K H b ys → ys[i]? = some y,
    fun i H => n ≤ i ∧ ∃ xs ys : List V, Sq k K H a xs ∧ Sq k2 K H b ys ∧ n = min xs.length ys.length⟩
theorem turn_zipS {P : Program} {w : World} {K : PySem.W.Frag} {elts : List Expr} {kk : Nat} {tpos : Pos} (k k2 : Bool) (n : Nat) {a b z TI TO i1 i2 : Addr} (D : ZipSep2 z TI TO i1 i2 [i1, a] [i2, b]) (ha : a ≠ i1) (hb : b ≠ i2) :
    Turn P w K (.Tuple elts kk tpos) (ItZ K k a k2 b n) [z, TI, TO, i1, i2] z (fun i h => i ≤ n ∧ IsZip h z TI TO .none ∧ IsTupOf2 h TI (.ref i1) (.ref i2) ∧ (∃ x y, IsTupOf2 h TO x y) ∧ ItAt k h i1 a i ∧ ItAt k2 h i2 b i) where
  mem := by simp
  obj := fun i h st c hc => by
    obtain ⟨hn, hz, hTI, ⟨x, y, hTO⟩, h1, h2⟩ := st
    have e' : c = z ∨ c = TI ∨ c = TO ∨ c = i1 ∨ c = i2 := by simpa using hc
    rcases e' with q | q | q | q | q
    · rw [q]; exact ⟨_, hz, fun v q => nomatch q⟩
    · rw [q]; exact ⟨_, hTI, fun v q => nomatch q⟩
    · rw [q]; exact ⟨_, hTO, fun v q => nomatch q⟩
    · rw [q]; exact h1.obj
    · rw [q]; exact h2.obj
  keep := fun i h h' st k => by
    obtain ⟨hn, hz, hTI, ⟨x, y, hTO⟩, h1, h2⟩ := st
    exact ⟨hn, k z (by simp) _ hz, k TI (by simp) _ hTI, ⟨x, y, k TO (by simp) _ hTO⟩, h1.at fun o q => k i1 (by simp) o q, h2.at fun o q => k i2 (by simp) o q⟩
  item := by
    intro X hP hw hK hc i pins s σ H E I hf st hg
    subst hP hw hK
    obtain ⟨hn, hz, hTI, ⟨x0, y0, hTO⟩, h1, h2⟩ := st
    obtain ⟨hlt', xs, ys, x, y, hqx, hqy, hx, hy⟩ := hg
    obtain ⟨its, rv, p, _⟩ := Inv.sq I hqx
    obtain ⟨its2, rv2, p2, _⟩ := Inv.sq I hqy
    obtain ⟨u, hu, ru⟩ := rv.get hx
    obtain ⟨u2, hu2, ru2⟩ := rv2.get hy
    have hzl : z < s.heap.objs.size := Heap.lt_size hz
    have l1 : i < its.toArray.size := by have := List.getElem?_eq_some_iff.mp hu; simpa using this.1
    have l2 : i < its2.toArray.size := by have := List.getElem?_eq_some_iff.mp hu2; simpa using this.1
    refine wpAny_pyNext_zipD2_item D (sq_draws (A := X.A.in1) (I.ok.hd hc) k i1 a ha its.toArray) (sq_draws (A := X.A.in1) (I.ok.hd hc) k2 i2 b hb its2.toArray) hz hTI hTO ⟨h1, p⟩ ⟨h2, p2⟩ l1 l2 fun w1 w2 h' tk e1 e2 z' TO' s1' s2' hT hsz hk => ?_
    have e1 : w1 = u := by
      have : its.toArray[i]? = some u := by simpa using hu
      rw [this] at e1; exact (Option.some.inj e1).symm
    have e2 : w2 = u2 := by
      have : its2.toArray[i]? = some u2 := by simpa using hu2
      rw [this] at e2; exact (Option.some.inj e2).symm
    subst e1 e2
    refine ⟨_, rfl, wpAny_letOwnedTupleGo_zip (s := { s with heap := h', toks := tk }) z' fun h'' z'' sb => ?_⟩
    have hT2 : h''.get? s.heap.objs.size = some { cls := .type "tuple", data := .seq #[w1, w2] } := (sb.2 _ (Nat.ne_of_gt hzl)).trans hT
    have new : ObjOk X.prog X.w (upd H s.heap.objs.size (.tup [x, y])) h'' s.heap.objs.size (.tup [x, y]) :=
      ⟨by show 2 ≤ sizeLine; decide, [w1, w2], .cons ru (.cons ru2 .nil), ⟨_, hT2, rfl, _, rfl⟩⟩
    have I1 : Inv X pins σ (upd H s.heap.objs.size (.tup [x, y])) { s with heap := h'', toks := tk } :=
      I.turnedNew (ch := [z, TI, TO, i1, i2]) (fun c o hb q => (sb.2 c (fun q' => hb (by simp [q']))).trans (hk c o (fun q' => hb (by simp [q'])) (fun q' => hb (by simp [q'])) (fun q' => hb (by simp [q'])) (fun q' => hb (by simp [q'])) q)) hf (Nat.le_refl _) new
    refine ⟨.ref s.heap.objs.size, _, I1, rfl, ⟨_, x, y, rfl, I.hok.fresh (Nat.le_refl _), rfl, fun l hl => by rw [Inv.sq_inj I hl hqx]; exact hx, fun l hl => by rw [Inv.sq_inj I hl hqy]; exact hy⟩, ⟨hlt', z'', ?_, ⟨w1, w2, ?_⟩, ?_, ?_⟩, fun c hcm => ?_⟩
    · exact (sb.2 _ D.TIz).trans (hk _ _ D.TIz D.TITO D.TIi1 D.TIi2 hTI)
    · exact (sb.2 _ D.TOz).trans TO'
    · exact s1'.1.at fun o q => (sb.2 _ D.zi1.symm).trans q
    · exact s2'.1.at fun o q => (sb.2 _ D.zi2.symm).trans q
    · have hlt : c < s.heap.objs.size := by
        have e' : c = z ∨ c = TI ∨ c = TO ∨ c = i1 ∨ c = i2 := by simpa using hcm
        rcases e' with q | q | q | q | q
        · rw [q]; exact hzl
        · rw [q]; exact Heap.lt_size hTI
        · rw [q]; exact Heap.lt_size hTO
        · rw [q]; obtain ⟨_, e1, _⟩ := h1.obj; exact Heap.lt_size e1
        · rw [q]; obtain ⟨_, e2, _⟩ := h2.obj; exact Heap.lt_size e2
      rw [upd_ne (Nat.ne_of_lt hlt)]
      exact (hf c hcm).1
  done := by
    intro X hP hw hK hc i pins s σ H E I hf st hg
    subst hP hw hK
    obtain ⟨hn, hz, hTI, ⟨x0, y0, hTO⟩, h1, h2⟩ := st
    obtain ⟨hge, xs, ys, hqx, hqy, hend⟩ := hg
    obtain ⟨its, rv, p, _⟩ := Inv.sq I hqx
    obtain ⟨its2, rv2, p2, _⟩ := Inv.sq I hqy
    have l1 := rv.length
    have l2 := rv2.length
    refine wpAny_pyNext_zipD2_end D (sq_draws (A := X.A.in1) (I.ok.hd hc) k i1 a ha its.toArray) (sq_draws (A := X.A.in1) (I.ok.hd hc) k2 i2 b hb its2.toArray) hz hTI hTO ⟨h1, p⟩ ⟨h2, p2⟩ (by simp; omega) (by simp; omega) (by simp; omega) fun h' tk hk => ⟨rfl, I.turnedL (t' := tk) (ch := [z, TI, TO, i1, i2]) (fun c o hb q =>
      hk c o (fun q' => hb (by simp [q'])) (fun q' => hb (by simp [q'])) (fun q' => hb (by simp [q'])) (fun q' => hb (by simp [q'])) q) hf⟩
  self := fun A i s Q E st h => wpAny_pyIter_zip st.2.1 h
theorem sep2_new (I a b : Nat) (h1 : a < I) (h2 : b < I) : ZipSep2 (I + 4) (I + 2) (I + 3) I (I + 1) [I, a] [I + 1, b] := by
  have n1 : ∀ j, ¬ (I + j = a) := fun j e => Nat.lt_irrefl _ (Nat.lt_of_le_of_lt (Nat.le_add_right I j) (by rw [e]; exact h1))
  have n2 : ∀ j, ¬ (I + j = b) := fun j e => Nat.lt_irrefl _ (Nat.lt_of_le_of_lt (Nat.le_add_right I j) (by rw [e]; exact h2))
  have q1 : ¬ (I = b) := n2 0
  constructor <;> simp <;> first
    | omega
    | exact n1 _
    | exact n2 _
    | (refine ⟨?_, ?_⟩ <;> first | exact n1 _ | exact n2 _ | exact q1 | omega)
def iZipS (K : PySem.W.Frag) (ta : TA) : TI := fun σ H R => ta σ H fun vs H1 => ∃ k a xs k2 b ys, vs = [.ref a, .ref b] ∧ Sq k K H1 a xs ∧ Sq k2 K H1 b ys ∧ R (ItZ K k a k2 b (min xs.length ys.length)) H1
theorem pi_zipS {X : Cx} {e e2 : Expr} {ta : TA} {p pos tpos : Pos} {elts : List Expr} {kk : Nat} (hg : Gl X "zip") (hm : X.mg "zip" = none) (ha : PA X [e, e2] ta)
    (hs : starEach [e, e2] X.env = (false, eval e X.env) :: starEach [e2] X.env := by rfl) (hpl : (backTo pos (starEach [e2] X.env)).any (·.1) = false := by rfl) :
    PI X (.Tuple elts kk tpos) (.Call (.Name "zip" p) [e, e2] [] pos) (iZipS X.K ta) := by
  refine ⟨fun pins s σ H R I h => ?_⟩
  refine Call_ (ld_blt I hg hm PyProof.Rows.boot_zip (PyProof.Rows.callWith_type1 (thn (ha.run pos pins s σ H _ I h) fun us s1 ⟨vs, H1, I1, r1, q1⟩ => ?_) hs hpl))
  obtain ⟨k, a, xs, k2, b, ys, ex, hqx, hqy, q⟩ := q1
  subst ex
  cases r1 with
  | cons r rr =>
    cases rr with
    | cons r' rr =>
      cases rr
      cases r
      cases r'
      have fresh5 : ∀ c, c ∈ [s1.heap.objs.size + 4, s1.heap.objs.size + 2, s1.heap.objs.size + 3, s1.heap.objs.size, s1.heap.objs.size + 1] → FpOk X pins H1 c := fun c hcm => by
        have e' : c = s1.heap.objs.size + 4 ∨ c = s1.heap.objs.size + 2 ∨ c = s1.heap.objs.size + 3 ∨ c = s1.heap.objs.size ∨ c = s1.heap.objs.size + 1 := by simpa using hcm
        have hle : s1.heap.objs.size ≤ c := by
          rcases e' with z | z | z | z | z
          · rw [z]; exact Nat.le_add_right _ _
          · rw [z]; exact Nat.le_add_right _ _
          · rw [z]; exact Nat.le_add_right _ _
          · rw [z]; exact Nat.le_refl _
          · rw [z]; exact Nat.le_add_right _ _
        exact I1.fpOk hle (I1.hok.fresh hle)
      obtain ⟨its, rv, p1, la⟩ := Inv.sq I1 hqx
      obtain ⟨its2, rv2, p2, lb⟩ := Inv.sq I1 hqy
      refine zip_begins2 (sq_begins k a its.toArray) (sq_begins k2 b its2.toArray) p1 p2 fun h' hz hTI hTO h1 h2 hsz hk => wpAny_pyIter_zip hz ?_
      have I2 : Inv X pins σ H1 { s1 with heap := h' } := I1.kept (t' := s1.toks) hk
      exact ⟨s1.heap.objs.size + 4, [s1.heap.objs.size + 4, s1.heap.objs.size + 2, s1.heap.objs.size + 3, s1.heap.objs.size, s1.heap.objs.size + 1], _, _, H1, rfl, I2, turn_zipS k k2 (min xs.length ys.length) (sep2_new s1.heap.objs.size a b la lb) (Nat.ne_of_lt la) (Nat.ne_of_lt (Nat.lt_succ_of_lt lb)), ⟨Nat.zero_le _, hz, hTI, ⟨_, _, hTO⟩, itAt_new h1, itAt_new h2⟩, fresh5, q⟩
/-! their readings -/
/-- a list or tuple that stands as long as the frame lives on -/
def Src (K : PySem.W.Frag) (O : AS) (s : VS) (σ : L2.St) (H : Hp) (k : Bool) (a : Addr) (xs : List Da) : Prop := ∀ O' s' σ' H', Pres K O s σ H O' s' σ' H' → ∃ vs, RpL K (Av O' s' σ') H' xs vs ∧ Sq k K H' a vs
theorem Src.of {K : PySem.W.Frag} {O : AS} {s : VS} {σ : L2.St} {H : Hp} {a : Addr} {xs : List Da} (h : SrcL K O s σ H a xs ∨ SrcT K O s σ H a xs) : ∃ k, Src K O s σ H k a xs := by
  rcases h with h | h
  · exact ⟨true, fun O' s' σ' H' P => h.get P⟩
  · refine ⟨false, fun O' s' σ' H' P => ?_⟩
    obtain ⟨a', vs, e, g, R⟩ := (P.rp _ _ h).tupT
    cases e
    exact ⟨vs, R, g⟩
theorem Rp.pair {K : PySem.W.Frag} {O : AS} {H : Hp} {T : Addr} {v w : V} {x y : Da} (hn : H T = none) (hav : ∀ a, O a → H a ≠ none) (h1 : Rp K O H x v) (h2 : Rp K O H y w) : Rp K O (upd H T (.tup [v, w])) (.tuple [x, y]) (.ref T) := by
  have k : Same H (upd H T (.tup [v, w])) := Same.upd hn
  simp only [Rp]
  refine ⟨T, [v, w], rfl, .inl ⟨upd_same, fun z => hav T z hn⟩, ?_⟩
  exact .cons (Rp.mono (fun _ h => .inl h) (fun a o e _ => k a o e) _ _ h1) (.one (Rp.mono (fun _ h => .inl h) (fun a o e _ => k a o e) _ _ h2))
def enumD (c : Int) : List Da → List Da
  | [] => []
  | x :: xs => .tuple [.int c, x] :: enumD (c + 1) xs
theorem enumD_len : ∀ (c : Int) (xs : List Da), (enumD c xs).length = xs.length
  | _, [] => rfl
  | c, x :: xs => by simp [enumD, enumD_len]
theorem enumD_get : ∀ {c : Int} {xs : List Da} {i : Nat} {y : Da}, (enumD c xs)[i]? = some y → ∃ x, xs[i]? = some x ∧ y = .tuple [.int (c + (i : Int)), x]
  | c, [], i, y, h => by simp [enumD] at h
  | c, x :: xs, 0, y, h => by simp [enumD] at h; exact ⟨x, rfl, by simp [h]⟩
  | c, x :: xs, i + 1, y, h => by
    obtain ⟨z, e1, e2⟩ := enumD_get (c := c + 1) (xs := xs) (i := i) (y := y) (by simpa [enumD] using h)
    refine ⟨z, by simpa using e1, ?_⟩
    rw [e2]
    have : c + 1 + (i : Int) = c + ((i + 1 : Nat) : Int) := by omega
    rw [this]
theorem Src.enum {K : PySem.W.Frag} {O : AS} {s : VS} {σ : L2.St} {H : Hp} {k : Bool} {a : Addr} {xs : List Da} (h : Src K O s σ H k a xs) {c : Int} {n : Nat} (hn : n = xs.length) : JV K O s σ H (ItE K k a c n) (enumD c xs) := fun O' s' σ' H' P => by
  obtain ⟨vs, R, g⟩ := h O' s' σ' H' P
  subst hn
  refine ⟨fun i y hy => ?_, fun i hi => ⟨by rw [enumD_len] at hi; exact hi, vs, g, R.length.symm⟩⟩
  obtain ⟨x, hx, rfl⟩ := enumD_get hy
  obtain ⟨w, hw, Rw⟩ := R.get hx
  have hlt : i < xs.length := (List.getElem?_eq_some_iff.mp hx).1
  refine ⟨⟨hlt, vs, w, g, hw⟩, fun v H2 hy => ?_⟩
  obtain ⟨T, u, rfl, hT, rfl, hy⟩ := hy
  have := hy vs g
  rw [hw] at this; cases this
  exact ⟨Same.upd hT, fun hav => Rp.pair hT hav (by simp only [Rp]) Rw⟩
def zipD : List Da → List Da → List Da
  | x :: xs, y :: ys => .tuple [x, y] :: zipD xs ys
  | _, _ => []
theorem zipD_len : ∀ (xs ys : List Da), (zipD xs ys).length = min xs.length ys.length
  | [], ys => by simp [zipD]
  | x :: xs, [] => by simp [zipD]
  | x :: xs, y :: ys => by simp [zipD, zipD_len]
theorem zipD_get : ∀ {xs ys : List Da} {i : Nat} {z : Da}, (zipD xs ys)[i]? = some z → ∃ x y, xs[i]? = some x ∧ ys[i]? = some y ∧ z = .tuple [x, y]
  | [], ys, i, z, h => by simp [zipD] at h
  | x :: xs, [], i, z, h => by simp [zipD] at h
  | x :: xs, y :: ys, 0, z, h => by simp [zipD] at h; exact ⟨x, y, rfl, rfl, h.symm⟩
  | x :: xs, y :: ys, i + 1, z, h => by
    obtain ⟨u, v, e1, e2, e3⟩ := zipD_get (xs := xs) (ys := ys) (i := i) (z := z) (by simpa [zipD] using h)
    exact ⟨u, v, by simpa using e1, by simpa using e2, e3⟩
theorem Src.zip {K : PySem.W.Frag} {O : AS} {s : VS} {σ : L2.St} {H : Hp} {k k2 : Bool} {a b : Addr} {xs ys : List Da} (h : Src K O s σ H k a xs) (h2 : Src K O s σ H k2 b ys) {n : Nat} (hn : n = min xs.length ys.length) : JV K O s σ H (ItZ K k a k2 b n) (zipD xs ys) := fun O' s' σ' H' P => by
  obtain ⟨vs, R, g⟩ := h O' s' σ' H' P
  obtain ⟨ws, R2, g2⟩ := h2 O' s' σ' H' P
  subst hn
  refine ⟨fun i y hy => ?_, fun i hi => ⟨by rw [zipD_len] at hi; exact hi, vs, ws, g, g2, by rw [R.length, R2.length]⟩⟩
  have hlt : i < min xs.length ys.length := by rw [← zipD_len]; exact (List.getElem?_eq_some_iff.mp hy).1
  obtain ⟨x, y', hx, hy', rfl⟩ := zipD_get hy
  obtain ⟨w, hw, Rw⟩ := R.get hx
  obtain ⟨w2, hw2, Rw2⟩ := R2.get hy'
  refine ⟨⟨hlt, vs, ws, w, w2, g, g2, hw, hw2⟩, fun v H2 hy => ?_⟩
  obtain ⟨T, u, u2, rfl, hT, rfl, hq, hq2⟩ := hy
  have e1 := hq vs g
  have e2 := hq2 ws g2
  rw [hw] at e1; cases e1
  rw [hw2] at e2; cases e2
  exact ⟨Same.upd hT, fun hav => Rp.pair hT hav Rw Rw2⟩
theorem Src.lks {K : PySem.W.Frag} {O : AS} {s s1 : VS} {σ : L2.St} {H : Hp} {k : Bool} {a : Addr} {xs : List Da} {L : Lks} (h : Src K O s σ H k a xs) (l : LkS L s s1) (F : FR K O s σ H) : Src K O s1 σ H k a xs := by
  have av : ∀ x, Av O s1 σ x ↔ Av O s σ x := fun x => ⟨fun z => z.imp id fun ⟨j, z⟩ => ⟨j, (l.own F j x).mp z⟩, fun z => z.imp id fun ⟨j, z⟩ => ⟨j, (l.own F j x).mpr z⟩⟩
  refine fun O' s' σ' H' P => h O' s' σ' H' ⟨fun d v r => P.rp d v (r.sub fun x z => (av x).mp z), fun i c p hi e => P.lk i c p (l.lks.2.2 i c hi).1 e⟩
section
variable {X : Cx} {W : WX} {a b c e e2 o tg iter : Expr} {es ts : List Expr} {pos p tpos : Pos} {elts : List Expr} {kk : Nat} {fs : VM (List EV)}
def vItEnum (fs : VM (List EV)) : VM (List Da × Lks) := vb fs fun rs => match rs with
  | [r] => vb (vSrc r) fun q => vr (enumD 0 q.1, q.2)
  | _ => vStuck
theorem vi_enum (hm : X.mg "enumerate" = none) (ha : VA X W [e] fs) (hg : Gl X "enumerate" := by rfl) (hs : starEach [e] X.env = [(false, eval e X.env)] := by rfl) :
    VI X W (.Tuple elts kk tpos) (.Call (.Name "enumerate" p) [e] [] pos) (vItEnum fs) := by
  refine PI.wk (pi_enumS hg hm ha hs) fun σ H R h => ?_
  obtain ⟨O, st, F, h⟩ := h
  refine tVA.bind F h fun rs s1 vs H1 S1 E1 h => ?_
  match rs, vs, E1, h with
  | [r], [v], E1, h =>
    have E2 := E1.1
    rw [← E1.2.1] at E2
    have h := vrun_vb h
    cases q : vSrc r s1 with
    | error er => rw [q] at h; rw [vSrc_err q] at h; exact h.elim
    | ok p =>
      obtain ⟨⟨xs, L⟩, s2⟩ := p
      rw [q] at h
      obtain ⟨a, rfl, lk, src⟩ := vSrc_ok S1.fr E2 q
      obtain ⟨k, src⟩ := Src.of src
      obtain ⟨ws, R', g⟩ := src _ _ _ _ (Step.refl (lk.fr S1.fr)).pres
      exact ⟨k, a, ws, rfl, g, h _ H1 s1 S1 lk (src.enum R'.length.symm)⟩
  | [], _, _, h => exact h.elim
  | _ :: _ :: _, _, _, h => exact h.elim
  | [_], [], E1, _ => exact E1.elim
  | [_], _ :: _ :: _, E1, _ => exact E1.2.2.elim
def vItZip (fs : VM (List EV)) : VM (List Da × Lks) := vb fs fun rs => match rs with
  | [r, r2] => vb (vSrc r) fun q => vb (vSrc r2) fun q2 => vr (zipD q.1 q2.1, q.2 ++ q2.2)
  | _ => vStuck
theorem LkS.trans {L1 : Lks} {s s1 : VS} (h : LkS L1 s s1) : ∀ {L2 : Lks} {s2 : VS}, LkS L2 s1 s2 → LkS (L1 ++ L2) s s2 := by
  induction h with
  | nil => exact fun h => h
  | cons e l ih => exact fun h => .cons e (ih h)
theorem LkS.erd {K : PySem.W.Frag} {O : AS} {H0 H1 : Hp} {L : Lks} {s s1 : VS} {σ : L2.St} {H : Hp} {v : V} {r : EV} (l : LkS L s s1) (F : FR K O s σ H) (E : ER K O H0 s σ H v (settle r)) : ER K O H1 s1 σ H v (settle r) := by
  have av : ∀ x, Av O s1 σ x → Av O s σ x := fun x z => z.imp id fun ⟨j, z⟩ => ⟨j, (l.own F j x).mp z⟩
  cases r with
  | d x => exact Rp.sub av E
  | own c => exact Rp.sub (d := c.data) av E
  | loan i => exact E
theorem vi_zip (hm : X.mg "zip" = none) (ha : VA X W [e, e2] fs) (hg : Gl X "zip" := by rfl) (hs : starEach [e, e2] X.env = (false, eval e X.env) :: starEach [e2] X.env := by rfl) (hpl : (backTo pos (starEach [e2] X.env)).any (·.1) = false := by rfl) :
    VI X W (.Tuple elts kk tpos) (.Call (.Name "zip" p) [e, e2] [] pos) (vItZip fs) := by
  refine PI.wk (pi_zipS hg hm ha hs hpl) fun σ H R h => ?_
  obtain ⟨O, st, F, h⟩ := h
  refine tVA.bind F h fun rs s1 vs H1 S1 E1 h => ?_
  match rs, vs, E1, h with
  | [r, r2], [v, v2], E1, h =>
    have E2 := E1.1
    rw [← E1.2.1] at E2
    have E3 := E1.2.2.1
    have h := vrun_vb h
    cases q : vSrc r s1 with
    | error er => rw [q] at h; rw [vSrc_err q] at h; exact h.elim
    | ok p =>
      obtain ⟨⟨xs, L⟩, s2⟩ := p
      rw [q] at h
      change VRun X.K X.mg W O s1 σ H1 (vb (vSrc r2) (fun q2 => vr (zipD xs q2.1, L ++ q2.2)) s2) _ at h
      unfold vb at h
      obtain ⟨a, rfl, lk, src⟩ := vSrc_ok S1.fr E2 q
      obtain ⟨k, src⟩ := Src.of src
      have F2 := lk.fr S1.fr
      have E4 : ER X.K O H s2 σ H1 v2 (settle r2) := lk.erd S1.fr E3
      rw [← E1.2.2.2.1] at E4
      cases q2 : vSrc r2 s2 with
      | error er => rw [q2] at h; rw [vSrc_err q2] at h; exact h.elim
      | ok p =>
        obtain ⟨⟨ys, L2⟩, s3⟩ := p
        rw [q2] at h
        obtain ⟨b, rfl, lk2, src2⟩ := vSrc_ok F2 E4 q2
        obtain ⟨k2, src2⟩ := Src.of src2
        have src := src.lks lk2 F2
        have F3 := lk2.fr F2
        obtain ⟨ws, R', g⟩ := src _ _ _ _ (Step.refl F3).pres
        obtain ⟨ws2, R2', g2⟩ := src2 _ _ _ _ (Step.refl F3).pres
        exact ⟨k, a, ws, k2, b, ws2, rfl, g, g2, h _ H1 s1 S1 (lk.trans lk2) (src.zip src2 (by rw [R'.length, R2'.length]))⟩
  | [], _, _, h => exact h.elim
  | [_], _, _, h => exact h.elim
  | _ :: _ :: _ :: _, _, _, h => exact h.elim
  | [_, _], [], E1, _ => exact E1.elim
  | [_, _], [_], E1, _ => exact E1.2.2.elim
  | [_, _], _ :: _ :: _ :: _, E1, _ => exact E1.2.2.2.2.elim
/-! reversed -/
theorem Src.revJ {K : PySem.W.Frag} {O : AS} {s : VS} {σ : L2.St} {H : Hp} {xs : List Da} {J : It} {k : Bool} {a : Addr} {n : Nat} (h : Src K O s σ H k a xs) (hn : n = xs.length)
    (g : ∀ i H, J.go i H ↔ (i < n ∧ ∃ (xs : List V) (x : V), Sq k K H a xs ∧ xs[n - 1 - i]? = some x)) (y : ∀ i H v H', J.yld i H v H' → H' = H ∧ ∀ xs, Sq k K H a xs → xs[n - 1 - i]? = some v) (t : ∀ i H, J.stop i H ↔ n ≤ i) : JV K O s σ H J xs.reverse := fun O' s' σ' H' P => by
  obtain ⟨vs, R, hq⟩ := h O' s' σ' H' P
  subst hn
  refine ⟨fun i x hx => ?_, fun i hi => (t i H').mpr (by rw [List.length_reverse] at hi; exact hi)⟩
  have hlt : i < xs.length := by have := (List.getElem?_eq_some_iff.mp hx).1; rwa [List.length_reverse] at this
  rw [List.getElem?_reverse hlt] at hx
  obtain ⟨w, hw, Rw⟩ := R.get hx
  refine ⟨(g i H').mpr ⟨hlt, vs, w, hq, hw⟩, fun v H2 hy => ?_⟩
  obtain ⟨e, hy⟩ := y i H' v H2 hy
  subst e
  have := hy vs hq
  rw [hw] at this; cases this
  exact ⟨Same.refl _, fun _ => Rw⟩
def vItRev (fe : VM EV) : VM (List Da × Lks) := vb fe fun r => vb (vSrc r) fun q => vr (q.1.reverse, q.2)
theorem vi_rev {fe : VM EV} (hm : X.mg "reversed" = none) (he : VE X W e fe) (hg : Gl X "reversed" := by rfl) (hs : starEach [e] X.env = (false, eval e X.env) :: starEach [] X.env := by rfl) : VI X W tg (.Call (.Name "reversed" p) [e] [] pos) (vItRev fe) := by
  refine PI.wk (RT.pi_revA hg hm he hs) fun σ H R h => ?_
  obtain ⟨O, st, F, h⟩ := h
  refine tV.bind F h fun r s1 v H1 S1 E1 h => ?_
  have h := vrun_vb h
  cases q : vSrc r s1 with
  | error er => rw [q] at h; rw [vSrc_err q] at h; exact h.elim
  | ok p =>
    obtain ⟨⟨xs, L⟩, s2⟩ := p
    rw [q] at h
    obtain ⟨a, rfl, lk, src⟩ := vSrc_ok S1.fr E1 q
    obtain ⟨k, src⟩ := Src.of src
    obtain ⟨ws, R', g⟩ := src _ _ _ _ (Step.refl (lk.fr S1.fr)).pres
    refine ⟨a, ws, rfl, ?_⟩
    cases k with
    | true => exact .inl ⟨g, h _ H1 s1 S1 lk (src.revJ R'.length.symm (fun i H => Iff.rfl) (fun i H v H' h => h) fun i H => Iff.rfl)⟩
    | false => exact .inr ⟨g, h _ H1 s1 S1 lk (src.revJ R'.length.symm (fun i H => Iff.rfl) (fun i H v H' h => h) fun i H => Iff.rfl)⟩
end
end VL
set_option Elab.async false
set_option linter.all false
set_option maxRecDepth 100000
namespace VL
open PySem PySem.Spec PyProof.Rows L2
section
variable {X : Cx} {W : WX} {a b c e : Expr} {es : List Expr} {pos p : Pos} {fa fb fe : VM EV} {fs : VM (List EV)} {s : Stmt}
/-! ### what is not reached -/
theorem vs_stuck : VSt X W s vStuck := ⟨fun pins s σ H D I q => by obtain ⟨O, st, F, h⟩ := q; exact h.elim⟩
theorem ve_stuck : VE X W e vStuck := ⟨fun pins s σ H Q I q => by obtain ⟨O, st, F, h⟩ := q; exact h.elim⟩
theorem vt_stuck : VT X W e vStuck := ⟨fun pins s σ H Q I q => by obtain ⟨O, st, F, h⟩ := q; exact h.elim⟩
/-! ### order of ints; in -/
def ordI (pi : Int → Int → Bool) : Da → Da → Option EV
  | .int i, .int j => some (.d (.bool (pi i j)))
  | _, _ => none
theorem o_ordI {f : Value → Value → Sem Value} {pi : Int → Int → Bool} (h1 : OpR X f (rI0 fun i j => .bl (pi i j))) : Op2 X f (ordI pi) := by
  refine ⟨_, h1, fun O H x y v w z Q hd hx hy e q => ?_⟩
  cases x with
  | int i =>
    cases y with
    | int j =>
      cases e
      obtain rfl := hx.int
      obtain rfl := hy.int
      exact ⟨i, j, rfl, rfl, q _ H (Same.refl H) (by show Rp _ _ _ _ _; simp only [Rp])⟩
    | _ => cases e
  | _ => cases y <;> cases e
def leD : Da → Da → Option EV := ordI fun i j => decide (i ≤ j)
def gtD : Da → Da → Option EV := ordI fun i j => decide (j < i)
def geD : Da → Da → Option EV := ordI fun i j => decide (j ≤ i)
theorem o_le : Op2 X (compareOp .LtE) leD := o_ordI op_le
theorem o_gt : Op2 X (compareOp .Gt) gtD := o_ordI op_gt
theorem o_ge : Op2 X (compareOp .GtE) geD := o_ordI op_ge
def inB (x : Da) (xs : List Da) : Bool := xs.any fun z => PyData.eqv z x
def inD' (neg : Bool) (x y : Da) : Option EV := (seqD y).bind fun xs => if SeqAt.shaped x = true ∧ SeqAt.shaped (.list xs) = true then some (.d (.bool (if neg = true then !inB x xs else inB x xs))) else none
def inD : Da → Da → Option EV := inD' false
def notinD : Da → Da → Option EV := inD' true
def rInA (K : PySem.W.Frag) (neg : Bool) : R2 := fun x y H Q => ∃ d ds, Dp K H x d ∧ (Dp K H y (.list ds) ∨ Dp K H y (.tuple ds)) ∧ SeqAt.shaped d = true ∧ SeqAt.shaped (.list ds) = true ∧ Q (.bl (if neg = true then !inB d ds else inB d ds)) H
theorem op_inA (hu : X.A.units + 65 < cLine) : OpR X (compareOp .In) (rInA X.K false) := by
  intro pins s σ H x y v u Q I rx ry h
  obtain ⟨d, ds, hd, he, sd, se, q⟩ := h
  obtain ⟨as, r1⟩ := Dp.reads I d x v hd rx
  rcases he with he | he
  · obtain ⟨bs, r2⟩ := Dp.reads I (.list ds) y u he ry
    exact SeqAt.in_list_reads r2 r1 (SeqAt.canLay_of_shaped se) (SeqAt.canLay_of_shaped sd) (room_in_shaped sd hu) ⟨.bl _, H, I, rfl, q⟩
  · obtain ⟨bs, r2⟩ := Dp.reads I (.tuple ds) y u he ry
    exact SeqAt.in_tuple_reads r2 r1 (SeqAt.canLay_of_shaped se) (SeqAt.canLay_of_shaped sd) (room_in_shaped sd hu) ⟨.bl _, H, I, rfl, q⟩
theorem op_notinA (hu : X.A.units + 65 < cLine) : OpR X (compareOp .NotIn) (rInA X.K true) := by
  intro pins s σ H x y v u Q I rx ry h
  obtain ⟨d, ds, hd, he, sd, se, q⟩ := h
  obtain ⟨as, r1⟩ := Dp.reads I d x v hd rx
  rcases he with he | he
  · obtain ⟨bs, r2⟩ := Dp.reads I (.list ds) y u he ry
    exact SeqAt.notIn_list_reads r2 r1 (SeqAt.canLay_of_shaped se) (SeqAt.canLay_of_shaped sd) (room_in_shaped sd hu) ⟨.bl _, H, I, rfl, q⟩
  · obtain ⟨bs, r2⟩ := Dp.reads I (.tuple ds) y u he ry
    exact SeqAt.notIn_tuple_reads r2 r1 (SeqAt.canLay_of_shaped se) (SeqAt.canLay_of_shaped sd) (room_in_shaped sd hu) ⟨.bl _, H, I, rfl, q⟩
theorem o_inA {f : Value → Value → Sem Value} {neg : Bool} (h : OpR X f (rInA X.K neg)) : Op2 X f (inD' neg) := by
  refine ⟨_, h, fun O H x y v w z Q hd hx hy e q => ?_⟩
  obtain ⟨xs, e1, e⟩ := Option.bind_eq_some_iff.mp e
  split at e
  · rename_i hc
    cases e
    have cl := SeqAt.canLay_of_shaped hc.2
    refine ⟨x, xs, hx.dp (SeqAt.canLay_of_shaped hc.1), ?_, hc.1, hc.2, q _ H (Same.refl H) (by show Rp _ _ _ _ _; simp only [Rp])⟩
    cases y with
    | list ys => cases e1; exact .inl (hy.dp cl)
    | tuple ys => cases e1; exact .inr (hy.dp cl)
    | _ => cases e1
  · cases e
theorem VC.hu65 {k : Nat} (c : VC X W k) : X.A.units + 65 < cLine := by have := c.rm.un; omega
theorem o_in {k : Nat} (c : VC X W k) : Op2 X (compareOp .In) inD := o_inA (op_inA c.hu65)
theorem o_notin {k : Nat} (c : VC X W k) : Op2 X (compareOp .NotIn) notinD := o_inA (op_notinA c.hu65)
/-! ### built-ins -/
theorem RoL.none {K : PySem.W.Frag} {O : AS} {H : Hp} {vs : List V} (h : RoL K O H [] vs) : vs = [] := by simpa only [RoL] using h
theorem CallR.or {f : Value} {r r' : List V → Hp → VK → Prop} (h : CallR X f r) (h' : CallR X f r') : CallR X f (fun xs H Q => r xs H Q ∨ r' xs H Q) := by
  intro pins s σ H xs us Q I rx q
  rcases q with q | q
  · exact h pins s σ H xs us Q I rx q
  · exact h' pins s σ H xs us Q I rx q
theorem RpD.length {K : PySem.W.Frag} {O : AS} {H : Hp} : ∀ {ds : List (Da × Da)} {ks : List (Key × V)}, RpD K O H ds ks → ds.length = ks.length
  | [], ks, h => by simp only [RpD] at h; subst h; rfl
  | (k, d) :: r, ks, h => by
    simp only [RpD] at h
    obtain ⟨_, _, _, rfl, _, _, q⟩ := h
    rw [List.length_cons, List.length_cons, RpD.length q]
def lenD : List Da → Option EV
  | [.list xs] => some (.d (.int xs.length))
  | [.tuple xs] => some (.d (.int xs.length))
  | [.str s] => if s.length ≤ 16777216 then some (.d (.int s.length)) else none
  | [.dict kvs] => some (.d (.int kvs.length))
  | _ => none
theorem c_len : CallV X (.builtin "len") lenD := by
  refine ⟨_, CallR.or call_len call_lenD, fun O H xs vs z Q hd R e q => ?_⟩
  match xs, e, R with
  | [.list xs], e, R =>
    cases e; obtain ⟨v, rfl, r⟩ := R.one; obtain ⟨a, vs, rfl, h, r⟩ := r.list
    exact .inl ⟨_, _, rfl, .inl ⟨vs, .of h, r.length⟩, q _ H (Same.refl H) (by show Rp _ _ _ _ _; simp only [Rp])⟩
  | [.tuple xs], e, R =>
    cases e; obtain ⟨v, rfl, r⟩ := R.one; obtain ⟨a, vs, rfl, h, r⟩ := r.tupT
    exact .inl ⟨_, _, rfl, .inr ⟨vs, h, r.length⟩, q _ H (Same.refl H) (by show Rp _ _ _ _ _; simp only [Rp])⟩
  | [.str y], e, R =>
    obtain ⟨v, rfl, r⟩ := R.one; obtain rfl := r.str
    have e : (if y.length ≤ 16777216 then some (EV.d (.int y.length)) else none) = some z := e
    split at e
    · rename_i hs; cases e
      exact .inl ⟨_, _, rfl, ⟨by rw [sizeLine_eq]; exact hs, rfl⟩, q _ H (Same.refl H) (by show Rp _ _ _ _ _; simp only [Rp])⟩
    · cases e
  | [.dict xs], e, R =>
    cases e; obtain ⟨v, rfl, r⟩ := R.one; obtain ⟨a, ks, rfl, h, r⟩ := r.dict
    exact .inr ⟨_, _, rfl, h, by rw [← r.length]; exact q _ H (Same.refl H) (by show Rp _ _ _ _ _; simp only [Rp])⟩
def toIntD : List Da → Option EV
  | [.int i] => some (.d (.int i))
  | [.bool b] => some (.d (.int (if b then 1 else 0)))
  | _ => none
theorem c_int : CallV X (.type "int") toIntD := by
  refine ⟨_, call_int1, fun O H xs vs z Q hd R e q => ?_⟩
  match xs, e, R with
  | [.int i], e, R =>
    cases e; obtain ⟨v, rfl, r⟩ := R.one; obtain rfl := r.int
    exact .inl ⟨i, rfl, q _ H (Same.refl H) (by show Rp _ _ _ _ _; simp only [Rp])⟩
  | [.bool i], e, R =>
    cases e; obtain ⟨v, rfl, r⟩ := R.one; obtain rfl := r.bool
    exact .inr ⟨i, rfl, q _ H (Same.refl H) (by show Rp _ _ _ _ _; simp only [Rp])⟩
def absD : List Da → Option EV
  | [.int i] => some (.d (.int (if i < 0 then -i else i)))
  | _ => none
theorem c_abs : CallV X (.builtin "abs") absD := by
  refine ⟨_, call_abs, fun O H xs vs z Q hd R e q => ?_⟩
  match xs, e, R with
  | [.int i], e, R =>
    cases e; obtain ⟨v, rfl, r⟩ := R.one; obtain rfl := r.int
    exact ⟨i, rfl, q _ H (Same.refl H) (by show Rp _ _ _ _ _; simp only [Rp])⟩
def tupleD : List Da → Option EV
  | [.list xs] => some (.d (.tuple xs))
  | [.tuple xs] => some (.d (.tuple xs))
  | _ => none
theorem c_tuple : CallV X (.type "tuple") tupleD := by
  refine ⟨_, call_tuple_of, fun O H xs vs z Q hd R e q => ?_⟩
  match xs, e, R with
  | [.list xs], e, R =>
    cases e; obtain ⟨v, rfl, r⟩ := R.one; obtain ⟨a, vs, rfl, h, r⟩ := r.list
    exact ⟨_, vs, rfl, .inl ⟨.of h, fun l hl => q _ _ (Same.upd hl) (NR.tup hd r hl)⟩⟩
  | [.tuple xs], e, R =>
    cases e; obtain ⟨v, rfl, r⟩ := R.one
    have r0 := r.tup
    obtain ⟨a, vs, rfl, h, r⟩ := r.tupT
    exact ⟨_, vs, rfl, .inr ⟨h, q _ H (Same.refl H) r0⟩⟩
def listD : List Da → Option EV
  | [.list xs] => some (.own (.l xs))
  | [.tuple xs] => some (.own (.l xs))
  | _ => none
theorem c_list : CallV X (.type "list") listD := by
  refine ⟨_, call_list_of, fun O H xs vs z Q hd R e q => ?_⟩
  match xs, e, R with
  | [.list xs], e, R =>
    cases e; obtain ⟨v, rfl, r⟩ := R.one; obtain ⟨a, vs, rfl, h, r⟩ := r.list
    exact ⟨_, vs, rfl, .inl (.of h), fun l hl => q _ _ (Same.upd hl) (NR.lst r hl)⟩
  | [.tuple xs], e, R =>
    cases e; obtain ⟨v, rfl, r⟩ := R.one; obtain ⟨a, vs, rfl, h, r⟩ := r.tupT
    exact ⟨_, vs, rfl, .inr h, fun l hl => q _ _ (Same.upd hl) (NR.lst r hl)⟩
theorem ints_map : ∀ {ds : List Da} {ns : List Int}, ints? ds = some ns → ds = ns.map PyData.int := by
  intro ds
  induction ds with
  | nil => intro ns h; cases h; rfl
  | cons d ds ih =>
    intro ns h
    cases d with
    | int i =>
      obtain ⟨ms, e, rfl⟩ := Option.map_eq_some_iff.mp h
      rw [ih e]; rfl
    | _ => cases h
theorem Ro.listI {K : PySem.W.Frag} {O : AS} {H : Hp} {xs : List Da} {v : V} {ns : List Int} (r : Ro K O H (.list xs) v) (e : ints? xs = some ns) : ∃ a, v = .ref a ∧ SqL K H a (ns.map V.int) := by
  obtain ⟨a, vs, rfl, h, r⟩ := r.list
  rw [ints_map e] at r
  rw [r.ints] at h
  exact ⟨a, rfl, .of h⟩
def sumD : List Da → Option EV
  | [.list xs] => (ints? xs).map fun ns => .d (.int ns.sum)
  | _ => none
theorem c_sum (hc : X.calm = true) : CallV X (.builtin "sum") sumD := by
  refine ⟨_, cr_sum hc, fun O H xs vs z Q hd R e q => ?_⟩
  match xs, e, R with
  | [.list xs], e, R =>
    obtain ⟨ns, e1, rfl⟩ := Option.map_eq_some_iff.mp (show (ints? xs).map (fun ns => EV.d (.int ns.sum)) = some z from e)
    obtain ⟨v, rfl, r⟩ := R.one; obtain ⟨a, rfl, h⟩ := r.listI e1
    exact ⟨a, ns, rfl, h, q _ H (Same.refl H) (by show Rp _ _ _ _ _; simp only [Rp])⟩
/-- the greatest, the least of ints -/
def maxI : Int → List Int → Int
  | m, [] => m
  | m, n :: ns => maxI (if m < n then n else m) ns
def minI : Int → List Int → Int
  | m, [] => m
  | m, n :: ns => minI (if n < m then n else m) ns
theorem maxI_ok : ∀ (ns : List Int) (m : Int), (maxI m ns = m ∨ maxI m ns ∈ ns) ∧ m ≤ maxI m ns ∧ ∀ y ∈ ns, y ≤ maxI m ns
  | [], m => by simp [maxI]
  | n :: ns, m => by
    obtain ⟨h1, h2, h3⟩ := maxI_ok ns (if m < n then n else m)
    unfold maxI
    split at h2
    · rename_i hc
      rw [if_pos hc] at h1 h3 ⊢
      refine ⟨.inr ?_, by omega, fun y hy => ?_⟩
      · rcases h1 with h1 | h1
        · rw [h1]; simp
        · simp [h1]
      · rcases List.mem_cons.mp hy with rfl | hy
        · exact h2
        · exact h3 y hy
    · rename_i hc
      rw [if_neg hc] at h1 h3 ⊢
      refine ⟨?_, h2, fun y hy => ?_⟩
      · rcases h1 with h1 | h1
        · exact .inl h1
        · exact .inr (by simp [h1])
      · rcases List.mem_cons.mp hy with rfl | hy
        · omega
        · exact h3 y hy
theorem minI_ok : ∀ (ns : List Int) (m : Int), (minI m ns = m ∨ minI m ns ∈ ns) ∧ minI m ns ≤ m ∧ ∀ y ∈ ns, minI m ns ≤ y
  | [], m => by simp [minI]
  | n :: ns, m => by
    obtain ⟨h1, h2, h3⟩ := minI_ok ns (if n < m then n else m)
    unfold minI
    split at h2
    · rename_i hc
      rw [if_pos hc] at h1 h3 ⊢
      refine ⟨.inr ?_, by omega, fun y hy => ?_⟩
      · rcases h1 with h1 | h1
        · rw [h1]; simp
        · simp [h1]
      · rcases List.mem_cons.mp hy with rfl | hy
        · exact h2
        · exact h3 y hy
    · rename_i hc
      rw [if_neg hc] at h1 h3 ⊢
      refine ⟨?_, h2, fun y hy => ?_⟩
      · rcases h1 with h1 | h1
        · exact .inl h1
        · exact .inr (by simp [h1])
      · rcases List.mem_cons.mp hy with rfl | hy
        · omega
        · exact h3 y hy
def maxD : List Da → Option EV
  | [.list xs] => (ints? xs).bind fun ns => match ns with
    | [] => none
    | n :: ns => some (.d (.int (maxI n ns)))
  | [.int i, .int j] => some (.d (.int (if j > i then j else i)))
  | _ => none
def minD : List Da → Option EV
  | [.list xs] => (ints? xs).bind fun ns => match ns with
    | [] => none
    | n :: ns => some (.d (.int (minI n ns)))
  | [.int i, .int j] => some (.d (.int (if j < i then j else i)))
  | _ => none
theorem c_max (hc : X.calm = true) : CallV X (.builtin "max") maxD := by
  refine ⟨_, CallR.or (cr_max hc) (call_max2 hc), fun O H xs vs z Q hd R e q => ?_⟩
  match xs, e, R with
  | [.list xs], e, R =>
    obtain ⟨ns, e1, e2⟩ := Option.bind_eq_some_iff.mp (show (ints? xs).bind _ = some z from e)
    obtain ⟨v, rfl, r⟩ := R.one; obtain ⟨a, rfl, h⟩ := r.listI e1
    cases ns with
    | nil => cases e2
    | cons n ns =>
      cases e2
      refine .inl ⟨a, n :: ns, rfl, h, by simp, fun m hm hy => ?_⟩
      obtain ⟨k1, k2, k3⟩ := maxI_ok ns n
      have e : m = maxI n ns := by
        have a1 : maxI n ns ≤ m := by
          rcases k1 with k1 | k1
          · rw [k1]; exact hy n (by simp)
          · exact hy _ (by simp [k1])
        have a2 : m ≤ maxI n ns := by
          rcases List.mem_cons.mp hm with rfl | hm
          · exact k2
          · exact k3 m hm
        omega
      subst e
      exact q _ H (Same.refl H) (by show Rp _ _ _ _ _; simp only [Rp])
  | [.int i, .int j], e, R =>
    cases e
    obtain ⟨v, w, rfl, r, r'⟩ := R.two
    obtain rfl := r.int; obtain rfl := r'.int
    exact .inr ⟨i, j, rfl, q _ H (Same.refl H) (by show Rp _ _ _ _ _; simp only [Rp])⟩
theorem c_min (hc : X.calm = true) : CallV X (.builtin "min") minD := by
  refine ⟨_, CallR.or (cr_min hc) (call_min2 hc), fun O H xs vs z Q hd R e q => ?_⟩
  match xs, e, R with
  | [.list xs], e, R =>
    obtain ⟨ns, e1, e2⟩ := Option.bind_eq_some_iff.mp (show (ints? xs).bind _ = some z from e)
    obtain ⟨v, rfl, r⟩ := R.one; obtain ⟨a, rfl, h⟩ := r.listI e1
    cases ns with
    | nil => cases e2
    | cons n ns =>
      cases e2
      refine .inl ⟨a, n :: ns, rfl, h, by simp, fun m hm hy => ?_⟩
      obtain ⟨k1, k2, k3⟩ := minI_ok ns n
      have e : m = minI n ns := by
        have a1 : m ≤ minI n ns := by
          rcases k1 with k1 | k1
          · rw [k1]; exact hy n (by simp)
          · exact hy _ (by simp [k1])
        have a2 : minI n ns ≤ m := by
          rcases List.mem_cons.mp hm with rfl | hm
          · exact k2
          · exact k3 m hm
        omega
      subst e
      exact q _ H (Same.refl H) (by show Rp _ _ _ _ _; simp only [Rp])
  | [.int i, .int j], e, R =>
    cases e
    obtain ⟨v, w, rfl, r, r'⟩ := R.two
    obtain rfl := r.int; obtain rfl := r'.int
    exact .inr ⟨i, j, rfl, q _ H (Same.refl H) (by show Rp _ _ _ _ _; simp only [Rp])⟩
/-! sorted, ints -/
def insI (n : Int) : List Int → List Int
  | [] => [n]
  | m :: ms => if n ≤ m then n :: m :: ms else m :: insI n ms
def sortI : List Int → List Int
  | [] => []
  | n :: ns => insI n (sortI ns)
theorem insI_perm (n : Int) : ∀ ms : List Int, (insI n ms).Perm (n :: ms)
  | [] => .refl _
  | m :: ms => by
    unfold insI
    split
    · exact .refl _
    · exact ((insI_perm n ms).cons m).trans (.swap n m ms)
theorem insI_sorted (n : Int) : ∀ ms : List Int, ms.Pairwise (· ≤ ·) → (insI n ms).Pairwise (· ≤ ·)
  | [], _ => by simp [insI]
  | m :: ms, h => by
    have h1 := List.pairwise_cons.mp h
    unfold insI
    split
    · rename_i hc
      refine List.pairwise_cons.mpr ⟨fun y hy => ?_, h⟩
      rcases List.mem_cons.mp hy with rfl | hy
      · exact hc
      · have := h1.1 y hy; omega
    · rename_i hc
      refine List.pairwise_cons.mpr ⟨fun y hy => ?_, insI_sorted n ms h1.2⟩
      rcases List.mem_cons.mp ((insI_perm n ms).mem_iff.mp hy) with rfl | hy
      · omega
      · exact h1.1 y hy
theorem sortI_perm : ∀ ns : List Int, (sortI ns).Perm ns
  | [] => .refl _
  | n :: ns => (insI_perm n _).trans ((sortI_perm ns).cons n)
theorem sortI_sorted : ∀ ns : List Int, (sortI ns).Pairwise (· ≤ ·)
  | [] => by simp [sortI]
  | n :: ns => insI_sorted n _ (sortI_sorted ns)
theorem sorted_uniq : ∀ {xs ys : List Int}, xs.Perm ys → xs.Pairwise (· ≤ ·) → ys.Pairwise (· ≤ ·) → xs = ys := by
  intro xs
  induction xs with
  | nil => intro ys h _ _; exact (List.Perm.nil_eq h)
  | cons x xs ih =>
    intro ys h hx hy
    cases ys with
    | nil => exact absurd h.length_eq (by simp)
    | cons y ys =>
      have h1 := List.pairwise_cons.mp hx
      have h2 := List.pairwise_cons.mp hy
      have e : x = y := by
        have a1 : x ∈ y :: ys := h.mem_iff.mp (by simp)
        have a2 : y ∈ x :: xs := h.mem_iff.mpr (by simp)
        rcases List.mem_cons.mp a1 with a1 | a1
        · exact a1
        · rcases List.mem_cons.mp a2 with a2 | a2
          · exact a2.symm
          · have b1 := h2.1 x a1
            have b2 := h1.1 y a2
            omega
      subst e
      rw [ih (List.Perm.cons_inv h) h1.2 h2.2]
def sortedD : List Da → Option EV
  | [.list xs] => (ints? xs).map fun ns => .own (.l ((sortI ns).map PyData.int))
  | _ => none
theorem c_sorted : CallV X (.builtin "sorted") sortedD := by
  refine ⟨_, cr_sortedI, fun O H xs vs z Q hd R e q => ?_⟩
  match xs, e, R with
  | [.list xs], e, R =>
    obtain ⟨ns, e1, rfl⟩ := Option.map_eq_some_iff.mp (show (ints? xs).map _ = some z from e)
    obtain ⟨v, rfl, r⟩ := R.one; obtain ⟨a, rfl, h⟩ := r.listI e1
    refine ⟨a, ns, rfl, h, fun ns' p hp hs hn => ?_⟩
    rw [sorted_uniq (hp.trans (sortI_perm ns).symm) hs (sortI_sorted ns)]
    exact q _ _ (Same.upd hn) (NR.lst (RpL.ofInts _) hn)
/-! ### isinstance -/
inductive KT where
  | int | bool | str | list | tuple | dict
def KT.nm : KT → String
  | .int => "int"
  | .bool => "bool"
  | .str => "str"
  | .list => "list"
  | .tuple => "tuple"
  | .dict => "dict"
def tyD : Da → String
  | .none => "NoneType"
  | .bool _ => "bool"
  | .int _ => "int"
  | .str _ => "str"
  | .list _ => "list"
  | .tuple _ => "tuple"
  | .dict _ => "dict"
def isKT : KT → Da → Bool
  | .int, .int _ => true
  | .int, .bool _ => true
  | .bool, .bool _ => true
  | .str, .str _ => true
  | .list, .list _ => true
  | .tuple, .tuple _ => true
  | .dict, .dict _ => true
  | _, _ => false
def kitTab : Bool := ([KT.int, .bool, .str, .list, .tuple, .dict].all fun k => [PyData.none, .bool true, .int 0, .str ⟨#[]⟩, .list [], .tuple [], .dict []].all fun x => kitB (tyD x) k.nm == some (isKT k x))
theorem kitTab_ok : kitTab = true := by decide +kernel
theorem kit_tab (k : KT) (x : Da) (h : x ∈ [PyData.none, .bool true, .int 0, .str ⟨#[]⟩, .list [], .tuple [], .dict []]) : kitB (tyD x) k.nm = some (isKT k x) := by
  have h1 := List.all_eq_true.mp kitTab_ok k (by cases k <;> simp)
  have h2 := List.all_eq_true.mp h1 x h
  exact eq_of_beq h2
theorem kit_ok (k : KT) (x : Da) : kitB (tyD x) k.nm = some (isKT k x) := by
  cases x with
  | none => exact kit_tab k .none (by simp)
  | bool b => have := kit_tab k (.bool true) (by simp); cases k <;> exact this
  | int b => have := kit_tab k (.int 0) (by simp); cases k <;> exact this
  | str b => have := kit_tab k (.str ⟨#[]⟩) (by simp); cases k <;> exact this
  | list b => have := kit_tab k (.list []) (by simp); cases k <;> exact this
  | tuple b => have := kit_tab k (.tuple []) (by simp); cases k <;> exact this
  | dict b => have := kit_tab k (.dict []) (by simp); cases k <;> exact this
theorem tyX_of {K : PySem.W.Frag} {O : AS} {H : Hp} {x : Da} {v : V} (r : Ro K O H x v) : TyX K H v (.type (tyD x)) := by
  cases x with
  | none => obtain rfl := r.none; exact .base .non
  | bool b => obtain rfl := r.bool; exact .base (.bl b)
  | int b => obtain rfl := r.int; exact .base (.int b)
  | str b => obtain rfl := r.str; exact .base (.str b)
  | list xs => obtain ⟨a, vs, rfl, h, _⟩ := r.list; exact .base (.lst h)
  | tuple xs =>
    have r := r.tup
    simp only [Rp] at r
    obtain ⟨a, vs, rfl, h, _⟩ := r
    rcases h with ⟨h, _⟩ | ⟨o, its, n, h, hc, _⟩
    · exact .base (.tup h)
    · exact .kTuple h hc
  | dict xs => obtain ⟨a, vs, rfl, h, _⟩ := r.dict; exact .base (.dK h)
def vIsi (ks : List KT) (fe : VM EV) : VM EV := vb fe fun r => vb (vRd r) fun x => vC (.bool (ks.any fun k => isKT k x))
/-- built-in types by their names -/
inductive TyNs (X : Cx) : List Expr → List KT → Prop
  | nil : TyNs X [] []
  | cons {x : Str} {p : Pos} {k : KT} {es : List Expr} {ks : List KT} (hm : X.mg x = none) (hg : Gl X x) (hv : bootBuiltins x = some (.type k.nm)) (hn : x ≠ "__name__") (hd : (x == ("__debug__" : Str)) = false)
      (hs : starEach (.Name x p :: es) X.env = (false, eval (.Name x p) X.env) :: starEach es X.env) (h : TyNs X es ks) : TyNs X (.Name x p :: es) (k :: ks)
def tTys (ks : List KT) : TA := fun σ H Q => Q (ks.map fun k => V.ty k.nm) H
theorem TyNs.pa {es : List Expr} {ks : List KT} (h : TyNs X es ks) : PA X es (tTys ks) := by
  induction h with
  | nil => exact PA.wk pa_nil fun σ H Q h => h
  | cons hm hg hv hn hd hs h ih => exact PA.wk (pa_cons (pe_bltn (v := V.ty _) hg hm hv rfl hn hd) ih hs) fun σ H Q h => h
theorem ve_isi1 {x : Str} {p2 p3 : Pos} {k : KT} (he : VE X W e fe) (hm : X.mg "isinstance" = none) (hmx : X.mg x = none) (hgx : Gl X x := by rfl) (hg : Gl X "isinstance" := by rfl) (hv : bootBuiltins x = some (.type k.nm) := by decide +kernel) (hn : x ≠ "__name__" := by decide) (hd : (x == ("__debug__" : Str)) = false := by decide)
    (hs : starEach [e, .Name x p2] X.env = (false, eval e X.env) :: starEach [.Name x p2] X.env := by rfl) (hs2 : starEach [.Name x p2] X.env = (false, eval (.Name x p2) X.env) :: starEach [] X.env := by rfl) (hpl : (backTo pos (starEach [.Name x p2] X.env)).any (·.1) = false := by rfl) :
    VE X W (.Call (.Name "isinstance" p3) [e, .Name x p2] [] pos) (vIsi [k] fe) := by
  refine PE.wk (pe_callB call_isi hg hm (by decide +kernel) (pa_cons he (TyNs.cons hmx hgx hv hn hd hs2 .nil).pa hs) (by decide) (by decide) hs hpl) fun σ H Q h => ?_
  obtain ⟨O, st, F, h⟩ := h
  refine tV.bind F h fun r s1 v H1 S1 E1 h => ?_
  obtain ⟨x, Rx, h⟩ := h.rd S1.fr E1
  refine ⟨v, .ty k.nm, _, _, isKT k x, rfl, .ty _, tyX_of Rx, kit_ty (kit_ok k x), ?_⟩
  have e : ([k].any fun k => isKT k x) = isKT k x := by simp
  rw [e] at h
  exact h _ H1 S1 (by show Rp _ _ _ _ _; simp only [Rp])
theorem kitAny_ok {K : PySem.W.Frag} (x : Da) : ∀ ks : List KT, PySem.W.kitAny K (.type (tyD x)) (ks.map fun k => Value.type k.nm) = some (ks.any fun k => isKT k x)
  | [] => rfl
  | k :: ks => by
    refine kitAny_cons (b := isKT k x) (kit_ty (kit_ok k x)) (fun h => ?_) (fun h => ?_)
    · rw [kitAny_ok x ks, List.any_cons, h, Bool.false_or]
    · rw [List.any_cons, h, Bool.true_or]
theorem paired_ty : ∀ ks : List KT, Paired ClsV (ks.map fun k => V.ty k.nm) (ks.map fun k => Value.type k.nm)
  | [] => .nil
  | k :: ks => .cons (.ty _) (paired_ty ks)
theorem ve_isiT {p2 p3 : Pos} {kk : Nat} {ks : List KT} (he : VE X W e fe) (hm : X.mg "isinstance" = none) (ht : TyNs X es ks) (hl : ks.length ≤ 16777216 := by decide) (hg : Gl X "isinstance" := by rfl)
    (hs : starEach [e, .Tuple es kk p2] X.env = (false, eval e X.env) :: starEach [.Tuple es kk p2] X.env := by rfl) (hs2 : starEach [.Tuple es kk p2] X.env = (false, eval (.Tuple es kk p2) X.env) :: starEach [] X.env := by rfl) (hpl : (backTo pos (starEach [.Tuple es kk p2] X.env)).any (·.1) = false := by rfl) :
    VE X W (.Call (.Name "isinstance" p3) [e, .Tuple es kk p2] [] pos) (vIsi ks fe) := by
  refine PE.wk (pe_callB call_isiT hg hm (by decide +kernel) (pa_cons he (pa_cons (pe_tup ht.pa) pa_nil hs2) hs) (by decide) (by decide) hs hpl) fun σ H Q h => ?_
  obtain ⟨O, st, F, h⟩ := h
  refine tV.bind F h fun r s1 v H1 S1 E1 h => ?_
  obtain ⟨x, Rx, h⟩ := h.rd S1.fr E1
  refine ⟨by rw [List.length_map, sizeLine_eq]; exact hl, fun p hp => ?_⟩
  have k := Same.upd (o := .tup (ks.map fun k => V.ty k.nm)) hp
  have S2 := S1.trans (Step.ext S1.fr k)
  have Rx2 : Ro X.K (Av O s1 σ) (upd H1 p (.tup (ks.map fun k => V.ty k.nm))) x v := by
    rcases Rx with Rx | ⟨q, c, e1, e2, C⟩
    · exact .inl (Rp.mono (fun _ h => .inl h) (fun a o e _ => k a o e) _ _ Rx)
    · refine .inr ⟨q, c, e1, e2, C.mono (fun _ h => .inl h) (fun a o e _ => k a o e) ?_⟩
      cases e : H1 q with
      | none => exact absurd e C.there
      | some o => exact k _ _ e
  exact ⟨v, p, _, _, _, _, rfl, upd_same, paired_ty ks, tyX_of Rx2, kitAny_ok x ks, h _ _ S2 (by show Rp _ _ _ _ _; simp only [Rp])⟩
end
end VL
set_option Elab.async false
set_option linter.all false
set_option maxRecDepth 100000
namespace VL
open PySem PySem.Spec PyProof.Rows L2
/-! ### list(zip(xs, ys)) -/
theorem zip_no_len : typeLookup (.type "zip") "__len__" = pure none := by rw [typeLookup_type, builtinLookup_eq_fast]; kernel_rfl
theorem zip_no_hint : typeLookup (.type "zip") "__length_hint__" = pure none := by rw [typeLookup_type, builtinLookup_eq_fast]; kernel_rfl
section
variable {prog : Program} {w : World} {A : Around} {E : Value → Shared → Prop} {s : Shared} {z TI TO i1 i2 T : Addr} {fp1 fp2 : List Addr} {n1 n2 i : Nat} {P1 P2 : Nat → Value → Prop} {St1 St2 : Nat → Heap → Prop} {a1 a2 : Value} {f : Bool} {oT : Obj}
theorem zipD2_item_held {Q : Value → Shared → Prop} (S : ZipSep2 z TI TO i1 i2 fp1 fp2) (D1 : Draws prog w A i1 fp1 n1 P1 St1) (D2 : Draws prog w A i2 fp2 n2 P2 St2)
    (hz : IsZipHeld s.heap z TI TO T f) (hT : s.heap.get? T = some oT) (hTI : IsTupOf2 s.heap TI (.ref i1) (.ref i2)) (st1 : St1 i s.heap) (st2 : St2 i s.heap) (hlt1 : i < n1) (hlt2 : i < n2)
    (hQ : ∀ x1 x2 h' tk, P1 i x1 → P2 i x2 → IsZipHeld h' z TI TO T true → St1 (i + 1) h' → St2 (i + 1) h' → IsTupOf2 h' s.heap.objs.size x1 x2 → h'.objs.size = s.heap.objs.size + 1 →
      (∀ c o, c ≠ z → c ≠ i1 → c ≠ i2 → s.heap.get? c = some o → h'.get? c = some o) → Q (.ref s.heap.objs.size) { s with heap := h', toks := tk }) :
    wpAny (model prog w) A (Builtin.«zip.__next__» ⟨[.ref z], []⟩) (fun fin s' => ∃ v, fin = .done (.ret v) ∧ Q v s') E s := by
  obtain ⟨hp, g, d, tk0, os⟩ := s
  show wpAny _ _ (field (.ref z) 2 >>= _) _ _ _
  refine wpAny_bind (wpAny_field hz rfl (x := .bool false) rfl ?_)
  show wpAny _ _ (field (.ref z) 3 >>= _) _ _ _
  refine wpAny_bind (wpAny_field hz rfl (x := .ref TI) rfl ?_)
  refine wpAny_bind (wpAny_seqItems hTI rfl ?_)
  show wpAny _ _ (Builtin.SmallTypes.ownedTupleIsFree (.ref z) >>= _) _ _ _
  refine wpAny_bind (wpAny_tupleHeld_zip hz hT fun h₁ hz₁ hs₁ => ?_)
  replace hs₁ : Heap.SameBut z hp h₁ := hs₁
  simp only [Bool.false_eq_true, if_false]
  refine wpAny_bind ?_
  rw [← Array.forIn_toList]
  simp only [List.forIn_cons, List.forIn_nil]
  refine wpAny_bind (wpAny_bind (wpAny_holding ?_))
  show wpAny _ _ (Builtin.SmallTypes.nextOf (.ref i1) >>= _) _ _ ⟨h₁, g, d, tk0, os⟩
  refine wpAny_bind (D1.item i _ _ _ hlt1 (D1.over st1 hs₁ S.zf1) fun x1 p1 tk1 hx1 sn1 hp1 => wpAny_pure ?_)
  replace hp1 : Heap.SameBut i1 h₁ p1 := hp1
  refine wpAny_pure ?_
  refine wpAny_bind (wpAny_bind (wpAny_holding ?_))
  show wpAny _ _ (Builtin.SmallTypes.nextOf (.ref i2) >>= _) _ _ ⟨p1, g, d, tk1, os⟩
  refine wpAny_bind (D2.item i _ _ _ hlt2 (D2.over (D2.over st2 hs₁ S.zf2) hp1 S.sep1_2) fun x2 p2 tk2 hx2 sn2 hp2 => wpAny_pure ?_)
  replace hp2 : Heap.SameBut i2 p1 p2 := hp2
  refine wpAny_pure (wpAny_pure ?_)
  show wpAny _ _ (newTuple [x1, x2] >>= _) _ _ ⟨p2, g, d, tk2, os⟩
  refine wpAny_bind (wpAny_newTuple ?_)
  have hsz : p2.objs.size = hp.objs.size := by rw [hp2.1, hp1.1, hs₁.1]
  have hzz : IsZipHeld p2 z TI TO T true := hp2.extBut _ _ S.zi2 (hp1.extBut _ _ S.zi1 hz₁)
  have hkk : ∀ c o, c ≠ z → c ≠ i1 → c ≠ i2 → hp.get? c = some o → p2.get? c = some o := fun c o cz c1 c2 e => hp2.extBut _ _ c2 (hp1.extBut _ _ c1 (hs₁.extBut _ _ cz e))
  have hj1 : St1 (i + 1) p2 := D1.over sn1 hp2 S.sep2_1
  refine wpAny_pure ⟨_, rfl, ?_⟩
  show Q (.ref p2.objs.size) _
  have hpn : IsTupOf2 (p2.push { cls := .type "tuple", data := .seq #[x1, x2] }) p2.objs.size x1 x2 := Heap.get?_push_size _ rfl
  have hz4 : (p2.push { cls := .type "tuple", data := .seq #[x1, x2] }).objs.size = p2.objs.size + 1 := Heap.size_push ..
  rw [hsz] at hpn hz4 ⊢
  exact hQ x1 x2 _ tk2 hx1 hx2 (Heap.get?_push_of_some _ hzz) (D1.frame _ _ _ hj1 fun b _ o e => Heap.get?_push_of_some _ e) (D2.frame _ _ _ sn2 fun b _ o e => Heap.get?_push_of_some _ e) hpn hz4
    fun c o cz c1 c2 e => Heap.get?_push_of_some _ (hkk c o cz c1 c2 e)
theorem zipD2_end_held {Q : Fin → Shared → Prop} (S : ZipSep2 z TI TO i1 i2 fp1 fp2) (D1 : Draws prog w A i1 fp1 n1 P1 St1) (D2 : Draws prog w A i2 fp2 n2 P2 St2)
    (hz : IsZipHeld s.heap z TI TO T f) (hT : s.heap.get? T = some oT) (hTI : IsTupOf2 s.heap TI (.ref i1) (.ref i2)) (st1 : St1 i s.heap) (st2 : St2 i s.heap) (hle1 : i ≤ n1) (hle2 : i ≤ n2) (hend : i = n1 ∨ i = n2)
    (hE : ∀ h' tk e, (∀ c o, c ≠ z → c ≠ i1 → c ≠ i2 → s.heap.get? c = some o → h'.get? c = some o) → (∃ o, h'.get? e = some o ∧ o.cls = .type "StopIteration") → E (.ref e) { s with heap := h', toks := tk }) :
    wpAny (model prog w) A (Builtin.«zip.__next__» ⟨[.ref z], []⟩) Q E s := by
  obtain ⟨hp, g, d, tk0, os⟩ := s
  show wpAny _ _ (field (.ref z) 2 >>= _) _ _ _
  refine wpAny_bind (wpAny_field hz rfl (x := .bool false) rfl ?_)
  show wpAny _ _ (field (.ref z) 3 >>= _) _ _ _
  refine wpAny_bind (wpAny_field hz rfl (x := .ref TI) rfl ?_)
  refine wpAny_bind (wpAny_seqItems hTI rfl ?_)
  show wpAny _ _ (Builtin.SmallTypes.ownedTupleIsFree (.ref z) >>= _) _ _ _
  refine wpAny_bind (wpAny_tupleHeld_zip hz hT fun h₁ hz₁ hs₁ => ?_)
  replace hs₁ : Heap.SameBut z hp h₁ := hs₁
  simp only [Bool.false_eq_true, if_false]
  refine wpAny_bind ?_
  rw [← Array.forIn_toList]
  simp only [List.forIn_cons, List.forIn_nil]
  refine wpAny_bind (wpAny_bind (wpAny_holding ?_))
  show wpAny _ _ (Builtin.SmallTypes.nextOf (.ref i1) >>= _) _ _ ⟨h₁, g, d, tk0, os⟩
  by_cases hlt1 : i < n1
  · refine wpAny_bind (D1.item i _ _ _ hlt1 (D1.over st1 hs₁ S.zf1) fun x1 p1 tk1 hx1 sn1 hp1 => wpAny_pure ?_)
    replace hp1 : Heap.SameBut i1 h₁ p1 := hp1
    have hi2 : i = n2 := by omega
    refine wpAny_pure ?_
    refine wpAny_bind (wpAny_bind (wpAny_holding ?_))
    show wpAny _ _ (Builtin.SmallTypes.nextOf (.ref i2) >>= _) _ _ ⟨p1, g, d, tk1, os⟩
    refine wpAny_bind (D2.done ⟨p1, g, d, tk1, os⟩ _ _ (by rw [← hi2]; exact D2.over (D2.over st2 hs₁ S.zf2) hp1 S.sep1_2) fun q e hq he => ?_)
    replace hq : Heap.ExtBut i2 p1 q := hq
    exact hE q tk1 e (fun c o cz c1 c2 x => hq _ _ c2 (hp1.extBut _ _ c1 (hs₁.extBut _ _ cz x))) he
  · have hi1 : i = n1 := by omega
    refine wpAny_bind (D1.done ⟨h₁, g, d, tk0, os⟩ _ _ (by rw [← hi1]; exact D1.over st1 hs₁ S.zf1) fun q e hq he => ?_)
    replace hq : Heap.ExtBut i1 h₁ q := hq
    exact hE q tk0 e (fun c o cz c1 c2 x => hq _ _ c1 (hs₁.extBut _ _ cz x)) he
theorem next_zip_held {Q : Option Value → Shared → Prop} (S : ZipSep2 z TI TO i1 i2 fp1 fp2) (D1 : Draws prog w A.in1 i1 fp1 n1 P1 St1) (D2 : Draws prog w A.in1 i2 fp2 n2 P2 St2)
    (hz : IsZipHeld s.heap z TI TO T f) (hT : s.heap.get? T = some oT) (hTI : IsTupOf2 s.heap TI (.ref i1) (.ref i2)) (st1 : St1 i s.heap) (st2 : St2 i s.heap) (hlt1 : i < n1) (hlt2 : i < n2)
    (hQ : ∀ x1 x2 h' tk, P1 i x1 → P2 i x2 → IsZipHeld h' z TI TO T true → St1 (i + 1) h' → St2 (i + 1) h' → IsTupOf2 h' s.heap.objs.size x1 x2 → h'.objs.size = s.heap.objs.size + 1 →
      (∀ c o, c ≠ z → c ≠ i1 → c ≠ i2 → s.heap.get? c = some o → h'.get? c = some o) → Q (some (.ref s.heap.objs.size)) { s with heap := h', toks := tk }) :
    wpAny (model prog w) A (pyNext (.ref z)) Q E s := by
  have hTy : s.TypeIs (.ref z) "zip" := ⟨_, hz, rfl⟩
  unfold pyNext
  exact wpAny_bind (wpAny_attempt (wpAny_callSpecial?_slot (name := Str.ofString "__next__") hTy F.slot_zip_next
    (wpAny_call_entry F.slot_zip_next hTy F.entry_zip_next
      (zipD2_item_held S D1 D2 hz hT hTI st1 st2 hlt1 hlt2 fun x1 x2 h' tk y1 y2 b1 d1 d2 b5 b6 b7 => wpAny_pure (hQ x1 x2 h' tk y1 y2 b1 d1 d2 b5 b6 b7)) (F.args_zip_next_1 _))))
theorem next_zip_end_held {Q : Option Value → Shared → Prop} (S : ZipSep2 z TI TO i1 i2 fp1 fp2) (D1 : Draws prog w A.in1 i1 fp1 n1 P1 St1) (D2 : Draws prog w A.in1 i2 fp2 n2 P2 St2)
    (hz : IsZipHeld s.heap z TI TO T f) (hT : s.heap.get? T = some oT) (hTI : IsTupOf2 s.heap TI (.ref i1) (.ref i2)) (st1 : St1 i s.heap) (st2 : St2 i s.heap) (hle1 : i ≤ n1) (hle2 : i ≤ n2) (hend : i = n1 ∨ i = n2)
    (hQ : ∀ h' tk, (∀ c o, c ≠ z → c ≠ i1 → c ≠ i2 → s.heap.get? c = some o → h'.get? c = some o) → Q none { s with heap := h', toks := tk }) : wpAny (model prog w) A (pyNext (.ref z)) Q E s := by
  have hTy : s.TypeIs (.ref z) "zip" := ⟨_, hz, rfl⟩
  unfold pyNext
  refine wpAny_bind (wpAny_attempt (wpAny_callSpecial?_slot (name := Str.ofString "__next__") hTy F.slot_zip_next
    (wpAny_call_entry F.slot_zip_next hTy F.entry_zip_next (zipD2_end_held S D1 D2 hz hT hTI st1 st2 hle1 hle2 hend fun h' tk e hk he => ?_) (F.args_zip_next_1 _))))
  obtain ⟨o, ho, hc⟩ := he
  refine wpAny_bind (wpAny_isInstance (T := "StopIteration") (b := true) ⟨o, ho, hc⟩ isSubtype_stop ?_)
  exact wpAny_pure (hQ _ _ hk)
end
/-- the first i of them -/
def PrI (H00 H : Hp) (xs ys vs : List V) : Prop := ∀ (j : Nat) (v : V), vs[j]? = some v → ∃ (x y : V) (T : Addr), xs[j]? = some x ∧ ys[j]? = some y ∧ v = .ref T ∧ H T = some (.tup [x, y]) ∧ H00 T = none
section
variable {X : Cx} {pins : List (Addr × Obj)} {σ : L2.St}
/-- where the zip stands: fresh, or with the pair that it gave last -/
def ZpAt (h : Heap) (z TI TO : Addr) : Prop := (IsZip h z TI TO .none ∧ ∃ x y, IsTupOf2 h TO x y) ∨ ∃ T f oT, IsZipHeld h z TI TO T f ∧ h.get? T = some oT ∧ T ≠ z
theorem lz_loop {A : Around} (hA : A.handled = none) {k k2 : Bool} {a b z TI TO i1 i2 S : Addr} {xs ys : List V} {n : Nat} (hn : n = min xs.length ys.length) (hnl : n ≤ sizeLine) (D : ZipSep2 z TI TO i1 i2 [i1, a] [i2, b]) (ha : a ≠ i1) (hb : b ≠ i2) (hSc : S ∉ [z, TI, TO, i1, i2])
    {H00 : Hp} (hSa : S ≠ a) (hSb : S ≠ b) {R : Result → Shared → Prop} (res : Value) :
    ∀ (m i : Nat) (s : Shared) (H : Hp) (vs : List V) (us : List Value) (c : Nat), n - i = m → i ≤ n → Inv X pins σ H s → (∀ c ∈ [z, TI, TO, i1, i2], FpOk X pins H c ∧ c < s.heap.objs.size) → S < s.heap.objs.size →
      ZpAt s.heap z TI TO → IsTupOf2 s.heap TI (.ref i1) (.ref i2) → ItAt k s.heap i1 a i → ItAt k2 s.heap i2 b i → Sq k X.K H a xs → Sq k2 X.K H b ys →
      H S = some (.lst vs) → Vals vs us → s.heap.get? S = some { cls := .type "list", data := .seq us.toArray c } → vs.length = i → (∀ q, H q = none → H00 q = none) → PrI H00 H xs ys vs →
      (∀ s' H' vs', Inv X pins σ H' s' → vs'.length = n → H' S = some (.lst vs') → (∀ q o, H q = some o → q ≠ S → H' q = some o) → (∀ q, H' q = none → H q = none) → PrI H00 H' xs ys vs' → R (.ok (.ret res)) s') →
      codeAny (model X.prog X.w) A (.builtin "list.extend.loop" ⟨[.ref S, .ref z, res], []⟩) R s := by
  intro m
  induction m with
  | zero =>
    intro i s H vs us c hm hi I hf hSl hz hTI h1 h2 qa qb hS rv hSg hl hd hp hR
    have hin : i = n := by omega
    subst hin
    obtain ⟨its, rva, p, _⟩ := Inv.sq I qa
    obtain ⟨its2, rvb, p2, _⟩ := Inv.sq I qb
    have l1 := rva.length
    have l2 := rvb.length
    refine codeAny_builtin F.entry_extend_loop ?_
    rw [Around.under_plainId F.plain_extend_loop _]
    show wpAny _ A.in1 (pyNext (.ref z) >>= _) _ _ s
    refine wpAny_bind ?_
    have fin : ∀ h' tk, (∀ c o, c ≠ z → c ≠ TO → c ≠ i1 → c ≠ i2 → s.heap.get? c = some o → h'.get? c = some o) → Inv X pins σ H { s with heap := h', toks := tk } := fun h' tk hk =>
      I.turnedL (t' := tk) (ch := [z, TI, TO, i1, i2]) (fun c o hb q => hk c o (fun q' => hb (by simp [q'])) (fun q' => hb (by simp [q'])) (fun q' => hb (by simp [q'])) (fun q' => hb (by simp [q'])) q) fun c hc => (hf c hc).1
    rcases hz with ⟨hz, x, y, hTO⟩ | ⟨T, f, oT, hz, hT, _⟩
    · exact wpAny_pyNext_zipD2_end D (sq_draws (A := A.in1.in1) hA k i1 a ha its.toArray) (sq_draws (A := A.in1.in1) hA k2 i2 b hb its2.toArray) hz hTI hTO ⟨h1, p⟩ ⟨h2, p2⟩ (by simp; omega) (by simp; omega) (by simp; omega)
        fun h' tk hk => wpAny_pure (hR _ H vs (fin h' tk hk) hl hS (fun q o e _ => e) (fun q e => e) hp)
    · exact next_zip_end_held D (sq_draws (A := A.in1.in1) hA k i1 a ha its.toArray) (sq_draws (A := A.in1.in1) hA k2 i2 b hb its2.toArray) hz hT hTI ⟨h1, p⟩ ⟨h2, p2⟩ (by simp; omega) (by simp; omega) (by simp; omega)
        fun h' tk hk => wpAny_pure (hR _ H vs (fin h' tk fun c o c1 _ c3 c4 => hk c o c1 c3 c4) hl hS (fun q o e _ => e) (fun q e => e) hp)
  | succ m ih =>
    intro i s H vs us c hm hi I hf hSl hz hTI h1 h2 qa qb hS rv hSg hl hd hp hR
    have hlt : i < n := by omega
    obtain ⟨its, rva, p, _⟩ := Inv.sq I qa
    obtain ⟨its2, rvb, p2, _⟩ := Inv.sq I qb
    have l1 := rva.length
    have l2 := rvb.length
    obtain ⟨x, hx⟩ : ∃ x, xs[i]? = some x := ⟨_, List.getElem?_eq_getElem (by omega)⟩
    obtain ⟨y, hy⟩ : ∃ y, ys[i]? = some y := ⟨_, List.getElem?_eq_getElem (by omega)⟩
    obtain ⟨u, hu, ru⟩ := rva.get hx
    obtain ⟨u2, hu2, ru2⟩ := rvb.get hy
    have hzl : z < s.heap.objs.size := (hf z (by simp)).2
    refine codeAny_builtin F.entry_extend_loop ?_
    rw [Around.under_plainId F.plain_extend_loop _]
    show wpAny _ A.in1 (pyNext (.ref z) >>= _) _ _ s
    -- one turn
    have next : ∀ w1 w2 h' tk, its.toArray[i]? = some w1 → its2.toArray[i]? = some w2 → (∃ f T, IsZipHeld h' z TI TO T f ∧ T ≠ z ∧ ∃ oT, h'.get? T = some oT) → ItAt k h' i1 a (i + 1) → ItAt k2 h' i2 b (i + 1) → IsTupOf2 h' s.heap.objs.size w1 w2 → h'.objs.size = s.heap.objs.size + 1 →
        (∀ c o, c ≠ z → c ≠ TO → c ≠ i1 → c ≠ i2 → s.heap.get? c = some o → h'.get? c = some o) →
        wpAny (model X.prog X.w) A.in1 (updateSeq S (·.push (.ref s.heap.objs.size)) >>= fun _ => again (.builtin "list.extend.loop" ⟨[.ref S, .ref z, res], []⟩)) (fun fin s' => match fin with | .done f => R (.ok f) s' | .again c' => c'.quiet = true ∧ codeAny (model X.prog X.w) A c' R s') (fun e s' => R (.error e) s') { s with heap := h', toks := tk } := by
      intro w1 w2 h' tk e1 e2 hzh s1' s2' hT hsz hk
      have e1 : w1 = u := by
        have : its.toArray[i]? = some u := by simpa using hu
        rw [this] at e1; exact (Option.some.inj e1).symm
      have e2 : w2 = u2 := by
        have : its2.toArray[i]? = some u2 := by simpa using hu2
        rw [this] at e2; exact (Option.some.inj e2).symm
      subst e1 e2
      have new : ObjOk X.prog X.w (upd H s.heap.objs.size (.tup [x, y])) h' s.heap.objs.size (.tup [x, y]) :=
        ⟨by show 2 ≤ sizeLine; decide, [w1, w2], .cons ru (.cons ru2 .nil), ⟨_, hT, rfl, _, rfl⟩⟩
      have I1 : Inv X pins σ (upd H s.heap.objs.size (.tup [x, y])) { s with heap := h', toks := tk } :=
        I.turnedNew (ch := [z, TI, TO, i1, i2]) (fun c o hb q => hk c o (fun q' => hb (by simp [q'])) (fun q' => hb (by simp [q'])) (fun q' => hb (by simp [q'])) (fun q' => hb (by simp [q'])) q) (fun c hc => (hf c hc).1) (Nat.le_refl _) new
      have hT0 : H s.heap.objs.size = none := I.hok.fresh (Nat.le_refl _)
      have hSn : S ≠ z ∧ S ≠ TI ∧ S ≠ TO ∧ S ≠ i1 ∧ S ≠ i2 := by simpa using hSc
      have hSg' : h'.get? S = some { cls := .type "list", data := .seq us.toArray c } := hk S _ hSn.1 hSn.2.2.1 hSn.2.2.2.1 hSn.2.2.2.2 hSg
      have hST : S ≠ s.heap.objs.size := Nat.ne_of_lt hSl
      have hS1 : upd H s.heap.objs.size (.tup [x, y]) S = some (.lst vs) := by rw [upd_ne hST]; exact hS
      have rv1 : Vals (vs ++ [.ref s.heap.objs.size]) (us ++ [.ref s.heap.objs.size]) := rv.append (.cons rfl .nil)
      have hul : us.length = i := by rw [← rv.length, hl]
      have hsl := sizeLine_eq
      have I2 : Inv X pins σ (upd (upd H s.heap.objs.size (.tup [x, y])) S (.lst (vs ++ [.ref s.heap.objs.size]))) { s with heap := h'.update S (Obj.mapSeq (·.push (.ref s.heap.objs.size))), toks := tk } :=
        I1.lset (its' := us ++ [.ref s.heap.objs.size]) (t' := tk) hS1 hSg' (by simp) rv1 (by rw [List.length_append, hl]; show i + 1 ≤ _; omega)
      have up : ∀ c o, c ≠ S → h'.get? c = some o → (h'.update S (Obj.mapSeq (·.push (.ref s.heap.objs.size)))).get? c = some o := fun c o hc e => (Heap.get?_update_other _ _ (Ne.symm hc)).trans e
      refine wpAny_bind (wpAny_updateSeq (s := { s with heap := h', toks := tk }) hSg' rfl (wpAny_pure ⟨plainId_quiet F.plain_extend_loop _, ?_⟩) (by show us.toArray.size ≤ _; rw [List.size_toArray, hul]; omega) (by show (us.toArray.push _).size ≤ _; rw [Array.size_push, List.size_toArray, hul]; omega))
      have hk2 : ∀ q o, H q = some o → q ≠ S → (upd (upd H s.heap.objs.size (.tup [x, y])) S (.lst (vs ++ [.ref s.heap.objs.size]))) q = some o := fun q o e hq => by
        rw [upd_ne hq, upd_ne (fun z => by rw [z, hT0] at e; cases e)]; exact e
      have dom : ∀ q, (upd (upd H s.heap.objs.size (.tup [x, y])) S (.lst (vs ++ [.ref s.heap.objs.size]))) q = none → H q = none := fun q h2 => by
        by_cases hq : q = S
        · subst hq; rw [upd_same] at h2; cases h2
        · rw [upd_ne hq] at h2
          by_cases hq2 : q = s.heap.objs.size
          · subst hq2; rw [upd_same] at h2; cases h2
          · rw [upd_ne hq2] at h2; exact h2
      have sqk : ∀ {k : Bool} {a : Addr} {xs : List V}, Sq k X.K H a xs → a ≠ S → Sq k X.K (upd (upd H s.heap.objs.size (.tup [x, y])) S (.lst (vs ++ [.ref s.heap.objs.size]))) a xs := fun {k a xs} h ne => by
        cases k with
        | true =>
          rcases (show SqL X.K H a xs from h) with r | r
          · exact .inl (r.elim (fun r => .inl (hk2 _ _ r ne)) fun ⟨o, r⟩ => .inr ⟨o, hk2 _ _ r ne⟩)
          · exact .inr r
        | false =>
          rcases (show SqT X.K H a xs from h) with r | r
          · exact .inl (r.elim (fun r => .inl (hk2 _ _ r ne)) fun ⟨o, r⟩ => .inr ⟨o, hk2 _ _ r ne⟩)
          · exact .inr r
      have size2 : (h'.update S (Obj.mapSeq (·.push (.ref s.heap.objs.size)))).objs.size = s.heap.objs.size + 1 := by rw [← hsz]; exact (Heap.SameBut.update ..).1
      obtain ⟨c', hSu⟩ : ∃ c', (h'.update S (Obj.mapSeq (·.push (.ref s.heap.objs.size)))).get? S = some { cls := .type "list", data := .seq (us ++ [Value.ref s.heap.objs.size]).toArray c' } := by
        have q := PySem.IsL.update hSg' (·.push (Value.ref s.heap.objs.size))
        have e : us.toArray.push (Value.ref s.heap.objs.size) = (us ++ [Value.ref s.heap.objs.size]).toArray := by simp
        rw [e] at q
        exact ⟨_, q⟩
      refine ih (i + 1) { s with heap := h'.update S (Obj.mapSeq (·.push (.ref s.heap.objs.size))), toks := tk } _ (vs ++ [.ref s.heap.objs.size]) (us ++ [.ref s.heap.objs.size]) c' (by omega) hlt I2 (fun c hc => ?_) (by show S < _; rw [size2]; exact Nat.lt_succ_of_lt hSl) ?_ (up _ _ (Ne.symm hSn.2.1) (hk _ _ D.TIz D.TITO D.TIi1 D.TIi2 hTI))
        (s1'.at fun o e => up _ _ (Ne.symm hSn.2.2.2.1) e) (s2'.at fun o e => up _ _ (Ne.symm hSn.2.2.2.2) e) (sqk qa (Ne.symm hSa)) (sqk qb (Ne.symm hSb)) upd_same rv1 hSu (by rw [List.length_append, hl]; rfl) (fun q e => hd q (dom q e)) ?_ ?_
      · obtain ⟨⟨f0, f1, f2, f3, f4, f5⟩, fl⟩ := hf c hc
        refine ⟨⟨?_, f1, f2, f3, f4, f5⟩, by show c < _; rw [size2]; exact Nat.lt_succ_of_lt fl⟩
        have hcS : c ≠ S := fun e => hSc (e ▸ hc)
        rw [upd_ne hcS, upd_ne (Nat.ne_of_lt fl)]
        exact f0
      · obtain ⟨f, T, hz', hTz, oT, hT'⟩ := hzh
        by_cases hTS : T = S
        · subst hTS
          exact .inr ⟨T, f, _, up _ _ (Ne.symm hSn.1) hz', Heap.get?_update_self _ hSg' rfl, hTz⟩
        · exact .inr ⟨T, f, oT, up _ _ (Ne.symm hSn.1) hz', up _ _ hTS hT', hTz⟩
      · intro j v hj
        by_cases hji : j < vs.length
        · rw [List.getElem?_append_left hji] at hj
          obtain ⟨x', y', T, q1, q2, q3, q4, q5⟩ := hp j v hj
          refine ⟨x', y', T, q1, q2, q3, hk2 _ _ q4 (fun z => ?_), q5⟩
          rw [z, hS] at q4; cases q4
        · have hle := (List.getElem?_eq_some_iff.mp hj).1
          rw [List.length_append] at hle
          have hje : j = i := by simp at hle; omega
          subst hje
          rw [List.getElem?_append_right (by omega), hl, Nat.sub_self] at hj
          cases hj
          exact ⟨x, y, _, hx, hy, rfl, by rw [upd_ne (Ne.symm hST), upd_same], hd _ hT0⟩
      · intro s' H' vs' I' hl' hS' hk' hd' hp'
        refine hR s' H' vs' I' hl' hS' (fun q o e hq => hk' q o (hk2 q o e hq) hq) (fun q e => dom q (hd' q e)) hp'
    refine wpAny_bind ?_
    have lt1 : i < its.toArray.size := by simp; omega
    have lt2 : i < its2.toArray.size := by simp; omega
    rcases hz with ⟨hz, x0, y0, hTO⟩ | ⟨T, f, oT, hz, hT, hTz⟩
    · refine wpAny_pyNext_zipD2_item D (sq_draws (A := A.in1.in1) hA k i1 a ha its.toArray) (sq_draws (A := A.in1.in1) hA k2 i2 b hb its2.toArray) hz hTI hTO ⟨h1, p⟩ ⟨h2, p2⟩ lt1 lt2 fun w1 w2 h' tk e1 e2 z' TO' s1' s2' hT hsz hk => ?_
      exact next w1 w2 h' tk e1 e2 ⟨false, s.heap.objs.size, z', Nat.ne_of_gt hzl, _, hT⟩ s1'.1 s2'.1 hT hsz hk
    · refine next_zip_held D (sq_draws (A := A.in1.in1) hA k i1 a ha its.toArray) (sq_draws (A := A.in1.in1) hA k2 i2 b hb its2.toArray) hz hT hTI ⟨h1, p⟩ ⟨h2, p2⟩ lt1 lt2 fun w1 w2 h' tk e1 e2 z' s1' s2' hT2 hsz hk => ?_
      by_cases hTi1 : T = i1
      · subst hTi1
        obtain ⟨o, e, _⟩ := s1'.1.obj
        exact next w1 w2 h' tk e1 e2 ⟨true, T, z', hTz, o, e⟩ s1'.1 s2'.1 hT2 hsz fun c o c1 _ c3 c4 => hk c o c1 c3 c4
      · by_cases hTi2 : T = i2
        · subst hTi2
          obtain ⟨o, e, _⟩ := s2'.1.obj
          exact next w1 w2 h' tk e1 e2 ⟨true, T, z', hTz, o, e⟩ s1'.1 s2'.1 hT2 hsz fun c o c1 _ c3 c4 => hk c o c1 c3 c4
        · exact next w1 w2 h' tk e1 e2 ⟨true, T, z', hTz, oT, hk T oT hTz hTi1 hTi2 hT⟩ s1'.1 s2'.1 hT2 hsz fun c o c1 _ c3 c4 => hk c o c1 c3 c4
theorem lz_call {A : Around} {Q : Value → Shared → Prop} {E : Value → Shared → Prop} (hA : A.handled = none) {k k2 : Bool} {a b z TI TO i1 i2 : Addr} {xs ys : List V} {n : Nat} (hn : n = min xs.length ys.length) (hnl : n ≤ sizeLine) (D : ZipSep2 z TI TO i1 i2 [i1, a] [i2, b]) (ha : a ≠ i1) (hb : b ≠ i2)
    {s : Shared} {H : Hp} (I : Inv X pins σ H s) (hf : ∀ c ∈ [z, TI, TO, i1, i2], FpOk X pins H c ∧ c < s.heap.objs.size) (hz : IsZip s.heap z TI TO .none) (hTO : ∃ x y, IsTupOf2 s.heap TO x y) (hTI : IsTupOf2 s.heap TI (.ref i1) (.ref i2)) (h1 : ItAt k s.heap i1 a 0) (h2 : ItAt k2 s.heap i2 b 0)
    (qa : Sq k X.K H a xs) (qb : Sq k2 X.K H b ys)
    (hQ : ∀ (S : Addr) s' H' vs', Inv X pins σ H' s' → H S = none → vs'.length = n → H' S = some (.lst vs') → (∀ q o, H q = some o → H' q = some o) → PrI H H' xs ys vs' → Q (.ref S) s') :
    wpAny (model X.prog X.w) A (call (.type "list") [.ref z]) Q E s := by
  have hH0 : H s.heap.objs.size = none := I.hok.fresh (Nat.le_refl _)
  have hSc : s.heap.objs.size ∉ [z, TI, TO, i1, i2] := fun hm => Nat.lt_irrefl _ (hf _ hm).2
  have hSz : s.heap.objs.size ≠ z := fun e => hSc (by rw [e]; simp)
  have I0 : Inv X pins σ (upd H s.heap.objs.size (.lst [])) { s with heap := s.heap.push { cls := .type "list", data := .seq #[] } } :=
    I.laid (t' := s.toks) (o := .lst []) (fun b o e => Heap.get?_push_of_some _ e) (Nat.le_refl _) ⟨Nat.zero_le _, [], 0, .nil, Heap.get?_push_size _ rfl⟩
  obtain ⟨_, _, _, la⟩ := Inv.sq I qa
  obtain ⟨_, _, _, lb⟩ := Inv.sq I qb
  refine callType_codes (Q₁ := fun obj s₁ => obj = .ref s.heap.objs.size ∧ s₁ = { s with heap := s.heap.push { cls := .type "list", data := .seq #[] } }) F.called_list (F.typeCall_list_1 _) F.entry_list_init
    (code_list_new _ ⟨rfl, rfl⟩) fun obj s₁ h₁ => ?_
  obtain ⟨rfl, rfl⟩ := h₁
  have hS : (s.heap.push { cls := .type "list", data := .seq #[] }).get? s.heap.objs.size = some { cls := .type "list", data := .seq #[] } := Heap.get?_push_size _ rfl
  refine ⟨⟨_, hS, rfl⟩, F.args_list_init_2 _ _, ?_⟩
  -- the empty list is cleared, touched, then the loop
  have up0 : ∀ c o, s.heap.get? c = some o → (s.heap.push { cls := .type "list", data := .seq #[] }).get? c = some o := fun c o e => Heap.get?_push_of_some _ e
  generalize hg : s.heap.push { cls := .type "list", data := .seq #[] } = g0 at *
  have hg0 : g0.objs.size = s.heap.objs.size + 1 := by rw [← hg, Heap.size_push]
  generalize hSd : s.heap.objs.size = S at *
  show wpAny _ A.in1.in1 (do let old ← Builtin.List.listItems (.ref S); Builtin.List.listUpdate (.ref S) (fun _ => #[]); letGo old.toList.reverse; Builtin.List.listExtendWith (.ref S) (.ref z) .none) _ _ _
  refine wpAny_bind ?_
  unfold Builtin.List.listItems
  refine wpAny_bind (wpAny_seqItems hS rfl (wpAny_pure ?_))
  show wpAny _ _ (updateSeq S (fun _ => #[]) >>= fun _ => letGo (#[] : Array Value).toList.reverse >>= fun _ => Builtin.List.listExtendWith (.ref S) (.ref z) .none) _ _ _
  refine wpAny_bind (wpAny_updateSeq hS rfl ?_)
  have hS₂ := Heap.get?_update_self (Obj.mapSeq (fun _ => (#[] : Array Value))) hS rfl
  have I1 := I0.lset (its := []) (its' := []) (f := fun _ => #[]) (t' := s.toks) upd_same hS rfl .nil (Nat.zero_le _)
  rw [upd_upd] at I1
  have up1 : ∀ c o, c ≠ S → g0.get? c = some o → (g0.update S (Obj.mapSeq (fun _ => (#[] : Array Value)))).get? c = some o := fun c o hc e => (Heap.get?_update_other _ _ (Ne.symm hc)).trans e
  have sz1 : (g0.update S (Obj.mapSeq (fun _ => (#[] : Array Value)))).objs.size = g0.objs.size := (Heap.SameBut.update ..).1
  refine wpAny_bind (wpAny_letGo ?_)
  generalize g0.update S (Obj.mapSeq (fun _ => (#[] : Array Value))) = g1 at *
  have hz1 : IsZip g1 z TI TO .none := up1 _ _ (Ne.symm hSz) (up0 _ _ hz)
  have hTy : (⟨g1, s.gens, s.drawn, s.toks, s.os⟩ : Shared).TypeIs (.ref z) "zip" := ⟨_, hz1, rfl⟩
  unfold Builtin.List.listExtendWith
  refine wpAny_bind (wpAny_typeOf hTy ?_)
  have e1 : Builtin.List.listSameRef (.ref S) (.ref z) = false := by simp [Builtin.List.listSameRef, hSz]
  have e2 : (Value.type "zip" == Value.type "list") = false := by decide
  have e3 : (Value.type "zip" == Value.type "tuple") = false := by decide
  simp only [e1, e2, e3, Bool.or_false, Bool.false_eq_true, if_false]
  refine wpAny_bind (wpAny_pyIter_zip hz1 ?_)
  refine wpAny_bind (wpAny_holding ?_)
  unfold Builtin.List.listLengthHint
  refine wpAny_bind (wpAny_specialOf hTy zip_no_len ?_)
  show wpAny _ _ (specialOf (Value.ref z) (Str.ofString "__length_hint__") >>= _) _ _ _
  refine wpAny_bind (wpAny_specialOf hTy zip_no_hint ?_)
  refine wpAny_pure ?_
  show wpAny _ _ (rule "list.extend.makes-room" >>= fun _ => Builtin.List.listTouch (.ref S) >>= fun _ =>
    again (.builtin "list.extend.loop" ⟨[.ref S, .ref z, .none], []⟩)) _ _ _
  refine wpAny_bind (wpAny_rule ?_)
  refine wpAny_bind ?_
  show wpAny _ _ (updateSeq S (·.push .none) >>= fun _ => updateSeq S (·.pop)) _ _ _
  refine wpAny_bind (wpAny_updateSeq (hz := by seq_fits) hS₂ rfl ?_)
  have hS3 := Heap.get?_update_self (Obj.mapSeq (·.push Value.none)) hS₂ rfl
  refine wpAny_updateSeq (hz := by seq_fits) hS3 rfl ?_
  have hS4 := Heap.get?_update_self (Obj.mapSeq (·.pop)) hS3 rfl
  have up2 : ∀ c o, c ≠ S → g1.get? c = some o → ((g1.update S (Obj.mapSeq (·.push Value.none))).update S (Obj.mapSeq (·.pop))).get? c = some o :=
    fun c o hc e => (Heap.get?_update_other _ _ (Ne.symm hc)).trans ((Heap.get?_update_other _ _ (Ne.symm hc)).trans e)
  have sz2 : ((g1.update S (Obj.mapSeq (·.push Value.none))).update S (Obj.mapSeq (·.pop))).objs.size = S + 1 := by
    rw [(Heap.SameBut.update (a := S) ..).1, (Heap.SameBut.update (a := S) ..).1, sz1, hg0]
  have I2 : Inv X pins σ (upd H S (.lst [])) { s with heap := (g1.update S (Obj.mapSeq (·.push Value.none))).update S (Obj.mapSeq (·.pop)) } := by
    have := I1.write (x := S) (e := S) (o := .lst []) (h' := (g1.update S (Obj.mapSeq (·.push Value.none))).update S (Obj.mapSeq (·.pop))) (t' := s.toks) (by rw [upd_same]; exact trivial) (.inl rfl) up2 ⟨_, hS4⟩ ⟨Nat.zero_le _, [], _, .nil, hS4⟩
    rw [upd_upd] at this
    exact this
  have hSn : S ≠ z ∧ S ≠ TI ∧ S ≠ TO ∧ S ≠ i1 ∧ S ≠ i2 := by simpa using hSc
  have up : ∀ c o, c ≠ S → s.heap.get? c = some o → ((g1.update S (Obj.mapSeq (·.push Value.none))).update S (Obj.mapSeq (·.pop))).get? c = some o := fun c o hc e => up2 _ _ hc (up1 _ _ hc (up0 _ _ e))
  have hk2 : ∀ q o, H q = some o → upd H S (.lst []) q = some o := fun q o e => by rw [upd_ne (fun z => by rw [z, hH0] at e; cases e)]; exact e
  have dom0 : ∀ q, upd H S (.lst []) q = none → H q = none := fun q h2 => by
    by_cases hq : q = S
    · subst hq; rw [upd_same] at h2; cases h2
    · rw [upd_ne hq] at h2; exact h2
  have sqk : ∀ {k : Bool} {a : Addr} {xs : List V}, Sq k X.K H a xs → Sq k X.K (upd H S (.lst [])) a xs := fun {k a xs} h => by
    cases k with
    | true =>
      rcases (show SqL X.K H a xs from h) with r | r
      · exact .inl (r.elim (fun r => .inl (hk2 _ _ r)) fun ⟨o, r⟩ => .inr ⟨o, hk2 _ _ r⟩)
      · exact .inr r
    | false =>
      rcases (show SqT X.K H a xs from h) with r | r
      · exact .inl (r.elim (fun r => .inl (hk2 _ _ r)) fun ⟨o, r⟩ => .inr ⟨o, hk2 _ _ r⟩)
      · exact .inr r
  obtain ⟨x0, y0, hTO⟩ := hTO
  have hS5 : ((g1.update S (Obj.mapSeq (·.push Value.none))).update S (Obj.mapSeq (·.pop))).get? S = some { cls := .type "list", data := .seq ([] : List Value).toArray _ } := hS4
  refine wpAny_pure ⟨plainId_quiet F.plain_extend_loop _, lz_loop (A := A.in1) (σ := σ) (pins := pins) hA hn hnl D ha hb hSc (Nat.ne_of_gt la) (Nat.ne_of_gt lb) .none n 0 _ _ [] [] _ (Nat.sub_zero _) (Nat.zero_le _) I2 (fun c hc => ?_) (by show S < _; rw [sz2]; exact Nat.lt_succ_self _)
    (.inl ⟨up _ _ (Ne.symm hSn.1) hz, x0, y0, up _ _ (Ne.symm hSn.2.2.1) hTO⟩) (up _ _ (Ne.symm hSn.2.1) hTI) (h1.at fun o e => up _ _ (Ne.symm hSn.2.2.2.1) e) (h2.at fun o e => up _ _ (Ne.symm hSn.2.2.2.2) e) (sqk qa) (sqk qb) upd_same .nil hS5 rfl (fun q e => dom0 q e) (fun j v h => by simp at h)
    fun s' H' vs' I' hl' hS' hk' hd' hp' => ?_⟩
  · obtain ⟨⟨f0, f1, f2, f3, f4, f5⟩, fl⟩ := hf c hc
    refine ⟨⟨?_, f1, f2, f3, f4, f5⟩, by show c < _; rw [sz2]; exact Nat.lt_succ_of_lt fl⟩
    have hcS : c ≠ S := fun e => hSc (e ▸ hc)
    rw [upd_ne hcS]
    exact f0
  · refine ⟨rfl, hQ S s' H' vs' I' hH0 hl' hS' (fun q o e => hk' q o (hk2 q o e) fun z => by rw [z, hH0] at e; cases e) hp'⟩
end
/-- list(zip(a, b)) -/
def tLstZip (K : PySem.W.Frag) (ta : TA) : TE := fun σ H Q => ta σ H fun vs H1 => ∃ k a xs k2 b ys, vs = [.ref a, .ref b] ∧ Sq k K H1 a xs ∧ Sq k2 K H1 b ys ∧ min xs.length ys.length ≤ sizeLine ∧
  ∀ S H2 ws, H1 S = none → H2 S = some (.lst ws) → ws.length = min xs.length ys.length → Same H1 H2 → PrI H1 H2 xs ys ws → Q (.ref S) H2
theorem pe_listZip {X : Cx} {e e2 : Expr} {ta : TA} {p p2 pos pos2 : Pos} (hc : X.calm = true) (hg : Gl X "zip") (hm : X.mg "zip" = none) (hg2 : Gl X "list") (hm2 : X.mg "list" = none) (ha : PA X [e, e2] ta)
    (hs : starEach [e, e2] X.env = (false, eval e X.env) :: starEach [e2] X.env := by rfl) (hpl : (backTo pos (starEach [e2] X.env)).any (·.1) = false := by rfl)
    (hs2 : starEach [.Call (.Name "zip" p) [e, e2] [] pos] X.env = (false, eval (.Call (.Name "zip" p) [e, e2] [] pos) X.env) :: starEach [] X.env := by rfl) :
    PE X (.Call (.Name "list" p2) [.Call (.Name "zip" p) [e, e2] [] pos] [] pos2) (tLstZip X.K ta) := by
  refine ⟨fun pins s σ H Q I h => ?_⟩
  refine Call_ (ld_blt I hg2 hm2 boot_list (PyProof.Rows.callWith_type1 (args_cons (Call_ (ld_blt I hg hm PyProof.Rows.boot_zip (PyProof.Rows.callWith_type1 (thn (ha.run pos pins s σ H _ I h) fun us s1 ⟨vs, H1, I1, r1, q1⟩ => ?_) hs hpl))) hs2) hs2))
  obtain ⟨k, a, xs, k2, b, ys, ex, hqx, hqy, hl, q⟩ := q1
  subst ex
  cases r1 with
  | cons r rr =>
    cases rr with
    | cons r' rr =>
      cases rr
      cases r
      cases r'
      obtain ⟨its, rv, p1, la⟩ := Inv.sq I1 hqx
      obtain ⟨its2, rv2, p2, lb⟩ := Inv.sq I1 hqy
      refine zip_begins2 (sq_begins k a its.toArray) (sq_begins k2 b its2.toArray) p1 p2 fun h' hz hTI hTO h1 h2 hsz hk => args_nil ?_
      have I2 : Inv X pins σ H1 { s1 with heap := h' } := I1.kept (t' := s1.toks) hk
      refine lz_call (σ := σ) (pins := pins) (I.ok.hd hc) rfl hl (sep2_new s1.heap.objs.size a b la lb) (Nat.ne_of_lt la) (Nat.ne_of_lt (Nat.lt_succ_of_lt lb)) I2 (fun c hcm => ?_) hz ⟨_, _, hTO⟩ hTI (itAt_new h1) (itAt_new h2) hqx hqy fun S s' H' vs' I' hS hl' hS' hk' hp' => ?_
      · have e' : c = s1.heap.objs.size + 4 ∨ c = s1.heap.objs.size + 2 ∨ c = s1.heap.objs.size + 3 ∨ c = s1.heap.objs.size ∨ c = s1.heap.objs.size + 1 := by simpa using hcm
        have hle : s1.heap.objs.size ≤ c ∧ c < s1.heap.objs.size + 5 := by
          rcases e' with z | z | z | z | z
          · rw [z]; exact ⟨Nat.le_add_right _ _, Nat.add_lt_add_left (by decide) _⟩
          · rw [z]; exact ⟨Nat.le_add_right _ _, Nat.add_lt_add_left (by decide) _⟩
          · rw [z]; exact ⟨Nat.le_add_right _ _, Nat.add_lt_add_left (by decide) _⟩
          · rw [z]; exact ⟨Nat.le_refl _, Nat.lt_add_of_pos_right (by decide)⟩
          · rw [z]; exact ⟨Nat.le_add_right _ _, Nat.add_lt_add_left (by decide) _⟩
        exact ⟨I1.fpOk hle.1 (I1.hok.fresh hle.1), by show c < h'.objs.size; rw [hsz]; exact hle.2⟩
      · exact ⟨.ref S, H', I', rfl, q S H' vs' hS hS' hl' hk' hp'⟩
/-! its reading -/
theorem RoL.len {K : PySem.W.Frag} {O : AS} {H : Hp} : ∀ {ds : List Da} {vs : List V}, RoL K O H ds vs → ds.length = vs.length
  | [], vs, h => by simp only [RoL] at h; subst h; rfl
  | d :: ds, vs, h => by
    simp only [RoL] at h
    obtain ⟨w, ws, rfl, _, q⟩ := h
    rw [List.length_cons, List.length_cons, RoL.len q]
theorem RpL.ofGet {K : PySem.W.Frag} {O : AS} {H : Hp} : ∀ {ds : List Da} {vs : List V}, ds.length = vs.length → (∀ (j : Nat) (d : Da) (v : V), ds[j]? = some d → vs[j]? = some v → Rp K O H d v) → RpL K O H ds vs
  | [], [], _, _ => .nil
  | d :: ds, v :: vs, h, g => .cons (g 0 d v rfl rfl) (RpL.ofGet (by simpa using h) fun j d' v' e1 e2 => g (j + 1) d' v' (by simpa using e1) (by simpa using e2))
  | [], _ :: _, h, _ => by simp at h
  | _ :: _, [], h, _ => by simp at h
def zipL : List Da → Option EV
  | [x, y] => (seqD x).bind fun xs => (seqD y).bind fun ys => if min xs.length ys.length ≤ 16777216 then some (.own (.l (zipD xs ys))) else none
  | _ => none
theorem Ro.sq {K : PySem.W.Frag} {O : AS} {H : Hp} {x : Da} {v : V} {xs : List Da} (r : Ro K O H x v) (e : seqD x = some xs) : ∃ k a vs, v = .ref a ∧ Sq k K H a vs ∧ RpL K O H xs vs := by
  cases x with
  | list ys => cases e; obtain ⟨a, vs, rfl, h, r⟩ := r.list; exact ⟨true, a, vs, rfl, .of h, r⟩
  | tuple ys => cases e; obtain ⟨a, vs, rfl, h, r⟩ := r.tupT; exact ⟨false, a, vs, rfl, h, r⟩
  | _ => cases e
section
variable {X : Cx} {W : WX} {a b c e e2 o : Expr} {pos pos2 p p2 : Pos} {fs : VM (List EV)}
theorem ve_listZip {k : Nat} (c : VC X W k) (hm : X.mg "zip" = none) (hm2 : X.mg "list" = none) (ha : VA X W [e, e2] fs) (hg : Gl X "zip" := by rfl) (hg2 : Gl X "list" := by rfl)
    (hs : starEach [e, e2] X.env = (false, eval e X.env) :: starEach [e2] X.env := by rfl) (hpl : (backTo pos (starEach [e2] X.env)).any (·.1) = false := by rfl)
    (hs2 : starEach [.Call (.Name "zip" p) [e, e2] [] pos] X.env = (false, eval (.Call (.Name "zip" p) [e, e2] [] pos) X.env) :: starEach [] X.env := by rfl) :
    VE X W (.Call (.Name "list" p2) [.Call (.Name "zip" p) [e, e2] [] pos] [] pos2) (vCall zipL fs) := by
  refine PE.wk (pe_listZip c.calm hg hm hg2 hm2 ha hs hpl hs2) fun σ H Q h => ?_
  obtain ⟨O, st, F, h⟩ := h
  refine tVA.bind F h fun rs s1 vs H1 S1 E1 h => ?_
  obtain ⟨xs, R, h⟩ := E1.rds S1.fr h
  obtain ⟨z, ez, h⟩ := h.opt1
  match xs, ez, R with
  | [x, y], ez, R =>
    obtain ⟨xs, ex, ez⟩ := Option.bind_eq_some_iff.mp (show (seqD x).bind _ = some z from ez)
    obtain ⟨ys, ey, ez⟩ := Option.bind_eq_some_iff.mp ez
    split at ez
    · rename_i hl
      cases ez
      obtain ⟨v, w, rfl, r1, r2⟩ := R.two
      obtain ⟨k1, a1, vs, rfl, g1, q1⟩ := r1.sq ex
      obtain ⟨k2, a2, ws, rfl, g2, q2⟩ := r2.sq ey
      refine ⟨k1, a1, vs, k2, a2, ws, rfl, g1, g2, by rw [← q1.length, ← q2.length, sizeLine_eq]; exact hl, fun S H2 us hS hS2 hlen kp hp => ?_⟩
      refine h _ _ (S1.trans (Step.ext S1.fr kp)) ((NR.er (z := .own (.l (zipD xs ys))) S1.fr kp ⟨S, rfl, hS, us, hS2, ?_⟩).back S1.dom)
      refine RpL.ofGet (by rw [zipD_len, hlen, q1.length, q2.length]) fun j d v hj hv => ?_
      obtain ⟨x', y', e1, e2, rfl⟩ := zipD_get hj
      obtain ⟨u1, u2, T, f1, f2, rfl, f3, f4⟩ := hp j v hv
      obtain ⟨u1', f1', R1⟩ := q1.get e1
      obtain ⟨u2', f2', R2⟩ := q2.get e2
      rw [f1] at f1'; cases f1'
      rw [f2] at f2'; cases f2'
      simp only [Rp]
      refine ⟨T, [u1, u2], rfl, .inl ⟨f3, fun z => ?_⟩, ?_⟩
      · rcases z with z | z
        · exact S1.fr.avdom T z f4
        · rw [z, hS2] at f3; cases f3
      · exact .cons (Rp.mono (fun a z => z.elim .inl fun z => .inr (by rw [z]; exact hS)) (fun a o e _ => kp a o e) _ _ R1) (.one (Rp.mono (fun a z => z.elim .inl fun z => .inr (by rw [z]; exact hS)) (fun a o e _ => kp a o e) _ _ R2))
    · cases ez
  | [], ez, _ => cases ez
  | [_], ez, _ => cases ez
  | _ :: _ :: _ :: _, ez, _ => cases ez
end
end VL
set_option Elab.async false
set_option linter.all false
set_option maxRecDepth 100000
namespace VL
open PySem PySem.Spec PyProof.Rows L2
/-! ### storing with a change of owner -/
def AS.ws (O : AS) (P : List Addr) : AS := fun a => O a ∨ a ∈ P
section
variable {K : PySem.W.Frag} {mg : Str → Option Value} {W : WX} {O O' : AS} {P Pl : List Addr} {st s s1 s2 : VS} {σ σ0 σ1 : L2.St} {H H0 H1 H2 : Hp} {v : V} {r : EV} {vs : List V} {rs : List EV}
structure StepP (K : PySem.W.Frag) (O : AS) (P : List Addr) (st : VS) (σ0 : L2.St) (H0 : Hp) (s : VS) (σ : L2.St) (H : Hp) : Prop where
  S : Step K O st σ0 H0 s σ H
  F : FR K (O.ws P) s σ H
  p : ∀ a ∈ P, (MutO st σ0 a ∨ H0 a = none) ∧ ¬ O a
  nd : P.Nodup
/-- the results that are held -/
def PR (K : PySem.W.Frag) (O' : AS) (s : VS) (σ : L2.St) (H : Hp) : List Addr → List V → List EV → Prop
  | Pl, [], [] => Pl = []
  | Pl, v :: vs, .d x :: rs => Rp K (Av O' s σ) H x v ∧ PR K O' s σ H Pl vs rs
  | p :: Pl, v :: vs, .own c :: rs => v = .ref p ∧ Cont K (Av O' s σ) H p c ∧ PR K O' s σ H Pl vs rs
  | Pl, v :: vs, .loan j :: rs => σ[j]? = some (some v) ∧ PR K O' s σ H Pl vs rs
  | _, _, _ => False
theorem PR.to {O1 : AS} (hO : ∀ a, Av O1 s1 σ1 a → Av O' s σ a) (hl : ∀ r ∈ rs, (∃ j, r = .loan j) → σ1 = σ) (h : PR K O' s σ H Pl vs rs) : PR K O1 s1 σ1 H Pl vs rs := by
  induction rs generalizing vs Pl with
  | nil =>
    cases vs with
    | nil => exact h
    | cons v vs => exact h.elim
  | cons r rs ih =>
    cases vs with
    | nil => cases r <;> exact h.elim
    | cons v vs =>
      have ih' := fun {Pl vs} => ih (Pl := Pl) (vs := vs) fun r hr => hl r (List.mem_cons_of_mem _ hr)
      cases r with
      | d x => exact ⟨h.1.sub hO, ih' h.2⟩
      | own c =>
        cases Pl with
        | nil => exact h.elim
        | cons p Pl => exact ⟨h.1, h.2.1.sub hO, ih' h.2.2⟩
      | loan j =>
        have e : σ1 = σ := hl _ List.mem_cons_self ⟨j, rfl⟩
        have h' : σ[j]? = some (some v) ∧ PR K O' s σ H Pl vs rs := by cases Pl <;> exact h
        have g : σ1[j]? = some (some v) ∧ PR K O1 s1 σ1 H Pl vs rs := ⟨by rw [e]; exact h'.1, ih' h'.2⟩
        cases Pl <;> exact g
theorem PR.len (h : PR K O' s σ H Pl vs rs) : vs.length = rs.length := by
  induction rs generalizing vs Pl with
  | nil =>
    cases vs with
    | nil => rfl
    | cons v vs => exact h.elim
  | cons r rs ih =>
    cases vs with
    | nil => cases r <;> exact h.elim
    | cons v vs =>
      cases r with
      | d x => rw [List.length_cons, List.length_cons, ih h.2]
      | own c =>
        cases Pl with
        | nil => exact h.elim
        | cons p Pl => rw [List.length_cons, List.length_cons, ih h.2.2]
      | loan j =>
        have h' : σ[j]? = some (some v) ∧ PR K O' s σ H Pl vs rs := by cases Pl <;> exact h
        rw [List.length_cons, List.length_cons, ih h'.2]
/-- a slot lets go of its list -/
theorem FR.release {j : Nat} {p : Addr} {c : OC} (F : FR K O s σ H) (hs : s[j]? = some (.own c)) (hp : σ[j]? = some (some (.ref p))) :
    FR K (O.with p) (s.set j .un) σ H ∧ Cont K (Av (O.with p) (s.set j .un) σ) H p c ∧ (∀ a, Av (O.with p) (s.set j .un) σ a → Av O s σ a) ∧ Own s σ p ∧ MutO s σ p := by
  have hj : j < s.length := lt_of_get hs
  have jp : OwnAt s σ j p := ⟨hp, c, .inl hs⟩
  have own : ∀ i q, OwnAt (s.set j .un) σ i q → i ≠ j ∧ OwnAt s σ i q := fun i q h => by
    obtain ⟨e, c', h⟩ := h
    by_cases hi : i = j
    · subst hi
      rw [List.getElem?_set_self hj] at h
      rcases h with h | h | h <;> cases h
    · rw [List.getElem?_set_ne (Ne.symm hi)] at h
      exact ⟨hi, e, c', h⟩
  have av : ∀ a, Av (O.with p) (s.set j .un) σ a → Av O s σ a := fun a h => by
    rcases h with (h | h) | ⟨i, h⟩
    · exact .inl h
    · exact .inr (h ▸ ⟨j, jp⟩)
    · exact .inr ⟨i, (own i a h).2⟩
  obtain ⟨v, ev, q, eq, C⟩ := F.slot j _ hs
  rw [hp] at ev; cases ev; cases eq
  refine ⟨⟨by rw [List.length_set]; exact F.len, fun i sv h => ?_, fun a b q h1 h2 => F.inj a b q (own a q h1).2 (own b q h2).2, fun q ⟨i, h⟩ z => ?_, fun q h => h.elim (F.odom q) fun h => h ▸ F.ownSome ⟨j, jp⟩⟩, C.sub av, av, ⟨j, jp⟩, ⟨j, hp, c, .inl hs⟩⟩
  · by_cases hi : i = j
    · subst hi
      rw [List.getElem?_set_self hj] at h
      cases h
      exact ⟨_, hp, trivial⟩
    · rw [List.getElem?_set_ne (Ne.symm hi)] at h
      obtain ⟨v, e, r⟩ := F.slot i sv h
      exact ⟨v, e, r.sub av⟩
  · obtain ⟨ne, h⟩ := own i q h
    rcases z with z | z
    · exact F.avoid q ⟨i, h⟩ z
    · subst z; exact ne (F.inj i j q h jp)
theorem Step.drop {j : Nat} {c : OC} (S : Step K O st σ0 H0 s σ H) (hs : s[j]? = some (.own c)) : Step K O st σ0 H0 (s.set j .un) σ H := by
  obtain ⟨ov, eo, p, ep, C⟩ := S.fr.slot j _ hs
  subst ep
  obtain ⟨F, _, _, _, _⟩ := S.fr.release hs eo
  have hj : j < s.length := lt_of_get hs
  have get : ∀ {i : Nat} {sv : SV}, (s.set j .un)[i]? = some sv → (∀ c, sv = .own c ∨ sv = .io c ∨ sv = .lk c → i ≠ j ∧ s[i]? = some sv) := fun {i sv} h c hsv => by
    by_cases hi : i = j
    · subst hi
      rw [List.getElem?_set_self hj] at h
      cases h
      rcases hsv with h | h | h <;> cases h
    · rw [List.getElem?_set_ne (Ne.symm hi)] at h
      exact ⟨hi, h⟩
  have own : ∀ i q, OwnAt (s.set j .un) σ i q → OwnAt s σ i q := fun i q ⟨e, c', h⟩ => ⟨e, c', by
    rcases h with h | h | h
    · exact .inl (get h c' (.inl rfl)).2
    · exact .inr (.inl (get h c' (.inr (.inl rfl))).2)
    · exact .inr (.inr (get h c' (.inr (.inr rfl))).2)⟩
  have mut' : ∀ i q, MutAt (s.set j .un) σ i q → MutAt s σ i q := fun i q ⟨e, c', h⟩ => ⟨e, c', by
    rcases h with h | h
    · exact .inl (get h c' (.inl rfl)).2
    · exact .inr (get h c' (.inr (.inl rfl))).2⟩
  have other : ∀ {k : Nat} {sv : SV}, s[k]? = some sv → (∀ c, sv ≠ .own c) → (s.set j .un)[k]? = some sv := fun {k sv} h hn => by
    have hk : j ≠ k := fun z => by rw [z] at hs; rw [hs] at h; exact hn c (Option.some.inj h).symm
    rw [List.getElem?_set_ne hk]; exact h
  refine ⟨F.sub fun a h => .inl h, S.keep, fun a ⟨i, h⟩ => S.new a ⟨i, own i a h⟩, fun a ⟨i, h⟩ => S.mnew a ⟨i, mut' i a h⟩, S.dom, S.len, fun i c0 h => ?_, fun i c0 h => ?_⟩
  · obtain ⟨⟨c', h'⟩, e⟩ := S.io i c0 h
    exact ⟨⟨c', other h' (fun c z => by cases z)⟩, e⟩
  · obtain ⟨h', e⟩ := S.lk i c0 h
    exact ⟨other h' (fun c z => by cases z), e⟩
def vRelease : List EV → VS → Option (List EV × VS)
  | [], s => some ([], s)
  | .loan j :: rs, s => match s[j]? with
    | some (.own c) => (vRelease rs (s.set j .un)).map fun q => (.own c :: q.1, q.2)
    | _ => none
  | r :: rs, s => (vRelease rs s).map fun q => (r :: q.1, q.2)
def noLoan : List EV → Prop
  | [] => True
  | .loan _ :: _ => False
  | _ :: rs => noLoan rs
theorem ws_cons {p : Addr} {P : List Addr} : ∀ a, O.ws (p :: P) a ↔ (O.ws P).with p a := fun a => by
  show (O a ∨ a ∈ p :: P) ↔ ((O a ∨ a ∈ P) ∨ a = p)
  rw [List.mem_cons]
  constructor
  · rintro (h | h | h)
    · exact .inl (.inl h)
    · exact .inr h
    · exact .inl (.inr h)
  · rintro ((h | h) | h)
    · exact .inl h
    · exact .inr (.inr h)
    · exact .inr (.inl h)
theorem av_mono {O1 O2 : AS} (h : ∀ a, O1 a → O2 a) : ∀ a, Av O1 s σ a → Av O2 s σ a := fun a z => z.imp (h a) id
theorem rel_ok {rs' : List EV} {s' : VS} : ∀ {rs : List EV} {s : VS} {Pl P : List Addr} {vs : List V} {rs' : List EV} {s' : VS}, StepP K O P st σ0 H0 s σ H → PR K (O.ws P) s σ H Pl vs rs → Pl.Nodup → (∀ q ∈ Pl, q ∈ P) → vRelease rs s = some (rs', s') →
    ∃ P' Pl', StepP K O P' st σ0 H0 s' σ H ∧ PR K (O.ws P') s' σ H Pl' vs rs' ∧ noLoan rs' ∧ Pl'.Nodup ∧ (∀ q ∈ Pl', q ∈ P') ∧ (∀ q ∈ P, q ∈ P') ∧ (∀ q ∈ Pl', q ∈ Pl ∨ q ∉ P) ∧ (∀ a, Av (O.ws P') s' σ a → Av (O.ws P) s σ a) := by
  intro rs
  induction rs with
  | nil =>
    intro s Pl P vs rs' s' SP h nd sub e
    cases e
    cases vs with
    | nil => exact ⟨P, Pl, SP, h, trivial, nd, sub, fun q h => h, fun q h => .inl h, fun a h => h⟩
    | cons v vs => exact h.elim
  | cons r rs ih =>
    intro s Pl P vs rs' s' SP h nd sub e
    cases vs with
    | nil => cases r <;> exact h.elim
    | cons v vs =>
      cases r with
      | d x =>
        obtain ⟨⟨rs2, s2⟩, e1, e2⟩ := Option.map_eq_some_iff.mp (show (vRelease rs s).map _ = some (rs', s') from e)
        cases e2
        obtain ⟨P', Pl', SP', h', nl, nd', sub', sup, new, av⟩ := ih SP h.2 nd sub e1
        exact ⟨P', Pl', SP', ⟨h.1.sub av, h'⟩, nl, nd', sub', sup, new, av⟩
      | own c =>
        cases Pl with
        | nil => exact h.elim
        | cons p Pl =>
          obtain ⟨⟨rs2, s2⟩, e1, e2⟩ := Option.map_eq_some_iff.mp (show (vRelease rs s).map _ = some (rs', s') from e)
          cases e2
          have nd1 := List.nodup_cons.mp nd
          obtain ⟨P', Pl', SP', h', nl, nd', sub', sup, new, av⟩ := ih SP h.2.2 nd1.2 (fun q hq => sub q (List.mem_cons_of_mem _ hq)) e1
          have hpP := sub p List.mem_cons_self
          refine ⟨P', p :: Pl', SP', ⟨h.1, h.2.1.sub av, h'⟩, nl, List.nodup_cons.mpr ⟨fun z => (new p z).elim nd1.1 fun z => z hpP, nd'⟩, fun q hq => ?_, sup, fun q hq => ?_, av⟩
          · rcases List.mem_cons.mp hq with rfl | hq
            · exact sup _ hpP
            · exact sub' q hq
          · rcases List.mem_cons.mp hq with rfl | hq
            · exact .inl List.mem_cons_self
            · exact (new q hq).imp (List.mem_cons_of_mem _) id
      | loan j =>
        have h' : σ[j]? = some (some v) ∧ PR K (O.ws P) s σ H Pl vs rs := by cases Pl <;> exact h
        unfold vRelease at e
        split at e
        · rename_i c hs
          obtain ⟨⟨rs2, s2⟩, e1, e2⟩ := Option.map_eq_some_iff.mp e
          cases e2
          obtain ⟨ov, eo, p, ep, C⟩ := SP.S.fr.slot j _ hs
          subst ep
          rw [h'.1] at eo; cases eo
          obtain ⟨F2, C2, av2, op, mp⟩ := SP.F.release hs h'.1
          have npP : p ∉ P := fun z => SP.F.avoid p op (.inr z)
          have av3 : ∀ a, Av (O.ws (p :: P)) (s.set j .un) σ a → Av (O.ws P) s σ a := fun a z => av2 a (av_mono (fun a z => (ws_cons a).mp z) a z)
          have SP2 : StepP K O (p :: P) st σ0 H0 (s.set j .un) σ H := ⟨SP.S.drop hs, F2.sub fun a z => (ws_cons a).mp z, fun a ha => by
            rcases List.mem_cons.mp ha with rfl | ha
            · exact ⟨SP.S.mnew _ mp, SP.S.fr.avoid _ op⟩
            · exact SP.p a ha, List.nodup_cons.mpr ⟨npP, SP.nd⟩⟩
          obtain ⟨P', Pl', SP', h2, nl, nd', sub', sup, new, av⟩ := ih SP2 (h'.2.to av3 fun _ _ _ => rfl) nd (fun q hq => List.mem_cons_of_mem _ (sub q hq)) e1
          have npl : p ∉ Pl' := fun z => (new p z).elim (fun z => npP (sub p z)) fun z => z List.mem_cons_self
          refine ⟨P', p :: Pl', SP', ⟨rfl, ?_, h2⟩, nl, List.nodup_cons.mpr ⟨npl, nd'⟩, fun q hq => ?_, fun q hq => sup q (List.mem_cons_of_mem _ hq), fun q hq => ?_, fun a z => av3 a (av a z)⟩
          · exact (C2.sub (av_mono fun a z => (ws_cons a).mp z)).sub av
          · rcases List.mem_cons.mp hq with rfl | hq
            · exact sup _ List.mem_cons_self
            · exact sub' q hq
          · rcases List.mem_cons.mp hq with rfl | hq
            · exact .inr npP
            · rcases new q hq with z | z
              · exact .inl z
              · exact .inr fun w => z (List.mem_cons_of_mem _ w)
        · cases e
def vStore : List Nat → List EV → VS → Option VS
  | [], [], s => some s
  | i :: is, .d x :: rs, s => if wrOk s[i]? = true then vStore is rs (s.set i (.d x)) else none
  | i :: is, .own c :: rs, s => if wrOk s[i]? = true then vStore is rs (s.set i (.own c)) else none
  | _, _, _ => none
def setσ : List Nat → List V → L2.St → L2.St
  | i :: is, v :: vs, σ => setσ is vs (σ.set i (some v))
  | _, _, σ => σ
theorem store_ok {s' : VS} : ∀ {is : List Nat} {rs : List EV} {s : VS} {σ : L2.St} {Pl P : List Addr} {vs : List V}, StepP K O P st σ0 H0 s σ H → PR K (O.ws P) s σ H Pl vs rs → noLoan rs → Pl.Nodup → (∀ q ∈ Pl, q ∈ P) → vStore is rs s = some s' →
    Step K O st σ0 H0 s' (setσ is vs σ) H := by
  intro is
  induction is with
  | nil =>
    intro rs s σ Pl P vs SP h nl nd sub e
    cases rs with
    | nil =>
      cases e
      cases vs with
      | nil => exact SP.S
      | cons v vs => exact h.elim
    | cons r rs => cases e
  | cons i is ih =>
    intro rs s σ Pl P vs SP h nl nd sub e
    cases rs with
    | nil => cases e
    | cons r rs =>
      cases vs with
      | nil => cases r <;> exact h.elim
      | cons v vs =>
        have nls : ∀ {rs : List EV}, noLoan rs → ∀ r ∈ rs, ¬ ∃ j, r = EV.loan j := fun {rs} => by
          induction rs with
          | nil => intro _ r hr; cases hr
          | cons r rs ih =>
            intro hn q hq
            rcases List.mem_cons.mp hq with rfl | hq
            · rintro ⟨j, rfl⟩; exact hn
            · exact ih (by cases r <;> first | exact hn | exact hn.elim) q hq
        cases r with
        | loan j => exact nl.elim
        | d x =>
          have e : (if wrOk s[i]? = true then vStore is rs (s.set i (.d x)) else none) = some s' := e
          split at e
          · rename_i hw
            have hn : ∀ c, (SV.d x) ≠ .own c ∧ (SV.d x) ≠ .io c ∧ (SV.d x) ≠ .lk c := fun c => ⟨(fun z => by cases z), (fun z => by cases z), (fun z => by cases z)⟩
            have ow : ∀ a, Av (O.ws P) (s.set i (.d x)) (σ.set i (some v)) a → Av (O.ws P) s σ a := fun a z => z.imp id fun ⟨j, z⟩ => by
              rcases z.set with ⟨_, _, c, z⟩ | ⟨_, z⟩
              · rcases z with z | z | z <;> cases z
              · exact ⟨j, z⟩
            have SP2 : StepP K O P st σ0 H0 (s.set i (.d x)) (σ.set i (some v)) H := ⟨SP.S.setN hw ⟨v, rfl, h.1.sub (av_mono fun a z => .inl z)⟩ hn, SP.F.setN ⟨v, rfl, h.1⟩ hn, SP.p, SP.nd⟩
            exact ih SP2 (h.2.to ow fun r hr z => (nls (by exact nl) r hr z).elim) nl nd sub e
          · cases e
        | own c =>
          cases Pl with
          | nil => exact h.elim
          | cons p Pl =>
            have e : (if wrOk s[i]? = true then vStore is rs (s.set i (.own c)) else none) = some s' := e
            split at e
            · rename_i hw
              obtain ⟨rfl, C, h2⟩ := h
              have hpP := sub p List.mem_cons_self
              have np : p ∉ P.erase p := fun z => (List.Nodup.mem_erase_iff SP.nd).mp z |>.1 rfl
              have wsE : ∀ a, O.ws P a ↔ (O.ws (P.erase p)).with p a := fun a => by
                show (O a ∨ a ∈ P) ↔ ((O a ∨ a ∈ P.erase p) ∨ a = p)
                rw [List.Nodup.mem_erase_iff SP.nd]
                by_cases ha : a = p
                · subst ha; exact ⟨fun _ => .inr rfl, fun _ => .inr hpP⟩
                · exact ⟨fun z => .inl (z.imp id fun z => ⟨ha, z⟩), fun z => z.elim (fun z => z.imp id And.right) fun z => absurd z ha⟩
              have F1 : FR K ((O.ws (P.erase p)).with p) s σ H := SP.F.sub fun a z => (wsE a).mpr z
              have nO : ¬ O.ws (P.erase p) p := fun z => z.elim (SP.p p hpP).2 np
              have F2 := F1.setOwn nO (C.sub (av_mono fun a z => (wsE a).mpr z)) (wr_lt hw)
              have ow : ∀ a, Av (O.ws (P.erase p)) (s.set i (.own c)) (σ.set i (some (.ref p))) a → Av (O.ws P) s σ a := fun a z => by
                rcases z with z | ⟨j, z⟩
                · exact .inl (z.imp id fun z => List.mem_of_mem_erase z)
                · rcases z.set with ⟨_, ez, _⟩ | ⟨_, z⟩
                  · cases ez; exact .inl (.inr hpP)
                  · exact .inr ⟨j, z⟩
              have S2 : Step K O st σ0 H0 (s.set i (.own c)) (σ.set i (some (.ref p))) H := by
                refine ⟨F2.sub fun a z => .inl z, SP.S.keep, fun a ⟨j, z⟩ => ?_, fun a ⟨j, z⟩ => ?_, SP.S.dom, List.length_set.trans SP.S.len, fun j c0 z => ?_, fun j c0 z => ?_⟩
                · rcases z.set with ⟨_, ez, _⟩ | ⟨_, z⟩
                  · cases ez; exact (SP.p p hpP).1.imp MutO.own id
                  · exact SP.S.new a ⟨j, z⟩
                · rcases z.set with ⟨_, ez, _⟩ | ⟨_, z⟩
                  · cases ez; exact (SP.p p hpP).1
                  · exact SP.S.mnew a ⟨j, z⟩
                · obtain ⟨⟨c', h'⟩, e⟩ := SP.S.io j c0 z
                  obtain ⟨a, b⟩ := wr_io (sv := .own c) hw h'
                  exact ⟨⟨c', a⟩, by rw [List.getElem?_set_ne (Ne.symm b)]; exact e⟩
                · obtain ⟨h', e⟩ := SP.S.lk j c0 z
                  obtain ⟨a, b⟩ := wr_lk (sv := .own c) hw h'
                  exact ⟨a, by rw [List.getElem?_set_ne (Ne.symm b)]; exact e⟩
              have SP2 : StepP K O (P.erase p) st σ0 H0 (s.set i (.own c)) (σ.set i (some (.ref p))) H := ⟨S2, F2, fun a ha => SP.p a (List.mem_of_mem_erase ha), SP.nd.erase p⟩
              have nd1 := List.nodup_cons.mp nd
              exact ih SP2 (h2.to ow fun r hr z => (nls (by exact nl) r hr z).elim) nl nd1.2 (fun q hq => (List.Nodup.mem_erase_iff SP.nd).mpr ⟨fun z => nd1.1 (z ▸ hq), sub q (List.mem_cons_of_mem _ hq)⟩) e
            · cases e
/-- arguments that keep their lists -/
def tVP (K : PySem.W.Frag) (mg : Str → Option Value) (W : WX) (f : VM (List EV)) : TA := fun σ H Q =>
  ∃ O st, FR K O st σ H ∧ VRun K mg W O st σ H (f st) fun rs s => ∀ vs H' P, StepP K O P st σ H s σ H' → PR K (O.ws P) s σ H' P vs rs → Q vs H'
def vPc (f : VM EV) (fs : VM (List EV)) : VM (List EV) := vb f fun r => vb fs fun rs => vr (r :: rs)
end
abbrev VP (X : Cx) (W : WX) (es : List Expr) (f : VM (List EV)) : Prop := PA X es (tVP X.K X.mg W f)
section
variable {K : PySem.W.Frag} {mg : Str → Option Value} {W : WX} {O O' : AS} {P Pl : List Addr} {st s s1 s2 : VS} {σ σ0 σ1 : L2.St} {H H0 H1 H2 : Hp} {v : V} {r : EV} {vs : List V} {rs : List EV}
/-- one result more -/
theorem PR.cons (S1 : Step K O st σ H s1 σ H1) (E1 : ER K O H s1 σ H1 v r) : ∃ P1 : List Addr, FR K (O.ws P1) s1 σ H1 ∧ ∀ P' vs rs s2 H2, StepP K (O.ws P1) P' s1 σ H1 s2 σ H2 → PR K ((O.ws P1).ws P') s2 σ H2 P' vs rs →
    StepP K O (P1 ++ P') st σ H s2 σ H2 ∧ PR K (O.ws (P1 ++ P')) s2 σ H2 (P1 ++ P') (v :: vs) (r :: rs) := by
  have w2 : ∀ {P1 P' : List Addr} a, O.ws (P1 ++ P') a ↔ (O.ws P1).ws P' a := fun {P1 P'} a => by
    show (O a ∨ a ∈ P1 ++ P') ↔ ((O a ∨ a ∈ P1) ∨ a ∈ P')
    rw [List.mem_append, or_assoc]
  have stp : ∀ {P1 : List Addr}, (∀ p ∈ P1, H p = none ∧ ¬ O p) → P1.Nodup → ∀ {P' : List Addr} {s2 : VS} {H2 : Hp}, StepP K (O.ws P1) P' s1 σ H1 s2 σ H2 → StepP K O (P1 ++ P') st σ H s2 σ H2 := fun {P1} h1 nd1 {P' s2 H2} SP => by
    refine ⟨S1.trans (SP.S.sub fun a z => .inl z), SP.F.sub fun a z => (w2 a).mp z, fun a ha => ?_, List.nodup_append.mpr ⟨nd1, SP.nd, fun a ha b hb e => (SP.p b hb).2 (.inr (e ▸ ha))⟩⟩
    rcases List.mem_append.mp ha with ha | ha
    · exact ⟨.inr (h1 a ha).1, (h1 a ha).2⟩
    · obtain ⟨q, n⟩ := SP.p a ha
      exact ⟨q.elim (S1.mnew a) fun q => .inr (S1.dom a q), fun z => n (.inl z)⟩
  have avb : ∀ {P1 P' : List Addr} {s2 : VS} {H2 : Hp}, StepP K (O.ws P1) P' s1 σ H1 s2 σ H2 → ∀ a, Av (O.ws (P1 ++ P')) s2 σ a → Av (O.ws P1) s1 σ a ∨ H1 a = none := fun {P1 P' s2 H2} SP a z => by
    rcases z with z | z
    · rcases (w2 a).mp z with z | z
      · exact .inl (.inl z)
      · rcases (SP.p a z).1 with q | q
        · exact .inl (.inr q.own)
        · exact .inr q
    · exact (SP.S.new a z).imp .inr id
  cases r with
  | d x =>
    refine ⟨[], S1.fr.sub fun a z => z.elim id fun z => (by cases z), fun P' vs rs s2 H2 SP h => ⟨stp (fun _ h => by cases h) List.nodup_nil SP, ?_, h.to (av_mono fun a z => (w2 a).mp z) fun _ _ _ => rfl⟩⟩
    exact Rp.mono (fun a z => (avb SP a z).imp (av_mono (fun a z => z.elim id fun z => (by cases z)) a) id) (fun a o e n => SP.S.keep a o e fun z => n (.inr z.own)) _ _ E1
  | own c =>
    obtain ⟨p, rfl, hp, n, F, C⟩ := E1
    have e1 : ∀ a, O.ws [p] a → O.with p a := fun a z => z.imp id fun z => by simpa using z
    refine ⟨[p], F.sub e1, fun P' vs rs s2 H2 SP h => ⟨stp (fun q hq => by rw [List.mem_singleton.mp hq]; exact ⟨hp, n⟩) (by simp) SP, rfl, ?_, h.to (av_mono fun a z => (w2 a).mp z) fun _ _ _ => rfl⟩⟩
    have hpm : ¬ MutO s1 σ p := fun z => F.avoid p z.own (.inr rfl)
    refine C.mono (fun a z => (avb SP a z).imp (av_mono e1 a) id) (fun a o e n => SP.S.keep a o e fun z => n (.inr z.own)) ?_
    cases e : H1 p with
    | none => exact absurd e C.there
    | some o => exact SP.S.keep p o e hpm
  | loan j =>
    refine ⟨[], S1.fr.sub fun a z => z.elim id fun z => (by cases z), fun P' vs rs s2 H2 SP h => ⟨stp (fun _ h => by cases h) List.nodup_nil SP, ?_⟩⟩
    have h2 : PR K (O.ws ([] ++ P')) s2 σ H2 ([] ++ P') vs rs := h.to (av_mono fun a z => (w2 a).mp z) fun _ _ _ => rfl
    have E1 : σ[j]? = some (some v) := E1
    rw [List.nil_append] at h2 ⊢
    cases P' <;> exact ⟨E1, h2⟩
end
section
variable {X : Cx} {W : WX} {a b c e : Expr} {es : List Expr} {pos : Pos} {fe : VM EV} {fs : VM (List EV)}
theorem vp_nil : VP X W [] (vr []) := PA.wk pa_nil fun σ H Q ⟨O, st, F, h⟩ => h [] H [] ⟨Step.refl F, F.sub fun a z => z.elim id fun z => (by cases z), fun _ h => (by cases h), List.nodup_nil⟩ rfl
theorem vp_cons (ha : VE X W e fe) (hr : VP X W es fs) (hs : starEach (e :: es) X.env = (false, eval e X.env) :: starEach es X.env := by rfl) : VP X W (e :: es) (vPc fe fs) := by
  refine PA.wk (pa_cons ha hr hs) fun σ H Q h => ?_
  obtain ⟨O, st, F, h⟩ := h
  refine tV.bind F h fun r s1 v H1 S1 E1 h => ?_
  obtain ⟨P1, F1, g⟩ := PR.cons S1 E1
  refine ⟨O.ws P1, s1, F1, ((vrun_vb h).more fun a z => .inl z).mono fun rs s2 q vs H2 P' SP h2 => ?_⟩
  obtain ⟨a1, a2⟩ := g P' vs rs s2 H2 SP h2
  exact q (v :: vs) H2 _ a1 a2
def vPar (is : List Nat) (fs : VM (List EV)) : VM Ctl := vb fs fun rs => fun s => match vRelease rs s with
  | some (rs', s2) => match vStore is rs' s2 with
    | some s3 => .ok (.nx, s3)
    | none => .error .stuck
  | none => .error .stuck
theorem vPar_ok {K : PySem.W.Frag} {mg : Str → Option Value} {O : AS} {P : List Addr} {st s : VS} {σ σ0 : L2.St} {H H0 : Hp} {vs : List V} {rs : List EV} {is : List Nat} {D : Ends} (SP : StepP K O P st σ0 H0 s σ H) (h : PR K (O.ws P) s σ H P vs rs)
    {O9 : AS} {st9 : VS} {σ9 : L2.St} {H9 : Hp} (g : VRun K mg W O9 st9 σ9 H9 ((fun s => match vRelease rs s with
      | some (rs', s2) => match vStore is rs' s2 with
        | some s3 => .ok (.nx, s3)
        | none => .error .stuck
      | none => .error .stuck : VM Ctl) s) (CtlK K O st σ0 H0 D)) : vs.length = is.length ∧ D.nx (setσ is vs σ) H := by
  dsimp only at g
  cases e : vRelease rs s with
  | none => rw [e] at g; exact g.elim
  | some q =>
    obtain ⟨rs', s2⟩ := q
    rw [e] at g
    dsimp only at g
    cases e2 : vStore is rs' s2 with
    | none => rw [e2] at g; exact g.elim
    | some s3 =>
      rw [e2] at g
      obtain ⟨P', Pl', SP', h', nl, nd', sub', _⟩ := rel_ok (rs' := rs') (s' := s2) SP h SP.nd (fun q h => h) e
      refine ⟨?_, g _ _ (store_ok SP' h' nl nd' sub' e2)⟩
      have len : ∀ {is : List Nat} {rs : List EV} {s s3 : VS}, vStore is rs s = some s3 → rs.length = is.length := fun {is} => by
        induction is with
        | nil => intro rs s s3 h; cases rs with
          | nil => rfl
          | cons r rs => cases h
        | cons i is ih =>
          intro rs s s3 h
          cases rs with
          | nil => cases h
          | cons r rs =>
            cases r with
            | d x =>
              have h : (if wrOk s[i]? = true then vStore is rs (s.set i (.d x)) else none) = some s3 := h
              split at h
              · rw [List.length_cons, List.length_cons, ih h]
              · cases h
            | own x =>
              have h : (if wrOk s[i]? = true then vStore is rs (s.set i (.own x)) else none) = some s3 := h
              split at h
              · rw [List.length_cons, List.length_cons, ih h]
              · cases h
            | loan x => cases h
      rw [h'.len, len e2]
theorem vs_par2 {i j : Nat} {x y : Str} {px py pt : Pos} {kt k2 pt2} (hc : X.calm = true) (hN : X.N.Nodup) (hi : X.N[i]? = some x) (hj : X.N[j]? = some y) (hij : i ≠ j)
    (hx : X.env.scope.names.lookup x = some .local) (hy : X.env.scope.names.lookup y = some .local) (ha : VP X W [a, b] fs)
    (hw : swappedStores [.Tuple [.Name x px, .Name y py] kt pt] (.Tuple [a, b] k2 pt2) X.env = pure (some [x, y]))
    (hs : swapsWithSole [.Tuple [.Name x px, .Name y py] kt pt] (.Tuple [a, b] k2 pt2) pos.line X.env = pure false := by rfl) :
    VSt X W (.Assign [.Tuple [.Name x px, .Name y py] kt pt] (.Tuple [a, b] k2 pt2) pos) (vPar [i, j] fs) := by
  refine PS.wk (ps_par hc hN hi hj hij hx hy ha hw hs) fun D σ H h => ?_
  obtain ⟨O, st, F, h⟩ := h
  refine ⟨O, st, F, (vrun_vb h).mono fun rs s q vs H1 P SP hp => ?_⟩
  obtain ⟨hl, hn⟩ := vPar_ok SP hp q
  match vs, hl, hn with
  | [v, w], _, hn => exact ⟨v, w, rfl, hn⟩
theorem vs_setM {i : Nat} {x : Str} {pos' : Pos} (hN : X.N.Nodup) (hi : X.N[i]? = some x) (hx : Loc X.env.scope x) (he : VE X W e fe) (hs : swapsWith e (some (.Name x pos')) pos.line X.env = pure false := by rfl) (hf : X.fn x = true ∨ X.env.scope.names.lookup x = some .local := by first | exact .inl rfl | exact .inr rfl | assumption) :
    VSt X W (.Assign [.Name x pos'] e pos) (vPar [i] (vPc fe (vr []))) := by
  refine PS.wk (ps_set hN hi hx he hs hf) fun D σ H h => ?_
  obtain ⟨O, st, F, h⟩ := h
  have h : VRun X.K X.mg W O st σ H (vb fe (fun r => fun s => match vRelease [r] s with
      | some (rs', s2) => match vStore [i] rs' s2 with
        | some s3 => .ok (.nx, s3)
        | none => .error .stuck
      | none => .error .stuck) st) (CtlK X.K O st σ H D) := by
    have : vPar [i] (vPc fe (vr [])) = vb fe (fun r => fun s => match vRelease [r] s with
      | some (rs', s2) => match vStore [i] rs' s2 with
        | some s3 => .ok (.nx, s3)
        | none => .error .stuck
      | none => .error .stuck) := by
      funext s
      show vb (vb fe fun r => vb (vr []) fun rs => vr (r :: rs)) _ s = _
      unfold vb
      cases fe s with
      | ok p => rfl
      | error er => rfl
    rw [this] at h; exact h
  refine tV.bind F h fun r s1 v H1 S1 E1 h => ?_
  obtain ⟨P1, F1, g⟩ := PR.cons S1 E1
  obtain ⟨a1, a2⟩ := g [] [] [] s1 H1 ⟨Step.refl F1, F1.sub fun a z => z.elim id fun z => (by cases z), fun _ h => (by cases h), List.nodup_nil⟩ rfl
  have hP : P1 ++ [] = P1 := List.append_nil _
  rw [hP] at a1 a2
  exact (vPar_ok (is := [i]) a1 a2 h).2
end
end VL
set_option Elab.async false
set_option linter.all false
set_option maxRecDepth 100000
namespace VL
open PySem PySem.Spec PyProof.Rows L2 HT
/-! ### t[::-1] -/
section
variable {prog : Program} {w : World} {A : Around} {E : Value → Shared → Prop} {s : Shared}
theorem pick_rev (xs : Array Value) : ((List.range xs.size).filterMap fun (m : Nat) => xs[((xs.size : Int) - 1 + (m : Int) * (-1)).toNat]?) = xs.toList.reverse := by
  have h : ∀ m, m < xs.size → xs[((xs.size : Int) - 1 + (m : Int) * (-1)).toNat]? = xs.toList.reverse[m]? := fun m hm => by
    have e : ((xs.size : Int) - 1 + (m : Int) * (-1)).toNat = xs.size - 1 - m := by omega
    rw [e, List.getElem?_reverse (by simpa using hm), Array.length_toList, Array.getElem?_toList]
  have h2 : (List.range xs.size).filterMap (fun (m : Nat) => xs[((xs.size : Int) - 1 + (m : Int) * (-1)).toNat]?) = (List.range xs.size).filterMap (fun m => xs.toList.reverse[m]?) := by
    have g : ∀ (l : List Nat), (∀ m ∈ l, m < xs.size) → l.filterMap (fun (m : Nat) => xs[((xs.size : Int) - 1 + (m : Int) * (-1)).toNat]?) = l.filterMap (fun m => xs.toList.reverse[m]?) := by
      intro l
      induction l with
      | nil => intro _; rfl
      | cons m l ih =>
        intro hl
        rw [List.filterMap_cons, List.filterMap_cons, h m (hl m List.mem_cons_self), ih fun k hk => hl k (List.mem_cons_of_mem _ hk)]
    exact g _ fun m hm => List.mem_range.mp hm
  rw [h2]
  have h3 : ∀ (l : List Value), (List.range l.length).filterMap (fun m => l[m]?) = l := by
    intro l
    induction l with
    | nil => rfl
    | cons x l ih =>
      rw [List.length_cons, List.range_succ_eq_map, List.filterMap_cons]
      simp only [List.getElem?_cons_zero]
      rw [List.filterMap_map]
      congr 1
  have h4 := h3 xs.toList.reverse
  rw [List.length_reverse, Array.length_toList] at h4
  exact h4
theorem getItem_tuple_rev {t sl : Addr} {items : Array Value} {vs : Value} {Q : Value → Shared → Prop} (ht : IsTup s.heap t items) (hs : s.heap.IsSliceOf sl .none .none vs) (ps : IsPart vs (some (-1)))
    (h : Q (.ref s.heap.objs.size) { s with heap := s.heap.push { cls := .type "tuple", data := .seq items.toList.reverse.toArray } }) (hsz : items.size ≤ sizeLine) : wpAny (model prog w) A (getItem (.ref t) (.ref sl)) Q E s := by
  have htake : sizeOk (.seq items.toList.reverse.toArray) := by
    show items.toList.reverse.toArray.size ≤ sizeLine
    rw [List.size_toArray, List.length_reverse, Array.length_toList]; exact hsz
  obtain ⟨os, hos, hcs, hds⟩ := id hs
  have hTs : s.TypeIs (.ref sl) "slice" := ⟨os, hos, hcs⟩
  unfold getItem
  try with_reducible refine wpAny_holding ?_
  first | refine wpAny_bind (wpAny_pure ?_) | skip
  refine wpAny_bind (wpAny_sequenceKey ht.typeIs (by decide) ?_)
  refine wpAny_bind (wpAny_callSpecial?_slot (name := Str.ofString "__getitem__") ht.typeIs PyProof.Rows.slot_tuple_getitem
    (wpAny_call_entry PyProof.Rows.slot_tuple_getitem ht.typeIs entry_tuple_getitem ?_ (args_tuple_getitem _ _)))
  show wpAny _ _ (Builtin.Tuple.tupleItemsOf (.ref t) >>= _) _ _ s
  refine wpAny_bind (tupleItemsOf_ ht ?_)
  refine wpAny_bind (wpAny_typeOf hTs ?_)
  rw [if_pos (by decide)]
  refine wpAny_bind ?_
  unfold Builtin.Slice.sliceApplied Builtin.Slice.sliceFields
  refine wpAny_bind (wpAny_bind (wpAny_field hos hds (x := .none) rfl (wpAny_bind (wpAny_field hos hds (x := .none) rfl (wpAny_bind (wpAny_field hos hds (x := vs) rfl (wpAny_pure ?_)))))))
  refine wpAny_bind (slicePart_ ps ?_)
  show wpAny _ _ (if ((-1 : Int) == 0) = true then _ else _) _ _ s
  rw [if_neg (by decide)]
  refine wpAny_bind (slicePart_none (wpAny_bind (slicePart_none (wpAny_bind (wpAny_pure ?_)))))
  have ad : Builtin.Slice.sliceAdjust none none (-1) (items.size : Int) = ((items.size : Int) - 1, -1) := by
    unfold Builtin.Slice.sliceAdjust
    have : ((-1 : Int) < 0) := by omega
    simp only [this, if_true]
  have pl : Builtin.Slice.slicePlaces ((items.size : Int) - 1) (-1) (-1) = items.size := by
    unfold Builtin.Slice.slicePlaces
    have h1 : ¬ ((-1 : Int) > 0) := by omega
    simp only [h1, if_false]
    by_cases h2 : (items.size : Int) - 1 > -1
    · rw [if_pos h2]
      have : ((items.size : Int) - 1 - -1 - 1) / -(-1) + 1 = (items.size : Int) := by
        have : (-(-1 : Int)) = 1 := by omega
        rw [this, Int.ediv_one]; omega
      rw [this]; simp
    · rw [if_neg h2]; omega
  show wpAny _ _ (match Builtin.Slice.sliceAdjust none none (-1) (items.size : Int) with | (lo, hi) => pure (lo, (-1 : Int), Builtin.Slice.slicePlaces lo hi (-1))) _ _ s
  rw [ad]
  show wpAny _ _ (pure ((items.size : Int) - 1, (-1 : Int), Builtin.Slice.slicePlaces ((items.size : Int) - 1) (-1) (-1))) _ _ s
  rw [pl]
  refine wpAny_pure ?_
  have hno : ¬ ((((items.size : Int) - 1) == 0 && (-1 : Int) == 1 && items.size == items.size) = true) := by
    intro q
    rw [Bool.and_eq_true, Bool.and_eq_true] at q
    exact absurd q.1.2 (by decide)
  show wpAny _ _ (if (((items.size : Int) - 1) == 0 && (-1 : Int) == 1 && items.size == items.size) = true then _ else _) _ _ s
  rw [if_neg hno, pick_rev]
  first
    | exact wpAny_bind (m := Builtin.Tuple.tupleExact _) (wpAny_newObj_type (wpAny_pure ⟨_, rfl, wpAny_pure h⟩) htake)
    | exact wpAny_bind (m := Builtin.Tuple.tupleExact _) (wpAny_newObj_type (wpAny_bind (wpAny_pure (wpAny_pure ⟨_, rfl, wpAny_pure h⟩))) htake)
    | exact wpAny_bind (wpAny_bind (m := Builtin.Tuple.tupleExact _) (wpAny_newObj_type (wpAny_pure (wpAny_pure ⟨_, rfl, wpAny_pure h⟩)) htake))
    | exact wpAny_bind (wpAny_bind (m := Builtin.Tuple.tupleExact _) (wpAny_newObj_type (wpAny_pure ⟨_, rfl, wpAny_pure h⟩) htake))
end
/-- x[::-1], x a list or a tuple -/
def tRevA (K : PySem.W.Frag) (te : TE) : TE := fun σ H Q => te σ H fun x H1 => ∃ a xs, x = .ref a ∧ ((SqL K H1 a xs ∧ ∀ p, H1 p = none → Q (.ref p) (upd H1 p (.lst xs.reverse))) ∨ (SqT K H1 a xs ∧ ∀ p, H1 p = none → Q (.ref p) (upd H1 p (.tup xs.reverse))))
section
variable {X : Cx} {W : WX} {a b c d e : Expr} {es : List Expr} {pos : Pos} {fa fb fe : VM EV} {fs : VM (List EV)}
theorem pe_revA {e : Expr} {te : TE} {k : Nat} {p1 p2 p3 pos : Pos} (he : PE X e te) : PE X (.Subscript e (.Slice none none (some (.UnaryOp .USub (.Constant (.int 1) k p1) p2)) p3) pos) (tRevA X.K te) := by
  refine ⟨fun pins s σ H Q I h => ?_⟩
  refine Subscript_ (thn (he.run pins s σ H _ I h) fun v s1 ⟨x, H1, I1, r1, q1⟩ => ?_)
  obtain ⟨a, xs, ex, hx⟩ := q1
  subst ex
  cases r1
  have hst : PO X (some (.UnaryOp .USub (.Constant (.int 1) k p1) p2)) (tPart (tUn (rU fun i => .int (-i)) (tC (.int 1)))) := po_some (pe_un un_neg pe_int)
  refine wpAny_Slice (thn (po_none.run pins s1 σ H1 (fun o H2 => o = none ∧ H2 = H1) I1 ⟨rfl, rfl⟩) fun vl s2 ⟨l, H2, I2, pl, el, e2⟩ => ?_)
  subst el e2
  refine thn (po_none.run pins s2 σ H2 (fun o H3 => o = none ∧ H3 = H2) I2 ⟨rfl, rfl⟩) fun vu s3 ⟨u, H3, I3, pu, eu, e3⟩ => ?_
  subst eu e3
  refine thn (hst.run pins s3 σ H3 (fun o H4 => o = some (-1) ∧ H4 = H3) I3 ⟨1, rfl, -1, rfl, rfl, rfl⟩) fun vs s4 ⟨o, H4, I4, ps, eo, e4⟩ => ?_
  subst eo e4
  have I5 : Inv X pins σ H4 { s4 with heap := s4.heap.push { cls := .type "slice", data := .fields #[vl, vu, vs] } } := I4.kept (t' := s4.toks) fun b ob q => Heap.get?_push_of_some _ q
  show wpAny (model X.prog X.w) X.A (subscriptTail e (.Slice none none (some (.UnaryOp .USub (.Constant (.int 1) k p1) p2)) p3) (.ref a) (.ref s4.heap.objs.size)) (EP X pins σ Q) X.xe { s4 with heap := s4.heap.push { cls := .type "slice", data := .fields #[vl, vu, vs] } }
  rcases hx with ⟨hx, q⟩ | ⟨hx, q⟩
  · obtain ⟨its, r, ht, hz⟩ := I5.list hx
    have hlen := r.length
    refine tail_any (ops := [.ref a, .ref s4.heap.objs.size]) ht.isList.typeIs (PySem.slot_list_getitem.lookup) ?_ (by with_unfolding_all rfl)
    refine wpAny_getItem_list_slice ht.isList (Heap.IsSliceOf.new _ vl vu vs) pl pu ps (by decide) ?_ (by rw [List.size_toArray]; omega)
    rw [PySem.W.krv_pick]
    refine ⟨.ref _, _, I5.laid (t' := s4.toks) (o := .lst xs.reverse) (fun b ob q => Heap.get?_push_of_some _ q) (Nat.le_refl _) ?_, rfl, q _ (I5.hok.fresh (Nat.le_refl _))⟩
    exact ⟨by rw [List.length_reverse]; exact hz, _, 0, r.reverse, Heap.get?_push_size _ rfl⟩
  · obtain ⟨its, r, ht, hz⟩ := I5.tuple hx
    have hlen := r.length
    refine tail_any (ops := [.ref a, .ref s4.heap.objs.size]) ht.typeIs PyProof.Rows.slot_tuple_getitem.lookup ?_ (by with_unfolding_all rfl)
    cases pl
    cases pu
    refine getItem_tuple_rev ht (Heap.IsSliceOf.new _ .none .none vs) ps ?_ (by rw [List.size_toArray]; omega)
    refine ⟨.ref _, _, I5.laid (t' := s4.toks) (o := .tup xs.reverse) (fun b ob q => Heap.get?_push_of_some _ q) (Nat.le_refl _) ?_, rfl, q _ (I5.hok.fresh (Nat.le_refl _))⟩
    exact ⟨by rw [List.length_reverse]; exact hz, _, r.reverse, IsTup.new _ _⟩
def revD : Da → Option EV
  | .list xs => some (.own (.l xs.reverse))
  | .tuple xs => some (.d (.tuple xs.reverse))
  | _ => none
theorem ve_rev {k : Nat} {p1 p2 p3 pos : Pos} (he : VE X W e fe) : VE X W (.Subscript e (.Slice none none (some (.UnaryOp .USub (.Constant (.int 1) k p1) p2)) p3) pos) (vUn revD fe) := by
  refine PE.wk (pe_revA he) fun σ H Q h => ?_
  obtain ⟨O, st, F, h⟩ := h
  refine tV.bind F h fun ra s1 v H1 S1 E1 h => ?_
  obtain ⟨x, Rx, h⟩ := h.rd S1.fr E1
  obtain ⟨z, ez, h⟩ := h.opt1
  cases x with
  | list xs =>
    cases ez
    obtain ⟨a, vs, rfl, g, r⟩ := Rx.list
    exact ⟨a, vs, rfl, .inl ⟨.of g, fun p hp => h _ _ (S1.trans (Step.ext S1.fr (Same.upd hp))) ((NR.er S1.fr (Same.upd hp) (NR.lst r.reverse hp)).back S1.dom)⟩⟩
  | tuple xs =>
    cases ez
    obtain ⟨a, vs, rfl, g, r⟩ := Rx.tupT
    exact ⟨a, vs, rfl, .inr ⟨g, fun p hp => h _ _ (S1.trans (Step.ext S1.fr (Same.upd hp))) ((NR.er S1.fr (Same.upd hp) (NR.tup S1.fr.avdom r.reverse hp)).back S1.dom)⟩⟩
  | _ => cases ez
/-! three at once; name = [..] -/
theorem vs_par3 {i j l : Nat} {x y z : Str} {px py pz pt pos : Pos} {kt k2 pt2} (hc : X.calm = true) (hN : X.N.Nodup) (hi : X.N[i]? = some x) (hj : X.N[j]? = some y) (hl : X.N[l]? = some z) (hij : i ≠ j) (hil : i ≠ l) (hjl : j ≠ l)
    (hx : X.env.scope.names.lookup x = some .local) (hy : X.env.scope.names.lookup y = some .local) (hz : X.env.scope.names.lookup z = some .local) (ha : VP X W [a, b, c] fs)
    (hw : swappedStores [.Tuple [.Name x px, .Name y py, .Name z pz] kt pt] (.Tuple [a, b, c] k2 pt2) X.env = pure (some [x, y, z]))
    (hs : swapsWithSole [.Tuple [.Name x px, .Name y py, .Name z pz] kt pt] (.Tuple [a, b, c] k2 pt2) pos.line X.env = pure false := by rfl) :
    VSt X W (.Assign [.Tuple [.Name x px, .Name y py, .Name z pz] kt pt] (.Tuple [a, b, c] k2 pt2) pos) (vPar [i, j, l] fs) := by
  refine PS.wk (ps_par3 hc hN hi hj hl hij hil hjl hx hy hz ha hw hs) fun D σ H h => ?_
  obtain ⟨O, st, F, h⟩ := h
  refine ⟨O, st, F, (vrun_vb h).mono fun rs s q vs H1 P SP hp => ?_⟩
  obtain ⟨hl, hn⟩ := vPar_ok SP hp q
  match vs, hl, hn with
  | [v, w, u], _, hn => exact ⟨v, w, u, rfl, hn⟩
theorem vs_setLc {i k : Nat} {y : Str} {py pos spos : Pos} {elt tg iter : Expr} {ifs : List Expr} {scope : Scope} {own : List (Str × Nat)} {fi : VM (List Da × Lks)} {f : Da → VM Unit} {tt : VM Bool} {te : VM EV} (c : VC X W k) (hy : X.N[i]? = some y) (hyl : X.env.scope.names.lookup y = some .local)
    (hsw : swapsWith (.ListComp elt [⟨tg, iter, ifs, 0⟩] scope pos) (some (.Name y py)) spos.line X.env = pure true) (hi : VI X W tg iter fi) (ok : BlkOk X.N X.env.scope scope own)
    (hg : ∀ (s : Shared) (H : Hp) (C : Addr) (cl : List (Str × Addr)) (fp : List Addr), VGD (X.blk s H scope (compEnvC scope cl C X.env) fp) (own.map (·.2)) tg f)
    (ht : ∀ (s : Shared) (H : Hp) (C : Addr) (cl : List (Str × Addr)) (fp : List Addr), VC (X.blk s H scope (compEnvC scope cl C X.env) fp) W0 k → VTs (X.blk s H scope (compEnvC scope cl C X.env) fp) W0 ifs tt)
    (he : ∀ (s : Shared) (H : Hp) (C : Addr) (cl : List (Str × Addr)) (fp : List Addr), VC (X.blk s H scope (compEnvC scope cl C X.env) fp) W0 k → VE (X.blk s H scope (compEnvC scope cl C X.env) fp) W0 elt te) (hs : ∀ x, foldedSetIterable iter X.env x = pure x := by intro _; rfl) :
    VSt X W (.Assign [.Name y py] (.ListComp elt [⟨tg, iter, ifs, 0⟩] scope pos) spos) (vAsg (vLc (own.map (·.2)) fi f tt te) (vSet i)) := by
  have cb : ∀ (s : Shared) (H : Hp) (C : Addr) (cl : List (Str × Addr)) (fp : List Addr), VC (X.blk s H scope (compEnvC scope cl C X.env) fp) W0 k := fun s H C cl fp => ⟨c.calm, c.nd, takes0, c.rm⟩
  refine PS.wk (ps_setLc (wi := tVI X.K X.mg W fi) (g := gVD X.K (own.map (·.2)) f) (tt := tVT X.K X.mg W0 tt) (te := tV X.K X.mg W0 te) c.calm c.nd hy hyl hsw hi ok hg (fun s H C cl fp => ht s H C cl fp (cb s H C cl fp)) (fun s H C cl fp => he s H C cl fp (cb s H C cl fp)) hs) fun D σ H h => ?_
  have h2 := asg_wk h
  exact lc_wk (h2.imp fun O ⟨st, F, q⟩ => ⟨st, F, q.mono fun r s z v H' S E => (z v H' S E).name⟩)
end
end VL
set_option Elab.async false
set_option linter.all false
set_option maxRecDepth 100000
namespace VL
open PySem PySem.Spec PyProof.Rows L2
/-! ### the law's end -/
theorem walk_v {l : PySem.W.OpenLaw} {n k : Nat} {q : Program} {loose : List Str} {XP : (Str → Option Value) → Heap → Prop} {YP : World → Heap → Prop} {d : DefRec} {x : Str}
    (hn : l.most = some n) (hn2 : n ≤ sizeLine) (hdf : d.params.defaults = []) (hr : Room k callerA) {m : FM}
    (F : ∀ (w : World) (mg : Str → Option Value) (fa : Addr) (h : Heap), YP w h → h.Ns mainGlobals mg → mg d.name = some (.ref fa) →
      ∃ (K : PySem.W.Frag) (fd : FuncData), K.In h ∧ (∀ (s : Shared) (u : Value), BindsTo s fd ⟨[u], []⟩ [(x, u)]) ∧
        ∀ base : Heap, K.In base → base.Ns mainGlobals mg → FnOk l.prog w K mg base (L2.CX l.prog w) k fa fd [x] (spV K mg 1 m))
    (hm : ∀ ns : List Int, ns.length ≤ n → ∃ st', m [.rd (ns.map PyData.int)] = .ok (.d (.bool true), st')) :
    PySem.W.WalkO q loose XP YP l.row.toRowW d [] (fun f vs => PySem.call f vs) := by
  refine Att.attach_call hn hdf fun w s₀ s₁ mg mb fa o pm cd doc a vs ns G Y ho hd hcd hmg hobj hints hlen hg => ?_
  obtain ⟨K, fd, KX, hb, hF⟩ := F w mg fa _ Y G.T.g hmg
  refine law_call KX G.T.g G.T.b G.T.builtins G.T.nolimit hg hobj hints (Nat.le_trans hlen hn2) hr hF hb (fun H hO hS => ?_) fun H e s' => ?_
  · obtain ⟨st', e⟩ := hm ns hlen
    refine ⟨rfl, fun _ => False, [.rd (ns.map PyData.int)], ⟨rfl, fun i sv h => ?_, fun i j p h => ?_, fun p ⟨i, h⟩ => ?_, fun p h => h.elim⟩, fun i c h => ?_, ?_⟩
    · match i, h with
      | 0, h =>
        cases h
        exact ⟨_, rfl, a, ns.map V.int, rfl, hS.imp (fun r => ⟨r, fun z => z.elim id fun ⟨i, z⟩ => by
          obtain ⟨_, c, z⟩ := z
          match i, z with
          | 0, z => rcases z with z | z | z <;> cases z
          | i + 1, z => simp at z⟩) id, RpL.ofInts ns⟩
      | i + 1, h => simp at h
    · obtain ⟨_, c, z⟩ := h
      match i, z with
      | 0, z => rcases z with z | z | z <;> cases z
      | i + 1, z => simp at z
    · obtain ⟨_, c, z⟩ := h
      match i, z with
      | 0, z => rcases z with z | z | z <;> cases z
      | i + 1, z => simp at z
    · match i, h with
      | 0, h => cases h
      | i + 1, h => simp at h
    · rw [e]
      intro v H' S E
      simpa only [ER, Rp] using E
  · rintro ⟨_, _, _, _, _, _, _, _, _, _, _, _, z⟩
    exact z
end VL
set_option Elab.async false
set_option linter.all false
set_option maxRecDepth 100000
namespace VL
open PySem PySem.Spec PyProof.Rows L2
/-- a def of the top, by its name -/
structure Fx (K : PySem.W.Frag) (mg : Str → Option Value) (x : Str) (st : Stmt) (ps : List Str) (f : Addr) (fd : FuncData) : Prop where
  F : Fun K x x st f fd
  b : Binds K fd ps []
  m : mg x = some (.ref f)
section
variable {X : Cx} {W : WX} {x : Str} {pos : Pos}
theorem ve_gint {i : Int} (hm : ∃ t, X.mg x = some (.int i t)) (hg : Gl X x := by rfl) (hd : (x == ("__debug__" : Str)) = false := by decide) : VE X W (.Name x pos) (vC (.int i)) := by
  obtain ⟨t, hm⟩ := hm
  exact ve_c (v := .int i) (pe_glob hg hm ⟨t, rfl⟩ hd) fun _ _ => by simp only [Rp]
theorem ve_gstr {z : Str} (hm : ∃ t, X.mg x = some (.str z t)) (hg : Gl X x := by rfl) (hd : (x == ("__debug__" : Str)) = false := by decide) : VE X W (.Name x pos) (vC (.str z)) := by
  obtain ⟨t, hm⟩ := hm
  exact ve_c (v := .str z) (pe_glob hg hm ⟨t, rfl⟩ hd) fun _ _ => by simp only [Rp]
end
end VL
set_option Elab.async false
set_option linter.all false
set_option maxRecDepth 100000
namespace VL
open PySem PySem.Spec PyProof.Rows L2
section
variable {K : PySem.W.Frag} {mg : Str → Option Value} {W : WX} {O O' : AS} {P Pl : List Addr} {st s s1 s2 : VS} {σ σ0 σ1 : L2.St} {H H0 H1 H2 : Hp} {v : V} {r : EV} {vs : List V} {rs : List EV}
theorem Cont.ext {p : Addr} {c : OC} (h : Cont K O H p c) (k : Same H H1) : Cont K O H1 p c := by
  refine h.mono (fun _ h => .inl h) (fun a o e _ => k a o e) ?_
  cases e : H p with
  | none => exact absurd e h.there
  | some o => exact k _ _ e
theorem PR.ext (k : Same H H1) (h : PR K O' s σ H Pl vs rs) : PR K O' s σ H1 Pl vs rs := by
  induction rs generalizing vs Pl with
  | nil =>
    cases vs with
    | nil => exact h
    | cons v vs => exact h.elim
  | cons r rs ih =>
    cases vs with
    | nil => cases r <;> exact h.elim
    | cons v vs =>
      cases r with
      | d x => exact ⟨Rp.mono (fun _ h => .inl h) (fun a o e _ => k a o e) _ _ h.1, ih h.2⟩
      | own c =>
        cases Pl with
        | nil => exact h.elim
        | cons p Pl => exact ⟨h.1, h.2.1.ext k, ih h.2.2⟩
      | loan j =>
        have h' : σ[j]? = some (some v) ∧ PR K O' s σ H Pl vs rs := by cases Pl <;> exact h
        have g : σ[j]? = some (some v) ∧ PR K O' s σ H1 Pl vs rs := ⟨h'.1, ih h'.2⟩
        cases Pl <;> exact g
theorem StepP.ext (SP : StepP K O P st σ0 H0 s σ H) (k : Same H H1) : StepP K O P st σ0 H0 s σ H1 :=
  ⟨SP.S.trans (Step.ext SP.S.fr k), SP.F.ext k, SP.p, SP.nd⟩
end
/-- names in their order -/
def gN (is : List Nat) : TGs := fun vs σ H Q => vs.length = is.length ∧ Q (setσ is vs σ) H
section
variable {X : Cx} {W : WX} {a b c e : Expr} {es ts : List Expr} {pos p : Pos} {fe : VM EV} {fs : VM (List EV)} {is : List Nat}
theorem gn_nil : PGs X [] (gN []) := PGs.wk pgs_nil fun vs σ H Q h => by
  obtain ⟨h1, h2⟩ := h
  cases vs with
  | nil => exact ⟨rfl, h2⟩
  | cons v vs => cases h1
theorem gn_cons {i : Nat} {x : Str} {p : Pos} (hN : X.N.Nodup) (hi : X.N[i]? = some x) (hx : Loc X.env.scope x) (h : PGs X ts (gN is)) (hs : (assignEach (.Name x p :: ts) X.env).map (·.2) = assign (.Name x p) X.env :: (assignEach ts X.env).map (·.2) := by rfl) (hf : X.fn x = true ∨ X.env.scope.names.lookup x = some .local := by first | exact .inl rfl | exact .inr rfl | assumption) :
    PGs X (.Name x p :: ts) (gN (i :: is)) := by
  refine PGs.wk (pgs_cons (pg_name hN hi hx hf) h hs) fun vs σ H Q g => ?_
  obtain ⟨h1, h2⟩ := g
  cases vs with
  | nil => cases h1
  | cons v vs => exact ⟨v, vs, rfl, by simpa using h1, h2⟩
theorem vs_parT {kt k2 : Nat} {pt pt2 : Pos} (hc : X.calm = true) (hg : PGs X ts (gN is)) (ha : VP X W es fs) (hl : is.length ≤ 16 := by decide)
    (hn : (assignEach ts X.env).length = is.length := by rfl) (hst : (assignEach ts X.env).findIdx? (·.1) = none := by rfl)
    (hs : swapsWithSole [.Tuple ts kt pt] (.Tuple es k2 pt2) pos.line X.env = pure false := by rfl) (hw : swappedStores [.Tuple ts kt pt] (.Tuple es k2 pt2) X.env = pure none := by rfl)
    (h1 : (assignEach [.Tuple ts kt pt] X.env).map (·.2) = [assign (.Tuple ts kt pt) X.env] := by rfl) : VSt X W (.Assign [.Tuple ts kt pt] (.Tuple es k2 pt2) pos) (vPar is fs) := by
  refine PS.wk (ps_asg (pe_tup ha) (pg_tup hc hg hn hst) hs hw h1) fun D σ H h => ?_
  obtain ⟨O, st, F, h⟩ := h
  refine ⟨O, st, F, (vrun_vb h).mono fun rs s q vs H1 P SP hp => ?_⟩
  have hlen := (vPar_ok (mg := X.mg) (W := W) (D := { D with nx := fun _ _ => True }) (O9 := O) (st9 := st) (σ9 := σ) (H9 := H) SP hp (by
    revert q
    dsimp only
    intro q
    cases e : vRelease rs s with
    | none => rw [e] at q; exact q.elim
    | some q' =>
      obtain ⟨rs', s2⟩ := q'
      rw [e] at q
      dsimp only at q ⊢
      cases e2 : vStore is rs' s2 with
      | none => rw [e2] at q; exact q.elim
      | some s3 => exact fun _ _ _ => trivial)).1
  refine ⟨by rw [hlen, sizeLine_eq]; omega, fun p hp' => ?_⟩
  have k := Same.upd (o := .tup vs) hp'
  refine ⟨p, vs, rfl, .of upd_same, hlen, hlen, ?_⟩
  exact (vPar_ok (D := D) (SP.ext k) (hp.ext k) q).2
end
end VL
set_option Elab.async false
set_option linter.all false
set_option maxRecDepth 100000
namespace VL
open PySem PySem.Spec PyProof.Rows L2
/-! ### quicker mirrors -/
mutual
/-- data without dicts, no deeper than n -/
def shF : Nat → Da → Bool
  | _, .none => true
  | _, .bool _ => true
  | _, .int _ => true
  | _, .str x => PyData.canLay0 (.str x)
  | 0, .list _ => false
  | n + 1, .list xs => shFs n xs
  | 0, .tuple _ => false
  | n + 1, .tuple xs => shFs n xs
  | _, .dict _ => false
def shFs : Nat → List Da → Bool
  | _, [] => true
  | n, x :: xs => shF n x && shFs n xs
end
mutual
theorem shF_ok : ∀ (n : Nat) (d : Da), shF n d = true → d.canLay0 = true ∧ d.depth ≤ n
  | _, .none, _ => ⟨rfl, Nat.zero_le _⟩
  | _, .bool _, _ => ⟨rfl, Nat.zero_le _⟩
  | _, .int _, _ => ⟨rfl, Nat.zero_le _⟩
  | _, .str x, h => by simp only [shF] at h; exact ⟨h, Nat.zero_le _⟩
  | 0, .list _, h => by simp only [shF] at h; cases h
  | n + 1, .list xs, h => by
    simp only [shF] at h
    obtain ⟨a, b⟩ := shFs_ok n xs h
    exact ⟨by simp only [PyData.canLay0]; exact a, by simp only [PyData.depth]; omega⟩
  | 0, .tuple _, h => by simp only [shF] at h; cases h
  | n + 1, .tuple xs, h => by
    simp only [shF] at h
    obtain ⟨a, b⟩ := shFs_ok n xs h
    exact ⟨by simp only [PyData.canLay0]; exact a, by simp only [PyData.depth]; omega⟩
  | _, .dict _, h => by simp only [shF] at h; cases h
theorem shFs_ok : ∀ (n : Nat) (ds : List Da), shFs n ds = true → PyData.canLayAll0 ds = true ∧ PyData.depthAll ds ≤ n
  | n, [], _ => ⟨rfl, by simp only [PyData.depthAll]; exact Nat.zero_le _⟩
  | n, x :: xs, h => by
    simp only [shFs, Bool.and_eq_true] at h
    obtain ⟨a, b⟩ := shF_ok n x h.1
    obtain ⟨c, d⟩ := shFs_ok n xs h.2
    exact ⟨by simp only [PyData.canLayAll0, a, c, Bool.and_self], by simp only [PyData.depthAll]; omega⟩
end
theorem shF_shaped {d : Da} (h : shF 64 d = true) : SeqAt.shaped d = true := by
  obtain ⟨a, b⟩ := shF_ok 64 d h
  unfold SeqAt.shaped
  rw [a, decide_eq_true b]; rfl
theorem Op2.le {X : Cx} {f : Value → Value → Sem Value} {g g' : Da → Da → Option EV} (h : Op2 X f g) (hg : ∀ x y z, g' x y = some z → g x y = some z) : Op2 X f g' := by
  obtain ⟨r, h1, h2⟩ := h
  exact ⟨r, h1, fun O H x y v w z Q hd hx hy e q => h2 O H x y v w z Q hd hx hy (hg x y z e) q⟩
def eqF (x y : Da) : Option EV := match x, y with
  | .int i, .int j => some (.d (.bool (i == j)))
  | x, y => if shF 64 x = true ∧ shF 64 y = true then some (.d (.bool (PyData.eqv x y))) else none
def neF (x y : Da) : Option EV := match x, y with
  | .int i, .int j => some (.d (.bool (!(i == j))))
  | x, y => if shF 64 x = true ∧ shF 64 y = true then some (.d (.bool (!PyData.eqv x y))) else none
theorem o_eqF {X : Cx} (hu : X.A.units + 64 < cLine) : Op2 X (compareOp .Eq) eqF := (o_eq hu).le fun x y z e => by
  unfold eqF at e
  split at e
  · exact e
  · split at e
    · rename_i h
      unfold eqD
      rw [if_pos ⟨shF_shaped h.1, shF_shaped h.2⟩]; exact e
    · cases e
theorem o_neF {X : Cx} (hu : X.A.units + 64 < cLine) : Op2 X (compareOp .NotEq) neF := (o_ne hu).le fun x y z e => by
  unfold neF at e
  split at e
  · exact e
  · split at e
    · rename_i h
      unfold neD
      rw [if_pos ⟨shF_shaped h.1, shF_shaped h.2⟩]; exact e
    · cases e
def inF' (neg : Bool) (x y : Da) : Option EV := (seqD y).bind fun xs => if shF 64 x = true ∧ shFs 63 xs = true then some (.d (.bool (if neg = true then !inB x xs else inB x xs))) else none
def inF : Da → Da → Option EV := inF' false
def notinF : Da → Da → Option EV := inF' true
theorem inF_le {neg : Bool} {x y : Da} {z : EV} (e : inF' neg x y = some z) : inD' neg x y = some z := by
  unfold inF' at e
  unfold inD'
  obtain ⟨xs, e1, e⟩ := Option.bind_eq_some_iff.mp e
  rw [e1]
  split at e
  · rename_i h
    have : shF 64 (.list xs) = true := by simp only [shF]; exact h.2
    show (if _ then _ else _) = _
    rw [if_pos ⟨shF_shaped h.1, shF_shaped this⟩]; exact e
  · cases e
section
variable {X : Cx} {W : WX} {elt tg iter : Expr} {ifs : List Expr} {scope : Scope} {own : List (Str × Nat)} {pos : Pos} {fi : VM (List Da × Lks)} {f : Da → VM Unit} {tt : VM Bool} {te : VM EV}
theorem o_inF {k : Nat} (c : VC X W k) : Op2 X (compareOp .In) inF := (o_in c).le fun _ _ _ => inF_le
theorem o_notinF {k : Nat} (c : VC X W k) : Op2 X (compareOp .NotIn) notinF := (o_notin c).le fun _ _ _ => inF_le
/-! comprehensions -/
def vLcG (ix : List Nat) (gt : Da → VM Unit) (tt : VM Bool) (te : VM EV) : List Da → VM (List Da)
  | [] => vr []
  | x :: xs => vb (gt x) fun _ => vb tt fun b => if b = true then vb te fun r => vb (vOpt (evD r)) fun y => vb (vWipe ix) fun _ => vb (vLcG ix gt tt te xs) fun ys => vr (y :: ys)
      else vb (vWipe ix) fun _ => vLcG ix gt tt te xs
def vLcF (ix : List Nat) (fi : VM (List Da × Lks)) (gt : Da → VM Unit) (tt : VM Bool) (te : VM EV) : VM EV := vb fi fun p => fun s =>
  if ix.all (fun j => flatS s[j]?) = true then
    match vLcG ix gt tt te p.1 (wipeV ix s) with
    | .ok (ys, s2) => if ys.length ≤ 16777216 then .ok (.own (.l ys), unlock p.2 (restV s ix s2)) else .error .stuck
    | .error _ => .error .stuck
  else .error .stuck
def noX {α : Type} : Res α → Option α
  | .ok a => some a
  | .error _ => none
theorem noX_vb {α β : Type} {g : VM α} {h : α → VM β} {s : VS} : noX (vb g h s) = (noX (g s)).bind fun p => noX (h p.1 p.2) := by
  unfold vb
  cases g s with
  | ok p => rfl
  | error e => rfl
theorem lcG_eq (ix : List Nat) (gt : Da → VM Unit) (tt : VM Bool) (te : VM EV) : ∀ (xs acc : List Da) (s : VS), acc.length ≤ 16777216 →
    noX (vLcL ix gt tt te xs acc s) = (noX (vLcG ix gt tt te xs s)).bind fun p => if acc.length + p.1.length ≤ 16777216 then some (acc ++ p.1, p.2) else none
  | [], acc, s, h => by
    show some (acc, s) = (if acc.length + 0 ≤ 16777216 then some (acc ++ [], s) else none)
    rw [Nat.add_zero, if_pos h, List.append_nil]
  | x :: xs, acc, s, h => by
    simp only [vLcL, vLcG, noX_vb]
    cases e1 : noX (gt x s) with
    | none => rfl
    | some p1 =>
      simp only [Option.bind_some]
      cases e2 : noX (tt p1.2) with
      | none => rfl
      | some p2 =>
        simp only [Option.bind_some]
        by_cases hb : p2.1 = true
        · simp only [hb, if_true, noX_vb]
          cases e3 : noX (te p2.2) with
          | none => rfl
          | some p3 =>
            simp only [Option.bind_some]
            cases e4 : noX (vOpt (evD p3.1) p3.2) with
            | none => rfl
            | some p4 =>
              simp only [Option.bind_some]
              by_cases hl : acc.length < 16777216
              · rw [if_pos hl]
                simp only [noX_vb]
                cases e5 : noX (vWipe ix p4.2) with
                | none => rfl
                | some p5 =>
                  simp only [Option.bind_some]
                  rw [lcG_eq ix gt tt te xs (acc ++ [p4.1]) p5.2 (by rw [List.length_append]; show acc.length + 1 ≤ _; omega)]
                  cases noX (vLcG ix gt tt te xs p5.2) with
                  | none => rfl
                  | some p6 =>
                    simp only [Option.bind_some]
                    show _ = (if acc.length + (p4.1 :: p6.1).length ≤ 16777216 then some (acc ++ (p4.1 :: p6.1), p6.2) else none)
                    have e : (acc ++ [p4.1]).length + p6.1.length = acc.length + (p4.1 :: p6.1).length := by simp; omega
                    rw [e, List.append_assoc]; rfl
              · rw [if_neg hl]
                cases e5 : noX (vWipe ix p4.2) with
                | none => rfl
                | some p5 =>
                  simp only [Option.bind_some]
                  cases noX (vLcG ix gt tt te xs p5.2) with
                  | none => rfl
                  | some p6 =>
                    simp only [Option.bind_some]
                    show none = (if acc.length + (p4.1 :: p6.1).length ≤ 16777216 then some (acc ++ (p4.1 :: p6.1), p6.2) else none)
                    rw [if_neg (by rw [List.length_cons]; omega)]
        · simp only [hb, Bool.false_eq_true, if_false, noX_vb]
          cases e5 : noX (vWipe ix p2.2) with
          | none => rfl
          | some p5 =>
            simp only [Option.bind_some]
            exact lcG_eq ix gt tt te xs acc p5.2 h
theorem lc_F (ix : List Nat) (fi : VM (List Da × Lks)) (f : Da → VM Unit) (tt : VM Bool) (te : VM EV) : vLc ix fi f tt te = vLcF ix fi f tt te := by
  funext s
  show vb fi _ s = vb fi _ s
  unfold vb
  cases fi s with
  | error e => rfl
  | ok p =>
    obtain ⟨p, s1⟩ := p
    dsimp only
    by_cases hf : ix.all (fun j => flatS s1[j]?) = true
    · rw [if_pos hf, if_pos hf]
      have h := lcG_eq ix f tt te p.1 [] (wipeV ix s1) (Nat.zero_le _)
      cases e1 : vLcG ix f tt te p.1 (wipeV ix s1) with
      | error e =>
        rw [e1] at h
        cases e2 : vLcL ix f tt te p.1 [] (wipeV ix s1) with
        | error e => rfl
        | ok q => rw [e2] at h; cases h
      | ok q =>
        obtain ⟨ys, s2⟩ := q
        rw [e1] at h
        have h : noX (vLcL ix f tt te p.1 [] (wipeV ix s1)) = if 0 + ys.length ≤ 16777216 then some ([] ++ ys, s2) else none := h
        rw [Nat.zero_add, List.nil_append] at h
        dsimp only
        split at h
        · rename_i hl
          cases e2 : vLcL ix f tt te p.1 [] (wipeV ix s1) with
          | error e => rw [e2] at h; cases h
          | ok q => rw [e2] at h; cases h; dsimp only; rw [if_pos hl]
        · rename_i hl
          cases e2 : vLcL ix f tt te p.1 [] (wipeV ix s1) with
          | error e => dsimp only; rw [if_neg hl]
          | ok q => rw [e2] at h; cases h
    · rw [if_neg hf, if_neg hf]
theorem ve_lcF {e : Expr} {ix : List Nat} (h : VE X W e (vLc ix fi f tt te)) : VE X W e (vLcF ix fi f tt te) := lc_F ix fi f tt te ▸ h
theorem vs_lcF {s : Stmt} {ix : List Nat} {g : EV → VM Unit} (h : VSt X W s (vAsg (vLc ix fi f tt te) g)) : VSt X W s (vAsg (vLcF ix fi f tt te) g) := lc_F ix fi f tt te ▸ h
/-! what is forgotten -/
def fgt1 (i : Nat) (s : VS) : VS := match s[i]? with
  | some (.io _) => s
  | some (.lk _) => s
  | _ => s.set i .un
def vFgt {α : Type} (is : List Nat) (g : VM α) : VM α := fun s => g (is.foldl (fun s i => fgt1 i s) s)
theorem Step.fgt1 {K : PySem.W.Frag} {O : AS} {st : VS} {σ : L2.St} {H : Hp} (F : FR K O st σ H) (i : Nat) : Step K O st σ H (fgt1 i st) σ H := by
  have gen : ∀ sv, st[i]? = some sv → (∀ c, sv ≠ .io c ∧ sv ≠ .lk c) → (∀ c, sv ≠ .own c) → Step K O st σ H (st.set i .un) σ H := fun sv hs h1 h2 => by
    obtain ⟨v, ev, _⟩ := F.slot i sv hs
    have e : σ.set i v = σ := by
      apply List.ext_getElem?
      intro j
      by_cases hj : j = i
      · subst hj; rw [List.getElem?_set_self (by rw [← F.len]; exact lt_of_get hs), ev]
      · rw [List.getElem?_set_ne (Ne.symm hj)]
    have := Step.setN (i := i) (sv := .un) (ov := v) (Step.refl F) (by
      rw [hs]
      cases sv with
      | io c => exact absurd rfl (h1 c).1
      | lk c => exact absurd rfl (h1 c).2
      | own c => rfl
      | un => rfl
      | d x => rfl
      | rd x => rfl) trivial (fun c => ⟨(fun z => by cases z), (fun z => by cases z), (fun z => by cases z)⟩)
    rw [e] at this
    exact this
  unfold VL.fgt1
  split
  · exact Step.refl F
  · exact Step.refl F
  · rename_i h1 h2
    cases hs : st[i]? with
    | none =>
      have e : st.set i .un = st := by
        apply List.ext_getElem?
        intro j
        by_cases hj : j = i
        · subst hj; rw [hs, List.getElem?_eq_none (by rw [List.length_set]; exact List.getElem?_eq_none_iff.mp hs)]
        · rw [List.getElem?_set_ne (Ne.symm hj)]
      rw [e]; exact Step.refl F
    | some sv =>
      by_cases ho : ∃ c, sv = .own c
      · obtain ⟨c, rfl⟩ := ho
        exact (Step.refl F).drop hs
      · exact gen sv hs (fun c => ⟨fun z => h1 c (z ▸ hs), fun z => h2 c (z ▸ hs)⟩) fun c z => ho ⟨c, z⟩
theorem Step.fgts {K : PySem.W.Frag} {O : AS} {σ : L2.St} {H : Hp} : ∀ (is : List Nat) {st : VS}, FR K O st σ H → Step K O st σ H (is.foldl (fun s i => VL.fgt1 i s) st) σ H
  | [], st, F => Step.refl F
  | i :: is, st, F => (Step.fgt1 F i).trans (Step.fgts is (Step.fgt1 F i).fr)
theorem vs_fgts {ss : List Stmt} {g : VM Ctl} (is : List Nat) (h : VSs X W ss g) : VSs X W ss (vFgt is g) := PSs.wk h fun D σ H ⟨O, st, F, q⟩ => by
  have S := Step.fgts is F
  exact ⟨O, _, S.fr, (VRun.step S q).mono fun c s z => z.step S⟩
end
end VL
set_option Elab.async false
set_option linter.all false
set_option maxRecDepth 100000
/-! running a mirror, step by step -/
namespace VL
open PySem PySem.Spec PyProof.Rows L2
section
variable {α β : Type} {s s1 s2 : VS} {x y z : Da} {i j : Int} {k n : Nat} {c : OC} {f : VM EV} {fs : VM (List EV)} {g : VM Ctl} {r : EV} {rs : List EV} {e : Err} {b : Bool}
def bnd (r : Res (α × VS)) (g : α → VM β) : Res (β × VS) := match r with
  | .ok (a, s) => g a s
  | .error e => .error e
theorem m_vb {f : VM α} {g : α → VM β} : vb f g s = bnd (f s) g := rfl
theorem bnd_ok {a : α} {g : α → VM β} : bnd (.ok (a, s)) g = g a s := rfl
theorem bnd_er {g : α → VM β} : bnd (.error e) g = .error e := rfl
theorem m_vr {a : α} : vr a s = .ok (a, s) := rfl
theorem m_stuck : (vStuck : VM α) s = .error .stuck := rfl
def bS (r : Res (Ctl × VS)) (g : VM Ctl) : Res (Ctl × VS) := match r with
  | .ok (.nx, s) => g s
  | r => r
theorem m_seq {f g : VM Ctl} : vSeq f g s = bS (f s) g := by
  unfold vSeq vb bS
  cases f s with
  | ok p => obtain ⟨c, s1⟩ := p; cases c <;> rfl
  | error e => rfl
theorem bS_nx : bS (.ok (.nx, s)) g = g s := rfl
theorem bS_bk : bS (.ok (.bk, s)) g = .ok (.bk, s) := rfl
theorem bS_ct : bS (.ok (.ct, s)) g = .ok (.ct, s) := rfl
theorem bS_rt : bS (.ok (.rt r, s)) g = .ok (.rt r, s) := rfl
theorem bS_er : bS (.error e) g = .error e := rfl
def bI (r : Res (Bool × VS)) (a b : VM α) : Res (α × VS) := match r with
  | .ok (true, s) => a s
  | .ok (false, s) => b s
  | .error e => .error e
theorem m_if {c : VM Bool} {a b : VM Ctl} : vIf c a b s = bI (c s) a b := by
  unfold vIf vb bI
  cases c s with
  | ok p => obtain ⟨k, s1⟩ := p; cases k <;> rfl
  | error e => rfl
theorem m_ite {c : VM Bool} {a b : VM EV} : vIte c a b s = bI (c s) a b := by
  unfold vIte vb bI
  cases c s with
  | ok p => obtain ⟨k, s1⟩ := p; cases k <;> rfl
  | error e => rfl
theorem bI_t {a b : VM α} : bI (.ok (true, s)) a b = a s := rfl
theorem bI_f {a b : VM α} : bI (.ok (false, s)) a b = b s := rfl
theorem bI_er {a b : VM α} : bI (.error e) a b = .error e := rfl
theorem bI_b {a b : VM α} {k : Bool} : bI (.ok (k, s)) a b = if k = true then a s else b s := by cases k <;> rfl
theorem m_and {c d : VM Bool} : vAnd c d s = bI (c s) d (vr false) := by
  unfold vAnd vb bI
  cases c s with
  | ok p => obtain ⟨k, s1⟩ := p; cases k <;> rfl
  | error e => rfl
theorem m_or {c d : VM Bool} : vOr c d s = bI (c s) (vr true) d := by
  unfold vOr vb bI
  cases c s with
  | ok p => obtain ⟨k, s1⟩ := p; cases k <;> rfl
  | error e => rfl
theorem m_not {c : VM Bool} : vNot c s = bnd (c s) fun k => vr (!k) := rfl
theorem m_bool : vBool f s = bnd (f s) fun r => vOpt (evB r) := rfl
theorem evB_b : evB (.d (.bool b)) = some b := rfl
theorem m_opt {a : α} : vOpt (some a) s = .ok (a, s) := rfl
theorem m_optn : vOpt (none : Option α) s = .error .stuck := rfl
theorem m_tru : vTru f s = bnd (f s) fun r => vb (vRd r) fun x => vOpt (truD x) := rfl
theorem tru_b : truD (.bool b) = some b := rfl
theorem tru_i : truD (.int i) = some (i != 0) := rfl
theorem tru_n : truD .none = some false := rfl
theorem tru_l {xs : List Da} : truD (.list xs) = some (!xs.isEmpty) := rfl
theorem tru_t {xs : List Da} : truD (.tuple xs) = some (!xs.isEmpty) := rfl
/-! names, constants -/
def varR (i : Nat) (s : VS) : Option SV → Res (EV × VS)
  | some (.d x) => .ok (.d x, s)
  | some (.own _) => .ok (.loan i, s)
  | some (.io _) => .ok (.loan i, s)
  | some (.lk _) => .ok (.loan i, s)
  | some (.rd _) => .ok (.loan i, s)
  | _ => .error .stuck
theorem m_var : vVar k s = varR k s s[k]? := by
  unfold vVar varR
  cases s[k]? with
  | none => rfl
  | some v => cases v <;> rfl
theorem var_d : varR k s (some (.d x)) = .ok (.d x, s) := rfl
theorem var_own : varR k s (some (.own c)) = .ok (.loan k, s) := rfl
theorem var_io : varR k s (some (.io c)) = .ok (.loan k, s) := rfl
theorem var_lk : varR k s (some (.lk c)) = .ok (.loan k, s) := rfl
theorem var_rd {xs : List Da} : varR k s (some (.rd xs)) = .ok (.loan k, s) := rfl
theorem m_c : vC x s = .ok (.d x, s) := rfl
theorem st_d : VL.settle (.d x) = .d x := rfl
theorem st_o : VL.settle (.own c) = .d c.data := rfl
theorem st_l : VL.settle (.loan k) = .loan k := rfl
theorem oc_l {xs : List Da} : OC.data (.l xs) = .list xs := rfl
theorem oc_m {xs : List (Da × Da)} : OC.data (.m xs) = .dict xs := rfl
def rdR (s : VS) : Option SV → Res (Da × VS)
  | some (.own c) => .ok (c.data, s)
  | some (.io c) => .ok (c.data, s)
  | some (.lk c) => .ok (c.data, s)
  | _ => .error .stuck
theorem rd_d : vRd (.d x) s = .ok (x, s) := rfl
theorem rd_o : vRd (.own c) s = .ok (c.data, s) := rfl
theorem rd_l : vRd (.loan k) s = rdR s s[k]? := by
  unfold vRd rdR
  dsimp only
  all_goals rcases s[k]? with _ | v
  all_goals first | rfl | (cases v <;> first | rfl | (rename_i c; cases c <;> rfl))
theorem rdR_own : rdR s (some (.own c)) = .ok (c.data, s) := rfl
theorem rdR_io : rdR s (some (.io c)) = .ok (c.data, s) := rfl
theorem rdR_lk : rdR s (some (.lk c)) = .ok (c.data, s) := rfl
/-! operators -/
theorem m_bin {g : Da → Da → Option EV} {fa fb : VM EV} : vBin g fa fb s = bnd (fa s) fun ra => vb fb fun rb => vb (vRd (VL.settle ra)) fun x => vb (vRd rb) fun y => vOpt (g x y) := rfl
theorem m_un {g : Da → Option EV} {fa : VM EV} : vUn g fa s = bnd (fa s) fun ra => vb (vRd ra) fun x => vOpt (g x) := rfl
theorem m_call {g : List Da → Option EV} : vCall g fs s = bnd (fs s) fun rs => vb (vRds rs) fun xs => vOpt (g xs) := rfl
theorem m_rdn : vRds [] s = .ok ([], s) := rfl
theorem m_rdc : vRds (r :: rs) s = bnd (vRd r s) fun x => vb (vRds rs) fun xs => vr (x :: xs) := rfl
theorem m_cons : vCons f fs s = bnd (f s) fun r => vb fs fun rs => vr (VL.settle r :: rs) := rfl
theorem m_conss : vConsS f fs s = bnd (f s) fun r => vb (vRd r) fun x => vb (vOpt (seqD x)) fun xs => vb fs fun rs => vr (xs.map .d ++ rs) := rfl
theorem m_tup : vTuple fs s = bnd (fs s) fun rs => vb (vOpt (dts rs)) fun xs => if xs.length ≤ 16777216 then vr (.d (.tuple xs)) else vStuck := rfl
theorem m_lst : vList fs s = bnd (fs s) fun rs => vb (vOpt (dts rs)) fun xs => if xs.length ≤ 16777216 then vr (.own (.l xs)) else vStuck := rfl
theorem dts_n : dts [] = some [] := rfl
theorem dts_c : dts (.d x :: rs) = (dts rs).map (x :: ·) := rfl
theorem o_map {γ : Type} {a : α} {h : α → γ} : Option.map h (some a) = some (h a) := rfl
theorem o_bind {γ : Type} {a : α} {h : α → Option γ} : Option.bind (some a) h = h a := rfl
theorem add_i : addD (.int i) (.int j) = some (.d (.int (i + j))) := rfl
theorem sub_i : subD (.int i) (.int j) = some (.d (.int (i - j))) := rfl
theorem mul_i : mulD (.int i) (.int j) = if i.natAbs.log2 + j.natAbs.log2 < 1000000 then some (.d (.int (i * j))) else none := rfl
theorem mod_i : modD (.int i) (.int j) = if 0 < j then some (.d (.int (i % j))) else none := rfl
theorem fdiv_i : fdivD (.int i) (.int j) = if 0 < j ∧ j.natAbs.log2 < 9000 then some (.d (.int (i / j))) else none := rfl
theorem pow_i : powD (.int i) (.int j) = if 0 ≤ j ∧ j ≤ 1000000 ∧ i.natAbs < 2 ^ 64 then some (.d (.int (i ^ j.toNat))) else none := rfl
theorem neg_i : negD (.int i) = some (.d (.int (-i))) := rfl
theorem iadd_i : iaddD (.int i) (.int j) = some (.d (.int (i + j))) := rfl
theorem abs_i : absD [.int i] = some (.d (.int (if i < 0 then -i else i))) := rfl
theorem int_i : toIntD [.int i] = some (.d (.int i)) := rfl
theorem int_b : toIntD [.bool b] = some (.d (.int (if b then 1 else 0))) := rfl
theorem len_l {xs : List Da} : lenD [.list xs] = some (.d (.int xs.length)) := rfl
theorem len_t {xs : List Da} : lenD [.tuple xs] = some (.d (.int xs.length)) := rfl
theorem add_l {xs ys : List Da} : addD (.list xs) (.list ys) = if xs.length + ys.length ≤ 16777216 then some (.own (.l (xs ++ ys))) else none := rfl
theorem add_t {xs ys : List Da} : addD (.tuple xs) (.tuple ys) = if xs.length + ys.length ≤ 16777216 then some (.d (.tuple (xs ++ ys))) else none := rfl
theorem lt_i : ltD (.int i) (.int j) = some (.d (.bool (decide (i < j)))) := rfl
theorem le_i : leD (.int i) (.int j) = some (.d (.bool (decide (i ≤ j)))) := rfl
theorem gt_i : gtD (.int i) (.int j) = some (.d (.bool (decide (j < i)))) := rfl
theorem ge_i : geD (.int i) (.int j) = some (.d (.bool (decide (j ≤ i)))) := rfl
theorem eq_i : eqD (.int i) (.int j) = some (.d (.bool (decide (i = j)))) := by
  show (if SeqAt.shaped (.int i) = true ∧ SeqAt.shaped (.int j) = true then some (EV.d (.bool (PyData.eqv (.int i) (.int j)))) else none) = _
  rw [if_pos ⟨rfl, rfl⟩]
  congr 3
theorem ne_i : neD (.int i) (.int j) = some (.d (.bool (!decide (i = j)))) := by
  show (if SeqAt.shaped (.int i) = true ∧ SeqAt.shaped (.int j) = true then some (EV.d (.bool (!PyData.eqv (.int i) (.int j)))) else none) = _
  rw [if_pos ⟨rfl, rfl⟩]
  congr 4
theorem eqF_i : eqF (.int i) (.int j) = some (.d (.bool (decide (i = j)))) := rfl
theorem neF_i : neF (.int i) (.int j) = some (.d (.bool (!decide (i = j)))) := rfl
theorem tuple_l {xs : List Da} : tupleD [.list xs] = some (.d (.tuple xs)) := rfl
theorem tuple_t {xs : List Da} : tupleD [.tuple xs] = some (.d (.tuple xs)) := rfl
theorem list_l {xs : List Da} : listD [.list xs] = some (.own (.l xs)) := rfl
theorem list_t {xs : List Da} : listD [.tuple xs] = some (.own (.l xs)) := rfl
theorem ix_l {xs : List Da} : ixD (.list xs) (.int i) = (atI xs i).map .d := rfl
theorem ix_t {xs : List Da} : ixD (.tuple xs) (.int i) = (atI xs i).map .d := rfl
theorem at_nat {xs : List Da} (h : 0 ≤ i) : atI xs i = xs[i.toNat]? := by
  unfold atI ixN
  rw [if_pos h]
  by_cases hi : i < xs.length
  · rw [if_pos hi]; rfl
  · rw [if_neg hi, List.getElem?_eq_none (by omega)]; rfl
/-! statements -/
theorem m_ret : vRet f s = bnd (f s) fun r => vr (.rt r) := rfl
theorem m_drop : vDrop f s = bnd (f s) fun _ => vNx := rfl
theorem m_nx : vNx s = .ok (.nx, s) := rfl
theorem m_asg {g : EV → VM Unit} : vAsg f g s = bnd (f s) fun r => vb (vNoX (g r)) fun _ => vNx := rfl
def nxR (r : Res (α × VS)) : Res (α × VS) := match r with
  | .ok p => .ok p
  | .error _ => .error .stuck
theorem m_nox {f : VM α} : vNoX f s = nxR (f s) := by
  unfold vNoX nxR
  cases f s <;> rfl
theorem nx_ok {p : α × VS} : nxR (.ok p) = .ok p := rfl
theorem set_d : vSet k (.d x) s = if wrOk s[k]? = true then .ok ((), s.set k (.d x)) else .error .stuck := rfl
theorem set_o : vSet k (.own c) s = if wrOk s[k]? = true then .ok ((), s.set k (.own c)) else .error .stuck := rfl
theorem setD_ : vSetD k x s = if wrOk s[k]? = true then .ok ((), s.set k (.d x)) else .error .stuck := rfl
theorem wr_un : wrOk (some .un) = true := rfl
theorem wr_d : wrOk (some (.d x)) = true := rfl
theorem wr_o : wrOk (some (.own c)) = true := rfl
theorem wr_rd {xs : List Da} : wrOk (some (.rd xs)) = true := rfl
theorem m_aug {g : Da → Da → Option EV} : vAug k g f s = bnd (vVar k s) fun r0 => vb f fun r => vb (vRd r0) fun x => vb (vRd r) fun y => vb (vOpt (g x y)) fun z => vb (vNoX (vSet k z)) fun _ => vNx := rfl
theorem m_asgD {g : Da → VM Unit} : vAsgD f g s = bnd (f s) fun r => vb (vOpt (evD r)) fun x => vb (vNoX (g x)) fun _ => vNx := rfl
theorem evD_d : evD (.d x) = some x := rfl
theorem evD_o : evD (.own c) = some c.data := rfl
theorem m_frzn {g : VM α} : vFrz [] g s = g s := rfl
theorem m_frzc {k : Nat} {is : List Nat} {g : VM α} : vFrz (k :: is) g s = vFrz is g (frz1 k s) := rfl
def frzR (k : Nat) (s : VS) : Option SV → VS
  | some (.own c) => s.set k (.d c.data)
  | _ => s
theorem m_frz1 : frz1 k s = frzR k s s[k]? := by
  unfold frz1 frzR
  cases s[k]? with
  | none => rfl
  | some v => cases v <;> rfl
theorem fz_d : frzR k s (some (.d x)) = s := rfl
theorem fz_un : frzR k s (some .un) = s := rfl
theorem fz_io : frzR k s (some (.io c)) = s := rfl
theorem fz_lk : frzR k s (some (.lk c)) = s := rfl
theorem fz_rd {xs : List Da} : frzR k s (some (.rd xs)) = s := rfl
theorem fz_o : frzR k s (some (.own c)) = s.set k (.d c.data) := rfl
theorem m_sub {fo fi : VM EV} : vSub fo fi x s = bnd (fo s) fun ro => vb fi fun ri => vb (vRd ri) fun i => vb (vApp setD ro [i, x]) fun _ => vr () := rfl
theorem m_augS {g : Da → Da → Option EV} {fo fi fe : VM EV} : vAugS g fo fi fe s = bnd (fo s) fun ro => vb fi fun ri => vb (vRd ri) fun i => vb (vOpt (intD i)) fun k => vb (vCt ro) fun xs => vb (vOpt (atI xs k)) fun old => vb fe fun re => vb (vRd re) fun y =>
  vb (vOpt ((g old y).bind evD)) fun new => vb (vApp setD ro [.int k, new]) fun _ => vNx := rfl
def apR (k : Nat) (g : List Da → List Da → Option (List Da × Da)) (as : List Da) (s : VS) : Option SV → Res (EV × VS)
  | some (.own (.l xs)) => match g xs as with
    | some (ys, z) => .ok (.d z, s.set k (.own (.l ys)))
    | none => .error .stuck
  | some (.io (.l xs)) => match g xs as with
    | some (ys, z) => .ok (.d z, s.set k (.io (.l ys)))
    | none => .error .stuck
  | _ => .error .stuck
theorem m_app {g : List Da → List Da → Option (List Da × Da)} {as : List Da} : vApp g (.loan k) as s = apR k g as s s[k]? := by
  unfold vApp mutL apR putC
  dsimp only
  cases h : s[k]? with
  | none => rfl
  | some v =>
    cases v with
    | own c => cases c with
      | l xs =>
        dsimp only
        cases g xs as with
        | none => rfl
        | some q => obtain ⟨ys, z⟩ := q; dsimp only; rw [h]
      | m _ => rfl
    | io c => cases c with
      | l xs =>
        dsimp only
        cases g xs as with
        | none => rfl
        | some q => obtain ⟨ys, z⟩ := q; dsimp only; rw [h]
      | m _ => rfl
    | _ => rfl
theorem ap_o {g : List Da → List Da → Option (List Da × Da)} {as xs : List Da} : apR k g as s (some (.own (.l xs))) = match g xs as with
    | some (ys, z) => .ok (.d z, s.set k (.own (.l ys)))
    | none => .error .stuck := rfl
theorem ap_io {g : List Da → List Da → Option (List Da × Da)} {as xs : List Da} : apR k g as s (some (.io (.l xs))) = match g xs as with
    | some (ys, z) => .ok (.d z, s.set k (.io (.l ys)))
    | none => .error .stuck := rfl
def ctR (s : VS) : Option SV → Res (List Da × VS)
  | some (.own (.l xs)) => .ok (xs, s)
  | some (.io (.l xs)) => .ok (xs, s)
  | _ => .error .stuck
theorem m_ct : vCt (.loan k) s = ctR s s[k]? := by
  unfold vCt mutL ctR
  dsimp only
  cases s[k]? with
  | none => rfl
  | some v =>
    cases v with
    | own c => cases c <;> rfl
    | io c => cases c <;> rfl
    | _ => rfl
theorem ct_o {xs : List Da} : ctR s (some (.own (.l xs))) = .ok (xs, s) := rfl
theorem ct_io {xs : List Da} : ctR s (some (.io (.l xs))) = .ok (xs, s) := rfl
def isR (s : VS) : Option SV → Res (Unit × VS)
  | some (.own (.l xs)) => .ok ((), s)
  | some (.io (.l xs)) => .ok ((), s)
  | _ => .error .stuck
theorem m_isl : vIsL (.loan k) s = isR s s[k]? := by
  unfold vIsL isR
  cases h : s[k]? with
  | none => simp [mutL, h]
  | some v =>
    cases v with
    | own c => cases c <;> simp [mutL, h]
    | io c => cases c <;> simp [mutL, h]
    | _ => simp [mutL, h]
theorem is_o {xs : List Da} : isR s (some (.own (.l xs))) = .ok ((), s) := rfl
theorem is_io {xs : List Da} : isR s (some (.io (.l xs))) = .ok ((), s) := rfl
theorem m_mut {g : List Da → List Da → Option (List Da × Da)} {fo : VM EV} : vMut g fo fs s = bnd (fo s) fun ro => vb (vIsL ro) fun _ => vb fs fun rs => vb (vOpt (dts rs)) fun as => vApp g ro as := rfl
theorem m_mutB {g : List Da → List Da → Option (List Da × Da)} {fo : VM EV} : vMutB g fo fs s = bnd (fo s) fun ro => vb (vIsL ro) fun _ => vb fs fun rs => vb (vRds rs) fun as => vApp g ro as := rfl
theorem m_mut0 {g : List Da → List Da → Option (List Da × Da)} {fo : VM EV} : vMut0 g fo s = bnd (fo s) fun ro => vb (vIsL ro) fun _ => vApp g ro [] := rfl
theorem setD_i {xs : List Da} (h : 0 ≤ i) (h2 : i < xs.length) : setD xs [.int i, x] = some (xs.set i.toNat x, .none) := by
  show (ixN xs.length i).map _ = _
  unfold ixN
  rw [if_pos h, if_pos h2]; rfl
theorem intD_i : intD (.int i) = some i := rfl
/-! slices -/
theorem m_sl {fe : VM EV} {lo hi : VM (Option Int)} : vSl fe lo hi s = bnd (fe s) fun r => vb lo fun l => vb hi fun h => vb (vRdS (VL.settle r)) fun x => vOpt (slD x l h) := rfl
theorem m_pn : vPart none s = .ok (none, s) := rfl
theorem m_ps : vPart (some f) s = bnd (f s) fun r => match r with
    | .d (.int i) => vr (some i)
    | _ => vStuck := rfl
theorem rs_d : vRdS (.d x) s = .ok (x, s) := rfl
def rsR (k : Nat) (s : VS) : Option SV → Res (Da × VS)
  | some (.rd xs) => .ok (.list xs, s)
  | o => rdR s o
theorem rs_l : vRdS (.loan k) s = rsR k s s[k]? := by
  unfold vRdS rsR
  dsimp only
  rw [rd_l]
  cases s[k]? with
  | none => rfl
  | some v => cases v <;> rfl
theorem rsR_rd {xs : List Da} : rsR k s (some (.rd xs)) = .ok (.list xs, s) := rfl
theorem rsR_o : rsR k s (some (.own c)) = .ok (c.data, s) := rfl
theorem rsR_io : rsR k s (some (.io c)) = .ok (c.data, s) := rfl
theorem sl_l {xs : List Da} {lo hi : Option Int} : slD (.list xs) lo hi = some (.own (.l (cutD xs lo hi))) := rfl
theorem sl_t {xs : List Da} {lo hi : Option Int} : slD (.tuple xs) lo hi = some (.d (.tuple (cutD xs lo hi))) := rfl
/-! calls -/
theorem m_callF {m : FM} : vCallF m fs s = bnd (fs s) fun rs => callF m rs := rfl
def argR : List EV → VS → Option VS := fun rs s => argSV s rs
theorem arg_n : argSV s [] = some [] := rfl
theorem arg_c : argSV s (r :: rs) = (argSV1 s r).bind fun a => (argSV s rs).map (a :: ·) := rfl
theorem arg_d : argSV1 s (.d x) = some (.d x) := rfl
def arR : Option SV → Option SV
  | some (.own c) => some (.io c)
  | some (.io c) => some (.io c)
  | some (.lk c) => some (.lk c)
  | some (.rd xs) => some (.rd xs)
  | _ => none
theorem arg_l : argSV1 s (.loan k) = arR s[k]? := by
  unfold argSV1 arR
  dsimp only
  all_goals rcases s[k]? with _ | v
  all_goals first | rfl | (cases v <;> first | rfl | (rename_i c; cases c <;> rfl))
theorem ar_o : arR (some (.own c)) = some (.io c) := rfl
theorem ar_io : arR (some (.io c)) = some (.io c) := rfl
theorem ar_lk : arR (some (.lk c)) = some (.lk c) := rfl
theorem ar_rd {xs : List Da} : arR (some (.rd xs)) = some (.rd xs) := rfl
theorem callF_ok {m : FM} {st0 o : VS} {r : EV} (nd : (loans rs).Nodup) (ha : argSV s rs = some st0) (hm : m st0 = .ok (r, o)) (hr : ∀ i, r ≠ .loan i) : callF m rs s = .ok (r, putOuts rs o s) := by
  unfold callF
  rw [if_pos nd, ha]
  dsimp only
  rw [hm]
  cases r with
  | loan i => exact absurd rfl (hr i)
  | d x => rfl
  | own c => rfl
theorem put_n {o : VS} : putOuts [] o s = s := by unfold putOuts; cases o <;> rfl
theorem put_d {o : VS} {v : SV} : putOuts (.d x :: rs) (v :: o) s = putOuts rs o s := by
  rw [putOuts]
  intro i c h; cases h
theorem put_io {o : VS} : putOuts (.loan k :: rs) (.io c :: o) s = putOuts rs o (putC k c s) := rfl
def ptR (k : Nat) (c : OC) (s : VS) : Option SV → VS
  | some (.own _) => s.set k (.own c)
  | some (.io _) => s.set k (.io c)
  | _ => s
theorem m_put : putC k c s = ptR k c s s[k]? := by
  unfold putC ptR
  cases s[k]? with
  | none => rfl
  | some v => cases v <;> rfl
theorem pt_o {c' : OC} : ptR k c s (some (.own c')) = s.set k (.own c) := rfl
theorem pt_io {c' : OC} : ptR k c s (some (.io c')) = s.set k (.io c) := rfl
/-- the run of a def -/
theorem run_ok {N : Nat} {g : VM Ctl} {st0 : VS} {c : Ctl} {s : VS} {r : EV} (h : g (st0 ++ List.replicate (N - st0.length) .un) = .ok (c, s)) (hr : retV c s = some r) : runF N g st0 = .ok (r, outs st0 s) := by
  unfold runF
  rw [h]
  dsimp only
  rw [hr]
end
end VL
set_option Elab.async false
set_option linter.all false
set_option maxRecDepth 100000
/-! loops and comprehensions of a mirror -/
namespace VL
open PySem PySem.Spec PyProof.Rows L2
section
variable {α β : Type} {s s1 s2 s3 : VS} {x y z : Da} {i j : Int} {k n : Nat} {c : OC} {f te : VM EV} {fs : VM (List EV)} {g : VM Ctl} {r : EV} {rs : List EV} {e : Err} {b : Bool} {xs ys : List Da} {ix : List Nat} {gt : Da → VM Unit} {tt : VM Bool} {fi : VM (List Da × Lks)} {L : Lks}
/-! sources -/
theorem i_seq : vItSeq f s = bnd (f s) vSrc := rfl
theorem src_l : vSrc (.d (.list xs)) s = .ok ((xs, []), s) := rfl
theorem src_t : vSrc (.d (.tuple xs)) s = .ok ((xs, []), s) := rfl
theorem src_o : vSrc (.own (.l xs)) s = .ok ((xs, []), s) := rfl
def srR (i : Nat) (s : VS) : Option SV → Res ((List Da × Lks) × VS)
  | some (.own (.l xs)) => .ok ((xs, [(i, false)]), s.set i (.lk (.l xs)))
  | some (.io (.l xs)) => .ok ((xs, [(i, true)]), s.set i (.lk (.l xs)))
  | some (.lk (.l xs)) => .ok ((xs, []), s)
  | _ => .error .stuck
theorem src_n : vSrc (.loan k) s = srR k s s[k]? := by
  unfold vSrc srR
  dsimp only
  all_goals rcases s[k]? with _ | v
  all_goals first | rfl | (cases v <;> first | rfl | (rename_i c; cases c <;> rfl))
theorem sr_o : srR k s (some (.own (.l xs))) = .ok ((xs, [(k, false)]), s.set k (.lk (.l xs))) := rfl
theorem sr_io : srR k s (some (.io (.l xs))) = .ok ((xs, [(k, true)]), s.set k (.lk (.l xs))) := rfl
theorem sr_lk : srR k s (some (.lk (.l xs))) = .ok ((xs, []), s) := rfl
theorem i_rng : vItRng fs s = bnd (fs s) fun rs => vb (vRds rs) fun xs => vb (vOpt (rangeD xs)) fun ys => vr (ys, []) := rfl
theorem i_enum : vItEnum fs s = bnd (fs s) fun rs => match rs with
  | [r] => vb (vSrc r) fun q => vr (enumD 0 q.1, q.2)
  | _ => vStuck := rfl
theorem i_zip : vItZip fs s = bnd (fs s) fun rs => match rs with
  | [r, r2] => vb (vSrc r) fun q => vb (vSrc r2) fun q2 => vr (zipD q.1 q2.1, q.2 ++ q2.2)
  | _ => vStuck := rfl
theorem i_rev : vItRev f s = bnd (f s) fun r => vb (vSrc r) fun q => vr (q.1.reverse, q.2) := rfl
theorem unl_n : unlock [] s = s := rfl
theorem unl_c {L : Lks} : unlock ((k, b) :: L) s = unlock1 k b (unlock L s) := rfl
def ulR (k : Nat) (b : Bool) (s : VS) : Option SV → VS
  | some (.lk c) => s.set k (ownB b c)
  | _ => s
theorem unl_1 : unlock1 k b s = ulR k b s s[k]? := by
  unfold unlock1 ulR
  cases s[k]? with
  | none => rfl
  | some v => cases v <;> rfl
theorem ul_lk : ulR k b s (some (.lk c)) = s.set k (ownB b c) := rfl
theorem ob_t : ownB true c = .io c := rfl
theorem ob_f : ownB false c = .own c := rfl
/-! for -/
theorem m_for : vFor fi gt g s = bnd (fi s) fun p => fun s => match vForL gt g p.1 s with
  | .ok (c, s2) => .ok (c, unlock p.2 s2)
  | .error (.exc C fs s2) => .error (.exc C fs (unlock p.2 s2))
  | .error .stuck => .error .stuck := rfl
/-- a loop whose turns all go on -/
theorem forL_inv (R : List Da → VS → Prop) (step : ∀ x xs s, R (x :: xs) s → ∃ s1 c s2, gt x s = .ok ((), s1) ∧ g s1 = .ok (c, s2) ∧ (c = .nx ∨ c = .ct) ∧ R xs s2) :
    ∀ xs s, R xs s → ∃ s', vForL gt g xs s = .ok (.nx, s') ∧ R [] s'
  | [], s, h => ⟨s, rfl, h⟩
  | x :: xs, s, h => by
    obtain ⟨s1, c, s2, h1, h2, hc, h3⟩ := step x xs s h
    obtain ⟨s', h4, h5⟩ := forL_inv R step xs s2 h3
    refine ⟨s', ?_, h5⟩
    show vb (vNoX (gt x)) _ s = _
    rw [m_vb, m_nox, h1, nx_ok, bnd_ok, m_vb, h2, bnd_ok]
    rcases hc with rfl | rfl <;> exact h4
theorem for_inv (R : List Da → VS → Prop) (step : ∀ x xs s, R (x :: xs) s → ∃ s1 c s2, gt x s = .ok ((), s1) ∧ g s1 = .ok (c, s2) ∧ (c = .nx ∨ c = .ct) ∧ R xs s2)
    (hi : fi s = .ok ((xs, L), s1)) (h0 : R xs s1) : ∃ s', vFor fi gt g s = .ok (.nx, unlock L s') ∧ R [] s' := by
  obtain ⟨s', h1, h2⟩ := forL_inv R step xs s1 h0
  exact ⟨s', by rw [m_for, hi, bnd_ok]; dsimp only; rw [h1], h2⟩
/-! comprehensions -/
theorem lcG_inv (R : List Da → List Da → VS → Prop) (step : ∀ x xs acc s, R (x :: xs) acc s → ∃ s1 b s2, gt x s = .ok ((), s1) ∧ tt s1 = .ok (b, s2) ∧
      (b = false → ix.all (fun j => flatS s2[j]?) = true ∧ R xs acc (wipeV ix s2)) ∧ (b = true → ∃ r y s3, te s2 = .ok (r, s3) ∧ evD r = some y ∧ ix.all (fun j => flatS s3[j]?) = true ∧ R xs (acc ++ [y]) (wipeV ix s3))) :
    ∀ xs acc s, R xs acc s → ∃ ys s', vLcG ix gt tt te xs s = .ok (ys, s') ∧ R [] (acc ++ ys) s'
  | [], acc, s, h => ⟨[], s, rfl, by rw [List.append_nil]; exact h⟩
  | x :: xs, acc, s, h => by
    obtain ⟨s1, b, s2, h1, h2, hf, ht⟩ := step x xs acc s h
    cases b with
    | false =>
      obtain ⟨fl, h3⟩ := hf rfl
      obtain ⟨ys, s', h4, h5⟩ := lcG_inv R step xs acc _ h3
      refine ⟨ys, s', ?_, h5⟩
      show vb (gt x) _ s = _
      rw [m_vb, h1, bnd_ok, m_vb, h2, bnd_ok, if_neg Bool.false_ne_true, m_vb]
      unfold vWipe
      rw [if_pos fl, bnd_ok]
      exact h4
    | true =>
      obtain ⟨r, y, s3, h3, h4, fl, h5⟩ := ht rfl
      obtain ⟨ys, s', h6, h7⟩ := lcG_inv R step xs _ _ h5
      refine ⟨y :: ys, s', ?_, by rw [List.append_assoc] at h7; exact h7⟩
      show vb (gt x) _ s = _
      rw [m_vb, h1, bnd_ok, m_vb, h2, bnd_ok, if_pos rfl, m_vb, h3, bnd_ok, m_vb, h4, m_opt, bnd_ok, m_vb]
      unfold vWipe
      rw [if_pos fl, bnd_ok, m_vb, h6, bnd_ok]
      rfl
theorem lcF_of (hi : fi s = .ok ((xs, L), s1)) (fl : ix.all (fun j => flatS s1[j]?) = true) (hG : vLcG ix gt tt te xs (wipeV ix s1) = .ok (ys, s2)) (hl : ys.length ≤ 16777216) :
    vLcF ix fi gt tt te s = .ok (.own (.l ys), unlock L (restV s1 ix s2)) := by
  show vb fi _ s = _
  rw [m_vb, hi, bnd_ok]
  dsimp only
  rw [if_pos fl, hG]
  dsimp only
  rw [if_pos hl]
/-- one that changes nothing: p, h of each item -/
theorem lcG_pure {γ : Type} {enc : γ → Da} {base : VS} (p : γ → Bool) (h : γ → Da) (xs : List γ) (step : ∀ x ∈ xs, ∃ s1 s2, gt (enc x) base = .ok ((), s1) ∧ tt s1 = .ok (p x, s2) ∧
      (p x = false → ix.all (fun j => flatS s2[j]?) = true ∧ wipeV ix s2 = base) ∧ (p x = true → ∃ r s3, te s2 = .ok (r, s3) ∧ evD r = some (h x) ∧ ix.all (fun j => flatS s3[j]?) = true ∧ wipeV ix s3 = base)) :
    vLcG ix gt tt te (xs.map enc) base = .ok ((xs.filter p).map h, base) := by
  induction xs with
  | nil => rfl
  | cons x xs ih =>
    have ih := ih fun y hy => step y (List.mem_cons_of_mem _ hy)
    obtain ⟨s1, s2, h1, h2, hf, ht⟩ := step x List.mem_cons_self
    show vb (gt (enc x)) _ base = _
    cases hp : p x with
    | false =>
      obtain ⟨fl, h3⟩ := hf hp
      rw [m_vb, h1, bnd_ok, m_vb, h2, hp, bnd_ok, if_neg Bool.false_ne_true, m_vb]
      unfold vWipe
      rw [if_pos fl, bnd_ok, h3, List.filter_cons_of_neg (by rw [hp]; exact Bool.false_ne_true)]
      exact ih
    | true =>
      obtain ⟨r, s3, h3, h4, fl, h5⟩ := ht hp
      rw [m_vb, h1, bnd_ok, m_vb, h2, hp, bnd_ok, if_pos rfl, m_vb, h3, bnd_ok, m_vb, h4, m_opt, bnd_ok, m_vb]
      unfold vWipe
      rw [if_pos fl, bnd_ok, h5, m_vb, ih, bnd_ok, List.filter_cons_of_pos hp]
      rfl
theorem wp_n : wipeV [] s = s := rfl
theorem wp_c : wipeV (k :: ix) s = (wipeV ix s).set k .un := rfl
theorem rt_n {s0 : VS} : restV s0 [] s = s := rfl
theorem rt_c {s0 : VS} : restV s0 (k :: ix) s = (restV s0 ix s).set k (s0[k]?.getD .un) := rfl
theorem fl_un : flatS (some .un) = true := rfl
theorem fl_d : flatS (some (.d x)) = true := rfl
theorem m_unpT {fl : List (Da → VM Unit)} : vUnpT fl x s = bnd (vOpt (tupD x) s) fun xs => vUnp fl xs := rfl
theorem tupD_t : tupD (.tuple xs) = some xs := rfl
theorem unp_n : vUnp [] [] s = .ok ((), s) := rfl
theorem unp_c {fn : Da → VM Unit} {fl : List (Da → VM Unit)} : vUnp (fn :: fl) (x :: xs) s = bnd (fn x s) fun _ => vUnp fl xs := rfl
theorem range_1 : rangeD [.int i] = if -1000000000 ≤ i ∧ i ≤ 1000000000 then some (rngD 0 i.toNat 1) else none := rfl
theorem range_2 : rangeD [.int i, .int j] = if -1000000000 ≤ i ∧ i ≤ 1000000000 ∧ -1000000000 ≤ j ∧ j ≤ 1000000000 then some (rngD i (j - i).toNat 1) else none := rfl
theorem ext_l {zs : List Da} : extendD xs [.list zs] = if xs.length + zs.length ≤ 16777216 then some (xs ++ zs, .none) else none := rfl
theorem ext_t {zs : List Da} : extendD xs [.tuple zs] = if xs.length + zs.length ≤ 16777216 then some (xs ++ zs, .none) else none := rfl
theorem app_1 : appendD xs [x] = if xs.length < 16777216 then some (xs ++ [x], .none) else none := rfl
theorem m_pc : vPc f fs s = bnd (f s) fun r => vb fs fun rs => vr (r :: rs) := rfl
theorem m_par {is : List Nat} : vPar is fs s = bnd (fs s) fun rs => fun s => match vRelease rs s with
  | some (rs', s2) => match vStore is rs' s2 with
    | some s3 => .ok (.nx, s3)
    | none => .error .stuck
  | none => .error .stuck := rfl
theorem rl_n : vRelease [] s = some ([], s) := rfl
theorem rl_d : vRelease (.d x :: rs) s = (vRelease rs s).map fun q => (.d x :: q.1, q.2) := rfl
theorem rl_o : vRelease (.own c :: rs) s = (vRelease rs s).map fun q => (.own c :: q.1, q.2) := rfl
def rlR (k : Nat) (rs : List EV) (s : VS) : Option SV → Option (List EV × VS)
  | some (.own c) => (vRelease rs (s.set k .un)).map fun q => (.own c :: q.1, q.2)
  | _ => none
theorem rl_l : vRelease (.loan k :: rs) s = rlR k rs s s[k]? := by
  rw [vRelease]
  unfold rlR
  cases s[k]? with
  | none => rfl
  | some v => cases v <;> rfl
theorem rlR_o : rlR k rs s (some (.own c)) = (vRelease rs (s.set k .un)).map fun q => (.own c :: q.1, q.2) := rfl
theorem sr_n : vStore [] [] s = some s := rfl
theorem sto_d {is : List Nat} : vStore (k :: is) (.d x :: rs) s = if wrOk s[k]? = true then vStore is rs (s.set k (.d x)) else none := rfl
theorem sto_o {is : List Nat} : vStore (k :: is) (.own c :: rs) s = if wrOk s[k]? = true then vStore is rs (s.set k (.own c)) else none := rfl
end
end VL
set_option Elab.async false
set_option linter.all false
set_option maxRecDepth 100000
namespace LB
open PySem PySem.Spec PyProof.Rows L2 VL
/-- _law_bag -/
def g__law_bag : VM Ctl :=
  (vRet ((vList ((vCons (vC (.int 0)) ((vCons (vC (.int 1234567891)) ((vCons (vC (.int 0)) ((vCons ((vLcF [1] (vItSeq ((vSl (vVar 0) (vPart none) (vPart (some (vC (.int 63))))))) (vSetD 1) (vr true) ((vCall absD ((vCons (vVar 1) (vr []))))))) (vr []))))))))))))
def F__law_bag : FM := runF 2 g__law_bag
/-- _law_take -/
def law_take_s1 : VM Ctl :=
  (vIf ((vBool (vBin gtD ((vBin ixD (vVar 0) (vC (.int 0)))) (vC (.int 0))))) (vSeq (vAsg ((vBin modD ((vCall toIntD ((vCons ((vBin ixD (vVar 0) (vC (.int 0)))) (vr []))))) (vVar 1))) (vSet 4))
      (vSeq (vAsgD ((vBin fdivD ((vCall toIntD ((vCons ((vBin ixD (vVar 0) (vC (.int 0)))) (vr []))))) (vVar 1))) (vSub (vVar 0) (vC (.int 0))))
      (vFrz [4] (vRet (vVar 4))))) vNx)
def law_take_s2 : VM Ctl :=
  (vIf ((vBool (vBin geD (vVar 2) ((vBin powD (vC (.int 10)) (vC (.int 18))))))) (vFrz [2] (vAsgD (vVar 2) (vSub (vVar 0) (vC (.int 0))))) vNx)
def law_take_s3 : VM Ctl :=
  (vIf ((vBool (vBin eqF ((vBin ixD (vVar 0) (vC (.int 0)))) (vC (.int 0))))) (vSeq (vAsg ((vBin ixD ((vBin addD ((vSl ((vBin ixD (vVar 0) (vC (.int 3)))) (vPart (some ((vBin ixD (vVar 0) (vC (.int 2)))))) (vPart none))) ((vList ((vCons (vC (.int 0)) (vr []))))))) (vC (.int 0)))) (vSet 2))
      (vSeq (vAugS iaddD (vVar 0) (vC (.int 2)) (vC (.int 1)))
      (vSeq (vFrz [2] law_take_s2)
      (vSeq (vFrz [2] (vAsg ((vBin addD ((vBin addD ((vBin mulD ((vBin ixD (vVar 0) (vC (.int 1)))) (vC (.int 48271)))) ((vBin modD ((vCall toIntD ((vCons (vVar 2) (vr []))))) (vC (.int 2147483647)))))) ((vBin mulD (vC (.int 7919)) ((vBin ixD (vVar 0) (vC (.int 2)))))))) (vSet 3)))
      (vFrz [3] (vAsgD ((vBin modD ((vCall toIntD ((vCons (vVar 3) (vr []))))) (vC (.int 2147483647)))) (vSub (vVar 0) (vC (.int 1))))))))) vNx)
def g__law_take : VM Ctl :=
  (vSeq law_take_s3
      (vSeq law_take_s1
      (vSeq (vAsg ((vBin modD ((vCall toIntD ((vCons ((vBin mulD ((vBin addD ((vBin ixD (vVar 0) (vC (.int 1)))) (vC (.int 1)))) (vC (.int 39373)))) (vr []))))) (vC (.int 1000000007)))) (vSet 5))
      (vSeq (vFrz [5] (vAsg ((vBin modD ((vCall toIntD ((vCons ((vBin mulD ((vBin modD ((vCall toIntD ((vCons ((vBin mulD (vVar 5) (vVar 5))) (vr []))))) (vC (.int 998244353)))) (vC (.int 30011)))) (vr []))))) (vC (.int 998244353)))) (vSet 6)))
      (vFrz [6] (vRet ((vBin modD ((vCall toIntD ((vCons ((vBin fdivD (vVar 6) (vC (.int 7)))) (vr []))))) (vVar 1)))))))))
def F__law_take : FM := runF 7 g__law_take
/-- _law_alike -/
def law_alike_s1 : VM Ctl :=
  (vIf ((vOr ((vBool (vBin neF ((vIsi [.tuple] (vVar 4))) ((vIsi [.tuple] (vVar 5)))))) ((vBool (vBin neF ((vCall lenD ((vCons (vVar 4) (vr []))))) ((vCall lenD ((vCons (vVar 5) (vr [])))))))))) (vRet (vC (.bool false))) vNx)
def law_alike_s2 : VM Ctl :=
  (vIf ((vBool (vBin neF (vVar 4) (vVar 5)))) (vRet (vC (.bool false))) vNx)
def law_alike_s3 : VM Ctl :=
  (vIf ((vTru ((vIsi [.tuple, .list] (vVar 4))))) (vSeq (vFrz [4, 5] law_alike_s1)
      (vFrz [4, 5] (vDrop ((vMutB extendD (vVar 2) ((vCons ((vCall zipL ((vCons (vVar 4) ((vCons (vVar 5) (vr []))))))) (vr [])))))))) (vFrz [4, 5] law_alike_s2))
def law_alike_s4 : VM Ctl :=
  (vIf ((vBool (vBin neF ((vIsi [.tuple, .list] (vVar 4))) ((vIsi [.tuple, .list] (vVar 5)))))) (vRet (vC (.bool false))) vNx)
def law_alike_s5 : VM Ctl :=
  (vIf ((vOr ((vBool (vBin neF ((vIsi [.bool] (vVar 4))) ((vIsi [.bool] (vVar 5)))))) ((vBool (vBin neF ((vIsi [.str] (vVar 4))) ((vIsi [.str] (vVar 5)))))))) (vRet (vC (.bool false))) vNx)
def law_alike_s6 : VM Ctl :=
  (vWhile ((vBool (vBin ltD (vVar 3) ((vCall lenD ((vCons (vVar 2) (vr [])))))))) (vSeq (vFrz [3] (vAsgD ((vBin ixD (vVar 2) (vVar 3))) (vUnpT [(vSetD 4), (vSetD 5)])))
      (vSeq (vAug 3 iaddD (vC (.int 1)))
      (vSeq (vFrz [4, 5] law_alike_s5)
      (vSeq (vFrz [4, 5] law_alike_s4)
      (vFrz [4] law_alike_s3))))))
def g__law_alike : VM Ctl :=
  (vSeq (vPar [2, 3] (vPc ((vList ((vCons ((vTuple ((vCons (vVar 0) ((vCons (vVar 1) (vr []))))))) (vr []))))) ((vPc (vC (.int 0)) (vr [])))))
      (vSeq (vFrz [3] law_alike_s6)
      (vRet (vC (.bool true)))))
def F__law_alike : FM := runF 6 g__law_alike
/-- _law_yard -/
def g__law_yard : VM Ctl :=
  (vRet ((vCall tupleD ((vCons ((vLcF [2] (vItRng ((vCons ((vBin addD (vC (.int 1)) ((vCallF F__law_take ((vCons (vVar 0) ((vCons (vVar 1) (vr []))))))))) (vr [])))) (vSetD 2) (vr true) ((vCallF F__law_take ((vCons (vVar 0) ((vCons (vC (.int 2)) (vr []))))))))) (vr []))))))
def F__law_yard : FM := runF 3 g__law_yard
/-- _law_codes -/
def law_codes_s1 : VM Ctl :=
  (vFor (vItSeq (vVar 2)) (vSetD 5) (vFrz [5] (vDrop ((vMutB extendD (vVar 4) ((vCons ((vLcF [6] (vItRng ((vCons ((vCall lenD ((vCons (vVar 0) (vr []))))) (vr [])))) (vSetD 6) (vr true) ((vBin addD (vVar 5) ((vTuple ((vCons (vVar 6) (vr []))))))))) (vr []))))))))
def law_codes_s2 : VM Ctl :=
  (vFor (vItRng ((vCons (vVar 1) (vr [])))) (vSetD 3) (vSeq (vAsg ((vList (vr []))) (vSet 4))
      (vSeq (vFrz [2] law_codes_s1)
      (vPar [2] (vPc (vVar 4) (vr []))))))
def g__law_codes : VM Ctl :=
  (vSeq (vAsg ((vList ((vCons ((vTuple (vr []))) (vr []))))) (vSet 2))
      (vSeq law_codes_s2
      (vFrz [2] (vRet (vVar 2)))))
def F__law_codes : FM := runF 7 g__law_codes
/-- _law_rolled -/
def g__law_rolled : VM Ctl :=
  (vRet ((vLcF [3] (vItRng ((vCons ((vCall lenD ((vCons (vVar 0) (vr []))))) (vr [])))) (vSetD 3) (vr true) ((vLcF [4] (vItSeq (vVar 1)) (vSetD 4) (vBool (vBin eqF ((vBin ixD (vVar 2) (vVar 4))) (vVar 3))) (vVar 4))))))
def F__law_rolled : FM := runF 5 g__law_rolled
/-- _law_pass -/
def law_pass_s1 : VM Ctl :=
  (vFor (vItZip ((vCons (vVar 0) ((vCons ((vCallF F__law_rolled ((vCons (vVar 0) ((vCons (vVar 1) ((vCons (vVar 2) (vr []))))))))) (vr [])))))) (vUnpT [(vSetD 4), (vSetD 5)]) (vFrz [4, 5] (vDrop ((vMutB extendD (vVar 3) ((vCons ((vIte ((vBool (vBin eqF (vVar 4) (vC (.int 0))))) (vVar 5) ((vUn revD (vVar 5))))) (vr []))))))))
def g__law_pass : VM Ctl :=
  (vSeq (vAsg ((vList (vr []))) (vSet 3))
      (vSeq law_pass_s1
      (vRet (vVar 3))))
def F__law_pass : FM := runF 6 g__law_pass
end LB
set_option Elab.async false
set_option linter.all false
set_option maxRecDepth 100000
namespace LB
open PySem PySem.Spec PyProof.Rows L2 VL
theorem seq_then {f g : VM Ctl} {s s1 : VS} {r : Res (Ctl × VS)} (h : f s = .ok (.nx, s1)) (h2 : g s1 = r) : vSeq f g s = r := by rw [m_seq, h]; exact h2
theorem at_0 {x : Da} {xs : List Da} : atI (x :: xs) 0 = some x := by rw [at_nat (by decide)]; rfl
theorem at_1 {x y : Da} {xs : List Da} : atI (x :: y :: xs) 1 = some y := by rw [at_nat (by decide)]; rfl
theorem at_2 {x y z : Da} {xs : List Da} : atI (x :: y :: z :: xs) 2 = some z := by rw [at_nat (by decide)]; rfl
theorem at_3 {x y z w : Da} {xs : List Da} : atI (x :: y :: z :: w :: xs) 3 = some w := by rw [at_nat (by decide)]; rfl
theorem sd_0 {x y : Da} {xs : List Da} : setD (x :: xs) [.int 0, y] = some (y :: xs, .none) := by rw [setD_i (by decide) (by simp only [List.length_cons]; omega)]; rfl
theorem sd_1 {x y z : Da} {xs : List Da} : setD (x :: y :: xs) [.int 1, z] = some (x :: z :: xs, .none) := by rw [setD_i (by decide) (by simp only [List.length_cons]; omega)]; rfl
theorem sd_2 {x y z w : Da} {xs : List Da} : setD (x :: y :: z :: xs) [.int 2, w] = some (x :: y :: w :: xs, .none) := by rw [setD_i (by decide) (by simp only [List.length_cons]; omega)]; rfl
theorem cut_from {xs : List Da} {i : Int} (h : 0 ≤ i) : VL.cutD xs (some i) none = xs.drop i.toNat := by
  obtain ⟨k, rfl⟩ := Int.eq_ofNat_of_zero_le h
  unfold VL.cutD
  rw [show HT.sIx xs.length 0 (some (k : Int)) = min k xs.length from HT.sIx_nat xs.length 0 k, HT.sIx_none]
  show List.take _ _ = List.drop k xs
  by_cases hk : k ≤ xs.length
  · rw [Nat.min_eq_left hk, List.take_of_length_le (by rw [List.length_drop]; exact Nat.le_refl _)]
  · rw [Nat.min_eq_right (by omega), List.drop_of_length_le (Nat.le_refl _), List.drop_of_length_le (by omega), List.take_nil]
def bagL (b0 b1 b2 : Int) (cs : List Int) : List Da := [.int b0, .int b1, .int b2, .list (cs.map PyData.int)]
/-- a bag of which n more numbers may be drawn -/
def BagOk (n : Nat) (bag : List Da) : Prop := ∃ (b0 b1 b2 : Int) (cs : List Int), bag = bagL b0 b1 b2 cs ∧ 0 ≤ b0 ∧ 0 ≤ b1 ∧ b1 < 4294967296 ∧ 0 ≤ b2 ∧ b2 + n ≤ 4611686018427387904 ∧ (∀ c ∈ cs, 0 ≤ c) ∧ cs.length ≤ 100000
theorem BagOk.mono {m n : Nat} {bag : List Da} (h : BagOk n bag) (hm : m ≤ n) : BagOk m bag := by
  obtain ⟨b0, b1, b2, cs, e, h0, h1, h2, h3, h4, h5, h6⟩ := h
  exact ⟨b0, b1, b2, cs, e, h0, h1, h2, h3, by omega, h5, h6⟩
theorem lg {i : Int} (h0 : 0 ≤ i) (h1 : i < 9223372036854775808) : i.natAbs.log2 < 64 := by
  by_cases h : i.natAbs = 0
  · rw [h]; decide
  · exact (Nat.log2_lt h).mpr (by omega)
theorem mulg {i j : Int} (h0 : 0 ≤ i) (h1 : i < 9223372036854775808) (g0 : 0 ≤ j) (g1 : j < 9223372036854775808) : i.natAbs.log2 + j.natAbs.log2 < 1000000 := by
  have := lg h0 h1
  have := lg g0 g1
  omega
theorem head_cell (cs : List Int) (k : Nat) (h : ∀ c ∈ cs, 0 ≤ c) : ∃ c : Int, 0 ≤ c ∧ atI ((cs.map PyData.int).drop k ++ [.int 0]) 0 = some (.int c) := by
  rw [at_nat (by decide)]
  by_cases hk : k < cs.length
  · refine ⟨cs[k], h _ (List.getElem_mem hk), ?_⟩
    have : (0 : Int).toNat = 0 := rfl
    rw [this, List.getElem?_append_left (by rw [List.length_drop, List.length_map]; omega), List.getElem?_drop, List.getElem?_map, Nat.add_zero, List.getElem?_eq_getElem hk]; rfl
  · refine ⟨0, by decide, ?_⟩
    rw [List.drop_of_length_le (by rw [List.length_map]; omega)]; rfl
theorem take_ok {n : Nat} {bag : List Da} {m : Int} (hb : BagOk (n + 1) bag) (hm : 0 < m) (hm2 : m < 9223372036854775808) :
    ∃ (v : Int) (bag' : List Da), F__law_take [.io (.l bag), .d (.int m)] = .ok (.d (.int v), [.io (.l bag'), .d (.int m)]) ∧ 0 ≤ v ∧ v < m ∧ BagOk n bag' := by
  obtain ⟨b0, b1, b2, cs, rfl, h0, h1, h2, h3, h4, h5, h6⟩ := hb
  have key : ∃ (v : Int) (b0' b1' b2' : Int) (s : VS), g__law_take ([.io (.l (bagL b0 b1 b2 cs)), .d (.int m)] ++ List.replicate (7 - 2) .un) = .ok (.rt (.d (.int v)), .io (.l (bagL b0' b1' b2' cs)) :: s) ∧ s ≠ [] ∧ 0 ≤ v ∧ v < m ∧ BagOk n (bagL b0' b1' b2' cs) := by
    have e : ([.io (.l (bagL b0 b1 b2 cs)), .d (.int m)] ++ List.replicate (7 - 2) .un : VS) = [.io (.l (bagL b0 b1 b2 cs)), .d (.int m), .un, .un, .un, .un, .un] := rfl
    rw [e]
    unfold g__law_take law_take_s3 law_take_s2 law_take_s1 bagL
    have hml := lg (Int.le_of_lt hm) hm2
    -- the second half
    have fin : ∀ (b0 b1 b2 : Int) (x2 x3 : SV), 0 ≤ b0 → 0 ≤ b1 → b1 < 4294967296 → 0 ≤ b2 → b2 + n ≤ 4611686018427387904 → ∃ (v : Int) (b0' b1' b2' : Int) (s : VS), (vSeq (vIf ((VL.vBool (vBin gtD ((vBin ixD (vVar 0) (vC (.int 0)))) (vC (.int 0))))) (vSeq (vAsg ((vBin modD ((vCall toIntD ((vCons ((vBin ixD (vVar 0) (vC (.int 0)))) (vr []))))) (vVar 1))) (vSet 4))
      (vSeq (vAsgD ((vBin fdivD ((vCall toIntD ((vCons ((vBin ixD (vVar 0) (vC (.int 0)))) (vr []))))) (vVar 1))) (vSub (vVar 0) (vC (.int 0))))
      (vFrz [4] (vRet (vVar 4))))) vNx)
      (vSeq (vAsg ((vBin modD ((vCall toIntD ((vCons ((vBin mulD ((vBin addD ((vBin ixD (vVar 0) (vC (.int 1)))) (vC (.int 1)))) (vC (.int 39373)))) (vr []))))) (vC (.int 1000000007)))) (vSet 5))
      (vSeq (vFrz [5] (vAsg ((vBin modD ((vCall toIntD ((vCons ((vBin mulD ((vBin modD ((vCall toIntD ((vCons ((vBin mulD (vVar 5) (vVar 5))) (vr []))))) (vC (.int 998244353)))) (vC (.int 30011)))) (vr []))))) (vC (.int 998244353)))) (vSet 6)))
      (vFrz [6] (vRet ((vBin modD ((vCall toIntD ((vCons ((vBin fdivD (vVar 6) (vC (.int 7)))) (vr []))))) (vVar 1))))))))
        [.io (.l [.int b0, .int b1, .int b2, .list (cs.map PyData.int)]), .d (.int m), x2, x3, .un, .un, .un] = .ok (.rt (.d (.int v)), .io (.l [.int b0', .int b1', .int b2', .list (cs.map PyData.int)]) :: s) ∧ s ≠ [] ∧ 0 ≤ v ∧ v < m ∧ BagOk n [.int b0', .int b1', .int b2', .list (cs.map PyData.int)] := by
      intro b0 b1 b2 x2 x3 h0 h1 h2 h3 h4
      by_cases hb : 0 < b0
      · simp only [m_vb, bnd_ok, bnd_er, m_vr, m_stuck, m_seq, bS_nx, bS_bk, bS_ct, bS_rt, bS_er, m_if, m_ite, bI_t, bI_f, bI_er, m_and, m_or, m_not, m_bool, evB_b, m_opt, m_optn, m_tru, tru_b, tru_i, tru_n, tru_l, tru_t, m_var, var_d, var_own, var_io, var_lk, var_rd, m_c, st_d, st_o, st_l, oc_l, oc_m, rd_d, rd_o, rd_l, rdR_own, rdR_io, rdR_lk, m_bin, m_un, m_call, m_rdn, m_rdc, m_cons, m_conss, m_tup, m_lst, dts_n, dts_c, o_map, o_bind, add_i, sub_i, mul_i, mod_i, fdiv_i, pow_i, neg_i, iadd_i, abs_i, int_i, int_b, len_l, len_t, add_l, add_t, lt_i, le_i, gt_i, ge_i, eq_i, ne_i, eqF_i, neF_i, tuple_l, tuple_t, list_l, list_t, ix_l, ix_t, m_ret, m_drop, m_nx, m_asg, m_nox, nx_ok, set_d, set_o, setD_, wr_un, wr_d, wr_o, wr_rd, m_aug, m_asgD, evD_d, evD_o, m_frzn, m_frzc, m_frz1, fz_d, fz_un, fz_io, fz_lk, fz_rd, fz_o, m_sub, m_augS, m_app, ap_o, ap_io, m_ct, ct_o, ct_io, m_isl, is_o, is_io, m_mut, m_mutB, m_mut0, intD_i, m_sl, m_pn, m_ps, rs_d, rs_l, rsR_rd, rsR_o, rsR_io, sl_l, sl_t, arg_n, arg_c, arg_d, arg_l, ar_o, ar_io, ar_lk, ar_rd, put_n, put_d, put_io, m_put, pt_o, pt_io, i_seq, src_l, src_t, src_o, src_n, sr_o, sr_io, sr_lk, i_rng, i_enum, i_zip, i_rev, unl_n, unl_c, unl_1, ul_lk, ob_t, ob_f, wp_n, wp_c, rt_n, rt_c, fl_un, fl_d, m_unpT, tupD_t, unp_n, unp_c, range_1, range_2, ext_l, ext_t, app_1, m_pc, m_par, rl_n, rl_d, rl_o, rl_l, rlR_o, sr_n, sto_d, sto_o, List.getElem?_cons_zero, List.getElem?_cons_succ, List.set_cons_zero, List.set_cons_succ, Option.map_some, Option.bind_some, if_true, and_self, at_0, at_1, at_2, at_3, sd_0, sd_1, sd_2, hm, hb, decide_true]
        rw [if_pos ⟨trivial, by omega⟩]
        simp only [m_vb, bnd_ok, bnd_er, m_vr, m_stuck, m_seq, bS_nx, bS_bk, bS_ct, bS_rt, bS_er, m_if, m_ite, bI_t, bI_f, bI_er, m_and, m_or, m_not, m_bool, evB_b, m_opt, m_optn, m_tru, tru_b, tru_i, tru_n, tru_l, tru_t, m_var, var_d, var_own, var_io, var_lk, var_rd, m_c, st_d, st_o, st_l, oc_l, oc_m, rd_d, rd_o, rd_l, rdR_own, rdR_io, rdR_lk, m_bin, m_un, m_call, m_rdn, m_rdc, m_cons, m_conss, m_tup, m_lst, dts_n, dts_c, o_map, o_bind, add_i, sub_i, mul_i, mod_i, fdiv_i, pow_i, neg_i, iadd_i, abs_i, int_i, int_b, len_l, len_t, add_l, add_t, lt_i, le_i, gt_i, ge_i, eq_i, ne_i, eqF_i, neF_i, tuple_l, tuple_t, list_l, list_t, ix_l, ix_t, m_ret, m_drop, m_nx, m_asg, m_nox, nx_ok, set_d, set_o, setD_, wr_un, wr_d, wr_o, wr_rd, m_aug, m_asgD, evD_d, evD_o, m_frzn, m_frzc, m_frz1, fz_d, fz_un, fz_io, fz_lk, fz_rd, fz_o, m_sub, m_augS, m_app, ap_o, ap_io, m_ct, ct_o, ct_io, m_isl, is_o, is_io, m_mut, m_mutB, m_mut0, intD_i, m_sl, m_pn, m_ps, rs_d, rs_l, rsR_rd, rsR_o, rsR_io, sl_l, sl_t, arg_n, arg_c, arg_d, arg_l, ar_o, ar_io, ar_lk, ar_rd, put_n, put_d, put_io, m_put, pt_o, pt_io, i_seq, src_l, src_t, src_o, src_n, sr_o, sr_io, sr_lk, i_rng, i_enum, i_zip, i_rev, unl_n, unl_c, unl_1, ul_lk, ob_t, ob_f, wp_n, wp_c, rt_n, rt_c, fl_un, fl_d, m_unpT, tupD_t, unp_n, unp_c, range_1, range_2, ext_l, ext_t, app_1, m_pc, m_par, rl_n, rl_d, rl_o, rl_l, rlR_o, sr_n, sto_d, sto_o, List.getElem?_cons_zero, List.getElem?_cons_succ, List.set_cons_zero, List.set_cons_succ, Option.map_some, Option.bind_some, if_true, and_self, at_0, at_1, at_2, at_3, sd_0, sd_1, sd_2]
        exact ⟨_, _, _, _, _, rfl, by simp, Int.emod_nonneg _ (by omega), Int.emod_lt_of_pos _ hm, _, _, _, cs, rfl, Int.ediv_nonneg h0 (by omega), h1, h2, h3, h4, h5, h6⟩
      · have g1 : (b1 + 1).natAbs.log2 + (39373 : Int).natAbs.log2 < 1000000 := mulg (by omega) (by omega) (by decide) (by decide)
        simp only [m_vb, bnd_ok, bnd_er, m_vr, m_stuck, m_seq, bS_nx, bS_bk, bS_ct, bS_rt, bS_er, m_if, m_ite, bI_t, bI_f, bI_er, m_and, m_or, m_not, m_bool, evB_b, m_opt, m_optn, m_tru, tru_b, tru_i, tru_n, tru_l, tru_t, m_var, var_d, var_own, var_io, var_lk, var_rd, m_c, st_d, st_o, st_l, oc_l, oc_m, rd_d, rd_o, rd_l, rdR_own, rdR_io, rdR_lk, m_bin, m_un, m_call, m_rdn, m_rdc, m_cons, m_conss, m_tup, m_lst, dts_n, dts_c, o_map, o_bind, add_i, sub_i, mul_i, mod_i, fdiv_i, pow_i, neg_i, iadd_i, abs_i, int_i, int_b, len_l, len_t, add_l, add_t, lt_i, le_i, gt_i, ge_i, eq_i, ne_i, eqF_i, neF_i, tuple_l, tuple_t, list_l, list_t, ix_l, ix_t, m_ret, m_drop, m_nx, m_asg, m_nox, nx_ok, set_d, set_o, setD_, wr_un, wr_d, wr_o, wr_rd, m_aug, m_asgD, evD_d, evD_o, m_frzn, m_frzc, m_frz1, fz_d, fz_un, fz_io, fz_lk, fz_rd, fz_o, m_sub, m_augS, m_app, ap_o, ap_io, m_ct, ct_o, ct_io, m_isl, is_o, is_io, m_mut, m_mutB, m_mut0, intD_i, m_sl, m_pn, m_ps, rs_d, rs_l, rsR_rd, rsR_o, rsR_io, sl_l, sl_t, arg_n, arg_c, arg_d, arg_l, ar_o, ar_io, ar_lk, ar_rd, put_n, put_d, put_io, m_put, pt_o, pt_io, i_seq, src_l, src_t, src_o, src_n, sr_o, sr_io, sr_lk, i_rng, i_enum, i_zip, i_rev, unl_n, unl_c, unl_1, ul_lk, ob_t, ob_f, wp_n, wp_c, rt_n, rt_c, fl_un, fl_d, m_unpT, tupD_t, unp_n, unp_c, range_1, range_2, ext_l, ext_t, app_1, m_pc, m_par, rl_n, rl_d, rl_o, rl_l, rlR_o, sr_n, sto_d, sto_o, List.getElem?_cons_zero, List.getElem?_cons_succ, List.set_cons_zero, List.set_cons_succ, Option.map_some, Option.bind_some, if_true, and_self, at_0, at_1, at_2, at_3, sd_0, sd_1, sd_2, hm, hb, decide_false, g1]
        have p1 : (0 : Int) < 1000000007 := by decide
        have p2 : (0 : Int) < 998244353 := by decide
        simp only [m_vb, bnd_ok, bnd_er, m_vr, m_stuck, m_seq, bS_nx, bS_bk, bS_ct, bS_rt, bS_er, m_if, m_ite, bI_t, bI_f, bI_er, m_and, m_or, m_not, m_bool, evB_b, m_opt, m_optn, m_tru, tru_b, tru_i, tru_n, tru_l, tru_t, m_var, var_d, var_own, var_io, var_lk, var_rd, m_c, st_d, st_o, st_l, oc_l, oc_m, rd_d, rd_o, rd_l, rdR_own, rdR_io, rdR_lk, m_bin, m_un, m_call, m_rdn, m_rdc, m_cons, m_conss, m_tup, m_lst, dts_n, dts_c, o_map, o_bind, add_i, sub_i, mul_i, mod_i, fdiv_i, pow_i, neg_i, iadd_i, abs_i, int_i, int_b, len_l, len_t, add_l, add_t, lt_i, le_i, gt_i, ge_i, eq_i, ne_i, eqF_i, neF_i, tuple_l, tuple_t, list_l, list_t, ix_l, ix_t, m_ret, m_drop, m_nx, m_asg, m_nox, nx_ok, set_d, set_o, setD_, wr_un, wr_d, wr_o, wr_rd, m_aug, m_asgD, evD_d, evD_o, m_frzn, m_frzc, m_frz1, fz_d, fz_un, fz_io, fz_lk, fz_rd, fz_o, m_sub, m_augS, m_app, ap_o, ap_io, m_ct, ct_o, ct_io, m_isl, is_o, is_io, m_mut, m_mutB, m_mut0, intD_i, m_sl, m_pn, m_ps, rs_d, rs_l, rsR_rd, rsR_o, rsR_io, sl_l, sl_t, arg_n, arg_c, arg_d, arg_l, ar_o, ar_io, ar_lk, ar_rd, put_n, put_d, put_io, m_put, pt_o, pt_io, i_seq, src_l, src_t, src_o, src_n, sr_o, sr_io, sr_lk, i_rng, i_enum, i_zip, i_rev, unl_n, unl_c, unl_1, ul_lk, ob_t, ob_f, wp_n, wp_c, rt_n, rt_c, fl_un, fl_d, m_unpT, tupD_t, unp_n, unp_c, range_1, range_2, ext_l, ext_t, app_1, m_pc, m_par, rl_n, rl_d, rl_o, rl_l, rlR_o, sr_n, sto_d, sto_o, List.getElem?_cons_zero, List.getElem?_cons_succ, List.set_cons_zero, List.set_cons_succ, Option.map_some, Option.bind_some, if_true, and_self, p1, p2]
        generalize hx : (b1 + 1) * 39373 % 1000000007 = x
        have x0 : 0 ≤ x := by rw [← hx]; exact Int.emod_nonneg _ (by decide)
        have x1 : x < 1000000007 := by rw [← hx]; exact Int.emod_lt_of_pos _ (by decide)
        have g2 : x.natAbs.log2 + x.natAbs.log2 < 1000000 := mulg x0 (by omega) x0 (by omega)
        simp only [m_vb, bnd_ok, bnd_er, m_vr, m_stuck, m_seq, bS_nx, bS_bk, bS_ct, bS_rt, bS_er, m_if, m_ite, bI_t, bI_f, bI_er, m_and, m_or, m_not, m_bool, evB_b, m_opt, m_optn, m_tru, tru_b, tru_i, tru_n, tru_l, tru_t, m_var, var_d, var_own, var_io, var_lk, var_rd, m_c, st_d, st_o, st_l, oc_l, oc_m, rd_d, rd_o, rd_l, rdR_own, rdR_io, rdR_lk, m_bin, m_un, m_call, m_rdn, m_rdc, m_cons, m_conss, m_tup, m_lst, dts_n, dts_c, o_map, o_bind, add_i, sub_i, mul_i, mod_i, fdiv_i, pow_i, neg_i, iadd_i, abs_i, int_i, int_b, len_l, len_t, add_l, add_t, lt_i, le_i, gt_i, ge_i, eq_i, ne_i, eqF_i, neF_i, tuple_l, tuple_t, list_l, list_t, ix_l, ix_t, m_ret, m_drop, m_nx, m_asg, m_nox, nx_ok, set_d, set_o, setD_, wr_un, wr_d, wr_o, wr_rd, m_aug, m_asgD, evD_d, evD_o, m_frzn, m_frzc, m_frz1, fz_d, fz_un, fz_io, fz_lk, fz_rd, fz_o, m_sub, m_augS, m_app, ap_o, ap_io, m_ct, ct_o, ct_io, m_isl, is_o, is_io, m_mut, m_mutB, m_mut0, intD_i, m_sl, m_pn, m_ps, rs_d, rs_l, rsR_rd, rsR_o, rsR_io, sl_l, sl_t, arg_n, arg_c, arg_d, arg_l, ar_o, ar_io, ar_lk, ar_rd, put_n, put_d, put_io, m_put, pt_o, pt_io, i_seq, src_l, src_t, src_o, src_n, sr_o, sr_io, sr_lk, i_rng, i_enum, i_zip, i_rev, unl_n, unl_c, unl_1, ul_lk, ob_t, ob_f, wp_n, wp_c, rt_n, rt_c, fl_un, fl_d, m_unpT, tupD_t, unp_n, unp_c, range_1, range_2, ext_l, ext_t, app_1, m_pc, m_par, rl_n, rl_d, rl_o, rl_l, rlR_o, sr_n, sto_d, sto_o, List.getElem?_cons_zero, List.getElem?_cons_succ, List.set_cons_zero, List.set_cons_succ, Option.map_some, Option.bind_some, if_true, and_self, g2, p2]
        generalize hy : x * x % 998244353 = y
        have y0 : 0 ≤ y := by rw [← hy]; exact Int.emod_nonneg _ (by decide)
        have y1 : y < 998244353 := by rw [← hy]; exact Int.emod_lt_of_pos _ (by decide)
        have g3 : y.natAbs.log2 + (30011 : Int).natAbs.log2 < 1000000 := mulg y0 (by omega) (by decide) (by decide)
        have p3 : (0 : Int) < 7 ∧ (7 : Int).natAbs.log2 < 9000 := by decide
        simp only [m_vb, bnd_ok, bnd_er, m_vr, m_stuck, m_seq, bS_nx, bS_bk, bS_ct, bS_rt, bS_er, m_if, m_ite, bI_t, bI_f, bI_er, m_and, m_or, m_not, m_bool, evB_b, m_opt, m_optn, m_tru, tru_b, tru_i, tru_n, tru_l, tru_t, m_var, var_d, var_own, var_io, var_lk, var_rd, m_c, st_d, st_o, st_l, oc_l, oc_m, rd_d, rd_o, rd_l, rdR_own, rdR_io, rdR_lk, m_bin, m_un, m_call, m_rdn, m_rdc, m_cons, m_conss, m_tup, m_lst, dts_n, dts_c, o_map, o_bind, add_i, sub_i, mul_i, mod_i, fdiv_i, pow_i, neg_i, iadd_i, abs_i, int_i, int_b, len_l, len_t, add_l, add_t, lt_i, le_i, gt_i, ge_i, eq_i, ne_i, eqF_i, neF_i, tuple_l, tuple_t, list_l, list_t, ix_l, ix_t, m_ret, m_drop, m_nx, m_asg, m_nox, nx_ok, set_d, set_o, setD_, wr_un, wr_d, wr_o, wr_rd, m_aug, m_asgD, evD_d, evD_o, m_frzn, m_frzc, m_frz1, fz_d, fz_un, fz_io, fz_lk, fz_rd, fz_o, m_sub, m_augS, m_app, ap_o, ap_io, m_ct, ct_o, ct_io, m_isl, is_o, is_io, m_mut, m_mutB, m_mut0, intD_i, m_sl, m_pn, m_ps, rs_d, rs_l, rsR_rd, rsR_o, rsR_io, sl_l, sl_t, arg_n, arg_c, arg_d, arg_l, ar_o, ar_io, ar_lk, ar_rd, put_n, put_d, put_io, m_put, pt_o, pt_io, i_seq, src_l, src_t, src_o, src_n, sr_o, sr_io, sr_lk, i_rng, i_enum, i_zip, i_rev, unl_n, unl_c, unl_1, ul_lk, ob_t, ob_f, wp_n, wp_c, rt_n, rt_c, fl_un, fl_d, m_unpT, tupD_t, unp_n, unp_c, range_1, range_2, ext_l, ext_t, app_1, m_pc, m_par, rl_n, rl_d, rl_o, rl_l, rlR_o, sr_n, sto_d, sto_o, List.getElem?_cons_zero, List.getElem?_cons_succ, List.set_cons_zero, List.set_cons_succ, Option.map_some, Option.bind_some, if_true, and_self, g3, p2, p3, hm]
        exact ⟨_, _, _, _, _, rfl, by simp, Int.emod_nonneg _ (by omega), Int.emod_lt_of_pos _ hm, _, _, _, cs, rfl, h0, h1, h2, h3, h4, h5, h6⟩
    by_cases hz : b0 = 0
    · subst hz
      obtain ⟨cell, c0, hc⟩ := head_cell cs b2.toNat h5
      have pw : (0 : Int) ≤ 18 ∧ (18 : Int) ≤ 1000000 ∧ (10 : Int).natAbs < 2 ^ 64 := by decide
      have q1 := mulg h1 (by omega) (show (0 : Int) ≤ 48271 by decide) (by decide)
      have q2 := mulg (show (0 : Int) ≤ 7919 by decide) (by decide) (show 0 ≤ b2 + 1 by omega) (by omega)
      have p1 : (0 : Int) < 2147483647 := by decide
      have l2 : ([PyData.int 0] : List Da).length ≤ 16777216 := by decide
      have l3 : ((cs.map PyData.int).drop b2.toNat).length + ([PyData.int 0] : List Da).length ≤ 16777216 := by rw [List.length_drop, List.length_map]; show _ + 1 ≤ _; omega
      generalize hst : b1 * 48271 + cell % 2147483647 + 7919 * (b2 + 1) = stir
      have s0 : 0 ≤ stir % 2147483647 := Int.emod_nonneg _ (by decide)
      have s1 : stir % 2147483647 < 4294967296 := by have := Int.emod_lt_of_pos stir p1; omega
      by_cases hw : 10 ^ (18 : Int).toNat ≤ cell
      · obtain ⟨v, b0', b1', b2', s, e, r⟩ := fin cell (stir % 2147483647) (b2 + 1) (.d (.int cell)) (.d (.int stir)) c0 s0 s1 (by omega) (by omega)
        refine ⟨v, b0', b1', b2', s, seq_then ?_ e, r⟩
        simp only [m_vb, bnd_ok, bnd_er, m_vr, m_stuck, m_seq, bS_nx, bS_bk, bS_ct, bS_rt, bS_er, m_if, m_ite, bI_t, bI_f, bI_er, m_and, m_or, m_not, m_bool, evB_b, m_opt, m_optn, m_tru, tru_b, tru_i, tru_n, tru_l, tru_t, m_var, var_d, var_own, var_io, var_lk, var_rd, m_c, st_d, st_o, st_l, oc_l, oc_m, rd_d, rd_o, rd_l, rdR_own, rdR_io, rdR_lk, m_bin, m_un, m_call, m_rdn, m_rdc, m_cons, m_conss, m_tup, m_lst, dts_n, dts_c, o_map, o_bind, add_i, sub_i, mul_i, mod_i, fdiv_i, pow_i, neg_i, iadd_i, abs_i, int_i, int_b, len_l, len_t, add_l, add_t, lt_i, le_i, gt_i, ge_i, eq_i, ne_i, eqF_i, neF_i, tuple_l, tuple_t, list_l, list_t, ix_l, ix_t, m_ret, m_drop, m_nx, m_asg, m_nox, nx_ok, set_d, set_o, setD_, wr_un, wr_d, wr_o, wr_rd, m_aug, m_asgD, evD_d, evD_o, m_frzn, m_frzc, m_frz1, fz_d, fz_un, fz_io, fz_lk, fz_rd, fz_o, m_sub, m_augS, m_app, ap_o, ap_io, m_ct, ct_o, ct_io, m_isl, is_o, is_io, m_mut, m_mutB, m_mut0, intD_i, m_sl, m_pn, m_ps, rs_d, rs_l, rsR_rd, rsR_o, rsR_io, sl_l, sl_t, arg_n, arg_c, arg_d, arg_l, ar_o, ar_io, ar_lk, ar_rd, put_n, put_d, put_io, m_put, pt_o, pt_io, i_seq, src_l, src_t, src_o, src_n, sr_o, sr_io, sr_lk, i_rng, i_enum, i_zip, i_rev, unl_n, unl_c, unl_1, ul_lk, ob_t, ob_f, wp_n, wp_c, rt_n, rt_c, fl_un, fl_d, m_unpT, tupD_t, unp_n, unp_c, range_1, range_2, ext_l, ext_t, app_1, m_pc, m_par, rl_n, rl_d, rl_o, rl_l, rlR_o, sr_n, sto_d, sto_o, List.getElem?_cons_zero, List.getElem?_cons_succ, List.set_cons_zero, List.set_cons_succ, Option.map_some, Option.bind_some, if_true, and_self, at_0, at_1, at_2, at_3, sd_0, sd_1, sd_2, decide_true, cut_from h3, l2, l3, hc, pw, q1, q2, p1, hw, hst]
      · obtain ⟨v, b0', b1', b2', s, e, r⟩ := fin 0 (stir % 2147483647) (b2 + 1) (.d (.int cell)) (.d (.int stir)) (by decide) s0 s1 (by omega) (by omega)
        refine ⟨v, b0', b1', b2', s, seq_then ?_ e, r⟩
        simp only [m_vb, bnd_ok, bnd_er, m_vr, m_stuck, m_seq, bS_nx, bS_bk, bS_ct, bS_rt, bS_er, m_if, m_ite, bI_t, bI_f, bI_er, m_and, m_or, m_not, m_bool, evB_b, m_opt, m_optn, m_tru, tru_b, tru_i, tru_n, tru_l, tru_t, m_var, var_d, var_own, var_io, var_lk, var_rd, m_c, st_d, st_o, st_l, oc_l, oc_m, rd_d, rd_o, rd_l, rdR_own, rdR_io, rdR_lk, m_bin, m_un, m_call, m_rdn, m_rdc, m_cons, m_conss, m_tup, m_lst, dts_n, dts_c, o_map, o_bind, add_i, sub_i, mul_i, mod_i, fdiv_i, pow_i, neg_i, iadd_i, abs_i, int_i, int_b, len_l, len_t, add_l, add_t, lt_i, le_i, gt_i, ge_i, eq_i, ne_i, eqF_i, neF_i, tuple_l, tuple_t, list_l, list_t, ix_l, ix_t, m_ret, m_drop, m_nx, m_asg, m_nox, nx_ok, set_d, set_o, setD_, wr_un, wr_d, wr_o, wr_rd, m_aug, m_asgD, evD_d, evD_o, m_frzn, m_frzc, m_frz1, fz_d, fz_un, fz_io, fz_lk, fz_rd, fz_o, m_sub, m_augS, m_app, ap_o, ap_io, m_ct, ct_o, ct_io, m_isl, is_o, is_io, m_mut, m_mutB, m_mut0, intD_i, m_sl, m_pn, m_ps, rs_d, rs_l, rsR_rd, rsR_o, rsR_io, sl_l, sl_t, arg_n, arg_c, arg_d, arg_l, ar_o, ar_io, ar_lk, ar_rd, put_n, put_d, put_io, m_put, pt_o, pt_io, i_seq, src_l, src_t, src_o, src_n, sr_o, sr_io, sr_lk, i_rng, i_enum, i_zip, i_rev, unl_n, unl_c, unl_1, ul_lk, ob_t, ob_f, wp_n, wp_c, rt_n, rt_c, fl_un, fl_d, m_unpT, tupD_t, unp_n, unp_c, range_1, range_2, ext_l, ext_t, app_1, m_pc, m_par, rl_n, rl_d, rl_o, rl_l, rlR_o, sr_n, sto_d, sto_o, List.getElem?_cons_zero, List.getElem?_cons_succ, List.set_cons_zero, List.set_cons_succ, Option.map_some, Option.bind_some, if_true, and_self, at_0, at_1, at_2, at_3, sd_0, sd_1, sd_2, decide_true, decide_false, cut_from h3, l2, l3, hc, pw, q1, q2, p1, hw, hst]
    · obtain ⟨v, b0', b1', b2', s, e, r⟩ := fin b0 b1 b2 .un .un h0 h1 h2 h3 (by omega)
      refine ⟨v, b0', b1', b2', s, seq_then ?_ e, r⟩
      simp only [m_vb, bnd_ok, bnd_er, m_vr, m_stuck, m_seq, bS_nx, bS_bk, bS_ct, bS_rt, bS_er, m_if, m_ite, bI_t, bI_f, bI_er, m_and, m_or, m_not, m_bool, evB_b, m_opt, m_optn, m_tru, tru_b, tru_i, tru_n, tru_l, tru_t, m_var, var_d, var_own, var_io, var_lk, var_rd, m_c, st_d, st_o, st_l, oc_l, oc_m, rd_d, rd_o, rd_l, rdR_own, rdR_io, rdR_lk, m_bin, m_un, m_call, m_rdn, m_rdc, m_cons, m_conss, m_tup, m_lst, dts_n, dts_c, o_map, o_bind, add_i, sub_i, mul_i, mod_i, fdiv_i, pow_i, neg_i, iadd_i, abs_i, int_i, int_b, len_l, len_t, add_l, add_t, lt_i, le_i, gt_i, ge_i, eq_i, ne_i, eqF_i, neF_i, tuple_l, tuple_t, list_l, list_t, ix_l, ix_t, m_ret, m_drop, m_nx, m_asg, m_nox, nx_ok, set_d, set_o, setD_, wr_un, wr_d, wr_o, wr_rd, m_aug, m_asgD, evD_d, evD_o, m_frzn, m_frzc, m_frz1, fz_d, fz_un, fz_io, fz_lk, fz_rd, fz_o, m_sub, m_augS, m_app, ap_o, ap_io, m_ct, ct_o, ct_io, m_isl, is_o, is_io, m_mut, m_mutB, m_mut0, intD_i, m_sl, m_pn, m_ps, rs_d, rs_l, rsR_rd, rsR_o, rsR_io, sl_l, sl_t, arg_n, arg_c, arg_d, arg_l, ar_o, ar_io, ar_lk, ar_rd, put_n, put_d, put_io, m_put, pt_o, pt_io, i_seq, src_l, src_t, src_o, src_n, sr_o, sr_io, sr_lk, i_rng, i_enum, i_zip, i_rev, unl_n, unl_c, unl_1, ul_lk, ob_t, ob_f, wp_n, wp_c, rt_n, rt_c, fl_un, fl_d, m_unpT, tupD_t, unp_n, unp_c, range_1, range_2, ext_l, ext_t, app_1, m_pc, m_par, rl_n, rl_d, rl_o, rl_l, rlR_o, sr_n, sto_d, sto_o, List.getElem?_cons_zero, List.getElem?_cons_succ, List.set_cons_zero, List.set_cons_succ, Option.map_some, Option.bind_some, if_true, and_self, at_0, decide_false, hz]
  obtain ⟨v, b0', b1', b2', s, e, hs, hv, hv2, hb'⟩ := key
  refine ⟨v, _, ?_, hv, hv2, hb'⟩
  cases s with
  | nil => exact absurd rfl hs
  | cons x s => exact run_ok (c := .rt (.d (.int v))) e rfl
end LB
set_option Elab.async false
set_option linter.all false
set_option maxRecDepth 100000
namespace LB
open PySem PySem.Spec PyProof.Rows L2 VL
/-- ints as a tuple -/
def tupI (xs : List Int) : Da := .tuple (xs.map PyData.int)
theorem cut_to {xs : List Da} {i : Int} (h : 0 ≤ i) : VL.cutD xs none (some i) = xs.take i.toNat := by
  obtain ⟨k, rfl⟩ := Int.eq_ofNat_of_zero_le h
  unfold VL.cutD
  rw [show HT.sIx xs.length xs.length (some (k : Int)) = min k xs.length from HT.sIx_nat xs.length xs.length k, HT.sIx_none]
  show List.take (min k xs.length - 0) (List.drop 0 xs) = List.take k xs
  rw [Nat.sub_zero, List.drop_zero]
  by_cases hk : k ≤ xs.length
  · rw [Nat.min_eq_left hk]
  · rw [Nat.min_eq_right (by omega), List.take_of_length_le (Nat.le_refl _), List.take_of_length_le (by omega)]
theorem bag_ok (ns : List Int) : ∃ cs : List Int, F__law_bag [.rd (ns.map PyData.int)] = .ok (.own (.l (bagL 0 1234567891 0 cs)), [.rd (ns.map PyData.int)]) ∧ (∀ c ∈ cs, 0 ≤ c) ∧ cs.length ≤ 63 := by
  refine ⟨(ns.take 63).map fun i => if i < 0 then -i else i, ?_, ?_, ?_⟩
  · refine run_ok (c := .rt (.own (.l (bagL 0 1234567891 0 ((ns.take 63).map fun i => if i < 0 then -i else i))))) (s := [.rd (ns.map PyData.int), .un]) ?_ rfl
    show g__law_bag [.rd (ns.map PyData.int), .un] = _
    have lc : vLcF [1] (vItSeq (vSl (vVar 0) (vPart none) (vPart (some (vC (.int 63)))))) (vSetD 1) (vr true) (vCall absD (vCons (vVar 1) (vr []))) [.rd (ns.map PyData.int), .un] = .ok (.own (.l (((ns.take 63).filter fun _ => true).map fun i => PyData.int (if i < 0 then -i else i))), [.rd (ns.map PyData.int), .un]) := by
      refine lcF_of (xs := (ns.take 63).map PyData.int) (L := []) (s1 := [.rd (ns.map PyData.int), .un]) (s2 := [.rd (ns.map PyData.int), .un]) ?_ rfl ?_ ?_
      · simp only [m_vb, bnd_ok, bnd_er, m_vr, m_stuck, m_seq, bS_nx, bS_bk, bS_ct, bS_rt, bS_er, m_if, m_ite, bI_t, bI_f, bI_er, m_and, m_or, m_not, m_bool, evB_b, m_opt, m_optn, m_tru, tru_b, tru_i, tru_n, tru_l, tru_t, m_var, var_d, var_own, var_io, var_lk, var_rd, m_c, st_d, st_o, st_l, oc_l, oc_m, rd_d, rd_o, rd_l, rdR_own, rdR_io, rdR_lk, m_bin, m_un, m_call, m_rdn, m_rdc, m_cons, m_conss, m_tup, m_lst, dts_n, dts_c, o_map, o_bind, add_i, sub_i, mul_i, mod_i, fdiv_i, pow_i, neg_i, iadd_i, abs_i, int_i, int_b, len_l, len_t, add_l, add_t, lt_i, le_i, gt_i, ge_i, eq_i, ne_i, eqF_i, neF_i, tuple_l, tuple_t, list_l, list_t, ix_l, ix_t, m_ret, m_drop, m_nx, m_asg, m_nox, nx_ok, set_d, set_o, setD_, wr_un, wr_d, wr_o, wr_rd, m_aug, m_asgD, evD_d, evD_o, m_frzn, m_frzc, m_frz1, fz_d, fz_un, fz_io, fz_lk, fz_rd, fz_o, m_sub, m_augS, m_app, ap_o, ap_io, m_ct, ct_o, ct_io, m_isl, is_o, is_io, m_mut, m_mutB, m_mut0, intD_i, m_sl, m_pn, m_ps, rs_d, rs_l, rsR_rd, rsR_o, rsR_io, sl_l, sl_t, arg_n, arg_c, arg_d, arg_l, ar_o, ar_io, ar_lk, ar_rd, put_n, put_d, put_io, m_put, pt_o, pt_io, i_seq, src_l, src_t, src_o, src_n, sr_o, sr_io, sr_lk, i_rng, i_enum, i_zip, i_rev, unl_n, unl_c, unl_1, ul_lk, ob_t, ob_f, wp_n, wp_c, rt_n, rt_c, fl_un, fl_d, m_unpT, tupD_t, unp_n, unp_c, range_1, range_2, ext_l, ext_t, app_1, m_pc, m_par, rl_n, rl_d, rl_o, rl_l, rlR_o, sr_n, sto_d, sto_o, List.getElem?_cons_zero, List.getElem?_cons_succ, List.set_cons_zero, List.set_cons_succ, Option.map_some, Option.bind_some, if_true, and_self, cut_to (show (0 : Int) ≤ 63 by decide)]
        rw [List.map_take]; rfl
      · exact lcG_pure (p := fun _ => true) (h := fun i => PyData.int (if i < 0 then -i else i)) (ns.take 63) fun i _ => ⟨[.rd (ns.map PyData.int), .d (.int i)], [.rd (ns.map PyData.int), .d (.int i)], by simp only [m_vb, bnd_ok, bnd_er, m_vr, m_stuck, m_seq, bS_nx, bS_bk, bS_ct, bS_rt, bS_er, m_if, m_ite, bI_t, bI_f, bI_er, m_and, m_or, m_not, m_bool, evB_b, m_opt, m_optn, m_tru, tru_b, tru_i, tru_n, tru_l, tru_t, m_var, var_d, var_own, var_io, var_lk, var_rd, m_c, st_d, st_o, st_l, oc_l, oc_m, rd_d, rd_o, rd_l, rdR_own, rdR_io, rdR_lk, m_bin, m_un, m_call, m_rdn, m_rdc, m_cons, m_conss, m_tup, m_lst, dts_n, dts_c, o_map, o_bind, add_i, sub_i, mul_i, mod_i, fdiv_i, pow_i, neg_i, iadd_i, abs_i, int_i, int_b, len_l, len_t, add_l, add_t, lt_i, le_i, gt_i, ge_i, eq_i, ne_i, eqF_i, neF_i, tuple_l, tuple_t, list_l, list_t, ix_l, ix_t, m_ret, m_drop, m_nx, m_asg, m_nox, nx_ok, set_d, set_o, setD_, wr_un, wr_d, wr_o, wr_rd, m_aug, m_asgD, evD_d, evD_o, m_frzn, m_frzc, m_frz1, fz_d, fz_un, fz_io, fz_lk, fz_rd, fz_o, m_sub, m_augS, m_app, ap_o, ap_io, m_ct, ct_o, ct_io, m_isl, is_o, is_io, m_mut, m_mutB, m_mut0, intD_i, m_sl, m_pn, m_ps, rs_d, rs_l, rsR_rd, rsR_o, rsR_io, sl_l, sl_t, arg_n, arg_c, arg_d, arg_l, ar_o, ar_io, ar_lk, ar_rd, put_n, put_d, put_io, m_put, pt_o, pt_io, i_seq, src_l, src_t, src_o, src_n, sr_o, sr_io, sr_lk, i_rng, i_enum, i_zip, i_rev, unl_n, unl_c, unl_1, ul_lk, ob_t, ob_f, wp_n, wp_c, rt_n, rt_c, fl_un, fl_d, m_unpT, tupD_t, unp_n, unp_c, range_1, range_2, ext_l, ext_t, app_1, m_pc, m_par, rl_n, rl_d, rl_o, rl_l, rlR_o, sr_n, sto_d, sto_o, List.getElem?_cons_zero, List.getElem?_cons_succ, List.set_cons_zero, List.set_cons_succ, Option.map_some, Option.bind_some, if_true, and_self], rfl, fun h => absurd h (by decide), fun _ => ⟨.d (.int (if i < 0 then -i else i)), [.rd (ns.map PyData.int), .d (.int i)], by simp only [m_vb, bnd_ok, bnd_er, m_vr, m_stuck, m_seq, bS_nx, bS_bk, bS_ct, bS_rt, bS_er, m_if, m_ite, bI_t, bI_f, bI_er, m_and, m_or, m_not, m_bool, evB_b, m_opt, m_optn, m_tru, tru_b, tru_i, tru_n, tru_l, tru_t, m_var, var_d, var_own, var_io, var_lk, var_rd, m_c, st_d, st_o, st_l, oc_l, oc_m, rd_d, rd_o, rd_l, rdR_own, rdR_io, rdR_lk, m_bin, m_un, m_call, m_rdn, m_rdc, m_cons, m_conss, m_tup, m_lst, dts_n, dts_c, o_map, o_bind, add_i, sub_i, mul_i, mod_i, fdiv_i, pow_i, neg_i, iadd_i, abs_i, int_i, int_b, len_l, len_t, add_l, add_t, lt_i, le_i, gt_i, ge_i, eq_i, ne_i, eqF_i, neF_i, tuple_l, tuple_t, list_l, list_t, ix_l, ix_t, m_ret, m_drop, m_nx, m_asg, m_nox, nx_ok, set_d, set_o, setD_, wr_un, wr_d, wr_o, wr_rd, m_aug, m_asgD, evD_d, evD_o, m_frzn, m_frzc, m_frz1, fz_d, fz_un, fz_io, fz_lk, fz_rd, fz_o, m_sub, m_augS, m_app, ap_o, ap_io, m_ct, ct_o, ct_io, m_isl, is_o, is_io, m_mut, m_mutB, m_mut0, intD_i, m_sl, m_pn, m_ps, rs_d, rs_l, rsR_rd, rsR_o, rsR_io, sl_l, sl_t, arg_n, arg_c, arg_d, arg_l, ar_o, ar_io, ar_lk, ar_rd, put_n, put_d, put_io, m_put, pt_o, pt_io, i_seq, src_l, src_t, src_o, src_n, sr_o, sr_io, sr_lk, i_rng, i_enum, i_zip, i_rev, unl_n, unl_c, unl_1, ul_lk, ob_t, ob_f, wp_n, wp_c, rt_n, rt_c, fl_un, fl_d, m_unpT, tupD_t, unp_n, unp_c, range_1, range_2, ext_l, ext_t, app_1, m_pc, m_par, rl_n, rl_d, rl_o, rl_l, rlR_o, sr_n, sto_d, sto_o, List.getElem?_cons_zero, List.getElem?_cons_succ, List.set_cons_zero, List.set_cons_succ, Option.map_some, Option.bind_some, if_true, and_self], rfl, rfl, rfl⟩⟩
      · rw [List.length_map]
        have := List.length_filter_le (fun _ => true) (ns.take 63)
        have := List.length_take_le 63 ns
        omega
    unfold g__law_bag
    simp only [m_vb, bnd_ok, bnd_er, m_vr, m_stuck, m_seq, bS_nx, bS_bk, bS_ct, bS_rt, bS_er, m_if, m_ite, bI_t, bI_f, bI_er, m_and, m_or, m_not, m_bool, evB_b, m_opt, m_optn, m_tru, tru_b, tru_i, tru_n, tru_l, tru_t, m_var, var_d, var_own, var_io, var_lk, var_rd, m_c, st_d, st_o, st_l, oc_l, oc_m, rd_d, rd_o, rd_l, rdR_own, rdR_io, rdR_lk, m_bin, m_un, m_call, m_rdn, m_rdc, m_cons, m_conss, m_tup, m_lst, dts_n, dts_c, o_map, o_bind, add_i, sub_i, mul_i, mod_i, fdiv_i, pow_i, neg_i, iadd_i, abs_i, int_i, int_b, len_l, len_t, add_l, add_t, lt_i, le_i, gt_i, ge_i, eq_i, ne_i, eqF_i, neF_i, tuple_l, tuple_t, list_l, list_t, ix_l, ix_t, m_ret, m_drop, m_nx, m_asg, m_nox, nx_ok, set_d, set_o, setD_, wr_un, wr_d, wr_o, wr_rd, m_aug, m_asgD, evD_d, evD_o, m_frzn, m_frzc, m_frz1, fz_d, fz_un, fz_io, fz_lk, fz_rd, fz_o, m_sub, m_augS, m_app, ap_o, ap_io, m_ct, ct_o, ct_io, m_isl, is_o, is_io, m_mut, m_mutB, m_mut0, intD_i, m_sl, m_pn, m_ps, rs_d, rs_l, rsR_rd, rsR_o, rsR_io, sl_l, sl_t, arg_n, arg_c, arg_d, arg_l, ar_o, ar_io, ar_lk, ar_rd, put_n, put_d, put_io, m_put, pt_o, pt_io, i_seq, src_l, src_t, src_o, src_n, sr_o, sr_io, sr_lk, i_rng, i_enum, i_zip, i_rev, unl_n, unl_c, unl_1, ul_lk, ob_t, ob_f, wp_n, wp_c, rt_n, rt_c, fl_un, fl_d, m_unpT, tupD_t, unp_n, unp_c, range_1, range_2, ext_l, ext_t, app_1, m_pc, m_par, rl_n, rl_d, rl_o, rl_l, rlR_o, sr_n, sto_d, sto_o, List.getElem?_cons_zero, List.getElem?_cons_succ, List.set_cons_zero, List.set_cons_succ, Option.map_some, Option.bind_some, if_true, and_self, lc]
    rw [List.filter_eq_self.mpr (by simp)]
    simp only [m_vb, bnd_ok, bnd_er, m_vr, m_stuck, m_seq, bS_nx, bS_bk, bS_ct, bS_rt, bS_er, m_if, m_ite, bI_t, bI_f, bI_er, m_and, m_or, m_not, m_bool, evB_b, m_opt, m_optn, m_tru, tru_b, tru_i, tru_n, tru_l, tru_t, m_var, var_d, var_own, var_io, var_lk, var_rd, m_c, st_d, st_o, st_l, oc_l, oc_m, rd_d, rd_o, rd_l, rdR_own, rdR_io, rdR_lk, m_bin, m_un, m_call, m_rdn, m_rdc, m_cons, m_conss, m_tup, m_lst, dts_n, dts_c, o_map, o_bind, add_i, sub_i, mul_i, mod_i, fdiv_i, pow_i, neg_i, iadd_i, abs_i, int_i, int_b, len_l, len_t, add_l, add_t, lt_i, le_i, gt_i, ge_i, eq_i, ne_i, eqF_i, neF_i, tuple_l, tuple_t, list_l, list_t, ix_l, ix_t, m_ret, m_drop, m_nx, m_asg, m_nox, nx_ok, set_d, set_o, setD_, wr_un, wr_d, wr_o, wr_rd, m_aug, m_asgD, evD_d, evD_o, m_frzn, m_frzc, m_frz1, fz_d, fz_un, fz_io, fz_lk, fz_rd, fz_o, m_sub, m_augS, m_app, ap_o, ap_io, m_ct, ct_o, ct_io, m_isl, is_o, is_io, m_mut, m_mutB, m_mut0, intD_i, m_sl, m_pn, m_ps, rs_d, rs_l, rsR_rd, rsR_o, rsR_io, sl_l, sl_t, arg_n, arg_c, arg_d, arg_l, ar_o, ar_io, ar_lk, ar_rd, put_n, put_d, put_io, m_put, pt_o, pt_io, i_seq, src_l, src_t, src_o, src_n, sr_o, sr_io, sr_lk, i_rng, i_enum, i_zip, i_rev, unl_n, unl_c, unl_1, ul_lk, ob_t, ob_f, wp_n, wp_c, rt_n, rt_c, fl_un, fl_d, m_unpT, tupD_t, unp_n, unp_c, range_1, range_2, ext_l, ext_t, app_1, m_pc, m_par, rl_n, rl_d, rl_o, rl_l, rlR_o, sr_n, sto_d, sto_o, List.getElem?_cons_zero, List.getElem?_cons_succ, List.set_cons_zero, List.set_cons_succ, Option.map_some, Option.bind_some, if_true, and_self, List.length_cons, List.length_nil]
    unfold bagL
    rw [List.map_map]
    rfl
  · intro c hc
    obtain ⟨i, _, rfl⟩ := List.mem_map.mp hc
    split <;> omega
  · rw [List.length_map]; exact List.length_take_le 63 ns
/-- a list of one's own, or a parameter's -/
theorem arg_ob {s : VS} {k : Nat} {b : Bool} {c : OC} (h : s[k]? = some (ownB b c)) : argSV1 s (.loan k) = some (.io c) := by
  rw [arg_l, h]; cases b <;> rfl
theorem put_ob {s : VS} {k : Nat} {b : Bool} {c c' : OC} (h : s[k]? = some (ownB b c)) : putC k c' s = s.set k (ownB b c') := by
  rw [m_put, h]; cases b <;> rfl
theorem take_at {n k : Nat} {s : VS} {b : Bool} {bag : List Da} {m : Int} (hs : s[k]? = some (ownB b (.l bag))) (hb : BagOk (n + 1) bag) (hm : 0 < m) (hm2 : m < 9223372036854775808) :
    ∃ (v : Int) (bag' : List Da), callF F__law_take [.loan k, .d (.int m)] s = .ok (.d (.int v), s.set k (ownB b (.l bag'))) ∧ 0 ≤ v ∧ v < m ∧ BagOk n bag' := by
  obtain ⟨v, bag', h, h0, h1, hb'⟩ := take_ok hb hm hm2
  refine ⟨v, bag', ?_, h0, h1, hb'⟩
  rw [callF_ok (by simp [loans]) (by rw [arg_c, arg_ob hs]; rfl) h (fun i => by intro z; cases z), put_io, put_ob hs, put_d, put_n]
theorem rngD_map (n : Nat) : rngD 0 n 1 = (List.range n).map fun (i : Nat) => PyData.int (Int.ofNat i) := by
  unfold rngD
  apply List.map_congr_left
  intro i _
  rw [Int.zero_add, Int.mul_one]; rfl
theorem yard_ok {n : Nat} {bag : List Da} {m : Nat} (hb : BagOk (n + m + 1) bag) (hm : 0 < m) (hm2 : m ≤ 1000) :
    ∃ (ys : List Int) (bag' : List Da), F__law_yard [.io (.l bag), .d (.int m)] = .ok (.d (tupI ys), [.io (.l bag'), .d (.int m)]) ∧ 1 ≤ ys.length ∧ ys.length ≤ m ∧ (∀ y ∈ ys, y = 0 ∨ y = 1) ∧ BagOk n bag' := by
  obtain ⟨v, bag1, h1, v0, v1, hb1⟩ := take_at (k := 0) (s := [.io (.l bag), .d (.int m), .un]) (b := true) rfl hb (show (0 : Int) < (m : Int) by omega) (by omega)
  obtain ⟨w, rfl⟩ := Int.eq_ofNat_of_zero_le v0
  have hr : -1000000000 ≤ (1 + (w : Int)) ∧ (1 + (w : Int)) ≤ 1000000000 := by omega
  have hi : vItRng (vCons (vBin addD (vC (.int 1)) (vCallF F__law_take (vCons (vVar 0) (vCons (vVar 1) (vr []))))) (vr [])) [.io (.l bag), .d (.int m), .un] = .ok ((rngD 0 (w + 1) 1, []), [.io (.l bag1), .d (.int m), .un]) := by
    have e : (1 + (w : Int)).toNat = w + 1 := by omega
    simp only [m_vb, bnd_ok, bnd_er, m_vr, m_stuck, m_seq, bS_nx, bS_bk, bS_ct, bS_rt, bS_er, m_if, m_ite, bI_t, bI_f, bI_er, m_and, m_or, m_not, m_bool, evB_b, m_opt, m_optn, m_tru, tru_b, tru_i, tru_n, tru_l, tru_t, m_var, var_d, var_own, var_io, var_lk, var_rd, m_c, st_d, st_o, st_l, oc_l, oc_m, rd_d, rd_o, rd_l, rdR_own, rdR_io, rdR_lk, m_bin, m_un, m_call, m_rdn, m_rdc, m_cons, m_conss, m_tup, m_lst, dts_n, dts_c, o_map, o_bind, add_i, sub_i, mul_i, mod_i, fdiv_i, pow_i, neg_i, iadd_i, abs_i, int_i, int_b, len_l, len_t, add_l, add_t, lt_i, le_i, gt_i, ge_i, eq_i, ne_i, eqF_i, neF_i, tuple_l, tuple_t, list_l, list_t, ix_l, ix_t, m_ret, m_drop, m_nx, m_asg, m_nox, nx_ok, set_d, set_o, setD_, wr_un, wr_d, wr_o, wr_rd, m_aug, m_asgD, evD_d, evD_o, m_frzn, m_frzc, m_frz1, fz_d, fz_un, fz_io, fz_lk, fz_rd, fz_o, m_sub, m_augS, m_app, ap_o, ap_io, m_ct, ct_o, ct_io, m_isl, is_o, is_io, m_mut, m_mutB, m_mut0, intD_i, m_sl, m_pn, m_ps, rs_d, rs_l, rsR_rd, rsR_o, rsR_io, sl_l, sl_t, arg_n, arg_c, arg_d, arg_l, ar_o, ar_io, ar_lk, ar_rd, put_n, put_d, put_io, m_put, pt_o, pt_io, i_seq, src_l, src_t, src_o, src_n, sr_o, sr_io, sr_lk, i_rng, i_enum, i_zip, i_rev, unl_n, unl_c, unl_1, ul_lk, ob_t, ob_f, wp_n, wp_c, rt_n, rt_c, fl_un, fl_d, m_unpT, tupD_t, unp_n, unp_c, range_1, range_2, ext_l, ext_t, app_1, m_pc, m_par, rl_n, rl_d, rl_o, rl_l, rlR_o, sr_n, sto_d, sto_o, List.getElem?_cons_zero, List.getElem?_cons_succ, List.set_cons_zero, List.set_cons_succ, Option.map_some, Option.bind_some, if_true, and_self, m_callF, h1, ob_t, range_1, hr, e]
  obtain ⟨ys, s', hG, q, bag2, e1, e2, hb2, h01, hl⟩ := lcG_inv (ix := [2]) (gt := vSetD 2) (tt := vr true) (te := vCallF F__law_take (vCons (vVar 0) (vCons (vC (.int 2)) (vr []))))
    (fun xs acc s => ∃ (q : List Int) (bag' : List Da), acc = q.map PyData.int ∧ s = [.io (.l bag'), .d (.int m), .un] ∧ BagOk (n + xs.length) bag' ∧ (∀ y ∈ q, y = 0 ∨ y = 1) ∧ q.length + xs.length = w + 1)
    (fun x xs acc s hR => by
      obtain ⟨q, bag', rfl, rfl, hb', h01, hl⟩ := hR
      obtain ⟨v, bag2, h2, v0, v1, hb2⟩ := take_at (k := 0) (s := [.io (.l bag'), .d (.int m), .d x]) (b := true) (n := n + xs.length) rfl hb' (show (0 : Int) < 2 by decide) (by decide)
      refine ⟨[.io (.l bag'), .d (.int m), .d x], true, _, by simp only [m_vb, bnd_ok, bnd_er, m_vr, m_stuck, m_seq, bS_nx, bS_bk, bS_ct, bS_rt, bS_er, m_if, m_ite, bI_t, bI_f, bI_er, m_and, m_or, m_not, m_bool, evB_b, m_opt, m_optn, m_tru, tru_b, tru_i, tru_n, tru_l, tru_t, m_var, var_d, var_own, var_io, var_lk, var_rd, m_c, st_d, st_o, st_l, oc_l, oc_m, rd_d, rd_o, rd_l, rdR_own, rdR_io, rdR_lk, m_bin, m_un, m_call, m_rdn, m_rdc, m_cons, m_conss, m_tup, m_lst, dts_n, dts_c, o_map, o_bind, add_i, sub_i, mul_i, mod_i, fdiv_i, pow_i, neg_i, iadd_i, abs_i, int_i, int_b, len_l, len_t, add_l, add_t, lt_i, le_i, gt_i, ge_i, eq_i, ne_i, eqF_i, neF_i, tuple_l, tuple_t, list_l, list_t, ix_l, ix_t, m_ret, m_drop, m_nx, m_asg, m_nox, nx_ok, set_d, set_o, setD_, wr_un, wr_d, wr_o, wr_rd, m_aug, m_asgD, evD_d, evD_o, m_frzn, m_frzc, m_frz1, fz_d, fz_un, fz_io, fz_lk, fz_rd, fz_o, m_sub, m_augS, m_app, ap_o, ap_io, m_ct, ct_o, ct_io, m_isl, is_o, is_io, m_mut, m_mutB, m_mut0, intD_i, m_sl, m_pn, m_ps, rs_d, rs_l, rsR_rd, rsR_o, rsR_io, sl_l, sl_t, arg_n, arg_c, arg_d, arg_l, ar_o, ar_io, ar_lk, ar_rd, put_n, put_d, put_io, m_put, pt_o, pt_io, i_seq, src_l, src_t, src_o, src_n, sr_o, sr_io, sr_lk, i_rng, i_enum, i_zip, i_rev, unl_n, unl_c, unl_1, ul_lk, ob_t, ob_f, wp_n, wp_c, rt_n, rt_c, fl_un, fl_d, m_unpT, tupD_t, unp_n, unp_c, range_1, range_2, ext_l, ext_t, app_1, m_pc, m_par, rl_n, rl_d, rl_o, rl_l, rlR_o, sr_n, sto_d, sto_o, List.getElem?_cons_zero, List.getElem?_cons_succ, List.set_cons_zero, List.set_cons_succ, Option.map_some, Option.bind_some, if_true, and_self], rfl, fun h => absurd h (by decide), fun _ => ⟨.d (.int v), .int v, [.io (.l bag2), .d (.int m), .d x], ?_, rfl, rfl, q ++ [v], bag2, by rw [List.map_append]; rfl, rfl, hb2, fun y hy => ?_, ?_⟩⟩
      · simp only [m_vb, bnd_ok, bnd_er, m_vr, m_stuck, m_seq, bS_nx, bS_bk, bS_ct, bS_rt, bS_er, m_if, m_ite, bI_t, bI_f, bI_er, m_and, m_or, m_not, m_bool, evB_b, m_opt, m_optn, m_tru, tru_b, tru_i, tru_n, tru_l, tru_t, m_var, var_d, var_own, var_io, var_lk, var_rd, m_c, st_d, st_o, st_l, oc_l, oc_m, rd_d, rd_o, rd_l, rdR_own, rdR_io, rdR_lk, m_bin, m_un, m_call, m_rdn, m_rdc, m_cons, m_conss, m_tup, m_lst, dts_n, dts_c, o_map, o_bind, add_i, sub_i, mul_i, mod_i, fdiv_i, pow_i, neg_i, iadd_i, abs_i, int_i, int_b, len_l, len_t, add_l, add_t, lt_i, le_i, gt_i, ge_i, eq_i, ne_i, eqF_i, neF_i, tuple_l, tuple_t, list_l, list_t, ix_l, ix_t, m_ret, m_drop, m_nx, m_asg, m_nox, nx_ok, set_d, set_o, setD_, wr_un, wr_d, wr_o, wr_rd, m_aug, m_asgD, evD_d, evD_o, m_frzn, m_frzc, m_frz1, fz_d, fz_un, fz_io, fz_lk, fz_rd, fz_o, m_sub, m_augS, m_app, ap_o, ap_io, m_ct, ct_o, ct_io, m_isl, is_o, is_io, m_mut, m_mutB, m_mut0, intD_i, m_sl, m_pn, m_ps, rs_d, rs_l, rsR_rd, rsR_o, rsR_io, sl_l, sl_t, arg_n, arg_c, arg_d, arg_l, ar_o, ar_io, ar_lk, ar_rd, put_n, put_d, put_io, m_put, pt_o, pt_io, i_seq, src_l, src_t, src_o, src_n, sr_o, sr_io, sr_lk, i_rng, i_enum, i_zip, i_rev, unl_n, unl_c, unl_1, ul_lk, ob_t, ob_f, wp_n, wp_c, rt_n, rt_c, fl_un, fl_d, m_unpT, tupD_t, unp_n, unp_c, range_1, range_2, ext_l, ext_t, app_1, m_pc, m_par, rl_n, rl_d, rl_o, rl_l, rlR_o, sr_n, sto_d, sto_o, List.getElem?_cons_zero, List.getElem?_cons_succ, List.set_cons_zero, List.set_cons_succ, Option.map_some, Option.bind_some, if_true, and_self, m_callF, h2, ob_t]
      · rcases List.mem_append.mp hy with hy | hy
        · exact h01 y hy
        · have := List.mem_singleton.mp hy; omega
      · rw [List.length_append]; simp only [List.length_cons, List.length_nil] at hl ⊢; omega) (rngD 0 (w + 1) 1) [] [.io (.l bag1), .d (.int m), .un]
    ⟨[], bag1, rfl, rfl, by rw [rngD_len]; exact hb1.mono (by omega), fun _ h => (by cases h), by rw [rngD_len]; simp⟩
  rw [List.nil_append] at e1
  subst e1 e2
  have hl : q.length = w + 1 := by simpa using hl
  have lc := lcF_of (ix := [2]) (s2 := [.io (.l bag2), .d (.int m), .un]) hi rfl hG (by rw [List.length_map]; omega)
  refine ⟨q, bag2, ?_, by omega, by omega, h01, hb2.mono (by simp)⟩
  refine run_ok (c := .rt (.d (tupI q))) (s := [.io (.l bag2), .d (.int m), .un]) ?_ rfl
  show g__law_yard [.io (.l bag), .d (.int m), .un] = _
  unfold g__law_yard
  simp only [m_vb, bnd_ok, bnd_er, m_vr, m_stuck, m_seq, bS_nx, bS_bk, bS_ct, bS_rt, bS_er, m_if, m_ite, bI_t, bI_f, bI_er, m_and, m_or, m_not, m_bool, evB_b, m_opt, m_optn, m_tru, tru_b, tru_i, tru_n, tru_l, tru_t, m_var, var_d, var_own, var_io, var_lk, var_rd, m_c, st_d, st_o, st_l, oc_l, oc_m, rd_d, rd_o, rd_l, rdR_own, rdR_io, rdR_lk, m_bin, m_un, m_call, m_rdn, m_rdc, m_cons, m_conss, m_tup, m_lst, dts_n, dts_c, o_map, o_bind, add_i, sub_i, mul_i, mod_i, fdiv_i, pow_i, neg_i, iadd_i, abs_i, int_i, int_b, len_l, len_t, add_l, add_t, lt_i, le_i, gt_i, ge_i, eq_i, ne_i, eqF_i, neF_i, tuple_l, tuple_t, list_l, list_t, ix_l, ix_t, m_ret, m_drop, m_nx, m_asg, m_nox, nx_ok, set_d, set_o, setD_, wr_un, wr_d, wr_o, wr_rd, m_aug, m_asgD, evD_d, evD_o, m_frzn, m_frzc, m_frz1, fz_d, fz_un, fz_io, fz_lk, fz_rd, fz_o, m_sub, m_augS, m_app, ap_o, ap_io, m_ct, ct_o, ct_io, m_isl, is_o, is_io, m_mut, m_mutB, m_mut0, intD_i, m_sl, m_pn, m_ps, rs_d, rs_l, rsR_rd, rsR_o, rsR_io, sl_l, sl_t, arg_n, arg_c, arg_d, arg_l, ar_o, ar_io, ar_lk, ar_rd, put_n, put_d, put_io, m_put, pt_o, pt_io, i_seq, src_l, src_t, src_o, src_n, sr_o, sr_io, sr_lk, i_rng, i_enum, i_zip, i_rev, unl_n, unl_c, unl_1, ul_lk, ob_t, ob_f, wp_n, wp_c, rt_n, rt_c, fl_un, fl_d, m_unpT, tupD_t, unp_n, unp_c, range_1, range_2, ext_l, ext_t, app_1, m_pc, m_par, rl_n, rl_d, rl_o, rl_l, rlR_o, sr_n, sto_d, sto_o, List.getElem?_cons_zero, List.getElem?_cons_succ, List.set_cons_zero, List.set_cons_succ, Option.map_some, Option.bind_some, if_true, and_self, lc]
  rfl
end LB
set_option Elab.async false
set_option linter.all false
set_option maxRecDepth 100000
namespace LB
open PySem PySem.Spec PyProof.Rows L2 VL
def codesX (n : Nat) (A : List (List Int)) : List (List Int) := A.flatMap fun c => (List.range n).map fun (t : Nat) => c ++ [Int.ofNat t]
theorem codesX_len (n : Nat) (A : List (List Int)) : (codesX n A).length = A.length * n := by
  unfold codesX
  rw [List.length_flatMap]
  have : A.map (fun c => ((List.range n).map fun (t : Nat) => c ++ [Int.ofNat t]).length) = A.map fun _ => n := List.map_congr_left fun c _ => by simp
  rw [this, List.map_const', List.sum_replicate_nat]
theorem codesX_snoc (n : Nat) (A : List (List Int)) (c : List Int) : (codesX n (A ++ [c])).map tupI = (codesX n A).map tupI ++ (List.range n).map fun (t : Nat) => tupI (c ++ [Int.ofNat t]) := by
  unfold codesX
  simp only [List.flatMap_append, List.map_append, List.flatMap_cons, List.flatMap_nil, List.append_nil, List.map_map]
  rfl
def codesP (n : Nat) : Nat → List (List Int)
  | 0 => [[]]
  | p + 1 => codesX n (codesP n p)
theorem codesP_len (n : Nat) : ∀ p, (codesP n p).length = n ^ p
  | 0 => rfl
  | p + 1 => by show (codesX n (codesP n p)).length = _; rw [codesX_len, codesP_len n p, Nat.pow_succ]
theorem codesP_mem (n : Nat) : ∀ p, ∀ c ∈ codesP n p, c.length = p
  | 0, c, h => by have := List.mem_singleton.mp h; subst this; rfl
  | p + 1, c, h => by
    obtain ⟨d, hd, h⟩ := List.mem_flatMap.mp h
    obtain ⟨t, _, rfl⟩ := List.mem_map.mp h
    rw [List.length_append, codesP_mem n p d hd]; rfl
theorem codes_s1_ok {ys : List Da} {p : Da} {F : List (List Int)} {x3 x5 x6 : SV} (hn : F.length * ys.length ≤ 16000000) (hc : ∀ c ∈ F, c.length ≤ 16000000) (hy : ys.length ≤ 1000000) (h5 : wrOk (some x5) = true) (h6 : x6 = .un ∨ ∃ d, x6 = .d d) :
    ∃ s', law_codes_s1 [.d (.tuple ys), .d p, .d (.list (F.map tupI)), x3, .own (.l []), x5, x6] = .ok (.nx, s') ∧ ∃ x5', wrOk (some x5') = true ∧
      s' = [.d (.tuple ys), .d p, .d (.list (F.map tupI)), x3, .own (.l ((codesX ys.length F).map tupI)), x5', x6] := by
  have fl6 : flatS (some x6) = true := by rcases h6 with rfl | ⟨d, rfl⟩ <;> rfl
  unfold law_codes_s1
  refine (for_inv (L := []) (xs := F.map tupI) (s1 := [.d (.tuple ys), .d p, .d (.list (F.map tupI)), x3, .own (.l []), x5, x6])
    (fun xs s => ∃ (A B : List (List Int)) (x5' : SV), A ++ B = F ∧ xs = B.map tupI ∧ wrOk (some x5') = true ∧ s = [.d (.tuple ys), .d p, .d (.list (F.map tupI)), x3, .own (.l ((codesX ys.length A).map tupI)), x5', x6]) ?_ (by simp only [m_vb, bnd_ok, bnd_er, m_vr, m_stuck, m_seq, bS_nx, bS_bk, bS_ct, bS_rt, bS_er, m_if, m_ite, bI_t, bI_f, bI_er, m_and, m_or, m_not, m_bool, evB_b, m_opt, m_optn, m_tru, tru_b, tru_i, tru_n, tru_l, tru_t, m_var, var_d, var_own, var_io, var_lk, var_rd, m_c, st_d, st_o, st_l, oc_l, oc_m, rd_d, rd_o, rd_l, rdR_own, rdR_io, rdR_lk, m_bin, m_un, m_call, m_rdn, m_rdc, m_cons, m_conss, m_tup, m_lst, dts_n, dts_c, o_map, o_bind, add_i, sub_i, mul_i, mod_i, fdiv_i, pow_i, neg_i, iadd_i, abs_i, int_i, int_b, len_l, len_t, add_l, add_t, lt_i, le_i, gt_i, ge_i, eq_i, ne_i, eqF_i, neF_i, tuple_l, tuple_t, list_l, list_t, ix_l, ix_t, m_ret, m_drop, m_nx, m_asg, m_nox, nx_ok, set_d, set_o, setD_, wr_un, wr_d, wr_o, wr_rd, m_aug, m_asgD, evD_d, evD_o, m_frzn, m_frzc, m_frz1, fz_d, fz_un, fz_io, fz_lk, fz_rd, fz_o, m_sub, m_augS, m_app, ap_o, ap_io, m_ct, ct_o, ct_io, m_isl, is_o, is_io, m_mut, m_mutB, m_mut0, intD_i, m_sl, m_pn, m_ps, rs_d, rs_l, rsR_rd, rsR_o, rsR_io, sl_l, sl_t, arg_n, arg_c, arg_d, arg_l, ar_o, ar_io, ar_lk, ar_rd, put_n, put_d, put_io, m_put, pt_o, pt_io, i_seq, src_l, src_t, src_o, src_n, sr_o, sr_io, sr_lk, i_rng, i_enum, i_zip, i_rev, unl_n, unl_c, unl_1, ul_lk, ob_t, ob_f, wp_n, wp_c, rt_n, rt_c, fl_un, fl_d, m_unpT, tupD_t, unp_n, unp_c, range_1, range_2, ext_l, ext_t, app_1, m_pc, m_par, rl_n, rl_d, rl_o, rl_l, rlR_o, sr_n, sto_d, sto_o, List.getElem?_cons_zero, List.getElem?_cons_succ, List.set_cons_zero, List.set_cons_succ, Option.map_some, Option.bind_some, if_true, and_self]) ⟨[], F, x5, rfl, rfl, h5, rfl⟩).imp fun s' ⟨h1, h2⟩ => ⟨h1, ?_⟩
  · rintro x xs s ⟨A, B, x5', e1, e2, h5', rfl⟩
    cases B with
    | nil => cases e2
    | cons c B =>
      cases e2
      have hcF : c ∈ F := by rw [← e1]; simp
      have hn1 : (-1000000000 : Int) ≤ (ys.length : Int) ∧ (ys.length : Int) ≤ 1000000000 := by omega
      have lc : vLcF [6] (vItRng (vCons (vCall lenD (vCons (vVar 0) (vr []))) (vr []))) (vSetD 6) (vr true) (vBin addD (vVar 5) (vTuple (vCons (vVar 6) (vr [])))) [.d (.tuple ys), .d p, .d (.list (F.map tupI)), x3, .own (.l ((codesX ys.length A).map tupI)), .d (tupI c), x6]
          = .ok (.own (.l (((List.range ys.length).filter fun _ => true).map fun (t : Nat) => tupI (c ++ [Int.ofNat t]))), [.d (.tuple ys), .d p, .d (.list (F.map tupI)), x3, .own (.l ((codesX ys.length A).map tupI)), .d (tupI c), x6]) := by
        have hw : wipeV [6] [.d (.tuple ys), .d p, .d (.list (F.map tupI)), x3, .own (.l ((codesX ys.length A).map tupI)), .d (tupI c), x6] = ([.d (.tuple ys), .d p, .d (.list (F.map tupI)), x3, .own (.l ((codesX ys.length A).map tupI)), .d (tupI c), .un] : VS) := rfl
        refine lcF_of (xs := (List.range ys.length).map fun (i : Nat) => PyData.int (Int.ofNat i)) (L := []) (s1 := [.d (.tuple ys), .d p, .d (.list (F.map tupI)), x3, .own (.l ((codesX ys.length A).map tupI)), .d (tupI c), x6])
          (s2 := [.d (.tuple ys), .d p, .d (.list (F.map tupI)), x3, .own (.l ((codesX ys.length A).map tupI)), .d (tupI c), .un]) ?_ (by show ([6].all fun j => flatS _) = true; simp only [List.all_cons, List.all_nil, List.getElem?_cons_succ, List.getElem?_cons_zero, fl6]; rfl) ?_ ?_
        · simp only [m_vb, bnd_ok, bnd_er, m_vr, m_stuck, m_seq, bS_nx, bS_bk, bS_ct, bS_rt, bS_er, m_if, m_ite, bI_t, bI_f, bI_er, m_and, m_or, m_not, m_bool, evB_b, m_opt, m_optn, m_tru, tru_b, tru_i, tru_n, tru_l, tru_t, m_var, var_d, var_own, var_io, var_lk, var_rd, m_c, st_d, st_o, st_l, oc_l, oc_m, rd_d, rd_o, rd_l, rdR_own, rdR_io, rdR_lk, m_bin, m_un, m_call, m_rdn, m_rdc, m_cons, m_conss, m_tup, m_lst, dts_n, dts_c, o_map, o_bind, add_i, sub_i, mul_i, mod_i, fdiv_i, pow_i, neg_i, iadd_i, abs_i, int_i, int_b, len_l, len_t, add_l, add_t, lt_i, le_i, gt_i, ge_i, eq_i, ne_i, eqF_i, neF_i, tuple_l, tuple_t, list_l, list_t, ix_l, ix_t, m_ret, m_drop, m_nx, m_asg, m_nox, nx_ok, set_d, set_o, setD_, wr_un, wr_d, wr_o, wr_rd, m_aug, m_asgD, evD_d, evD_o, m_frzn, m_frzc, m_frz1, fz_d, fz_un, fz_io, fz_lk, fz_rd, fz_o, m_sub, m_augS, m_app, ap_o, ap_io, m_ct, ct_o, ct_io, m_isl, is_o, is_io, m_mut, m_mutB, m_mut0, intD_i, m_sl, m_pn, m_ps, rs_d, rs_l, rsR_rd, rsR_o, rsR_io, sl_l, sl_t, arg_n, arg_c, arg_d, arg_l, ar_o, ar_io, ar_lk, ar_rd, put_n, put_d, put_io, m_put, pt_o, pt_io, i_seq, src_l, src_t, src_o, src_n, sr_o, sr_io, sr_lk, i_rng, i_enum, i_zip, i_rev, unl_n, unl_c, unl_1, ul_lk, ob_t, ob_f, wp_n, wp_c, rt_n, rt_c, fl_un, fl_d, m_unpT, tupD_t, unp_n, unp_c, range_1, range_2, ext_l, ext_t, app_1, m_pc, m_par, rl_n, rl_d, rl_o, rl_l, rlR_o, sr_n, sto_d, sto_o, List.getElem?_cons_zero, List.getElem?_cons_succ, List.set_cons_zero, List.set_cons_succ, Option.map_some, Option.bind_some, if_true, and_self, range_1, hn1, Int.toNat_natCast, rngD_map]
        · rw [hw]
          refine lcG_pure (p := fun _ => true) (h := fun (t : Nat) => tupI (c ++ [Int.ofNat t])) (List.range ys.length) fun t _ => ⟨_, _, rfl, rfl, fun h => absurd h (by decide), fun _ => ⟨.d (tupI (c ++ [Int.ofNat t])), [.d (.tuple ys), .d p, .d (.list (F.map tupI)), x3, .own (.l ((codesX ys.length A).map tupI)), .d (tupI c), .d (.int (Int.ofNat t))], ?_, rfl, rfl, rfl⟩⟩
          have l1 : (c.map PyData.int).length + ([PyData.int (Int.ofNat t)] : List Da).length ≤ 16777216 := by
            have := hc c hcF
            rw [List.length_map]; show _ + 1 ≤ _; omega
          have l2 : ([PyData.int (Int.ofNat t)] : List Da).length ≤ 16777216 := by show 1 ≤ _; omega
          show vBin addD (vVar 5) (vTuple (vCons (vVar 6) (vr []))) [.d (.tuple ys), .d p, .d (.list (F.map tupI)), x3, .own (.l ((codesX ys.length A).map tupI)), .d (tupI c), .d (.int (Int.ofNat t))] = _
          simp only [m_vb, bnd_ok, bnd_er, m_vr, m_stuck, m_seq, bS_nx, bS_bk, bS_ct, bS_rt, bS_er, m_if, m_ite, bI_t, bI_f, bI_er, m_and, m_or, m_not, m_bool, evB_b, m_opt, m_optn, m_tru, tru_b, tru_i, tru_n, tru_l, tru_t, m_var, var_d, var_own, var_io, var_lk, var_rd, m_c, st_d, st_o, st_l, oc_l, oc_m, rd_d, rd_o, rd_l, rdR_own, rdR_io, rdR_lk, m_bin, m_un, m_call, m_rdn, m_rdc, m_cons, m_conss, m_tup, m_lst, dts_n, dts_c, o_map, o_bind, add_i, sub_i, mul_i, mod_i, fdiv_i, pow_i, neg_i, iadd_i, abs_i, int_i, int_b, len_l, len_t, add_l, add_t, lt_i, le_i, gt_i, ge_i, eq_i, ne_i, eqF_i, neF_i, tuple_l, tuple_t, list_l, list_t, ix_l, ix_t, m_ret, m_drop, m_nx, m_asg, m_nox, nx_ok, set_d, set_o, setD_, wr_un, wr_d, wr_o, wr_rd, m_aug, m_asgD, evD_d, evD_o, m_frzn, m_frzc, m_frz1, fz_d, fz_un, fz_io, fz_lk, fz_rd, fz_o, m_sub, m_augS, m_app, ap_o, ap_io, m_ct, ct_o, ct_io, m_isl, is_o, is_io, m_mut, m_mutB, m_mut0, intD_i, m_sl, m_pn, m_ps, rs_d, rs_l, rsR_rd, rsR_o, rsR_io, sl_l, sl_t, arg_n, arg_c, arg_d, arg_l, ar_o, ar_io, ar_lk, ar_rd, put_n, put_d, put_io, m_put, pt_o, pt_io, i_seq, src_l, src_t, src_o, src_n, sr_o, sr_io, sr_lk, i_rng, i_enum, i_zip, i_rev, unl_n, unl_c, unl_1, ul_lk, ob_t, ob_f, wp_n, wp_c, rt_n, rt_c, fl_un, fl_d, m_unpT, tupD_t, unp_n, unp_c, range_1, range_2, ext_l, ext_t, app_1, m_pc, m_par, rl_n, rl_d, rl_o, rl_l, rlR_o, sr_n, sto_d, sto_o, List.getElem?_cons_zero, List.getElem?_cons_succ, List.set_cons_zero, List.set_cons_succ, Option.map_some, Option.bind_some, if_true, and_self, tupI, l1, l2, List.map_append, List.map_cons, List.map_nil]
        · rw [List.length_map]
          have := List.length_filter_le (fun _ => true) (List.range ys.length)
          rw [List.length_range] at this
          omega
      rw [List.filter_eq_self.mpr (by simp)] at lc
      have cap : ((codesX ys.length A).map tupI).length + ((List.range ys.length).map fun (t : Nat) => tupI (c ++ [Int.ofNat t])).length ≤ 16777216 := by
        rw [List.length_map, codesX_len, List.length_map, List.length_range]
        have : F.length = A.length + (B.length + 1) := by rw [← e1]; simp
        have : (A.length + 1) * ys.length ≤ F.length * ys.length := Nat.mul_le_mul_right _ (by omega)
        rw [Nat.add_mul, Nat.one_mul] at this
        omega
      refine ⟨[.d (.tuple ys), .d p, .d (.list (F.map tupI)), x3, .own (.l ((codesX ys.length A).map tupI)), .d (tupI c), x6], .nx, [.d (.tuple ys), .d p, .d (.list (F.map tupI)), x3, .own (.l ((codesX ys.length (A ++ [c])).map tupI)), .d (tupI c), x6], ?_, ?_, .inl rfl, A ++ [c], B, .d (tupI c), by rw [← e1]; simp, rfl, rfl, rfl⟩
      · simp only [m_vb, bnd_ok, bnd_er, m_vr, m_stuck, m_seq, bS_nx, bS_bk, bS_ct, bS_rt, bS_er, m_if, m_ite, bI_t, bI_f, bI_er, m_and, m_or, m_not, m_bool, evB_b, m_opt, m_optn, m_tru, tru_b, tru_i, tru_n, tru_l, tru_t, m_var, var_d, var_own, var_io, var_lk, var_rd, m_c, st_d, st_o, st_l, oc_l, oc_m, rd_d, rd_o, rd_l, rdR_own, rdR_io, rdR_lk, m_bin, m_un, m_call, m_rdn, m_rdc, m_cons, m_conss, m_tup, m_lst, dts_n, dts_c, o_map, o_bind, add_i, sub_i, mul_i, mod_i, fdiv_i, pow_i, neg_i, iadd_i, abs_i, int_i, int_b, len_l, len_t, add_l, add_t, lt_i, le_i, gt_i, ge_i, eq_i, ne_i, eqF_i, neF_i, tuple_l, tuple_t, list_l, list_t, ix_l, ix_t, m_ret, m_drop, m_nx, m_asg, m_nox, nx_ok, set_d, set_o, setD_, wr_un, wr_d, wr_o, wr_rd, m_aug, m_asgD, evD_d, evD_o, m_frzn, m_frzc, m_frz1, fz_d, fz_un, fz_io, fz_lk, fz_rd, fz_o, m_sub, m_augS, m_app, ap_o, ap_io, m_ct, ct_o, ct_io, m_isl, is_o, is_io, m_mut, m_mutB, m_mut0, intD_i, m_sl, m_pn, m_ps, rs_d, rs_l, rsR_rd, rsR_o, rsR_io, sl_l, sl_t, arg_n, arg_c, arg_d, arg_l, ar_o, ar_io, ar_lk, ar_rd, put_n, put_d, put_io, m_put, pt_o, pt_io, i_seq, src_l, src_t, src_o, src_n, sr_o, sr_io, sr_lk, i_rng, i_enum, i_zip, i_rev, unl_n, unl_c, unl_1, ul_lk, ob_t, ob_f, wp_n, wp_c, rt_n, rt_c, fl_un, fl_d, m_unpT, tupD_t, unp_n, unp_c, range_1, range_2, ext_l, ext_t, app_1, m_pc, m_par, rl_n, rl_d, rl_o, rl_l, rlR_o, sr_n, sto_d, sto_o, List.getElem?_cons_zero, List.getElem?_cons_succ, List.set_cons_zero, List.set_cons_succ, Option.map_some, Option.bind_some, if_true, and_self, h5']
      · simp only [m_vb, bnd_ok, bnd_er, m_vr, m_stuck, m_seq, bS_nx, bS_bk, bS_ct, bS_rt, bS_er, m_if, m_ite, bI_t, bI_f, bI_er, m_and, m_or, m_not, m_bool, evB_b, m_opt, m_optn, m_tru, tru_b, tru_i, tru_n, tru_l, tru_t, m_var, var_d, var_own, var_io, var_lk, var_rd, m_c, st_d, st_o, st_l, oc_l, oc_m, rd_d, rd_o, rd_l, rdR_own, rdR_io, rdR_lk, m_bin, m_un, m_call, m_rdn, m_rdc, m_cons, m_conss, m_tup, m_lst, dts_n, dts_c, o_map, o_bind, add_i, sub_i, mul_i, mod_i, fdiv_i, pow_i, neg_i, iadd_i, abs_i, int_i, int_b, len_l, len_t, add_l, add_t, lt_i, le_i, gt_i, ge_i, eq_i, ne_i, eqF_i, neF_i, tuple_l, tuple_t, list_l, list_t, ix_l, ix_t, m_ret, m_drop, m_nx, m_asg, m_nox, nx_ok, set_d, set_o, setD_, wr_un, wr_d, wr_o, wr_rd, m_aug, m_asgD, evD_d, evD_o, m_frzn, m_frzc, m_frz1, fz_d, fz_un, fz_io, fz_lk, fz_rd, fz_o, m_sub, m_augS, m_app, ap_o, ap_io, m_ct, ct_o, ct_io, m_isl, is_o, is_io, m_mut, m_mutB, m_mut0, intD_i, m_sl, m_pn, m_ps, rs_d, rs_l, rsR_rd, rsR_o, rsR_io, sl_l, sl_t, arg_n, arg_c, arg_d, arg_l, ar_o, ar_io, ar_lk, ar_rd, put_n, put_d, put_io, m_put, pt_o, pt_io, i_seq, src_l, src_t, src_o, src_n, sr_o, sr_io, sr_lk, i_rng, i_enum, i_zip, i_rev, unl_n, unl_c, unl_1, ul_lk, ob_t, ob_f, wp_n, wp_c, rt_n, rt_c, fl_un, fl_d, m_unpT, tupD_t, unp_n, unp_c, range_1, range_2, ext_l, ext_t, app_1, m_pc, m_par, rl_n, rl_d, rl_o, rl_l, rlR_o, sr_n, sto_d, sto_o, List.getElem?_cons_zero, List.getElem?_cons_succ, List.set_cons_zero, List.set_cons_succ, Option.map_some, Option.bind_some, if_true, and_self, lc, cap, codesX_snoc]
  · obtain ⟨A, B, x5', e1, e2, h5', rfl⟩ := h2
    have : B = [] := by cases B with
      | nil => rfl
      | cons _ _ => cases e2
    subst this
    rw [List.append_nil] at e1
    subst e1
    exact ⟨x5', h5', rfl⟩
theorem codes_ok {ys : List Da} {p : Nat} (hp : p ≤ 1000000) (hy : ys.length ≤ 1000000) (hn : ∀ q, q < p → ys.length ^ q * ys.length ≤ 16000000) :
    F__law_codes [.d (.tuple ys), .d (.int p)] = .ok (.d (.list ((codesP ys.length p).map tupI)), [.d (.tuple ys), .d (.int p)]) := by
  have hn1 : (-1000000000 : Int) ≤ (p : Int) ∧ (p : Int) ≤ 1000000000 := by omega
  have loop : ∃ s', law_codes_s2 [.d (.tuple ys), .d (.int p), .own (.l [tupI []]), .un, .un, .un, .un] = .ok (.nx, s') ∧ ∃ x3 x4 x5 : SV, s' = [.d (.tuple ys), .d (.int p), .own (.l ((codesP ys.length p).map tupI)), x3, x4, x5, .un] := by
    unfold law_codes_s2
    refine (for_inv (L := []) (xs := rngD 0 p 1) (s1 := [.d (.tuple ys), .d (.int p), .own (.l [tupI []]), .un, .un, .un, .un])
      (fun xs s => ∃ (q : Nat) (x3 x4 x5 : SV), q + xs.length = p ∧ wrOk (some x3) = true ∧ wrOk (some x4) = true ∧ wrOk (some x5) = true ∧ s = [.d (.tuple ys), .d (.int p), .own (.l ((codesP ys.length q).map tupI)), x3, x4, x5, .un]) ?_ (by simp only [m_vb, bnd_ok, bnd_er, m_vr, m_stuck, m_seq, bS_nx, bS_bk, bS_ct, bS_rt, bS_er, m_if, m_ite, bI_t, bI_f, bI_er, m_and, m_or, m_not, m_bool, evB_b, m_opt, m_optn, m_tru, tru_b, tru_i, tru_n, tru_l, tru_t, m_var, var_d, var_own, var_io, var_lk, var_rd, m_c, st_d, st_o, st_l, oc_l, oc_m, rd_d, rd_o, rd_l, rdR_own, rdR_io, rdR_lk, m_bin, m_un, m_call, m_rdn, m_rdc, m_cons, m_conss, m_tup, m_lst, dts_n, dts_c, o_map, o_bind, add_i, sub_i, mul_i, mod_i, fdiv_i, pow_i, neg_i, iadd_i, abs_i, int_i, int_b, len_l, len_t, add_l, add_t, lt_i, le_i, gt_i, ge_i, eq_i, ne_i, eqF_i, neF_i, tuple_l, tuple_t, list_l, list_t, ix_l, ix_t, m_ret, m_drop, m_nx, m_asg, m_nox, nx_ok, set_d, set_o, setD_, wr_un, wr_d, wr_o, wr_rd, m_aug, m_asgD, evD_d, evD_o, m_frzn, m_frzc, m_frz1, fz_d, fz_un, fz_io, fz_lk, fz_rd, fz_o, m_sub, m_augS, m_app, ap_o, ap_io, m_ct, ct_o, ct_io, m_isl, is_o, is_io, m_mut, m_mutB, m_mut0, intD_i, m_sl, m_pn, m_ps, rs_d, rs_l, rsR_rd, rsR_o, rsR_io, sl_l, sl_t, arg_n, arg_c, arg_d, arg_l, ar_o, ar_io, ar_lk, ar_rd, put_n, put_d, put_io, m_put, pt_o, pt_io, i_seq, src_l, src_t, src_o, src_n, sr_o, sr_io, sr_lk, i_rng, i_enum, i_zip, i_rev, unl_n, unl_c, unl_1, ul_lk, ob_t, ob_f, wp_n, wp_c, rt_n, rt_c, fl_un, fl_d, m_unpT, tupD_t, unp_n, unp_c, range_1, range_2, ext_l, ext_t, app_1, m_pc, m_par, rl_n, rl_d, rl_o, rl_l, rlR_o, sr_n, sto_d, sto_o, List.getElem?_cons_zero, List.getElem?_cons_succ, List.set_cons_zero, List.set_cons_succ, Option.map_some, Option.bind_some, if_true, and_self, range_1, hn1, Int.toNat_natCast]) ⟨0, .un, .un, .un, by rw [rngD_len]; simp, rfl, rfl, rfl, rfl⟩).imp fun s' ⟨h1, h2⟩ => ⟨h1, ?_⟩
    · rintro x xs s ⟨q, x3, x4, x5, e, h3, h4, h5, rfl⟩
      rw [List.length_cons] at e
      obtain ⟨s', hs, x5', h5', rfl⟩ := codes_s1_ok (ys := ys) (p := .int p) (F := codesP ys.length q) (x3 := .d x) (x5 := x5) (x6 := .un) (by rw [codesP_len]; exact hn q (by omega)) (fun c hc => by rw [codesP_mem _ _ c hc]; omega) hy h5 (.inl rfl)
      refine ⟨[.d (.tuple ys), .d (.int p), .own (.l ((codesP ys.length q).map tupI)), .d x, x4, x5, .un], .nx, [.d (.tuple ys), .d (.int p), .own (.l ((codesP ys.length (q + 1)).map tupI)), .d x, .un, x5', .un], ?_, ?_, .inl rfl, q + 1, .d x, .un, x5', by omega, rfl, rfl, h5', rfl⟩
      · simp only [m_vb, bnd_ok, bnd_er, m_vr, m_stuck, m_seq, bS_nx, bS_bk, bS_ct, bS_rt, bS_er, m_if, m_ite, bI_t, bI_f, bI_er, m_and, m_or, m_not, m_bool, evB_b, m_opt, m_optn, m_tru, tru_b, tru_i, tru_n, tru_l, tru_t, m_var, var_d, var_own, var_io, var_lk, var_rd, m_c, st_d, st_o, st_l, oc_l, oc_m, rd_d, rd_o, rd_l, rdR_own, rdR_io, rdR_lk, m_bin, m_un, m_call, m_rdn, m_rdc, m_cons, m_conss, m_tup, m_lst, dts_n, dts_c, o_map, o_bind, add_i, sub_i, mul_i, mod_i, fdiv_i, pow_i, neg_i, iadd_i, abs_i, int_i, int_b, len_l, len_t, add_l, add_t, lt_i, le_i, gt_i, ge_i, eq_i, ne_i, eqF_i, neF_i, tuple_l, tuple_t, list_l, list_t, ix_l, ix_t, m_ret, m_drop, m_nx, m_asg, m_nox, nx_ok, set_d, set_o, setD_, wr_un, wr_d, wr_o, wr_rd, m_aug, m_asgD, evD_d, evD_o, m_frzn, m_frzc, m_frz1, fz_d, fz_un, fz_io, fz_lk, fz_rd, fz_o, m_sub, m_augS, m_app, ap_o, ap_io, m_ct, ct_o, ct_io, m_isl, is_o, is_io, m_mut, m_mutB, m_mut0, intD_i, m_sl, m_pn, m_ps, rs_d, rs_l, rsR_rd, rsR_o, rsR_io, sl_l, sl_t, arg_n, arg_c, arg_d, arg_l, ar_o, ar_io, ar_lk, ar_rd, put_n, put_d, put_io, m_put, pt_o, pt_io, i_seq, src_l, src_t, src_o, src_n, sr_o, sr_io, sr_lk, i_rng, i_enum, i_zip, i_rev, unl_n, unl_c, unl_1, ul_lk, ob_t, ob_f, wp_n, wp_c, rt_n, rt_c, fl_un, fl_d, m_unpT, tupD_t, unp_n, unp_c, range_1, range_2, ext_l, ext_t, app_1, m_pc, m_par, rl_n, rl_d, rl_o, rl_l, rlR_o, sr_n, sto_d, sto_o, List.getElem?_cons_zero, List.getElem?_cons_succ, List.set_cons_zero, List.set_cons_succ, Option.map_some, Option.bind_some, if_true, and_self, h3]
      · refine seq_then (s1 := [.d (.tuple ys), .d (.int p), .own (.l ((codesP ys.length q).map tupI)), .d x, .own (.l []), x5, .un]) ?_ (seq_then (s1 := [.d (.tuple ys), .d (.int p), .d (.list ((codesP ys.length q).map tupI)), .d x, .own (.l ((codesX ys.length (codesP ys.length q)).map tupI)), x5', .un]) ?_ ?_)
        · simp only [m_vb, bnd_ok, bnd_er, m_vr, m_stuck, m_seq, bS_nx, bS_bk, bS_ct, bS_rt, bS_er, m_if, m_ite, bI_t, bI_f, bI_er, m_and, m_or, m_not, m_bool, evB_b, m_opt, m_optn, m_tru, tru_b, tru_i, tru_n, tru_l, tru_t, m_var, var_d, var_own, var_io, var_lk, var_rd, m_c, st_d, st_o, st_l, oc_l, oc_m, rd_d, rd_o, rd_l, rdR_own, rdR_io, rdR_lk, m_bin, m_un, m_call, m_rdn, m_rdc, m_cons, m_conss, m_tup, m_lst, dts_n, dts_c, o_map, o_bind, add_i, sub_i, mul_i, mod_i, fdiv_i, pow_i, neg_i, iadd_i, abs_i, int_i, int_b, len_l, len_t, add_l, add_t, lt_i, le_i, gt_i, ge_i, eq_i, ne_i, eqF_i, neF_i, tuple_l, tuple_t, list_l, list_t, ix_l, ix_t, m_ret, m_drop, m_nx, m_asg, m_nox, nx_ok, set_d, set_o, setD_, wr_un, wr_d, wr_o, wr_rd, m_aug, m_asgD, evD_d, evD_o, m_frzn, m_frzc, m_frz1, fz_d, fz_un, fz_io, fz_lk, fz_rd, fz_o, m_sub, m_augS, m_app, ap_o, ap_io, m_ct, ct_o, ct_io, m_isl, is_o, is_io, m_mut, m_mutB, m_mut0, intD_i, m_sl, m_pn, m_ps, rs_d, rs_l, rsR_rd, rsR_o, rsR_io, sl_l, sl_t, arg_n, arg_c, arg_d, arg_l, ar_o, ar_io, ar_lk, ar_rd, put_n, put_d, put_io, m_put, pt_o, pt_io, i_seq, src_l, src_t, src_o, src_n, sr_o, sr_io, sr_lk, i_rng, i_enum, i_zip, i_rev, unl_n, unl_c, unl_1, ul_lk, ob_t, ob_f, wp_n, wp_c, rt_n, rt_c, fl_un, fl_d, m_unpT, tupD_t, unp_n, unp_c, range_1, range_2, ext_l, ext_t, app_1, m_pc, m_par, rl_n, rl_d, rl_o, rl_l, rlR_o, sr_n, sto_d, sto_o, List.getElem?_cons_zero, List.getElem?_cons_succ, List.set_cons_zero, List.set_cons_succ, Option.map_some, Option.bind_some, if_true, and_self, h4, List.length_nil, Nat.zero_le]
        · simp only [m_vb, bnd_ok, bnd_er, m_vr, m_stuck, m_seq, bS_nx, bS_bk, bS_ct, bS_rt, bS_er, m_if, m_ite, bI_t, bI_f, bI_er, m_and, m_or, m_not, m_bool, evB_b, m_opt, m_optn, m_tru, tru_b, tru_i, tru_n, tru_l, tru_t, m_var, var_d, var_own, var_io, var_lk, var_rd, m_c, st_d, st_o, st_l, oc_l, oc_m, rd_d, rd_o, rd_l, rdR_own, rdR_io, rdR_lk, m_bin, m_un, m_call, m_rdn, m_rdc, m_cons, m_conss, m_tup, m_lst, dts_n, dts_c, o_map, o_bind, add_i, sub_i, mul_i, mod_i, fdiv_i, pow_i, neg_i, iadd_i, abs_i, int_i, int_b, len_l, len_t, add_l, add_t, lt_i, le_i, gt_i, ge_i, eq_i, ne_i, eqF_i, neF_i, tuple_l, tuple_t, list_l, list_t, ix_l, ix_t, m_ret, m_drop, m_nx, m_asg, m_nox, nx_ok, set_d, set_o, setD_, wr_un, wr_d, wr_o, wr_rd, m_aug, m_asgD, evD_d, evD_o, m_frzn, m_frzc, m_frz1, fz_d, fz_un, fz_io, fz_lk, fz_rd, fz_o, m_sub, m_augS, m_app, ap_o, ap_io, m_ct, ct_o, ct_io, m_isl, is_o, is_io, m_mut, m_mutB, m_mut0, intD_i, m_sl, m_pn, m_ps, rs_d, rs_l, rsR_rd, rsR_o, rsR_io, sl_l, sl_t, arg_n, arg_c, arg_d, arg_l, ar_o, ar_io, ar_lk, ar_rd, put_n, put_d, put_io, m_put, pt_o, pt_io, i_seq, src_l, src_t, src_o, src_n, sr_o, sr_io, sr_lk, i_rng, i_enum, i_zip, i_rev, unl_n, unl_c, unl_1, ul_lk, ob_t, ob_f, wp_n, wp_c, rt_n, rt_c, fl_un, fl_d, m_unpT, tupD_t, unp_n, unp_c, range_1, range_2, ext_l, ext_t, app_1, m_pc, m_par, rl_n, rl_d, rl_o, rl_l, rlR_o, sr_n, sto_d, sto_o, List.getElem?_cons_zero, List.getElem?_cons_succ, List.set_cons_zero, List.set_cons_succ, Option.map_some, Option.bind_some, if_true, and_self]; exact hs
        · simp only [m_vb, bnd_ok, bnd_er, m_vr, m_stuck, m_seq, bS_nx, bS_bk, bS_ct, bS_rt, bS_er, m_if, m_ite, bI_t, bI_f, bI_er, m_and, m_or, m_not, m_bool, evB_b, m_opt, m_optn, m_tru, tru_b, tru_i, tru_n, tru_l, tru_t, m_var, var_d, var_own, var_io, var_lk, var_rd, m_c, st_d, st_o, st_l, oc_l, oc_m, rd_d, rd_o, rd_l, rdR_own, rdR_io, rdR_lk, m_bin, m_un, m_call, m_rdn, m_rdc, m_cons, m_conss, m_tup, m_lst, dts_n, dts_c, o_map, o_bind, add_i, sub_i, mul_i, mod_i, fdiv_i, pow_i, neg_i, iadd_i, abs_i, int_i, int_b, len_l, len_t, add_l, add_t, lt_i, le_i, gt_i, ge_i, eq_i, ne_i, eqF_i, neF_i, tuple_l, tuple_t, list_l, list_t, ix_l, ix_t, m_ret, m_drop, m_nx, m_asg, m_nox, nx_ok, set_d, set_o, setD_, wr_un, wr_d, wr_o, wr_rd, m_aug, m_asgD, evD_d, evD_o, m_frzn, m_frzc, m_frz1, fz_d, fz_un, fz_io, fz_lk, fz_rd, fz_o, m_sub, m_augS, m_app, ap_o, ap_io, m_ct, ct_o, ct_io, m_isl, is_o, is_io, m_mut, m_mutB, m_mut0, intD_i, m_sl, m_pn, m_ps, rs_d, rs_l, rsR_rd, rsR_o, rsR_io, sl_l, sl_t, arg_n, arg_c, arg_d, arg_l, ar_o, ar_io, ar_lk, ar_rd, put_n, put_d, put_io, m_put, pt_o, pt_io, i_seq, src_l, src_t, src_o, src_n, sr_o, sr_io, sr_lk, i_rng, i_enum, i_zip, i_rev, unl_n, unl_c, unl_1, ul_lk, ob_t, ob_f, wp_n, wp_c, rt_n, rt_c, fl_un, fl_d, m_unpT, tupD_t, unp_n, unp_c, range_1, range_2, ext_l, ext_t, app_1, m_pc, m_par, rl_n, rl_d, rl_o, rl_l, rlR_o, sr_n, sto_d, sto_o, List.getElem?_cons_zero, List.getElem?_cons_succ, List.set_cons_zero, List.set_cons_succ, Option.map_some, Option.bind_some, if_true, and_self]; rfl
    · obtain ⟨q, x3, x4, x5, e, _, _, _, rfl⟩ := h2
      have : q = p := by simpa using e
      subst this
      exact ⟨x3, x4, x5, rfl⟩
  obtain ⟨s', hs, x3, x4, x5, rfl⟩ := loop
  refine run_ok (c := .rt (.d (.list ((codesP ys.length p).map tupI)))) (s := [.d (.tuple ys), .d (.int p), .d (.list ((codesP ys.length p).map tupI)), x3, x4, x5, .un]) ?_ rfl
  show g__law_codes [.d (.tuple ys), .d (.int p), .un, .un, .un, .un, .un] = _
  unfold g__law_codes
  refine seq_then (s1 := [.d (.tuple ys), .d (.int p), .own (.l [tupI []]), .un, .un, .un, .un]) ?_ (seq_then hs ?_)
  · simp only [m_vb, bnd_ok, bnd_er, m_vr, m_stuck, m_seq, bS_nx, bS_bk, bS_ct, bS_rt, bS_er, m_if, m_ite, bI_t, bI_f, bI_er, m_and, m_or, m_not, m_bool, evB_b, m_opt, m_optn, m_tru, tru_b, tru_i, tru_n, tru_l, tru_t, m_var, var_d, var_own, var_io, var_lk, var_rd, m_c, st_d, st_o, st_l, oc_l, oc_m, rd_d, rd_o, rd_l, rdR_own, rdR_io, rdR_lk, m_bin, m_un, m_call, m_rdn, m_rdc, m_cons, m_conss, m_tup, m_lst, dts_n, dts_c, o_map, o_bind, add_i, sub_i, mul_i, mod_i, fdiv_i, pow_i, neg_i, iadd_i, abs_i, int_i, int_b, len_l, len_t, add_l, add_t, lt_i, le_i, gt_i, ge_i, eq_i, ne_i, eqF_i, neF_i, tuple_l, tuple_t, list_l, list_t, ix_l, ix_t, m_ret, m_drop, m_nx, m_asg, m_nox, nx_ok, set_d, set_o, setD_, wr_un, wr_d, wr_o, wr_rd, m_aug, m_asgD, evD_d, evD_o, m_frzn, m_frzc, m_frz1, fz_d, fz_un, fz_io, fz_lk, fz_rd, fz_o, m_sub, m_augS, m_app, ap_o, ap_io, m_ct, ct_o, ct_io, m_isl, is_o, is_io, m_mut, m_mutB, m_mut0, intD_i, m_sl, m_pn, m_ps, rs_d, rs_l, rsR_rd, rsR_o, rsR_io, sl_l, sl_t, arg_n, arg_c, arg_d, arg_l, ar_o, ar_io, ar_lk, ar_rd, put_n, put_d, put_io, m_put, pt_o, pt_io, i_seq, src_l, src_t, src_o, src_n, sr_o, sr_io, sr_lk, i_rng, i_enum, i_zip, i_rev, unl_n, unl_c, unl_1, ul_lk, ob_t, ob_f, wp_n, wp_c, rt_n, rt_c, fl_un, fl_d, m_unpT, tupD_t, unp_n, unp_c, range_1, range_2, ext_l, ext_t, app_1, m_pc, m_par, rl_n, rl_d, rl_o, rl_l, rlR_o, sr_n, sto_d, sto_o, List.getElem?_cons_zero, List.getElem?_cons_succ, List.set_cons_zero, List.set_cons_succ, Option.map_some, Option.bind_some, if_true, and_self, List.length_nil, List.length_cons, Nat.zero_le, Nat.zero_add, show (1 : Nat) ≤ 16777216 by decide]; rfl
  · simp only [m_vb, bnd_ok, bnd_er, m_vr, m_stuck, m_seq, bS_nx, bS_bk, bS_ct, bS_rt, bS_er, m_if, m_ite, bI_t, bI_f, bI_er, m_and, m_or, m_not, m_bool, evB_b, m_opt, m_optn, m_tru, tru_b, tru_i, tru_n, tru_l, tru_t, m_var, var_d, var_own, var_io, var_lk, var_rd, m_c, st_d, st_o, st_l, oc_l, oc_m, rd_d, rd_o, rd_l, rdR_own, rdR_io, rdR_lk, m_bin, m_un, m_call, m_rdn, m_rdc, m_cons, m_conss, m_tup, m_lst, dts_n, dts_c, o_map, o_bind, add_i, sub_i, mul_i, mod_i, fdiv_i, pow_i, neg_i, iadd_i, abs_i, int_i, int_b, len_l, len_t, add_l, add_t, lt_i, le_i, gt_i, ge_i, eq_i, ne_i, eqF_i, neF_i, tuple_l, tuple_t, list_l, list_t, ix_l, ix_t, m_ret, m_drop, m_nx, m_asg, m_nox, nx_ok, set_d, set_o, setD_, wr_un, wr_d, wr_o, wr_rd, m_aug, m_asgD, evD_d, evD_o, m_frzn, m_frzc, m_frz1, fz_d, fz_un, fz_io, fz_lk, fz_rd, fz_o, m_sub, m_augS, m_app, ap_o, ap_io, m_ct, ct_o, ct_io, m_isl, is_o, is_io, m_mut, m_mutB, m_mut0, intD_i, m_sl, m_pn, m_ps, rs_d, rs_l, rsR_rd, rsR_o, rsR_io, sl_l, sl_t, arg_n, arg_c, arg_d, arg_l, ar_o, ar_io, ar_lk, ar_rd, put_n, put_d, put_io, m_put, pt_o, pt_io, i_seq, src_l, src_t, src_o, src_n, sr_o, sr_io, sr_lk, i_rng, i_enum, i_zip, i_rev, unl_n, unl_c, unl_1, ul_lk, ob_t, ob_f, wp_n, wp_c, rt_n, rt_c, fl_un, fl_d, m_unpT, tupD_t, unp_n, unp_c, range_1, range_2, ext_l, ext_t, app_1, m_pc, m_par, rl_n, rl_d, rl_o, rl_l, rlR_o, sr_n, sto_d, sto_o, List.getElem?_cons_zero, List.getElem?_cons_succ, List.set_cons_zero, List.set_cons_succ, Option.map_some, Option.bind_some, if_true, and_self]
end LB
set_option Elab.async false
set_option linter.all false
set_option maxRecDepth 100000
namespace LB
open PySem PySem.Spec PyProof.Rows L2 VL
def listI (xs : List Int) : Da := .list (xs.map PyData.int)
def intN (n : Nat) : Da := .int (Int.ofNat n)
theorem ix_seq {x : Da} {xs : List Da} {i : Int} (h : seqD x = some xs) : ixD x (.int i) = (atI xs i).map .d := by
  cases x with
  | list _ => cases h; rfl
  | tuple _ => cases h; rfl
  | _ => cases h
theorem src_seq {x : Da} {xs : List Da} {s : VS} (h : seqD x = some xs) : vSrc (.d x) s = .ok ((xs, []), s) := by
  unfold vSrc; dsimp only; rw [h]
theorem at_get {xs : List Int} {w : Nat} (h : w < xs.length) : atI (xs.map PyData.int) (Int.ofNat w) = some (.int (xs.getD w 0)) := by
  rw [at_nat (show (0 : Int) ≤ Int.ofNat w from Int.natCast_nonneg w)]
  show (xs.map PyData.int)[w]? = _
  rw [List.getElem?_map, List.getElem?_eq_getElem h, List.getD_eq_getElem?_getD, List.getElem?_eq_getElem h]; rfl
/-- the wagons of a track -/
def laneP (ord : List Nat) (rs : List Int) (t : Nat) : List Nat := ord.filter fun w => decide (rs.getD w 0 = Int.ofNat t)
theorem rolled_ok {ys : List Da} {o r : Da} {ord : List Nat} {rs : List Int} (hy : ys.length ≤ 1000000) (ho : seqD o = some (ord.map intN)) (hr : seqD r = some (rs.map PyData.int)) (hw : ∀ w ∈ ord, w < rs.length) (hl : ord.length ≤ 16000000) :
    F__law_rolled [.d (.tuple ys), .d o, .d r] = .ok (.own (.l ((List.range ys.length).map fun t => .list ((laneP ord rs t).map intN))), [.d (.tuple ys), .d o, .d r]) := by
  have hn1 : (-1000000000 : Int) ≤ (ys.length : Int) ∧ (ys.length : Int) ≤ 1000000000 := by omega
  have inner : ∀ t : Nat, vLcF [4] (vItSeq (vVar 1)) (vSetD 4) (VL.vBool (vBin eqF (vBin ixD (vVar 2) (vVar 4)) (vVar 3))) (vVar 4) [.d (.tuple ys), .d o, .d r, .d (intN t), .un]
      = .ok (.own (.l ((laneP ord rs t).map intN)), [.d (.tuple ys), .d o, .d r, .d (intN t), .un]) := fun t => by
    refine lcF_of (xs := ord.map intN) (L := []) (s1 := [.d (.tuple ys), .d o, .d r, .d (intN t), .un]) (s2 := [.d (.tuple ys), .d o, .d r, .d (intN t), .un]) ?_ rfl ?_ ?_
    · simp only [m_vb, bnd_ok, bnd_er, m_vr, m_stuck, m_seq, bS_nx, bS_bk, bS_ct, bS_rt, bS_er, m_if, m_ite, bI_t, bI_f, bI_er, m_and, m_or, m_not, m_bool, evB_b, m_opt, m_optn, m_tru, tru_b, tru_i, tru_n, tru_l, tru_t, m_var, var_d, var_own, var_io, var_lk, var_rd, m_c, st_d, st_o, st_l, oc_l, oc_m, rd_d, rd_o, rd_l, rdR_own, rdR_io, rdR_lk, m_bin, m_un, m_call, m_rdn, m_rdc, m_cons, m_conss, m_tup, m_lst, dts_n, dts_c, o_map, o_bind, add_i, sub_i, mul_i, mod_i, fdiv_i, pow_i, neg_i, iadd_i, abs_i, int_i, int_b, len_l, len_t, add_l, add_t, lt_i, le_i, gt_i, ge_i, eq_i, ne_i, eqF_i, neF_i, tuple_l, tuple_t, list_l, list_t, ix_l, ix_t, m_ret, m_drop, m_nx, m_asg, m_nox, nx_ok, set_d, set_o, setD_, wr_un, wr_d, wr_o, wr_rd, m_aug, m_asgD, evD_d, evD_o, m_frzn, m_frzc, m_frz1, fz_d, fz_un, fz_io, fz_lk, fz_rd, fz_o, m_sub, m_augS, m_app, ap_o, ap_io, m_ct, ct_o, ct_io, m_isl, is_o, is_io, m_mut, m_mutB, m_mut0, intD_i, m_sl, m_pn, m_ps, rs_d, rs_l, rsR_rd, rsR_o, rsR_io, sl_l, sl_t, arg_n, arg_c, arg_d, arg_l, ar_o, ar_io, ar_lk, ar_rd, put_n, put_d, put_io, m_put, pt_o, pt_io, i_seq, src_l, src_t, src_o, src_n, sr_o, sr_io, sr_lk, i_rng, i_enum, i_zip, i_rev, unl_n, unl_c, unl_1, ul_lk, ob_t, ob_f, wp_n, wp_c, rt_n, rt_c, fl_un, fl_d, m_unpT, tupD_t, unp_n, unp_c, range_1, range_2, ext_l, ext_t, app_1, m_pc, m_par, rl_n, rl_d, rl_o, rl_l, rlR_o, sr_n, sto_d, sto_o, List.getElem?_cons_zero, List.getElem?_cons_succ, List.set_cons_zero, List.set_cons_succ, Option.map_some, Option.bind_some, if_true, and_self, src_seq ho]
    · refine lcG_pure (p := fun w => decide (rs.getD w 0 = Int.ofNat t)) (h := intN) ord fun w hwm => ⟨[.d (.tuple ys), .d o, .d r, .d (intN t), .d (intN w)], [.d (.tuple ys), .d o, .d r, .d (intN t), .d (intN w)], ?_, ?_, fun _ => ⟨rfl, rfl⟩, fun _ => ⟨.d (intN w), [.d (.tuple ys), .d o, .d r, .d (intN t), .d (intN w)], ?_, rfl, rfl, rfl⟩⟩
      · show vSetD 4 (intN w) [.d (.tuple ys), .d o, .d r, .d (intN t), .un] = _
        simp only [m_vb, bnd_ok, bnd_er, m_vr, m_stuck, m_seq, bS_nx, bS_bk, bS_ct, bS_rt, bS_er, m_if, m_ite, bI_t, bI_f, bI_er, m_and, m_or, m_not, m_bool, evB_b, m_opt, m_optn, m_tru, tru_b, tru_i, tru_n, tru_l, tru_t, m_var, var_d, var_own, var_io, var_lk, var_rd, m_c, st_d, st_o, st_l, oc_l, oc_m, rd_d, rd_o, rd_l, rdR_own, rdR_io, rdR_lk, m_bin, m_un, m_call, m_rdn, m_rdc, m_cons, m_conss, m_tup, m_lst, dts_n, dts_c, o_map, o_bind, add_i, sub_i, mul_i, mod_i, fdiv_i, pow_i, neg_i, iadd_i, abs_i, int_i, int_b, len_l, len_t, add_l, add_t, lt_i, le_i, gt_i, ge_i, eq_i, ne_i, eqF_i, neF_i, tuple_l, tuple_t, list_l, list_t, ix_l, ix_t, m_ret, m_drop, m_nx, m_asg, m_nox, nx_ok, set_d, set_o, setD_, wr_un, wr_d, wr_o, wr_rd, m_aug, m_asgD, evD_d, evD_o, m_frzn, m_frzc, m_frz1, fz_d, fz_un, fz_io, fz_lk, fz_rd, fz_o, m_sub, m_augS, m_app, ap_o, ap_io, m_ct, ct_o, ct_io, m_isl, is_o, is_io, m_mut, m_mutB, m_mut0, intD_i, m_sl, m_pn, m_ps, rs_d, rs_l, rsR_rd, rsR_o, rsR_io, sl_l, sl_t, arg_n, arg_c, arg_d, arg_l, ar_o, ar_io, ar_lk, ar_rd, put_n, put_d, put_io, m_put, pt_o, pt_io, i_seq, src_l, src_t, src_o, src_n, sr_o, sr_io, sr_lk, i_rng, i_enum, i_zip, i_rev, unl_n, unl_c, unl_1, ul_lk, ob_t, ob_f, wp_n, wp_c, rt_n, rt_c, fl_un, fl_d, m_unpT, tupD_t, unp_n, unp_c, range_1, range_2, ext_l, ext_t, app_1, m_pc, m_par, rl_n, rl_d, rl_o, rl_l, rlR_o, sr_n, sto_d, sto_o, List.getElem?_cons_zero, List.getElem?_cons_succ, List.set_cons_zero, List.set_cons_succ, Option.map_some, Option.bind_some, if_true, and_self]
      · unfold intN
        simp only [m_vb, bnd_ok, bnd_er, m_vr, m_stuck, m_seq, bS_nx, bS_bk, bS_ct, bS_rt, bS_er, m_if, m_ite, bI_t, bI_f, bI_er, m_and, m_or, m_not, m_bool, evB_b, m_opt, m_optn, m_tru, tru_b, tru_i, tru_n, tru_l, tru_t, m_var, var_d, var_own, var_io, var_lk, var_rd, m_c, st_d, st_o, st_l, oc_l, oc_m, rd_d, rd_o, rd_l, rdR_own, rdR_io, rdR_lk, m_bin, m_un, m_call, m_rdn, m_rdc, m_cons, m_conss, m_tup, m_lst, dts_n, dts_c, o_map, o_bind, add_i, sub_i, mul_i, mod_i, fdiv_i, pow_i, neg_i, iadd_i, abs_i, int_i, int_b, len_l, len_t, add_l, add_t, lt_i, le_i, gt_i, ge_i, eq_i, ne_i, eqF_i, neF_i, tuple_l, tuple_t, list_l, list_t, ix_l, ix_t, m_ret, m_drop, m_nx, m_asg, m_nox, nx_ok, set_d, set_o, setD_, wr_un, wr_d, wr_o, wr_rd, m_aug, m_asgD, evD_d, evD_o, m_frzn, m_frzc, m_frz1, fz_d, fz_un, fz_io, fz_lk, fz_rd, fz_o, m_sub, m_augS, m_app, ap_o, ap_io, m_ct, ct_o, ct_io, m_isl, is_o, is_io, m_mut, m_mutB, m_mut0, intD_i, m_sl, m_pn, m_ps, rs_d, rs_l, rsR_rd, rsR_o, rsR_io, sl_l, sl_t, arg_n, arg_c, arg_d, arg_l, ar_o, ar_io, ar_lk, ar_rd, put_n, put_d, put_io, m_put, pt_o, pt_io, i_seq, src_l, src_t, src_o, src_n, sr_o, sr_io, sr_lk, i_rng, i_enum, i_zip, i_rev, unl_n, unl_c, unl_1, ul_lk, ob_t, ob_f, wp_n, wp_c, rt_n, rt_c, fl_un, fl_d, m_unpT, tupD_t, unp_n, unp_c, range_1, range_2, ext_l, ext_t, app_1, m_pc, m_par, rl_n, rl_d, rl_o, rl_l, rlR_o, sr_n, sto_d, sto_o, List.getElem?_cons_zero, List.getElem?_cons_succ, List.set_cons_zero, List.set_cons_succ, Option.map_some, Option.bind_some, if_true, and_self, ix_seq hr, at_get (hw w hwm)]
      · simp only [m_vb, bnd_ok, bnd_er, m_vr, m_stuck, m_seq, bS_nx, bS_bk, bS_ct, bS_rt, bS_er, m_if, m_ite, bI_t, bI_f, bI_er, m_and, m_or, m_not, m_bool, evB_b, m_opt, m_optn, m_tru, tru_b, tru_i, tru_n, tru_l, tru_t, m_var, var_d, var_own, var_io, var_lk, var_rd, m_c, st_d, st_o, st_l, oc_l, oc_m, rd_d, rd_o, rd_l, rdR_own, rdR_io, rdR_lk, m_bin, m_un, m_call, m_rdn, m_rdc, m_cons, m_conss, m_tup, m_lst, dts_n, dts_c, o_map, o_bind, add_i, sub_i, mul_i, mod_i, fdiv_i, pow_i, neg_i, iadd_i, abs_i, int_i, int_b, len_l, len_t, add_l, add_t, lt_i, le_i, gt_i, ge_i, eq_i, ne_i, eqF_i, neF_i, tuple_l, tuple_t, list_l, list_t, ix_l, ix_t, m_ret, m_drop, m_nx, m_asg, m_nox, nx_ok, set_d, set_o, setD_, wr_un, wr_d, wr_o, wr_rd, m_aug, m_asgD, evD_d, evD_o, m_frzn, m_frzc, m_frz1, fz_d, fz_un, fz_io, fz_lk, fz_rd, fz_o, m_sub, m_augS, m_app, ap_o, ap_io, m_ct, ct_o, ct_io, m_isl, is_o, is_io, m_mut, m_mutB, m_mut0, intD_i, m_sl, m_pn, m_ps, rs_d, rs_l, rsR_rd, rsR_o, rsR_io, sl_l, sl_t, arg_n, arg_c, arg_d, arg_l, ar_o, ar_io, ar_lk, ar_rd, put_n, put_d, put_io, m_put, pt_o, pt_io, i_seq, src_l, src_t, src_o, src_n, sr_o, sr_io, sr_lk, i_rng, i_enum, i_zip, i_rev, unl_n, unl_c, unl_1, ul_lk, ob_t, ob_f, wp_n, wp_c, rt_n, rt_c, fl_un, fl_d, m_unpT, tupD_t, unp_n, unp_c, range_1, range_2, ext_l, ext_t, app_1, m_pc, m_par, rl_n, rl_d, rl_o, rl_l, rlR_o, sr_n, sto_d, sto_o, List.getElem?_cons_zero, List.getElem?_cons_succ, List.set_cons_zero, List.set_cons_succ, Option.map_some, Option.bind_some, if_true, and_self]
    · rw [List.length_map]
      have : (laneP ord rs t).length ≤ ord.length := List.length_filter_le _ _
      omega
  have outer : vLcF [3] (vItRng (vCons (vCall lenD (vCons (vVar 0) (vr []))) (vr []))) (vSetD 3) (vr true) (vLcF [4] (vItSeq (vVar 1)) (vSetD 4) (VL.vBool (vBin eqF (vBin ixD (vVar 2) (vVar 4)) (vVar 3))) (vVar 4)) [.d (.tuple ys), .d o, .d r, .un, .un]
      = .ok (.own (.l (((List.range ys.length).filter fun _ => true).map fun t => .list ((laneP ord rs t).map intN))), [.d (.tuple ys), .d o, .d r, .un, .un]) := by
    refine lcF_of (xs := (List.range ys.length).map intN) (L := []) (s1 := [.d (.tuple ys), .d o, .d r, .un, .un]) (s2 := [.d (.tuple ys), .d o, .d r, .un, .un]) ?_ rfl ?_ ?_
    · simp only [m_vb, bnd_ok, bnd_er, m_vr, m_stuck, m_seq, bS_nx, bS_bk, bS_ct, bS_rt, bS_er, m_if, m_ite, bI_t, bI_f, bI_er, m_and, m_or, m_not, m_bool, evB_b, m_opt, m_optn, m_tru, tru_b, tru_i, tru_n, tru_l, tru_t, m_var, var_d, var_own, var_io, var_lk, var_rd, m_c, st_d, st_o, st_l, oc_l, oc_m, rd_d, rd_o, rd_l, rdR_own, rdR_io, rdR_lk, m_bin, m_un, m_call, m_rdn, m_rdc, m_cons, m_conss, m_tup, m_lst, dts_n, dts_c, o_map, o_bind, add_i, sub_i, mul_i, mod_i, fdiv_i, pow_i, neg_i, iadd_i, abs_i, int_i, int_b, len_l, len_t, add_l, add_t, lt_i, le_i, gt_i, ge_i, eq_i, ne_i, eqF_i, neF_i, tuple_l, tuple_t, list_l, list_t, ix_l, ix_t, m_ret, m_drop, m_nx, m_asg, m_nox, nx_ok, set_d, set_o, setD_, wr_un, wr_d, wr_o, wr_rd, m_aug, m_asgD, evD_d, evD_o, m_frzn, m_frzc, m_frz1, fz_d, fz_un, fz_io, fz_lk, fz_rd, fz_o, m_sub, m_augS, m_app, ap_o, ap_io, m_ct, ct_o, ct_io, m_isl, is_o, is_io, m_mut, m_mutB, m_mut0, intD_i, m_sl, m_pn, m_ps, rs_d, rs_l, rsR_rd, rsR_o, rsR_io, sl_l, sl_t, arg_n, arg_c, arg_d, arg_l, ar_o, ar_io, ar_lk, ar_rd, put_n, put_d, put_io, m_put, pt_o, pt_io, i_seq, src_l, src_t, src_o, src_n, sr_o, sr_io, sr_lk, i_rng, i_enum, i_zip, i_rev, unl_n, unl_c, unl_1, ul_lk, ob_t, ob_f, wp_n, wp_c, rt_n, rt_c, fl_un, fl_d, m_unpT, tupD_t, unp_n, unp_c, range_1, range_2, ext_l, ext_t, app_1, m_pc, m_par, rl_n, rl_d, rl_o, rl_l, rlR_o, sr_n, sto_d, sto_o, List.getElem?_cons_zero, List.getElem?_cons_succ, List.set_cons_zero, List.set_cons_succ, Option.map_some, Option.bind_some, if_true, and_self, range_1, hn1, Int.toNat_natCast, rngD_map]; rfl
    · exact lcG_pure (p := fun _ => true) (h := fun t => .list ((laneP ord rs t).map intN)) (List.range ys.length) fun t _ => ⟨[.d (.tuple ys), .d o, .d r, .d (intN t), .un], [.d (.tuple ys), .d o, .d r, .d (intN t), .un], by simp only [m_vb, bnd_ok, bnd_er, m_vr, m_stuck, m_seq, bS_nx, bS_bk, bS_ct, bS_rt, bS_er, m_if, m_ite, bI_t, bI_f, bI_er, m_and, m_or, m_not, m_bool, evB_b, m_opt, m_optn, m_tru, tru_b, tru_i, tru_n, tru_l, tru_t, m_var, var_d, var_own, var_io, var_lk, var_rd, m_c, st_d, st_o, st_l, oc_l, oc_m, rd_d, rd_o, rd_l, rdR_own, rdR_io, rdR_lk, m_bin, m_un, m_call, m_rdn, m_rdc, m_cons, m_conss, m_tup, m_lst, dts_n, dts_c, o_map, o_bind, add_i, sub_i, mul_i, mod_i, fdiv_i, pow_i, neg_i, iadd_i, abs_i, int_i, int_b, len_l, len_t, add_l, add_t, lt_i, le_i, gt_i, ge_i, eq_i, ne_i, eqF_i, neF_i, tuple_l, tuple_t, list_l, list_t, ix_l, ix_t, m_ret, m_drop, m_nx, m_asg, m_nox, nx_ok, set_d, set_o, setD_, wr_un, wr_d, wr_o, wr_rd, m_aug, m_asgD, evD_d, evD_o, m_frzn, m_frzc, m_frz1, fz_d, fz_un, fz_io, fz_lk, fz_rd, fz_o, m_sub, m_augS, m_app, ap_o, ap_io, m_ct, ct_o, ct_io, m_isl, is_o, is_io, m_mut, m_mutB, m_mut0, intD_i, m_sl, m_pn, m_ps, rs_d, rs_l, rsR_rd, rsR_o, rsR_io, sl_l, sl_t, arg_n, arg_c, arg_d, arg_l, ar_o, ar_io, ar_lk, ar_rd, put_n, put_d, put_io, m_put, pt_o, pt_io, i_seq, src_l, src_t, src_o, src_n, sr_o, sr_io, sr_lk, i_rng, i_enum, i_zip, i_rev, unl_n, unl_c, unl_1, ul_lk, ob_t, ob_f, wp_n, wp_c, rt_n, rt_c, fl_un, fl_d, m_unpT, tupD_t, unp_n, unp_c, range_1, range_2, ext_l, ext_t, app_1, m_pc, m_par, rl_n, rl_d, rl_o, rl_l, rlR_o, sr_n, sto_d, sto_o, List.getElem?_cons_zero, List.getElem?_cons_succ, List.set_cons_zero, List.set_cons_succ, Option.map_some, Option.bind_some, if_true, and_self], rfl, fun h => absurd h (by decide), fun _ => ⟨_, _, inner t, rfl, rfl, rfl⟩⟩
    · rw [List.length_map]
      have := List.length_filter_le (fun _ => true) (List.range ys.length)
      rw [List.length_range] at this
      omega
  rw [List.filter_eq_self.mpr (by simp)] at outer
  refine run_ok (c := .rt (.own (.l ((List.range ys.length).map fun t => .list ((laneP ord rs t).map intN))))) (s := [.d (.tuple ys), .d o, .d r, .un, .un]) ?_ rfl
  show g__law_rolled [.d (.tuple ys), .d o, .d r, .un, .un] = _
  unfold g__law_rolled
  simp only [m_vb, bnd_ok, bnd_er, m_vr, m_stuck, m_seq, bS_nx, bS_bk, bS_ct, bS_rt, bS_er, m_if, m_ite, bI_t, bI_f, bI_er, m_and, m_or, m_not, m_bool, evB_b, m_opt, m_optn, m_tru, tru_b, tru_i, tru_n, tru_l, tru_t, m_var, var_d, var_own, var_io, var_lk, var_rd, m_c, st_d, st_o, st_l, oc_l, oc_m, rd_d, rd_o, rd_l, rdR_own, rdR_io, rdR_lk, m_bin, m_un, m_call, m_rdn, m_rdc, m_cons, m_conss, m_tup, m_lst, dts_n, dts_c, o_map, o_bind, add_i, sub_i, mul_i, mod_i, fdiv_i, pow_i, neg_i, iadd_i, abs_i, int_i, int_b, len_l, len_t, add_l, add_t, lt_i, le_i, gt_i, ge_i, eq_i, ne_i, eqF_i, neF_i, tuple_l, tuple_t, list_l, list_t, ix_l, ix_t, m_ret, m_drop, m_nx, m_asg, m_nox, nx_ok, set_d, set_o, setD_, wr_un, wr_d, wr_o, wr_rd, m_aug, m_asgD, evD_d, evD_o, m_frzn, m_frzc, m_frz1, fz_d, fz_un, fz_io, fz_lk, fz_rd, fz_o, m_sub, m_augS, m_app, ap_o, ap_io, m_ct, ct_o, ct_io, m_isl, is_o, is_io, m_mut, m_mutB, m_mut0, intD_i, m_sl, m_pn, m_ps, rs_d, rs_l, rsR_rd, rsR_o, rsR_io, sl_l, sl_t, arg_n, arg_c, arg_d, arg_l, ar_o, ar_io, ar_lk, ar_rd, put_n, put_d, put_io, m_put, pt_o, pt_io, i_seq, src_l, src_t, src_o, src_n, sr_o, sr_io, sr_lk, i_rng, i_enum, i_zip, i_rev, unl_n, unl_c, unl_1, ul_lk, ob_t, ob_f, wp_n, wp_c, rt_n, rt_c, fl_un, fl_d, m_unpT, tupD_t, unp_n, unp_c, range_1, range_2, ext_l, ext_t, app_1, m_pc, m_par, rl_n, rl_d, rl_o, rl_l, rlR_o, sr_n, sto_d, sto_o, List.getElem?_cons_zero, List.getElem?_cons_succ, List.set_cons_zero, List.set_cons_succ, Option.map_some, Option.bind_some, if_true, and_self, outer]
/-- one pass: the through tracks as they lie, the stubs the other way about -/
def passP (ord : List Nat) (rs : List Int) : Nat → List Int → List Nat
  | _, [] => []
  | t, k :: ks => (if k = 0 then laneP ord rs t else (laneP ord rs t).reverse) ++ passP ord rs (t + 1) ks
theorem passP_len (ord : List Nat) (rs : List Int) : ∀ (ks : List Int) (t : Nat), (passP ord rs t ks).length ≤ ks.length * ord.length
  | [], t => Nat.zero_le _
  | k :: ks, t => by
    have h1 := passP_len ord rs ks (t + 1)
    have h2 : (laneP ord rs t).length ≤ ord.length := List.length_filter_le _ _
    unfold passP
    rw [List.length_append, List.length_cons, Nat.add_mul, Nat.one_mul]
    split
    · omega
    · rw [List.length_reverse]; omega
def zipK (ord : List Nat) (rs : List Int) : Nat → List Int → List Da
  | _, [] => []
  | t, k :: ks => .tuple [.int k, .list ((laneP ord rs t).map intN)] :: zipK ord rs (t + 1) ks
theorem zipK_eq (ord : List Nat) (rs : List Int) : ∀ (ks : List Int) (t : Nat), zipD (ks.map PyData.int) ((List.range' t ks.length).map fun t => PyData.list ((laneP ord rs t).map intN)) = zipK ord rs t ks
  | [], t => rfl
  | k :: ks, t => by
    rw [List.length_cons, List.range'_succ, List.map_cons, List.map_cons]
    show _ :: zipD _ _ = _ :: _
    rw [zipK_eq ord rs ks (t + 1)]
theorem rolled_at {ys : List Da} {o r : Da} {ord : List Nat} {rs : List Int} {s : VS} (hy : ys.length ≤ 1000000) (ho : seqD o = some (ord.map intN)) (hr : seqD r = some (rs.map PyData.int)) (hw : ∀ w ∈ ord, w < rs.length) (hl : ord.length ≤ 16000000) :
    callF F__law_rolled [.d (.tuple ys), .d o, .d r] s = .ok (.own (.l ((List.range ys.length).map fun t => .list ((laneP ord rs t).map intN))), s) := by
  rw [callF_ok (by simp [loans]) (by rfl) (rolled_ok hy ho hr hw hl) (fun i => by intro z; cases z), put_d, put_d, put_d, put_n]
theorem pass_ok {ks : List Int} {o r : Da} {ord : List Nat} {rs : List Int} (hy : ks.length ≤ 1000000) (ho : seqD o = some (ord.map intN)) (hr : seqD r = some (rs.map PyData.int)) (hw : ∀ w ∈ ord, w < rs.length) (hl : ks.length * ord.length ≤ 16000000) (hl2 : ord.length ≤ 16000000) :
    F__law_pass [.d (tupI ks), .d o, .d r] = .ok (.own (.l ((passP ord rs 0 ks).map intN)), [.d (tupI ks), .d o, .d r]) := by
  have loop : ∃ s', law_pass_s1 [.d (tupI ks), .d o, .d r, .own (.l []), .un, .un] = .ok (.nx, s') ∧ ∃ x4 x5 : SV, s' = [.d (tupI ks), .d o, .d r, .own (.l ((passP ord rs 0 ks).map intN)), x4, x5] := by
    unfold law_pass_s1
    refine (for_inv (L := []) (xs := zipK ord rs 0 ks) (s1 := [.d (tupI ks), .d o, .d r, .own (.l []), .un, .un])
      (fun xs s => ∃ (A : List Nat) (t : Nat) (k2 : List Int) (x4 x5 : SV), A ++ passP ord rs t k2 = passP ord rs 0 ks ∧ xs = zipK ord rs t k2 ∧ wrOk (some x4) = true ∧ wrOk (some x5) = true ∧ s = [.d (tupI ks), .d o, .d r, .own (.l (A.map intN)), x4, x5]) ?_ ?_ ⟨[], 0, ks, .un, .un, rfl, rfl, rfl, rfl, rfl⟩).imp fun s' ⟨h1, h2⟩ => ⟨h1, ?_⟩
    · rintro x xs s ⟨A, t, k2, x4, x5, e1, e2, h4, h5, rfl⟩
      cases k2 with
      | nil => cases e2
      | cons k k2 =>
        cases e2
        have cap : ∀ B : List Nat, B = laneP ord rs t ∨ B = (laneP ord rs t).reverse → (A ++ B ++ passP ord rs (t + 1) k2 = passP ord rs 0 ks) → (A.map intN).length + (B.map intN).length ≤ 16777216 := fun B hB h => by
          have h1 := congrArg List.length h
          rw [List.length_append, List.length_append] at h1
          have h2 := passP_len ord rs ks 0
          rw [List.length_map, List.length_map]
          omega
        have pc : passP ord rs t (k :: k2) = (if k = 0 then laneP ord rs t else (laneP ord rs t).reverse) ++ passP ord rs (t + 1) k2 := rfl
        rw [pc] at e1
        by_cases hk : k = 0
        · subst hk
          rw [if_pos rfl, ← List.append_assoc] at e1
          have c := cap _ (.inl rfl) e1
          refine ⟨[.d (tupI ks), .d o, .d r, .own (.l (A.map intN)), .d (.int 0), .d (.list ((laneP ord rs t).map intN))], .nx, [.d (tupI ks), .d o, .d r, .own (.l ((A ++ laneP ord rs t).map intN)), .d (.int 0), .d (.list ((laneP ord rs t).map intN))], ?_, ?_, .inl rfl, _, t + 1, k2, .d (.int 0), .d (.list ((laneP ord rs t).map intN)), e1, rfl, rfl, rfl, rfl⟩
          · simp only [m_vb, bnd_ok, bnd_er, m_vr, m_stuck, m_seq, bS_nx, bS_bk, bS_ct, bS_rt, bS_er, m_if, m_ite, bI_t, bI_f, bI_er, m_and, m_or, m_not, m_bool, evB_b, m_opt, m_optn, m_tru, tru_b, tru_i, tru_n, tru_l, tru_t, m_var, var_d, var_own, var_io, var_lk, var_rd, m_c, st_d, st_o, st_l, oc_l, oc_m, rd_d, rd_o, rd_l, rdR_own, rdR_io, rdR_lk, m_bin, m_un, m_call, m_rdn, m_rdc, m_cons, m_conss, m_tup, m_lst, dts_n, dts_c, o_map, o_bind, add_i, sub_i, mul_i, mod_i, fdiv_i, pow_i, neg_i, iadd_i, abs_i, int_i, int_b, len_l, len_t, add_l, add_t, lt_i, le_i, gt_i, ge_i, eq_i, ne_i, eqF_i, neF_i, tuple_l, tuple_t, list_l, list_t, ix_l, ix_t, m_ret, m_drop, m_nx, m_asg, m_nox, nx_ok, set_d, set_o, setD_, wr_un, wr_d, wr_o, wr_rd, m_aug, m_asgD, evD_d, evD_o, m_frzn, m_frzc, m_frz1, fz_d, fz_un, fz_io, fz_lk, fz_rd, fz_o, m_sub, m_augS, m_app, ap_o, ap_io, m_ct, ct_o, ct_io, m_isl, is_o, is_io, m_mut, m_mutB, m_mut0, intD_i, m_sl, m_pn, m_ps, rs_d, rs_l, rsR_rd, rsR_o, rsR_io, sl_l, sl_t, arg_n, arg_c, arg_d, arg_l, ar_o, ar_io, ar_lk, ar_rd, put_n, put_d, put_io, m_put, pt_o, pt_io, i_seq, src_l, src_t, src_o, src_n, sr_o, sr_io, sr_lk, i_rng, i_enum, i_zip, i_rev, unl_n, unl_c, unl_1, ul_lk, ob_t, ob_f, wp_n, wp_c, rt_n, rt_c, fl_un, fl_d, m_unpT, tupD_t, unp_n, unp_c, range_1, range_2, ext_l, ext_t, app_1, m_pc, m_par, rl_n, rl_d, rl_o, rl_l, rlR_o, sr_n, sto_d, sto_o, List.getElem?_cons_zero, List.getElem?_cons_succ, List.set_cons_zero, List.set_cons_succ, Option.map_some, Option.bind_some, if_true, and_self, h4, h5]
          · simp only [m_vb, bnd_ok, bnd_er, m_vr, m_stuck, m_seq, bS_nx, bS_bk, bS_ct, bS_rt, bS_er, m_if, m_ite, bI_t, bI_f, bI_er, m_and, m_or, m_not, m_bool, evB_b, m_opt, m_optn, m_tru, tru_b, tru_i, tru_n, tru_l, tru_t, m_var, var_d, var_own, var_io, var_lk, var_rd, m_c, st_d, st_o, st_l, oc_l, oc_m, rd_d, rd_o, rd_l, rdR_own, rdR_io, rdR_lk, m_bin, m_un, m_call, m_rdn, m_rdc, m_cons, m_conss, m_tup, m_lst, dts_n, dts_c, o_map, o_bind, add_i, sub_i, mul_i, mod_i, fdiv_i, pow_i, neg_i, iadd_i, abs_i, int_i, int_b, len_l, len_t, add_l, add_t, lt_i, le_i, gt_i, ge_i, eq_i, ne_i, eqF_i, neF_i, tuple_l, tuple_t, list_l, list_t, ix_l, ix_t, m_ret, m_drop, m_nx, m_asg, m_nox, nx_ok, set_d, set_o, setD_, wr_un, wr_d, wr_o, wr_rd, m_aug, m_asgD, evD_d, evD_o, m_frzn, m_frzc, m_frz1, fz_d, fz_un, fz_io, fz_lk, fz_rd, fz_o, m_sub, m_augS, m_app, ap_o, ap_io, m_ct, ct_o, ct_io, m_isl, is_o, is_io, m_mut, m_mutB, m_mut0, intD_i, m_sl, m_pn, m_ps, rs_d, rs_l, rsR_rd, rsR_o, rsR_io, sl_l, sl_t, arg_n, arg_c, arg_d, arg_l, ar_o, ar_io, ar_lk, ar_rd, put_n, put_d, put_io, m_put, pt_o, pt_io, i_seq, src_l, src_t, src_o, src_n, sr_o, sr_io, sr_lk, i_rng, i_enum, i_zip, i_rev, unl_n, unl_c, unl_1, ul_lk, ob_t, ob_f, wp_n, wp_c, rt_n, rt_c, fl_un, fl_d, m_unpT, tupD_t, unp_n, unp_c, range_1, range_2, ext_l, ext_t, app_1, m_pc, m_par, rl_n, rl_d, rl_o, rl_l, rlR_o, sr_n, sto_d, sto_o, List.getElem?_cons_zero, List.getElem?_cons_succ, List.set_cons_zero, List.set_cons_succ, Option.map_some, Option.bind_some, if_true, and_self, decide_true, ext_l, c, List.map_append]
        · rw [if_neg hk, ← List.append_assoc] at e1
          have c := cap _ (.inr rfl) e1
          refine ⟨[.d (tupI ks), .d o, .d r, .own (.l (A.map intN)), .d (.int k), .d (.list ((laneP ord rs t).map intN))], .nx, [.d (tupI ks), .d o, .d r, .own (.l ((A ++ (laneP ord rs t).reverse).map intN)), .d (.int k), .d (.list ((laneP ord rs t).map intN))], ?_, ?_, .inl rfl, _, t + 1, k2, .d (.int k), .d (.list ((laneP ord rs t).map intN)), e1, rfl, rfl, rfl, rfl⟩
          · simp only [m_vb, bnd_ok, bnd_er, m_vr, m_stuck, m_seq, bS_nx, bS_bk, bS_ct, bS_rt, bS_er, m_if, m_ite, bI_t, bI_f, bI_er, m_and, m_or, m_not, m_bool, evB_b, m_opt, m_optn, m_tru, tru_b, tru_i, tru_n, tru_l, tru_t, m_var, var_d, var_own, var_io, var_lk, var_rd, m_c, st_d, st_o, st_l, oc_l, oc_m, rd_d, rd_o, rd_l, rdR_own, rdR_io, rdR_lk, m_bin, m_un, m_call, m_rdn, m_rdc, m_cons, m_conss, m_tup, m_lst, dts_n, dts_c, o_map, o_bind, add_i, sub_i, mul_i, mod_i, fdiv_i, pow_i, neg_i, iadd_i, abs_i, int_i, int_b, len_l, len_t, add_l, add_t, lt_i, le_i, gt_i, ge_i, eq_i, ne_i, eqF_i, neF_i, tuple_l, tuple_t, list_l, list_t, ix_l, ix_t, m_ret, m_drop, m_nx, m_asg, m_nox, nx_ok, set_d, set_o, setD_, wr_un, wr_d, wr_o, wr_rd, m_aug, m_asgD, evD_d, evD_o, m_frzn, m_frzc, m_frz1, fz_d, fz_un, fz_io, fz_lk, fz_rd, fz_o, m_sub, m_augS, m_app, ap_o, ap_io, m_ct, ct_o, ct_io, m_isl, is_o, is_io, m_mut, m_mutB, m_mut0, intD_i, m_sl, m_pn, m_ps, rs_d, rs_l, rsR_rd, rsR_o, rsR_io, sl_l, sl_t, arg_n, arg_c, arg_d, arg_l, ar_o, ar_io, ar_lk, ar_rd, put_n, put_d, put_io, m_put, pt_o, pt_io, i_seq, src_l, src_t, src_o, src_n, sr_o, sr_io, sr_lk, i_rng, i_enum, i_zip, i_rev, unl_n, unl_c, unl_1, ul_lk, ob_t, ob_f, wp_n, wp_c, rt_n, rt_c, fl_un, fl_d, m_unpT, tupD_t, unp_n, unp_c, range_1, range_2, ext_l, ext_t, app_1, m_pc, m_par, rl_n, rl_d, rl_o, rl_l, rlR_o, sr_n, sto_d, sto_o, List.getElem?_cons_zero, List.getElem?_cons_succ, List.set_cons_zero, List.set_cons_succ, Option.map_some, Option.bind_some, if_true, and_self, h4, h5]
          · rw [List.map_reverse] at c
            simp only [m_vb, bnd_ok, bnd_er, m_vr, m_stuck, m_seq, bS_nx, bS_bk, bS_ct, bS_rt, bS_er, m_if, m_ite, bI_t, bI_f, bI_er, m_and, m_or, m_not, m_bool, evB_b, m_opt, m_optn, m_tru, tru_b, tru_i, tru_n, tru_l, tru_t, m_var, var_d, var_own, var_io, var_lk, var_rd, m_c, st_d, st_o, st_l, oc_l, oc_m, rd_d, rd_o, rd_l, rdR_own, rdR_io, rdR_lk, m_bin, m_un, m_call, m_rdn, m_rdc, m_cons, m_conss, m_tup, m_lst, dts_n, dts_c, o_map, o_bind, add_i, sub_i, mul_i, mod_i, fdiv_i, pow_i, neg_i, iadd_i, abs_i, int_i, int_b, len_l, len_t, add_l, add_t, lt_i, le_i, gt_i, ge_i, eq_i, ne_i, eqF_i, neF_i, tuple_l, tuple_t, list_l, list_t, ix_l, ix_t, m_ret, m_drop, m_nx, m_asg, m_nox, nx_ok, set_d, set_o, setD_, wr_un, wr_d, wr_o, wr_rd, m_aug, m_asgD, evD_d, evD_o, m_frzn, m_frzc, m_frz1, fz_d, fz_un, fz_io, fz_lk, fz_rd, fz_o, m_sub, m_augS, m_app, ap_o, ap_io, m_ct, ct_o, ct_io, m_isl, is_o, is_io, m_mut, m_mutB, m_mut0, intD_i, m_sl, m_pn, m_ps, rs_d, rs_l, rsR_rd, rsR_o, rsR_io, sl_l, sl_t, arg_n, arg_c, arg_d, arg_l, ar_o, ar_io, ar_lk, ar_rd, put_n, put_d, put_io, m_put, pt_o, pt_io, i_seq, src_l, src_t, src_o, src_n, sr_o, sr_io, sr_lk, i_rng, i_enum, i_zip, i_rev, unl_n, unl_c, unl_1, ul_lk, ob_t, ob_f, wp_n, wp_c, rt_n, rt_c, fl_un, fl_d, m_unpT, tupD_t, unp_n, unp_c, range_1, range_2, ext_l, ext_t, app_1, m_pc, m_par, rl_n, rl_d, rl_o, rl_l, rlR_o, sr_n, sto_d, sto_o, List.getElem?_cons_zero, List.getElem?_cons_succ, List.set_cons_zero, List.set_cons_succ, Option.map_some, Option.bind_some, if_true, and_self, decide_false, hk, revD, ext_l, List.map_append, List.map_reverse, c]
    · have e := zipK_eq ord rs ks 0
      rw [← List.range_eq_range'] at e
      have hr2 := rolled_at (ys := ks.map PyData.int) (s := [.d (tupI ks), .d o, .d r, .own (.l []), .un, .un]) (by rw [List.length_map]; exact hy) ho hr hw hl2
      rw [List.length_map] at hr2
      unfold tupI at hr2 ⊢
      simp only [m_vb, bnd_ok, bnd_er, m_vr, m_stuck, m_seq, bS_nx, bS_bk, bS_ct, bS_rt, bS_er, m_if, m_ite, bI_t, bI_f, bI_er, m_and, m_or, m_not, m_bool, evB_b, m_opt, m_optn, m_tru, tru_b, tru_i, tru_n, tru_l, tru_t, m_var, var_d, var_own, var_io, var_lk, var_rd, m_c, st_d, st_o, st_l, oc_l, oc_m, rd_d, rd_o, rd_l, rdR_own, rdR_io, rdR_lk, m_bin, m_un, m_call, m_rdn, m_rdc, m_cons, m_conss, m_tup, m_lst, dts_n, dts_c, o_map, o_bind, add_i, sub_i, mul_i, mod_i, fdiv_i, pow_i, neg_i, iadd_i, abs_i, int_i, int_b, len_l, len_t, add_l, add_t, lt_i, le_i, gt_i, ge_i, eq_i, ne_i, eqF_i, neF_i, tuple_l, tuple_t, list_l, list_t, ix_l, ix_t, m_ret, m_drop, m_nx, m_asg, m_nox, nx_ok, set_d, set_o, setD_, wr_un, wr_d, wr_o, wr_rd, m_aug, m_asgD, evD_d, evD_o, m_frzn, m_frzc, m_frz1, fz_d, fz_un, fz_io, fz_lk, fz_rd, fz_o, m_sub, m_augS, m_app, ap_o, ap_io, m_ct, ct_o, ct_io, m_isl, is_o, is_io, m_mut, m_mutB, m_mut0, intD_i, m_sl, m_pn, m_ps, rs_d, rs_l, rsR_rd, rsR_o, rsR_io, sl_l, sl_t, arg_n, arg_c, arg_d, arg_l, ar_o, ar_io, ar_lk, ar_rd, put_n, put_d, put_io, m_put, pt_o, pt_io, i_seq, src_l, src_t, src_o, src_n, sr_o, sr_io, sr_lk, i_rng, i_enum, i_zip, i_rev, unl_n, unl_c, unl_1, ul_lk, ob_t, ob_f, wp_n, wp_c, rt_n, rt_c, fl_un, fl_d, m_unpT, tupD_t, unp_n, unp_c, range_1, range_2, ext_l, ext_t, app_1, m_pc, m_par, rl_n, rl_d, rl_o, rl_l, rlR_o, sr_n, sto_d, sto_o, List.getElem?_cons_zero, List.getElem?_cons_succ, List.set_cons_zero, List.set_cons_succ, Option.map_some, Option.bind_some, if_true, and_self, m_callF, hr2, e, List.append_nil]
    · obtain ⟨A, t, k2, x4, x5, e1, e2, _, _, rfl⟩ := h2
      cases k2 with
      | nil =>
        have pn : passP ord rs t [] = [] := rfl
        rw [pn, List.append_nil] at e1
        exact ⟨x4, x5, by rw [e1]⟩
      | cons k k2 => cases e2
  obtain ⟨s', hs, x4, x5, rfl⟩ := loop
  refine run_ok (c := .rt (.loan 3)) (s := [.d (tupI ks), .d o, .d r, .own (.l ((passP ord rs 0 ks).map intN)), x4, x5]) ?_ rfl
  show g__law_pass [.d (tupI ks), .d o, .d r, .un, .un, .un] = _
  unfold g__law_pass
  refine seq_then (s1 := [.d (tupI ks), .d o, .d r, .own (.l []), .un, .un]) ?_ (seq_then hs ?_)
  · simp only [m_vb, bnd_ok, bnd_er, m_vr, m_stuck, m_seq, bS_nx, bS_bk, bS_ct, bS_rt, bS_er, m_if, m_ite, bI_t, bI_f, bI_er, m_and, m_or, m_not, m_bool, evB_b, m_opt, m_optn, m_tru, tru_b, tru_i, tru_n, tru_l, tru_t, m_var, var_d, var_own, var_io, var_lk, var_rd, m_c, st_d, st_o, st_l, oc_l, oc_m, rd_d, rd_o, rd_l, rdR_own, rdR_io, rdR_lk, m_bin, m_un, m_call, m_rdn, m_rdc, m_cons, m_conss, m_tup, m_lst, dts_n, dts_c, o_map, o_bind, add_i, sub_i, mul_i, mod_i, fdiv_i, pow_i, neg_i, iadd_i, abs_i, int_i, int_b, len_l, len_t, add_l, add_t, lt_i, le_i, gt_i, ge_i, eq_i, ne_i, eqF_i, neF_i, tuple_l, tuple_t, list_l, list_t, ix_l, ix_t, m_ret, m_drop, m_nx, m_asg, m_nox, nx_ok, set_d, set_o, setD_, wr_un, wr_d, wr_o, wr_rd, m_aug, m_asgD, evD_d, evD_o, m_frzn, m_frzc, m_frz1, fz_d, fz_un, fz_io, fz_lk, fz_rd, fz_o, m_sub, m_augS, m_app, ap_o, ap_io, m_ct, ct_o, ct_io, m_isl, is_o, is_io, m_mut, m_mutB, m_mut0, intD_i, m_sl, m_pn, m_ps, rs_d, rs_l, rsR_rd, rsR_o, rsR_io, sl_l, sl_t, arg_n, arg_c, arg_d, arg_l, ar_o, ar_io, ar_lk, ar_rd, put_n, put_d, put_io, m_put, pt_o, pt_io, i_seq, src_l, src_t, src_o, src_n, sr_o, sr_io, sr_lk, i_rng, i_enum, i_zip, i_rev, unl_n, unl_c, unl_1, ul_lk, ob_t, ob_f, wp_n, wp_c, rt_n, rt_c, fl_un, fl_d, m_unpT, tupD_t, unp_n, unp_c, range_1, range_2, ext_l, ext_t, app_1, m_pc, m_par, rl_n, rl_d, rl_o, rl_l, rlR_o, sr_n, sto_d, sto_o, List.getElem?_cons_zero, List.getElem?_cons_succ, List.set_cons_zero, List.set_cons_succ, Option.map_some, Option.bind_some, if_true, and_self, List.length_nil, Nat.zero_le]
  · simp only [m_vb, bnd_ok, bnd_er, m_vr, m_stuck, m_seq, bS_nx, bS_bk, bS_ct, bS_rt, bS_er, m_if, m_ite, bI_t, bI_f, bI_er, m_and, m_or, m_not, m_bool, evB_b, m_opt, m_optn, m_tru, tru_b, tru_i, tru_n, tru_l, tru_t, m_var, var_d, var_own, var_io, var_lk, var_rd, m_c, st_d, st_o, st_l, oc_l, oc_m, rd_d, rd_o, rd_l, rdR_own, rdR_io, rdR_lk, m_bin, m_un, m_call, m_rdn, m_rdc, m_cons, m_conss, m_tup, m_lst, dts_n, dts_c, o_map, o_bind, add_i, sub_i, mul_i, mod_i, fdiv_i, pow_i, neg_i, iadd_i, abs_i, int_i, int_b, len_l, len_t, add_l, add_t, lt_i, le_i, gt_i, ge_i, eq_i, ne_i, eqF_i, neF_i, tuple_l, tuple_t, list_l, list_t, ix_l, ix_t, m_ret, m_drop, m_nx, m_asg, m_nox, nx_ok, set_d, set_o, setD_, wr_un, wr_d, wr_o, wr_rd, m_aug, m_asgD, evD_d, evD_o, m_frzn, m_frzc, m_frz1, fz_d, fz_un, fz_io, fz_lk, fz_rd, fz_o, m_sub, m_augS, m_app, ap_o, ap_io, m_ct, ct_o, ct_io, m_isl, is_o, is_io, m_mut, m_mutB, m_mut0, intD_i, m_sl, m_pn, m_ps, rs_d, rs_l, rsR_rd, rsR_o, rsR_io, sl_l, sl_t, arg_n, arg_c, arg_d, arg_l, ar_o, ar_io, ar_lk, ar_rd, put_n, put_d, put_io, m_put, pt_o, pt_io, i_seq, src_l, src_t, src_o, src_n, sr_o, sr_io, sr_lk, i_rng, i_enum, i_zip, i_rev, unl_n, unl_c, unl_1, ul_lk, ob_t, ob_f, wp_n, wp_c, rt_n, rt_c, fl_un, fl_d, m_unpT, tupD_t, unp_n, unp_c, range_1, range_2, ext_l, ext_t, app_1, m_pc, m_par, rl_n, rl_d, rl_o, rl_l, rlR_o, sr_n, sto_d, sto_o, List.getElem?_cons_zero, List.getElem?_cons_succ, List.set_cons_zero, List.set_cons_succ, Option.map_some, Option.bind_some, if_true, and_self]
end LB
set_option Elab.async false
set_option linter.all false
set_option maxRecDepth 100000
namespace LB
open PySem PySem.Spec PyProof.Rows L2 VL
theorem while_inv {c : VM Bool} {g : VM Ctl} (R : Nat → VS → Prop) (Q : VS → Prop) (step : ∀ n s, R n s → ∃ b s1, c s = .ok (b, s1) ∧ (b = false → Q s1) ∧ (b = true → ∃ k s2 m, g s1 = .ok (k, s2) ∧ (k = .nx ∨ k = .ct) ∧ m < n ∧ R m s2)) :
    ∀ (fu n : Nat) (s : VS), n < fu → R n s → ∃ s', vWhileN c g fu s = .ok (.nx, s') ∧ Q s'
  | 0, n, s, h, _ => by omega
  | fu + 1, n, s, h, hR => by
    obtain ⟨b, s1, h1, hf, ht⟩ := step n s hR
    cases b with
    | false =>
      refine ⟨s1, ?_, hf rfl⟩
      show vb c _ s = _
      rw [m_vb, h1, bnd_ok]; rfl
    | true =>
      obtain ⟨k, s2, m, h2, hk, hm, hR2⟩ := ht rfl
      obtain ⟨s', h3, hQ⟩ := while_inv R Q step fu m s2 (by omega) hR2
      refine ⟨s', ?_, hQ⟩
      show vb c _ s = _
      rw [m_vb, h1, bnd_ok, if_pos rfl, m_vb, h2, bnd_ok]
      rcases hk with rfl | rfl <;> exact h3
mutual
def nodesD : Da → Nat
  | .list xs => 1 + nodesL xs
  | .tuple xs => 1 + nodesL xs
  | _ => 1
def nodesL : List Da → Nat
  | [] => 0
  | x :: xs => nodesD x + nodesL xs
end
theorem nodesD_pos (x : Da) : 1 ≤ nodesD x := by cases x <;> simp only [nodesD] <;> omega
theorem nodesL_len : ∀ xs : List Da, xs.length ≤ nodesL xs
  | [] => Nat.zero_le _
  | x :: xs => by
    have := nodesL_len xs
    have := nodesD_pos x
    simp only [nodesL, List.length_cons]; omega
theorem nodesL_app : ∀ xs ys : List Da, nodesL (xs ++ ys) = nodesL xs + nodesL ys
  | [], ys => by simp [nodesL]
  | x :: xs, ys => by simp only [List.cons_append, nodesL, nodesL_app xs ys]; omega
def dupD (x : Da) : Da := .tuple [x, x]
theorem zip_dup : ∀ xs : List Da, zipD xs xs = xs.map dupD
  | [] => rfl
  | x :: xs => by show _ :: zipD xs xs = _; rw [zip_dup xs]; rfl
/-- data that the comparing meets: no dicts, texts that may be laid -/
def GoodD (x : Da) : Prop := ∃ n, shF n x = true
theorem good_list {xs : List Da} (h : GoodD (.list xs)) : ∀ x ∈ xs, GoodD x := by
  obtain ⟨n, h⟩ := h
  cases n with
  | zero => simp only [shF] at h; cases h
  | succ n =>
    simp only [shF] at h
    intro x hx
    refine ⟨n, ?_⟩
    induction xs with
    | nil => cases hx
    | cons y ys ih =>
      simp only [shFs, Bool.and_eq_true] at h
      rcases List.mem_cons.mp hx with rfl | hx
      · exact h.1
      · exact ih h.2 hx
theorem good_tuple {xs : List Da} (h : GoodD (.tuple xs)) : ∀ x ∈ xs, GoodD x := by
  obtain ⟨n, h⟩ := h
  refine good_list (xs := xs) ⟨n, ?_⟩
  cases n with
  | zero => simp only [shF] at h; cases h
  | succ n => simp only [shF] at h ⊢; exact h
theorem isi_run {ks : List KT} {f : VM EV} {s : VS} : vIsi ks f s = bnd (f s) fun r => vb (vRd r) fun x => vC (.bool (ks.any fun k => isKT k x)) := rfl
theorem neF_b {a b : Bool} : neF (.bool a) (.bool b) = some (.d (.bool (!(a == b)))) := by
  show (if shF 64 (.bool a) = true ∧ shF 64 (.bool b) = true then some (EV.d (.bool (!PyData.eqv (.bool a) (.bool b)))) else none) = _
  rw [if_pos ⟨rfl, rfl⟩]
  simp only [PyData.eqv]
/-- a leaf is what it is -/
theorem neF_leaf {x : Da} (h : GoodD x) (hl : ∀ xs, x ≠ .list xs) (ht : ∀ xs, x ≠ .tuple xs) : neF x x = some (.d (.bool false)) := by
  obtain ⟨n, h⟩ := h
  cases x with
  | none => rfl
  | bool b => rw [neF_b]; simp
  | int i => rw [neF_i]; simp
  | str y =>
    have h64 : shF 64 (.str y) = true := by simp only [shF] at h ⊢; exact h
    show (if shF 64 (.str y) = true ∧ shF 64 (.str y) = true then some (EV.d (.bool (!PyData.eqv (.str y) (.str y)))) else none) = _
    rw [if_pos ⟨h64, h64⟩]
    simp only [PyData.eqv, beq_self_eq_true, Bool.not_true]
  | list xs => exact absurd rfl (hl xs)
  | tuple xs => exact absurd rfl (ht xs)
  | dict kvs => simp only [shF] at h; cases h
/-- one turn -/
def AlR (x y : Da) (N : Nat) (n : Nat) (s : VS) : Prop := ∃ (A B : List Da) (x4 x5 : SV), s = [.d x, .d y, .own (.l ((A ++ B).map dupD)), .d (.int (Int.ofNat A.length)), x4, x5] ∧ n = nodesL B ∧ A.length + nodesL B = N ∧ (∀ z ∈ B, GoodD z) ∧ wrOk (some x4) = true ∧ wrOk (some x5) = true
theorem alike_s6_ok {x y : Da} {N : Nat} (hN : N ≤ 1000000) {n : Nat} {s : VS} (h : AlR x y N n s) : ∃ s', law_alike_s6 s = .ok (.nx, s') ∧ ∃ (l : List Da) (x3 x4 x5 : SV), s' = [.d x, .d y, .own (.l l), x3, x4, x5] := by
  have hfu : n < fuel := by
    obtain ⟨A, B, x4, x5, rfl, rfl, e, _⟩ := h
    show _ < 1000000000
    omega
  unfold law_alike_s6 vWhile
  refine while_inv (AlR x y N) (fun s' => ∃ (l : List Da) (x3 x4 x5 : SV), s' = [.d x, .d y, .own (.l l), x3, x4, x5]) (fun n s hR => ?_) fuel n s hfu h
  obtain ⟨A, B, x4, x5, rfl, rfl, e, hg, h4, h5⟩ := hR
  refine ⟨decide (Int.ofNat A.length < (((A ++ B).map dupD).length : Int)), [.d x, .d y, .own (.l ((A ++ B).map dupD)), .d (.int (Int.ofNat A.length)), x4, x5], by simp only [m_vb, bnd_ok, bnd_er, m_vr, m_stuck, m_seq, bS_nx, bS_bk, bS_ct, bS_rt, bS_er, m_if, m_ite, bI_t, bI_f, bI_er, m_and, m_or, m_not, m_bool, evB_b, m_opt, m_optn, m_tru, tru_b, tru_i, tru_n, tru_l, tru_t, m_var, var_d, var_own, var_io, var_lk, var_rd, m_c, st_d, st_o, st_l, oc_l, oc_m, rd_d, rd_o, rd_l, rdR_own, rdR_io, rdR_lk, m_bin, m_un, m_call, m_rdn, m_rdc, m_cons, m_conss, m_tup, m_lst, dts_n, dts_c, o_map, o_bind, add_i, sub_i, mul_i, mod_i, fdiv_i, pow_i, neg_i, iadd_i, abs_i, int_i, int_b, len_l, len_t, add_l, add_t, lt_i, le_i, gt_i, ge_i, eq_i, ne_i, eqF_i, neF_i, tuple_l, tuple_t, list_l, list_t, ix_l, ix_t, m_ret, m_drop, m_nx, m_asg, m_nox, nx_ok, set_d, set_o, setD_, wr_un, wr_d, wr_o, wr_rd, m_aug, m_asgD, evD_d, evD_o, m_frzn, m_frzc, m_frz1, fz_d, fz_un, fz_io, fz_lk, fz_rd, fz_o, m_sub, m_augS, m_app, ap_o, ap_io, m_ct, ct_o, ct_io, m_isl, is_o, is_io, m_mut, m_mutB, m_mut0, intD_i, m_sl, m_pn, m_ps, rs_d, rs_l, rsR_rd, rsR_o, rsR_io, sl_l, sl_t, arg_n, arg_c, arg_d, arg_l, ar_o, ar_io, ar_lk, ar_rd, put_n, put_d, put_io, m_put, pt_o, pt_io, i_seq, src_l, src_t, src_o, src_n, sr_o, sr_io, sr_lk, i_rng, i_enum, i_zip, i_rev, unl_n, unl_c, unl_1, ul_lk, ob_t, ob_f, wp_n, wp_c, rt_n, rt_c, fl_un, fl_d, m_unpT, tupD_t, unp_n, unp_c, range_1, range_2, ext_l, ext_t, app_1, m_pc, m_par, rl_n, rl_d, rl_o, rl_l, rlR_o, sr_n, sto_d, sto_o, List.getElem?_cons_zero, List.getElem?_cons_succ, List.set_cons_zero, List.set_cons_succ, Option.map_some, Option.bind_some, if_true, and_self], fun _ => ⟨_, _, _, _, rfl⟩, fun hb => ?_⟩
  have hb := of_decide_eq_true hb
  cases B with
  | nil => rw [List.append_nil, List.length_map] at hb; exact absurd hb (by show ¬ ((A.length : Int) < A.length); omega)
  | cons z B =>
    have hz := hg z List.mem_cons_self
    have hB := fun w hw => hg w (List.mem_cons_of_mem _ hw)
    have at1 : atI ((A ++ z :: B).map dupD) (Int.ofNat A.length) = some (dupD z) := by
      rw [at_nat (show (0 : Int) ≤ Int.ofNat A.length from Int.natCast_nonneg _)]
      show ((A ++ z :: B).map dupD)[A.length]? = _
      rw [List.getElem?_map, List.getElem?_append_right (Nat.le_refl _), Nat.sub_self]; rfl
    have at2 : Int.ofNat A.length + 1 = Int.ofNat (A ++ [z]).length := by rw [List.length_append]; rfl
    simp only [nodesL] at e ⊢
    have key : ∀ s2, (∃ B', s2 = [.d x, .d y, .own (.l ((A ++ z :: B').map dupD)), .d (.int (Int.ofNat (A ++ [z]).length)), .d z, .d z] ∧ nodesL B' + 1 = nodesD z + nodesL B ∧ ∀ w ∈ B', GoodD w) → ∃ m, m < nodesD z + nodesL B ∧ AlR x y N m s2 := fun s2 ⟨B', e2, e3, e4⟩ =>
      ⟨nodesL B', by omega, A ++ [z], B', .d z, .d z, by rw [e2, List.append_assoc]; rfl, rfl, by rw [List.length_append]; simp only [List.length_cons, List.length_nil]; omega, e4, rfl, rfl⟩
    have head : ∀ (r : VM Ctl) (q : Res (Ctl × VS)), r [.d x, .d y, .own (.l ((A ++ z :: B).map dupD)), .d (.int (Int.ofNat (A ++ [z]).length)), .d z, .d z] = q →
        (vSeq (vFrz [3] (vAsgD (vBin ixD (vVar 2) (vVar 3)) (vUnpT [vSetD 4, vSetD 5]))) (vSeq (vAug 3 iaddD (vC (.int 1))) (vSeq (vFrz [4, 5] law_alike_s5) (vSeq (vFrz [4, 5] law_alike_s4) r)))) [.d x, .d y, .own (.l ((A ++ z :: B).map dupD)), .d (.int (Int.ofNat A.length)), x4, x5] = q := fun r q hq => by
      refine seq_then (s1 := [.d x, .d y, .own (.l ((A ++ z :: B).map dupD)), .d (.int (Int.ofNat A.length)), .d z, .d z]) ?_ (seq_then (s1 := [.d x, .d y, .own (.l ((A ++ z :: B).map dupD)), .d (.int (Int.ofNat (A ++ [z]).length)), .d z, .d z]) ?_ (seq_then (s1 := [.d x, .d y, .own (.l ((A ++ z :: B).map dupD)), .d (.int (Int.ofNat (A ++ [z]).length)), .d z, .d z]) ?_ (seq_then (s1 := [.d x, .d y, .own (.l ((A ++ z :: B).map dupD)), .d (.int (Int.ofNat (A ++ [z]).length)), .d z, .d z]) ?_ hq)))
      · simp only [m_vb, bnd_ok, bnd_er, m_vr, m_stuck, m_seq, bS_nx, bS_bk, bS_ct, bS_rt, bS_er, m_if, m_ite, bI_t, bI_f, bI_er, m_and, m_or, m_not, m_bool, evB_b, m_opt, m_optn, m_tru, tru_b, tru_i, tru_n, tru_l, tru_t, m_var, var_d, var_own, var_io, var_lk, var_rd, m_c, st_d, st_o, st_l, oc_l, oc_m, rd_d, rd_o, rd_l, rdR_own, rdR_io, rdR_lk, m_bin, m_un, m_call, m_rdn, m_rdc, m_cons, m_conss, m_tup, m_lst, dts_n, dts_c, o_map, o_bind, add_i, sub_i, mul_i, mod_i, fdiv_i, pow_i, neg_i, iadd_i, abs_i, int_i, int_b, len_l, len_t, add_l, add_t, lt_i, le_i, gt_i, ge_i, eq_i, ne_i, eqF_i, neF_i, tuple_l, tuple_t, list_l, list_t, ix_l, ix_t, m_ret, m_drop, m_nx, m_asg, m_nox, nx_ok, set_d, set_o, setD_, wr_un, wr_d, wr_o, wr_rd, m_aug, m_asgD, evD_d, evD_o, m_frzn, m_frzc, m_frz1, fz_d, fz_un, fz_io, fz_lk, fz_rd, fz_o, m_sub, m_augS, m_app, ap_o, ap_io, m_ct, ct_o, ct_io, m_isl, is_o, is_io, m_mut, m_mutB, m_mut0, intD_i, m_sl, m_pn, m_ps, rs_d, rs_l, rsR_rd, rsR_o, rsR_io, sl_l, sl_t, arg_n, arg_c, arg_d, arg_l, ar_o, ar_io, ar_lk, ar_rd, put_n, put_d, put_io, m_put, pt_o, pt_io, i_seq, src_l, src_t, src_o, src_n, sr_o, sr_io, sr_lk, i_rng, i_enum, i_zip, i_rev, unl_n, unl_c, unl_1, ul_lk, ob_t, ob_f, wp_n, wp_c, rt_n, rt_c, fl_un, fl_d, m_unpT, tupD_t, unp_n, unp_c, range_1, range_2, ext_l, ext_t, app_1, m_pc, m_par, rl_n, rl_d, rl_o, rl_l, rlR_o, sr_n, sto_d, sto_o, List.getElem?_cons_zero, List.getElem?_cons_succ, List.set_cons_zero, List.set_cons_succ, Option.map_some, Option.bind_some, if_true, and_self, at1, dupD, h4, h5]
      · simp only [m_vb, bnd_ok, bnd_er, m_vr, m_stuck, m_seq, bS_nx, bS_bk, bS_ct, bS_rt, bS_er, m_if, m_ite, bI_t, bI_f, bI_er, m_and, m_or, m_not, m_bool, evB_b, m_opt, m_optn, m_tru, tru_b, tru_i, tru_n, tru_l, tru_t, m_var, var_d, var_own, var_io, var_lk, var_rd, m_c, st_d, st_o, st_l, oc_l, oc_m, rd_d, rd_o, rd_l, rdR_own, rdR_io, rdR_lk, m_bin, m_un, m_call, m_rdn, m_rdc, m_cons, m_conss, m_tup, m_lst, dts_n, dts_c, o_map, o_bind, add_i, sub_i, mul_i, mod_i, fdiv_i, pow_i, neg_i, iadd_i, abs_i, int_i, int_b, len_l, len_t, add_l, add_t, lt_i, le_i, gt_i, ge_i, eq_i, ne_i, eqF_i, neF_i, tuple_l, tuple_t, list_l, list_t, ix_l, ix_t, m_ret, m_drop, m_nx, m_asg, m_nox, nx_ok, set_d, set_o, setD_, wr_un, wr_d, wr_o, wr_rd, m_aug, m_asgD, evD_d, evD_o, m_frzn, m_frzc, m_frz1, fz_d, fz_un, fz_io, fz_lk, fz_rd, fz_o, m_sub, m_augS, m_app, ap_o, ap_io, m_ct, ct_o, ct_io, m_isl, is_o, is_io, m_mut, m_mutB, m_mut0, intD_i, m_sl, m_pn, m_ps, rs_d, rs_l, rsR_rd, rsR_o, rsR_io, sl_l, sl_t, arg_n, arg_c, arg_d, arg_l, ar_o, ar_io, ar_lk, ar_rd, put_n, put_d, put_io, m_put, pt_o, pt_io, i_seq, src_l, src_t, src_o, src_n, sr_o, sr_io, sr_lk, i_rng, i_enum, i_zip, i_rev, unl_n, unl_c, unl_1, ul_lk, ob_t, ob_f, wp_n, wp_c, rt_n, rt_c, fl_un, fl_d, m_unpT, tupD_t, unp_n, unp_c, range_1, range_2, ext_l, ext_t, app_1, m_pc, m_par, rl_n, rl_d, rl_o, rl_l, rlR_o, sr_n, sto_d, sto_o, List.getElem?_cons_zero, List.getElem?_cons_succ, List.set_cons_zero, List.set_cons_succ, Option.map_some, Option.bind_some, if_true, and_self, at2]
      · unfold law_alike_s5
        simp only [m_vb, bnd_ok, bnd_er, m_vr, m_stuck, m_seq, bS_nx, bS_bk, bS_ct, bS_rt, bS_er, m_if, m_ite, bI_t, bI_f, bI_er, m_and, m_or, m_not, m_bool, evB_b, m_opt, m_optn, m_tru, tru_b, tru_i, tru_n, tru_l, tru_t, m_var, var_d, var_own, var_io, var_lk, var_rd, m_c, st_d, st_o, st_l, oc_l, oc_m, rd_d, rd_o, rd_l, rdR_own, rdR_io, rdR_lk, m_bin, m_un, m_call, m_rdn, m_rdc, m_cons, m_conss, m_tup, m_lst, dts_n, dts_c, o_map, o_bind, add_i, sub_i, mul_i, mod_i, fdiv_i, pow_i, neg_i, iadd_i, abs_i, int_i, int_b, len_l, len_t, add_l, add_t, lt_i, le_i, gt_i, ge_i, eq_i, ne_i, eqF_i, neF_i, tuple_l, tuple_t, list_l, list_t, ix_l, ix_t, m_ret, m_drop, m_nx, m_asg, m_nox, nx_ok, set_d, set_o, setD_, wr_un, wr_d, wr_o, wr_rd, m_aug, m_asgD, evD_d, evD_o, m_frzn, m_frzc, m_frz1, fz_d, fz_un, fz_io, fz_lk, fz_rd, fz_o, m_sub, m_augS, m_app, ap_o, ap_io, m_ct, ct_o, ct_io, m_isl, is_o, is_io, m_mut, m_mutB, m_mut0, intD_i, m_sl, m_pn, m_ps, rs_d, rs_l, rsR_rd, rsR_o, rsR_io, sl_l, sl_t, arg_n, arg_c, arg_d, arg_l, ar_o, ar_io, ar_lk, ar_rd, put_n, put_d, put_io, m_put, pt_o, pt_io, i_seq, src_l, src_t, src_o, src_n, sr_o, sr_io, sr_lk, i_rng, i_enum, i_zip, i_rev, unl_n, unl_c, unl_1, ul_lk, ob_t, ob_f, wp_n, wp_c, rt_n, rt_c, fl_un, fl_d, m_unpT, tupD_t, unp_n, unp_c, range_1, range_2, ext_l, ext_t, app_1, m_pc, m_par, rl_n, rl_d, rl_o, rl_l, rlR_o, sr_n, sto_d, sto_o, List.getElem?_cons_zero, List.getElem?_cons_succ, List.set_cons_zero, List.set_cons_succ, Option.map_some, Option.bind_some, if_true, and_self, isi_run, neF_b, beq_self_eq_true, Bool.not_true]
      · unfold law_alike_s4
        simp only [m_vb, bnd_ok, bnd_er, m_vr, m_stuck, m_seq, bS_nx, bS_bk, bS_ct, bS_rt, bS_er, m_if, m_ite, bI_t, bI_f, bI_er, m_and, m_or, m_not, m_bool, evB_b, m_opt, m_optn, m_tru, tru_b, tru_i, tru_n, tru_l, tru_t, m_var, var_d, var_own, var_io, var_lk, var_rd, m_c, st_d, st_o, st_l, oc_l, oc_m, rd_d, rd_o, rd_l, rdR_own, rdR_io, rdR_lk, m_bin, m_un, m_call, m_rdn, m_rdc, m_cons, m_conss, m_tup, m_lst, dts_n, dts_c, o_map, o_bind, add_i, sub_i, mul_i, mod_i, fdiv_i, pow_i, neg_i, iadd_i, abs_i, int_i, int_b, len_l, len_t, add_l, add_t, lt_i, le_i, gt_i, ge_i, eq_i, ne_i, eqF_i, neF_i, tuple_l, tuple_t, list_l, list_t, ix_l, ix_t, m_ret, m_drop, m_nx, m_asg, m_nox, nx_ok, set_d, set_o, setD_, wr_un, wr_d, wr_o, wr_rd, m_aug, m_asgD, evD_d, evD_o, m_frzn, m_frzc, m_frz1, fz_d, fz_un, fz_io, fz_lk, fz_rd, fz_o, m_sub, m_augS, m_app, ap_o, ap_io, m_ct, ct_o, ct_io, m_isl, is_o, is_io, m_mut, m_mutB, m_mut0, intD_i, m_sl, m_pn, m_ps, rs_d, rs_l, rsR_rd, rsR_o, rsR_io, sl_l, sl_t, arg_n, arg_c, arg_d, arg_l, ar_o, ar_io, ar_lk, ar_rd, put_n, put_d, put_io, m_put, pt_o, pt_io, i_seq, src_l, src_t, src_o, src_n, sr_o, sr_io, sr_lk, i_rng, i_enum, i_zip, i_rev, unl_n, unl_c, unl_1, ul_lk, ob_t, ob_f, wp_n, wp_c, rt_n, rt_c, fl_un, fl_d, m_unpT, tupD_t, unp_n, unp_c, range_1, range_2, ext_l, ext_t, app_1, m_pc, m_par, rl_n, rl_d, rl_o, rl_l, rlR_o, sr_n, sto_d, sto_o, List.getElem?_cons_zero, List.getElem?_cons_succ, List.set_cons_zero, List.set_cons_succ, Option.map_some, Option.bind_some, if_true, and_self, isi_run, neF_b, beq_self_eq_true, Bool.not_true]
    have capB : nodesD z + nodesL B ≤ 1000000 := by omega
    have lenAB : ((A ++ z :: B).map dupD).length ≤ 1000000 := by
      have := nodesL_len B
      have := nodesD_pos z
      rw [List.length_map, List.length_append, List.length_cons]; omega
    have tail : ∀ zs : List Da, nodesD z = 1 + nodesL zs → (∀ w ∈ zs, GoodD w) → ∃ B', (A ++ z :: B).map dupD ++ zipD zs zs = (A ++ z :: B').map dupD ∧ nodesL B' + 1 = nodesD z + nodesL B ∧ (∀ w ∈ B', GoodD w) := fun zs hzs hgz => by
      refine ⟨B ++ zs, by rw [zip_dup, ← List.map_append, List.append_assoc]; rfl, by rw [nodesL_app]; omega, fun w hw => ?_⟩
      rcases List.mem_append.mp hw with hw | hw
      · exact hB w hw
      · exact hgz w hw
    by_cases hl : ∃ zs, z = .list zs
    · obtain ⟨zs, rfl⟩ := hl
      obtain ⟨B', e1, e2, e3⟩ := tail zs (by simp only [nodesD]) (good_list hz)
      obtain ⟨m, hm, hR⟩ := key _ ⟨B', rfl, e2, e3⟩
      have lz : zs.length ≤ 1000000 := by have := nodesL_len zs; simp only [nodesD] at capB; omega
      have c1 : min zs.length zs.length ≤ 16777216 := by omega
      have c2 : ((A ++ .list zs :: B).map dupD).length + (zipD zs zs).length ≤ 16777216 := by rw [zipD_len]; omega
      refine ⟨.nx, _, m, head _ _ ?_, .inl rfl, hm, hR⟩
      unfold law_alike_s3 law_alike_s1
      simp only [m_vb, bnd_ok, bnd_er, m_vr, m_stuck, m_seq, bS_nx, bS_bk, bS_ct, bS_rt, bS_er, m_if, m_ite, bI_t, bI_f, bI_er, m_and, m_or, m_not, m_bool, evB_b, m_opt, m_optn, m_tru, tru_b, tru_i, tru_n, tru_l, tru_t, m_var, var_d, var_own, var_io, var_lk, var_rd, m_c, st_d, st_o, st_l, oc_l, oc_m, rd_d, rd_o, rd_l, rdR_own, rdR_io, rdR_lk, m_bin, m_un, m_call, m_rdn, m_rdc, m_cons, m_conss, m_tup, m_lst, dts_n, dts_c, o_map, o_bind, add_i, sub_i, mul_i, mod_i, fdiv_i, pow_i, neg_i, iadd_i, abs_i, int_i, int_b, len_l, len_t, add_l, add_t, lt_i, le_i, gt_i, ge_i, eq_i, ne_i, eqF_i, neF_i, tuple_l, tuple_t, list_l, list_t, ix_l, ix_t, m_ret, m_drop, m_nx, m_asg, m_nox, nx_ok, set_d, set_o, setD_, wr_un, wr_d, wr_o, wr_rd, m_aug, m_asgD, evD_d, evD_o, m_frzn, m_frzc, m_frz1, fz_d, fz_un, fz_io, fz_lk, fz_rd, fz_o, m_sub, m_augS, m_app, ap_o, ap_io, m_ct, ct_o, ct_io, m_isl, is_o, is_io, m_mut, m_mutB, m_mut0, intD_i, m_sl, m_pn, m_ps, rs_d, rs_l, rsR_rd, rsR_o, rsR_io, sl_l, sl_t, arg_n, arg_c, arg_d, arg_l, ar_o, ar_io, ar_lk, ar_rd, put_n, put_d, put_io, m_put, pt_o, pt_io, i_seq, src_l, src_t, src_o, src_n, sr_o, sr_io, sr_lk, i_rng, i_enum, i_zip, i_rev, unl_n, unl_c, unl_1, ul_lk, ob_t, ob_f, wp_n, wp_c, rt_n, rt_c, fl_un, fl_d, m_unpT, tupD_t, unp_n, unp_c, range_1, range_2, ext_l, ext_t, app_1, m_pc, m_par, rl_n, rl_d, rl_o, rl_l, rlR_o, sr_n, sto_d, sto_o, List.getElem?_cons_zero, List.getElem?_cons_succ, List.set_cons_zero, List.set_cons_succ, Option.map_some, Option.bind_some, if_true, and_self, isi_run, neF_b, neF_i, beq_self_eq_true, Bool.not_true, decide_true, List.any_cons, List.any_nil, isKT, Bool.or_false, Bool.or_true, Bool.true_or, Bool.false_or, zipL, seqD, c1, ext_l, c2, e1]
    · by_cases ht : ∃ zs, z = .tuple zs
      · obtain ⟨zs, rfl⟩ := ht
        obtain ⟨B', e1, e2, e3⟩ := tail zs (by simp only [nodesD]) (good_tuple hz)
        obtain ⟨m, hm, hR⟩ := key _ ⟨B', rfl, e2, e3⟩
        have lz : zs.length ≤ 1000000 := by have := nodesL_len zs; simp only [nodesD] at capB; omega
        have c1 : min zs.length zs.length ≤ 16777216 := by omega
        have c2 : ((A ++ .tuple zs :: B).map dupD).length + (zipD zs zs).length ≤ 16777216 := by rw [zipD_len]; omega
        refine ⟨.nx, _, m, head _ _ ?_, .inl rfl, hm, hR⟩
        unfold law_alike_s3 law_alike_s1
        simp only [m_vb, bnd_ok, bnd_er, m_vr, m_stuck, m_seq, bS_nx, bS_bk, bS_ct, bS_rt, bS_er, m_if, m_ite, bI_t, bI_f, bI_er, m_and, m_or, m_not, m_bool, evB_b, m_opt, m_optn, m_tru, tru_b, tru_i, tru_n, tru_l, tru_t, m_var, var_d, var_own, var_io, var_lk, var_rd, m_c, st_d, st_o, st_l, oc_l, oc_m, rd_d, rd_o, rd_l, rdR_own, rdR_io, rdR_lk, m_bin, m_un, m_call, m_rdn, m_rdc, m_cons, m_conss, m_tup, m_lst, dts_n, dts_c, o_map, o_bind, add_i, sub_i, mul_i, mod_i, fdiv_i, pow_i, neg_i, iadd_i, abs_i, int_i, int_b, len_l, len_t, add_l, add_t, lt_i, le_i, gt_i, ge_i, eq_i, ne_i, eqF_i, neF_i, tuple_l, tuple_t, list_l, list_t, ix_l, ix_t, m_ret, m_drop, m_nx, m_asg, m_nox, nx_ok, set_d, set_o, setD_, wr_un, wr_d, wr_o, wr_rd, m_aug, m_asgD, evD_d, evD_o, m_frzn, m_frzc, m_frz1, fz_d, fz_un, fz_io, fz_lk, fz_rd, fz_o, m_sub, m_augS, m_app, ap_o, ap_io, m_ct, ct_o, ct_io, m_isl, is_o, is_io, m_mut, m_mutB, m_mut0, intD_i, m_sl, m_pn, m_ps, rs_d, rs_l, rsR_rd, rsR_o, rsR_io, sl_l, sl_t, arg_n, arg_c, arg_d, arg_l, ar_o, ar_io, ar_lk, ar_rd, put_n, put_d, put_io, m_put, pt_o, pt_io, i_seq, src_l, src_t, src_o, src_n, sr_o, sr_io, sr_lk, i_rng, i_enum, i_zip, i_rev, unl_n, unl_c, unl_1, ul_lk, ob_t, ob_f, wp_n, wp_c, rt_n, rt_c, fl_un, fl_d, m_unpT, tupD_t, unp_n, unp_c, range_1, range_2, ext_l, ext_t, app_1, m_pc, m_par, rl_n, rl_d, rl_o, rl_l, rlR_o, sr_n, sto_d, sto_o, List.getElem?_cons_zero, List.getElem?_cons_succ, List.set_cons_zero, List.set_cons_succ, Option.map_some, Option.bind_some, if_true, and_self, isi_run, neF_b, neF_i, beq_self_eq_true, Bool.not_true, decide_true, List.any_cons, List.any_nil, isKT, Bool.or_false, Bool.or_true, Bool.true_or, Bool.false_or, zipL, seqD, c1, ext_l, c2, e1]
      · have n1 : nodesD z = 1 := by cases z <;> first | rfl | exact absurd ⟨_, rfl⟩ hl | exact absurd ⟨_, rfl⟩ ht
        have k1 : isKT .tuple z = false := by cases z <;> first | rfl | exact absurd ⟨_, rfl⟩ ht
        have k2 : isKT .list z = false := by cases z <;> first | rfl | exact absurd ⟨_, rfl⟩ hl
        obtain ⟨m, hm, hR⟩ := key _ ⟨B, rfl, by omega, hB⟩
        refine ⟨.nx, _, m, head _ _ ?_, .inl rfl, hm, hR⟩
        unfold law_alike_s3 law_alike_s2
        simp only [m_vb, bnd_ok, bnd_er, m_vr, m_stuck, m_seq, bS_nx, bS_bk, bS_ct, bS_rt, bS_er, m_if, m_ite, bI_t, bI_f, bI_er, m_and, m_or, m_not, m_bool, evB_b, m_opt, m_optn, m_tru, tru_b, tru_i, tru_n, tru_l, tru_t, m_var, var_d, var_own, var_io, var_lk, var_rd, m_c, st_d, st_o, st_l, oc_l, oc_m, rd_d, rd_o, rd_l, rdR_own, rdR_io, rdR_lk, m_bin, m_un, m_call, m_rdn, m_rdc, m_cons, m_conss, m_tup, m_lst, dts_n, dts_c, o_map, o_bind, add_i, sub_i, mul_i, mod_i, fdiv_i, pow_i, neg_i, iadd_i, abs_i, int_i, int_b, len_l, len_t, add_l, add_t, lt_i, le_i, gt_i, ge_i, eq_i, ne_i, eqF_i, neF_i, tuple_l, tuple_t, list_l, list_t, ix_l, ix_t, m_ret, m_drop, m_nx, m_asg, m_nox, nx_ok, set_d, set_o, setD_, wr_un, wr_d, wr_o, wr_rd, m_aug, m_asgD, evD_d, evD_o, m_frzn, m_frzc, m_frz1, fz_d, fz_un, fz_io, fz_lk, fz_rd, fz_o, m_sub, m_augS, m_app, ap_o, ap_io, m_ct, ct_o, ct_io, m_isl, is_o, is_io, m_mut, m_mutB, m_mut0, intD_i, m_sl, m_pn, m_ps, rs_d, rs_l, rsR_rd, rsR_o, rsR_io, sl_l, sl_t, arg_n, arg_c, arg_d, arg_l, ar_o, ar_io, ar_lk, ar_rd, put_n, put_d, put_io, m_put, pt_o, pt_io, i_seq, src_l, src_t, src_o, src_n, sr_o, sr_io, sr_lk, i_rng, i_enum, i_zip, i_rev, unl_n, unl_c, unl_1, ul_lk, ob_t, ob_f, wp_n, wp_c, rt_n, rt_c, fl_un, fl_d, m_unpT, tupD_t, unp_n, unp_c, range_1, range_2, ext_l, ext_t, app_1, m_pc, m_par, rl_n, rl_d, rl_o, rl_l, rlR_o, sr_n, sto_d, sto_o, List.getElem?_cons_zero, List.getElem?_cons_succ, List.set_cons_zero, List.set_cons_succ, Option.map_some, Option.bind_some, if_true, and_self, isi_run, List.any_cons, List.any_nil, k1, k2, Bool.or_false, neF_leaf hz (fun zs e => hl ⟨zs, e⟩) (fun zs e => ht ⟨zs, e⟩)]
/-- what is compared with itself is alike -/
theorem alike_refl {x : Da} (hg : GoodD x) (hn : nodesD x ≤ 900000) : F__law_alike [.d x, .d x] = .ok (.d (.bool true), [.d x, .d x]) := by
  obtain ⟨s', hs, l, x3, x4, x5, rfl⟩ := alike_s6_ok (x := x) (y := x) (N := nodesL [x]) (by simp only [nodesL]; omega) (n := nodesL [x]) (s := [.d x, .d x, .own (.l [dupD x]), .d (.int 0), .un, .un]) ⟨[], [x], .un, .un, rfl, rfl, by simp, fun z hz => by rw [List.mem_singleton.mp hz]; exact hg, rfl, rfl⟩
  refine run_ok (c := .rt (.d (.bool true))) (s := [.d x, .d x, .own (.l l), x3, x4, x5]) ?_ rfl
  show g__law_alike [.d x, .d x, .un, .un, .un, .un] = _
  unfold g__law_alike
  refine seq_then (s1 := [.d x, .d x, .own (.l [dupD x]), .d (.int 0), .un, .un]) ?_ (seq_then (s1 := [.d x, .d x, .own (.l l), x3, x4, x5]) ?_ ?_)
  · simp only [m_vb, bnd_ok, bnd_er, m_vr, m_stuck, m_seq, bS_nx, bS_bk, bS_ct, bS_rt, bS_er, m_if, m_ite, bI_t, bI_f, bI_er, m_and, m_or, m_not, m_bool, evB_b, m_opt, m_optn, m_tru, tru_b, tru_i, tru_n, tru_l, tru_t, m_var, var_d, var_own, var_io, var_lk, var_rd, m_c, st_d, st_o, st_l, oc_l, oc_m, rd_d, rd_o, rd_l, rdR_own, rdR_io, rdR_lk, m_bin, m_un, m_call, m_rdn, m_rdc, m_cons, m_conss, m_tup, m_lst, dts_n, dts_c, o_map, o_bind, add_i, sub_i, mul_i, mod_i, fdiv_i, pow_i, neg_i, iadd_i, abs_i, int_i, int_b, len_l, len_t, add_l, add_t, lt_i, le_i, gt_i, ge_i, eq_i, ne_i, eqF_i, neF_i, tuple_l, tuple_t, list_l, list_t, ix_l, ix_t, m_ret, m_drop, m_nx, m_asg, m_nox, nx_ok, set_d, set_o, setD_, wr_un, wr_d, wr_o, wr_rd, m_aug, m_asgD, evD_d, evD_o, m_frzn, m_frzc, m_frz1, fz_d, fz_un, fz_io, fz_lk, fz_rd, fz_o, m_sub, m_augS, m_app, ap_o, ap_io, m_ct, ct_o, ct_io, m_isl, is_o, is_io, m_mut, m_mutB, m_mut0, intD_i, m_sl, m_pn, m_ps, rs_d, rs_l, rsR_rd, rsR_o, rsR_io, sl_l, sl_t, arg_n, arg_c, arg_d, arg_l, ar_o, ar_io, ar_lk, ar_rd, put_n, put_d, put_io, m_put, pt_o, pt_io, i_seq, src_l, src_t, src_o, src_n, sr_o, sr_io, sr_lk, i_rng, i_enum, i_zip, i_rev, unl_n, unl_c, unl_1, ul_lk, ob_t, ob_f, wp_n, wp_c, rt_n, rt_c, fl_un, fl_d, m_unpT, tupD_t, unp_n, unp_c, range_1, range_2, ext_l, ext_t, app_1, m_pc, m_par, rl_n, rl_d, rl_o, rl_l, rlR_o, sr_n, sto_d, sto_o, List.getElem?_cons_zero, List.getElem?_cons_succ, List.set_cons_zero, List.set_cons_succ, Option.map_some, Option.bind_some, if_true, and_self, dupD, List.length_cons, List.length_nil, show (0 + 1 + 1 : Nat) ≤ 16777216 by decide, show (0 + 1 : Nat) ≤ 16777216 by decide]
  · simp only [m_vb, bnd_ok, bnd_er, m_vr, m_stuck, m_seq, bS_nx, bS_bk, bS_ct, bS_rt, bS_er, m_if, m_ite, bI_t, bI_f, bI_er, m_and, m_or, m_not, m_bool, evB_b, m_opt, m_optn, m_tru, tru_b, tru_i, tru_n, tru_l, tru_t, m_var, var_d, var_own, var_io, var_lk, var_rd, m_c, st_d, st_o, st_l, oc_l, oc_m, rd_d, rd_o, rd_l, rdR_own, rdR_io, rdR_lk, m_bin, m_un, m_call, m_rdn, m_rdc, m_cons, m_conss, m_tup, m_lst, dts_n, dts_c, o_map, o_bind, add_i, sub_i, mul_i, mod_i, fdiv_i, pow_i, neg_i, iadd_i, abs_i, int_i, int_b, len_l, len_t, add_l, add_t, lt_i, le_i, gt_i, ge_i, eq_i, ne_i, eqF_i, neF_i, tuple_l, tuple_t, list_l, list_t, ix_l, ix_t, m_ret, m_drop, m_nx, m_asg, m_nox, nx_ok, set_d, set_o, setD_, wr_un, wr_d, wr_o, wr_rd, m_aug, m_asgD, evD_d, evD_o, m_frzn, m_frzc, m_frz1, fz_d, fz_un, fz_io, fz_lk, fz_rd, fz_o, m_sub, m_augS, m_app, ap_o, ap_io, m_ct, ct_o, ct_io, m_isl, is_o, is_io, m_mut, m_mutB, m_mut0, intD_i, m_sl, m_pn, m_ps, rs_d, rs_l, rsR_rd, rsR_o, rsR_io, sl_l, sl_t, arg_n, arg_c, arg_d, arg_l, ar_o, ar_io, ar_lk, ar_rd, put_n, put_d, put_io, m_put, pt_o, pt_io, i_seq, src_l, src_t, src_o, src_n, sr_o, sr_io, sr_lk, i_rng, i_enum, i_zip, i_rev, unl_n, unl_c, unl_1, ul_lk, ob_t, ob_f, wp_n, wp_c, rt_n, rt_c, fl_un, fl_d, m_unpT, tupD_t, unp_n, unp_c, range_1, range_2, ext_l, ext_t, app_1, m_pc, m_par, rl_n, rl_d, rl_o, rl_l, rlR_o, sr_n, sto_d, sto_o, List.getElem?_cons_zero, List.getElem?_cons_succ, List.set_cons_zero, List.set_cons_succ, Option.map_some, Option.bind_some, if_true, and_self]; exact hs
  · simp only [m_vb, bnd_ok, bnd_er, m_vr, m_stuck, m_seq, bS_nx, bS_bk, bS_ct, bS_rt, bS_er, m_if, m_ite, bI_t, bI_f, bI_er, m_and, m_or, m_not, m_bool, evB_b, m_opt, m_optn, m_tru, tru_b, tru_i, tru_n, tru_l, tru_t, m_var, var_d, var_own, var_io, var_lk, var_rd, m_c, st_d, st_o, st_l, oc_l, oc_m, rd_d, rd_o, rd_l, rdR_own, rdR_io, rdR_lk, m_bin, m_un, m_call, m_rdn, m_rdc, m_cons, m_conss, m_tup, m_lst, dts_n, dts_c, o_map, o_bind, add_i, sub_i, mul_i, mod_i, fdiv_i, pow_i, neg_i, iadd_i, abs_i, int_i, int_b, len_l, len_t, add_l, add_t, lt_i, le_i, gt_i, ge_i, eq_i, ne_i, eqF_i, neF_i, tuple_l, tuple_t, list_l, list_t, ix_l, ix_t, m_ret, m_drop, m_nx, m_asg, m_nox, nx_ok, set_d, set_o, setD_, wr_un, wr_d, wr_o, wr_rd, m_aug, m_asgD, evD_d, evD_o, m_frzn, m_frzc, m_frz1, fz_d, fz_un, fz_io, fz_lk, fz_rd, fz_o, m_sub, m_augS, m_app, ap_o, ap_io, m_ct, ct_o, ct_io, m_isl, is_o, is_io, m_mut, m_mutB, m_mut0, intD_i, m_sl, m_pn, m_ps, rs_d, rs_l, rsR_rd, rsR_o, rsR_io, sl_l, sl_t, arg_n, arg_c, arg_d, arg_l, ar_o, ar_io, ar_lk, ar_rd, put_n, put_d, put_io, m_put, pt_o, pt_io, i_seq, src_l, src_t, src_o, src_n, sr_o, sr_io, sr_lk, i_rng, i_enum, i_zip, i_rev, unl_n, unl_c, unl_1, ul_lk, ob_t, ob_f, wp_n, wp_c, rt_n, rt_c, fl_un, fl_d, m_unpT, tupD_t, unp_n, unp_c, range_1, range_2, ext_l, ext_t, app_1, m_pc, m_par, rl_n, rl_d, rl_o, rl_l, rlR_o, sr_n, sto_d, sto_o, List.getElem?_cons_zero, List.getElem?_cons_succ, List.set_cons_zero, List.set_cons_succ, Option.map_some, Option.bind_some, if_true, and_self]
end LB
set_option Elab.async false
set_option linter.all false
set_option maxRecDepth 100000
namespace LB
open PySem PySem.Spec PyProof.Rows L2 VL
section
variable {γ : Type} {s s1 base : VS} {fi : VM (List Da × Lks)} {L : Lks} {ix : List Nat} {gt : Da → VM Unit} {tt : VM Bool} {te : VM EV} {enc : γ → Da}
/-- a comprehension with a test that changes nothing -/
theorem lc_of {p : γ → Bool} {h : γ → Da} {xs : List γ} (hi : fi s = .ok ((xs.map enc, L), s1)) (fl : ix.all (fun j => flatS s1[j]?) = true) (hb : wipeV ix s1 = base)
    (step : ∀ x ∈ xs, ∃ s1 s2, gt (enc x) base = .ok ((), s1) ∧ tt s1 = .ok (p x, s2) ∧
      (p x = false → ix.all (fun j => flatS s2[j]?) = true ∧ wipeV ix s2 = base) ∧ (p x = true → ∃ r s3, te s2 = .ok (r, s3) ∧ evD r = some (h x) ∧ ix.all (fun j => flatS s3[j]?) = true ∧ wipeV ix s3 = base)) (hl : xs.length ≤ 16777216) :
    vLcF ix fi gt tt te s = .ok (.own (.l ((xs.filter p).map h)), unlock L (restV s1 ix base)) :=
  lcF_of hi fl (hb ▸ lcG_pure p h xs (hb ▸ step)) (by rw [List.length_map]; exact Nat.le_trans (List.length_filter_le _ _) hl)
theorem lc_map {h : γ → Da} {xs : List γ} (hi : fi s = .ok ((xs.map enc, L), s1)) (fl : ix.all (fun j => flatS s1[j]?) = true) (hb : wipeV ix s1 = base)
    (step : ∀ x ∈ xs, ∃ s2 r s3, gt (enc x) base = .ok ((), s2) ∧ te s2 = .ok (r, s3) ∧ evD r = some (h x) ∧ ix.all (fun j => flatS s3[j]?) = true ∧ wipeV ix s3 = base) (hl : xs.length ≤ 16777216) :
    vLcF ix fi gt (vr true) te s = .ok (.own (.l (xs.map h)), unlock L (restV s1 ix base)) := by
  have := lc_of (tt := vr true) (p := fun _ => true) (h := h) (te := te) hi fl hb (fun x hx => by
    obtain ⟨s2, r, s3, h1, h2, h3⟩ := step x hx
    exact ⟨s2, s2, h1, rfl, fun z => absurd z (by decide), fun _ => ⟨r, s3, h2, h3⟩⟩) hl
  rwa [List.filter_eq_self.mpr (by simp)] at this
/-- ints in a row -/
theorem inB_ints {i : Int} : ∀ l : List Int, inB (.int i) (l.map PyData.int) = decide (i ∈ l)
  | [] => rfl
  | x :: l => by
    have ih := inB_ints (i := i) l
    unfold inB at ih ⊢
    rw [List.map_cons, List.any_cons, ih]
    simp only [PyData.eqv, List.mem_cons, Bool.decide_or]
    congr 1
    by_cases h : i = x
    · subst h; simp
    · rw [decide_eq_false h]; exact beq_eq_false_iff_ne.mpr fun z => h z.symm
theorem shFs_intL (n : Nat) : ∀ c : List Int, shFs n (c.map PyData.int) = true
  | [] => by simp only [List.map_nil, shFs]
  | x :: c => by simp only [List.map_cons, shFs, shF, shFs_intL n c, Bool.and_self]
theorem in_ints {i : Int} {l : List Int} : inF (.int i) (.tuple (l.map PyData.int)) = some (.d (.bool (decide (i ∈ l)))) := by
  show (if shF 64 (.int i) = true ∧ shFs 63 (l.map PyData.int) = true then some (EV.d (.bool (if false = true then !inB _ _ else inB _ _))) else none) = _
  rw [if_pos ⟨rfl, shFs_intL 63 l⟩, if_neg Bool.false_ne_true, inB_ints]
theorem in_intsL {i : Int} {l : List Int} : inF (.int i) (.list (l.map PyData.int)) = some (.d (.bool (decide (i ∈ l)))) := by
  show (if shF 64 (.int i) = true ∧ shFs 63 (l.map PyData.int) = true then some (EV.d (.bool (if false = true then !inB _ _ else inB _ _))) else none) = _
  rw [if_pos ⟨rfl, shFs_intL 63 l⟩, if_neg Bool.false_ne_true, inB_ints]
theorem intN_map (l : List Nat) : l.map intN = (l.map Int.ofNat).map PyData.int := by rw [List.map_map]; rfl
theorem in_nats {k : Nat} {l : List Nat} : inF (intN k) (.tuple (l.map intN)) = some (.d (.bool (decide (k ∈ l)))) := by
  rw [intN_map]
  unfold intN
  rw [in_ints]
  congr 4
  exact propext ⟨fun h => by obtain ⟨j, h1, h2⟩ := List.mem_map.mp h; exact Int.ofNat.inj h2 ▸ h1, fun h => List.mem_map_of_mem h⟩
theorem codes_at {ys : List Da} {p : Nat} (hp : p ≤ 1000000) (hy : ys.length ≤ 1000000) (hn : ∀ q, q < p → ys.length ^ q * ys.length ≤ 16000000) :
    callF F__law_codes [.d (.tuple ys), .d (.int p)] s = .ok (.d (.list ((codesP ys.length p).map tupI)), s) := by
  rw [callF_ok (by simp [loans]) (by rfl) (codes_ok hp hy hn) (fun i => by intro z; cases z), put_d, put_d, put_n]
end
end LB
set_option Elab.async false
set_option linter.all false
set_option maxRecDepth 100000
set_option maxHeartbeats 0
namespace Yk39
open PySem PySem.Spec PyProof.Rows L2 VL LB
def top (i : Nat) : Stmt := PySem.Challenge.pw_yardpasses_k39_slots_of_late_wagons.main.body.getD i (.Pass ⟨0, 0, 0, 0⟩)
structure Zs (mg : Str → Option Value) : Prop where
  z_abs : mg "abs" = none
  z_bool : mg "bool" = none
  z_enumerate : mg "enumerate" = none
  z_int : mg "int" = none
  z_isinstance : mg "isinstance" = none
  z_len : mg "len" = none
  z_list : mg "list" = none
  z_range : mg "range" = none
  z_reversed : mg "reversed" = none
  z_str : mg "str" = none
  z_sum : mg "sum" = none
  z_tuple : mg "tuple" = none
  z_zip : mg "zip" = none
  g_MOST_SLOTS : ∃ t, mg "MOST_SLOTS" = some (.int (4096) t)
  g_STUB : ∃ t, mg "STUB" = some (.int (1) t)
abbrev s__law_alike : Stmt := top 13
theorem sc__law_alike : FnScope ["found", "due", "pairs", "at", "one", "other"] ["found", "due"] (defScope s__law_alike) := ⟨rfl, rfl, rfl, by decide +kernel, rfl, by decide +kernel, by decide +kernel⟩
abbrev s__law_bag : Stmt := top 11
theorem sc__law_bag : FnScope ["script", "cell"] ["script"] (defScope s__law_bag) := ⟨rfl, rfl, rfl, by decide +kernel, rfl, by decide +kernel, by decide +kernel⟩
abbrev s__law_codes : Stmt := top 16
theorem sc__law_codes : FnScope ["yard", "passes", "found", "turn", "longer", "code", "track"] ["yard", "passes"] (defScope s__law_codes) := ⟨rfl, rfl, rfl, by decide +kernel, rfl, by decide +kernel, by decide +kernel⟩
abbrev s__law_rolled : Stmt := top 14
theorem sc__law_rolled : FnScope ["yard", "order", "rolling", "track", "wagon"] ["yard", "order", "rolling"] (defScope s__law_rolled) := ⟨rfl, rfl, rfl, by decide +kernel, rfl, by decide +kernel, by decide +kernel⟩
abbrev s__law_pass : Stmt := top 15
theorem sc__law_pass : FnScope ["yard", "order", "rolling", "found", "kind", "wagons"] ["yard", "order", "rolling"] (defScope s__law_pass) := ⟨rfl, rfl, rfl, by decide +kernel, rfl, by decide +kernel, by decide +kernel⟩
abbrev s__law_late_order : Stmt := top 18
theorem sc__law_late_order : FnScope ["yard", "passes", "comers", "plan", "order", "done", "at", "turn", "its", "code"] ["yard", "passes", "comers", "plan"] (defScope s__law_late_order) := ⟨rfl, rfl, rfl, by decide +kernel, rfl, by decide +kernel, by decide +kernel⟩
abbrev s__law_take : Stmt := top 12
theorem sc__law_take : FnScope ["bag", "many", "cell", "stirred", "value", "begin", "second"] ["bag", "many"] (defScope s__law_take) := ⟨rfl, rfl, rfl, by decide +kernel, rfl, by decide +kernel, by decide +kernel⟩
abbrev s__law_yard : Stmt := top 17
theorem sc__law_yard : FnScope ["bag", "most", "track"] ["bag", "most"] (defScope s__law_yard) := ⟨rfl, rfl, rfl, by decide +kernel, rfl, by decide +kernel, by decide +kernel⟩
abbrev s_by_track : Stmt := top 7
theorem sc_by_track : FnScope ["track", "kind", "some", "code", "turn", "sign"] ["track", "kind", "some"] (defScope s_by_track) := ⟨rfl, rfl, rfl, by decide +kernel, rfl, by decide +kernel, by decide +kernel⟩
abbrev s_slots_many : Stmt := top 8
theorem sc_slots_many : FnScope ["yard", "passes", "turns", "found", "turn"] ["yard", "passes", "turns"] (defScope s_slots_many) := ⟨rfl, rfl, rfl, by decide +kernel, rfl, by decide +kernel, by decide +kernel⟩
abbrev s_slots : Stmt := top 9
theorem sc_slots : FnScope ["yard", "passes", "turns", "found", "turn", "some", "track", "kind"] ["yard", "passes", "turns"] (defScope s_slots) := ⟨rfl, rfl, rfl, by decide +kernel, rfl, by decide +kernel, by decide +kernel⟩
abbrev s_law : Stmt := top 19
theorem sc_law : FnScope ["script", "bag", "turn", "yard", "passes", "turns", "comers", "plan", "one", "code", "due", "at", "key", "found"] ["script"] (defScope s_law) := ⟨rfl, rfl, rfl, by decide +kernel, rfl, by decide +kernel, by decide +kernel⟩
def law_late_order_s1 : VM Ctl :=
  (vIf ((vBool (vBin ltD (vVar 5) (vVar 1)))) (vFrz [4, 5] (vAsg ((vCallF F__law_pass ((vCons (vVar 0) ((vCons (vVar 4) ((vCons ((vLcF [9] (vItSeq (vVar 3)) (vSetD 9) (vr true) ((vIte ((vBool (vBin gtD ((vCall lenD ((vCons (vVar 9) (vr []))))) ((vBin subD ((vBin subD (vVar 1) (vC (.int 1)))) (vVar 5)))))) ((vBin ixD (vVar 9) ((vBin subD ((vBin subD (vVar 1) (vC (.int 1)))) (vVar 5))))) (vC (.int 0)))))) (vr []))))))))) (vSet 4))) vNx)
def law_late_order_s2 : VM Ctl :=
  (vFor (vItRng ((vCons ((vBin addD (vVar 1) (vC (.int 1)))) (vr [])))) (vSetD 5) (vSeq (vFrz [4, 5] (vAsg ((vBin addD (vVar 4) ((vLcF [6, 7, 8] (vItEnum ((vCons (vVar 2) (vr [])))) (vUnpT [(vSetD 6), (vUnpT [(vSetD 7), (vSetD 8)])]) (vBool (vBin eqF (vVar 7) (vVar 5))) (vVar 6))))) (vSet 4)))
      (vFrz [5] law_late_order_s1)))
def g__law_late_order : VM Ctl :=
  (vSeq (vAsg ((vList (vr []))) (vSet 4))
      (vSeq law_late_order_s2
      (vFrz [4] (vRet (vVar 4)))))
def F__law_late_order : FM := runF 10 g__law_late_order
def by_track_s1 : VM Ctl :=
  (vIf ((vBool (vBin eqF (vVar 1) (vC (.int (1)))))) (vRet ((vLcF [3, 4, 5] (vItRev (vVar 2)) (vUnpT [(vSetD 3), (vSetD 4), (vSetD 5)]) (vr true) ((vTuple ((vCons ((vTuple ((vCons (vVar 0) ((vConsS (vVar 3) (vr []))))))) ((vCons (vVar 4) ((vCons ((vBin subD (vC (.int 0)) (vVar 5))) (vr [])))))))))))) vNx)
def g_by_track : VM Ctl :=
  (vSeq by_track_s1
      (vRet ((vLcF [3, 4, 5] (vItSeq (vVar 2)) (vUnpT [(vSetD 3), (vSetD 4), (vSetD 5)]) (vr true) ((vTuple ((vCons ((vTuple ((vCons (vVar 0) ((vConsS (vVar 3) (vr []))))))) ((vCons (vVar 4) ((vCons (vVar 5) (vr [])))))))))))))
def F_by_track : FM := runF 6 g_by_track
def slots_many_s1 : VM Ctl :=
  (vFor (vItRng ((vCons ((vBin addD (vVar 1) (vC (.int 1)))) (vr [])))) (vSetD 4) (vFrz [3, 4] (vAsg ((vBin addD ((vBin mulD (vVar 3) ((vIte ((vBool (vBin gtD (vVar 4) (vC (.int 0))))) ((vCall lenD ((vCons (vVar 0) (vr []))))) (vC (.int 1)))))) ((vCall toIntD ((vCons ((vBin inF (vVar 4) (vVar 2))) (vr []))))))) (vSet 3))))
def g_slots_many : VM Ctl :=
  (vSeq (vAsg (vC (.int 0)) (vSet 3))
      (vSeq slots_many_s1
      (vFrz [3] (vRet (vVar 3)))))
def F_slots_many : FM := runF 5 g_slots_many
def slots_s1 : VM Ctl :=
  (vFor (vItEnum ((vCons (vVar 0) (vr [])))) (vUnpT [(vSetD 6), (vSetD 7)]) (vFrz [5, 6, 7] (vDrop ((vMutB extendD (vVar 3) ((vCons ((vCallF F_by_track ((vCons (vVar 6) ((vCons (vVar 7) ((vCons (vVar 5) (vr []))))))))) (vr []))))))))
def slots_s2 : VM Ctl :=
  (vFor (vItRng ((vCons (vC (.int 1)) ((vCons ((vBin addD (vVar 1) (vC (.int 1)))) (vr [])))))) (vSetD 4) (vSeq (vPar [5, 3] (vPc (vVar 3) ((vPc ((vList (vr []))) (vr [])))))
      (vSeq slots_s1
      (vFrz [4] (vDrop ((vMutB extendD (vVar 3) ((vCons ((vBin mulD ((vList ((vCons ((vTuple ((vCons ((vTuple (vr []))) ((vCons (vVar 4) ((vCons (vC (.int 1)) (vr []))))))))) (vr []))))) ((vCall toIntD ((vCons ((vBin inF (vVar 4) (vVar 2))) (vr []))))))) (vr []))))))))))
def slots_s3 : VM Ctl :=
  (vIf ((vBool (vBin gtD ((vCallF F_slots_many ((vCons (vVar 0) ((vCons (vVar 1) ((vCons (vVar 2) (vr []))))))))) (vC (.int (4096)))))) vStuck vNx)
def g_slots : VM Ctl :=
  (vSeq slots_s3
      (vSeq (vAsg ((vIte ((vBool (vBin inF (vC (.int 0)) (vVar 2)))) ((vList ((vCons ((vTuple ((vCons ((vTuple (vr []))) ((vCons (vC (.int 0)) ((vCons (vC (.int 1)) (vr []))))))))) (vr []))))) ((vList (vr []))))) (vSet 3))
      (vSeq slots_s2
      (vRet ((vCall tupleD ((vCons (vVar 3) (vr [])))))))))
def F_slots : FM := runF 8 g_slots
def r1 : VM Ctl :=
  (vRet (vC (.bool true)))
def law_s1 : VM Ctl :=
  (vIf ((vOr ((vNot ((vTru ((vCallF F__law_alike ((vCons (vVar 13) ((vCons ((vCall tupleD ((vCons (vVar 10) (vr []))))) (vr []))))))))))) ((vBool (vBin neF ((vCall lenD ((vCons (vVar 13) (vr []))))) ((vCall sumD ((vCons ((vLcF [8] (vItSeq (vVar 5)) (vSetD 8) (vr true) ((vCall lenD ((vCons ((vCallF F__law_codes ((vCons (vVar 3) ((vCons ((vBin subD (vVar 4) (vVar 8))) (vr []))))))) (vr []))))))) (vr [])))))))))) (vRet (vC (.bool false))) vNx)
def r2 : VM Ctl :=
  (vFrz [3, 4, 5, 8, 13] law_s1)
def r3 : VM Ctl :=
  (vSeq (vFrz [3, 4, 5] (vAsg ((vCallF F_slots ((vCons (vVar 3) ((vCons (vVar 4) ((vCons (vVar 5) (vr []))))))))) (vSet 13)))
      r2)
def law_s2 : VM Ctl :=
  (vIf ((vBool (vBin notinF (vVar 12) ((vLcF [8] (vItSeq (vVar 10)) (vSetD 8) (vr true) ((vSl (vVar 8) (vPart none) (vPart (some (vC (.int 2))))))))))) (vFrz [11, 12] (vDrop ((vMut appendD (vVar 10) ((vCons ((vBin addD (vVar 12) ((vTuple ((vCons ((vIte ((vBool (vBin eqF ((vBin mulD ((vBin fdivD (vVar 11) (vC (.int 2)))) (vC (.int 2)))) (vVar 11)))) (vC (.int 1)) ((vUn negD (vC (.int 1)))))) (vr []))))))) (vr []))))))) vNx)
def r4 : VM Ctl :=
  (vFrz [8, 12] law_s2)
def r5 : VM Ctl :=
  (vSeq (vFrz [11] (vAsg ((vTuple ((vCons ((vBin ixD (vVar 7) (vVar 11))) ((vCons ((vBin ixD ((vBin ixD (vVar 6) (vVar 11))) (vC (.int 0)))) (vr []))))))) (vSet 12)))
      r4)
def law_s3 : VM Ctl :=
  (vFor (vItSeq ((vCallF F__law_late_order ((vCons (vVar 3) ((vCons (vVar 4) ((vCons (vVar 6) ((vCons (vVar 7) (vr [])))))))))))) (vSetD 11) r5)
def r6 : VM Ctl :=
  (vSeq (vFrz [3, 4] law_s3)
      r3)
def r7 : VM Ctl :=
  (vSeq (vAsg ((vList (vr []))) (vSet 10))
      r6)
def r8 : VM Ctl :=
  (vFrz [9] (vDrop ((vMutB extendD (vVar 7) ((vCons ((vList ((vCons (vVar 9) ((vCons (vVar 9) (vr []))))))) (vr [])))))))
def r9 : VM Ctl :=
  (vSeq (vFrz [8] (vDrop ((vMutB extendD (vVar 6) ((vCons ((vList ((vCons ((vTuple ((vCons (vVar 8) ((vCons (vC (.int 0)) (vr []))))))) ((vCons ((vTuple ((vCons (vVar 8) ((vCons (vC (.int 0)) (vr []))))))) (vr []))))))) (vr [])))))))
      r8)
def law_s4 : VM Ctl :=
  (vFor (vItSeq ((vCallF F__law_codes ((vCons (vVar 3) ((vCons ((vBin subD (vVar 4) (vVar 8))) (vr [])))))))) (vSetD 9) r9)
def r10 : VM Ctl :=
  (vFrz [3, 4, 8] law_s4)
def law_s5 : VM Ctl :=
  (vFor (vItSeq (vVar 5)) (vSetD 8) r10)
def r11 : VM Ctl :=
  (vSeq (vFrz [5] law_s5)
      r7)
def r12 : VM Ctl :=
  (vSeq (vPar [6, 7] (vPc ((vList (vr []))) ((vPc ((vList (vr []))) (vr [])))))
      r11)
def r13 : VM Ctl :=
  (vSeq (vFrz [4, 8] (vAsg ((vCall tupleD ((vCons ((vLcF [8] (vItRng ((vCons ((vBin addD (vVar 4) (vC (.int 1)))) (vr [])))) (vSetD 8) (vBool (vBin eqF ((vCallF F__law_take ((vCons (vVar 1) ((vCons (vC (.int 2)) (vr []))))))) (vC (.int 0)))) (vVar 8))) (vr []))))) (vSet 5)))
      r12)
def r14 : VM Ctl :=
  (vFgt [3, 4, 5, 6, 7, 8, 9, 10, 11, 12, 13] (vSeq (vPar [3, 4] (vPc ((vCallF F__law_yard ((vCons (vVar 1) ((vCons (vC (.int 3)) (vr []))))))) ((vPc ((vCallF F__law_take ((vCons (vVar 1) ((vCons (vC (.int 4)) (vr []))))))) (vr [])))))
      r13))
def law_s6 : VM Ctl :=
  (vFor (vItRng ((vCons (vC (.int 6)) (vr [])))) (vSetD 2) r14)
def r15 : VM Ctl :=
  (vSeq law_s6
      r1)
def g_law : VM Ctl :=
  (vSeq (vAsg ((vCallF F__law_bag ((vCons (vVar 0) (vr []))))) (vSet 1))
      r15)
def F_law : FM := runF 14 g_law
section
variable {P : Program} {w : World} {K : PySem.W.Frag} {mg : Str → Option Value} {base : Heap}
theorem ok__law_alike (Z : Zs mg) {f__law_alike : Addr} {fd__law_alike : FuncData} (x__law_alike : Fx K mg "_law_alike" s__law_alike ["found", "due"] f__law_alike fd__law_alike) : FnOk P w K mg base (L2.CX P w) 1 f__law_alike fd__law_alike ["found", "due"] (spV K mg 2 F__law_alike) := by
  exact fn_v (N := ["found", "due", "pairs", "at", "one", "other"]) (ps := ["found", "due"]) (k := 0) (g := g__law_alike) x__law_alike.F sc__law_alike fun cdv A outer s H E c =>
    (vs_cons (vs_par2 c.calm c.nd (i := 2) (j := 3) rfl rfl (by decide) rfl rfl (vp_cons (ve_lst (va_cons (ve_tup (va_cons (vv 0) (va_cons (vv 1) va_nil))) va_nil)) (vp_cons ve_int vp_nil)) (by with_unfolding_all rfl))
      (vs_cons (vs_frz [3] (vs_while (vt_cmp (o_lt c.hu0) (vv 3) (ve_callB c_len Z.z_len (va_cons (vv 2) va_nil))) (vs_cons (vs_frz [3] (vs_asgD (ix := [4, 5]) (ve_ix (vv 2) (vv 3)) (vgd_tup c.calm (vgds_cons (vgd_name (i := 4) c.nd rfl (by first | exact .inl rfl | exact .inr rfl)) (vgds_cons (vgd_name (i := 5) c.nd rfl (by first | exact .inl rfl | exact .inr rfl)) vgds_nil)))))
      (vs_cons (vs_aug c.nd (i := 3) rfl (by first | exact .inl rfl | exact .inr rfl) ve_int i_add)
      (vs_cons (vs_frz [4, 5] (vs_if (vt_w (vw_or (vt_cmp (o_neF c.hu) (ve_isi1 (k := .bool) (vv 4) Z.z_isinstance Z.z_bool) (ve_isi1 (k := .bool) (vv 5) Z.z_isinstance Z.z_bool)) (vw_or1 (vt_cmp (o_neF c.hu) (ve_isi1 (k := .str) (vv 4) Z.z_isinstance Z.z_str) (ve_isi1 (k := .str) (vv 5) Z.z_isinstance Z.z_str))))) (vs_one (vs_ret ve_bl)) vs_nil))
      (vs_cons (vs_frz [4, 5] (vs_if (vt_cmp (o_neF c.hu) (ve_isiT (vv 4) Z.z_isinstance (.cons (k := .tuple) Z.z_tuple (by rfl) (by decide +kernel) (by decide) (by decide) (by rfl) (.cons (k := .list) Z.z_list (by rfl) (by decide +kernel) (by decide) (by decide) (by rfl) .nil))) (ve_isiT (vv 5) Z.z_isinstance (.cons (k := .tuple) Z.z_tuple (by rfl) (by decide +kernel) (by decide) (by decide) (by rfl) (.cons (k := .list) Z.z_list (by rfl) (by decide +kernel) (by decide) (by decide) (by rfl) .nil)))) (vs_one (vs_ret ve_bl)) vs_nil))
      (vs_one (vs_frz [4] (vs_if (vt_tru (ve_isiT (vv 4) Z.z_isinstance (.cons (k := .tuple) Z.z_tuple (by rfl) (by decide +kernel) (by decide) (by decide) (by rfl) (.cons (k := .list) Z.z_list (by rfl) (by decide +kernel) (by decide) (by decide) (by rfl) .nil)))) (vs_cons (vs_frz [4, 5] (vs_if (vt_w (vw_or (vt_cmp (o_neF c.hu) (ve_isi1 (k := .tuple) (vv 4) Z.z_isinstance Z.z_tuple) (ve_isi1 (k := .tuple) (vv 5) Z.z_isinstance Z.z_tuple)) (vw_or1 (vt_cmp (o_neF c.hu) (ve_callB c_len Z.z_len (va_cons (vv 4) va_nil)) (ve_callB c_len Z.z_len (va_cons (vv 5) va_nil)))))) (vs_one (vs_ret ve_bl)) vs_nil))
      (vs_one (vs_frz [4, 5] (vs_expr (ve_mutB PySem.F.plainAttrs_list PySem.F.slot_list_extend PySem.F.type_list_extend m_extend (vv 2) (va_cons (ve_listZip c Z.z_zip Z.z_list (va_cons (vv 4) (va_cons (vv 5) va_nil))) va_nil)))))) (vs_one (vs_frz [4, 5] (vs_if (vt_cmp (o_neF c.hu) (vv 4) (vv 5)) (vs_one (vs_ret ve_bl)) vs_nil)))))))))) (passes_of rfl)))
      (vs_one (vs_ret ve_bl))))
theorem ok__law_bag (Z : Zs mg) {f__law_bag : Addr} {fd__law_bag : FuncData} (x__law_bag : Fx K mg "_law_bag" s__law_bag ["script"] f__law_bag fd__law_bag) : FnOk P w K mg base (L2.CX P w) 1 f__law_bag fd__law_bag ["script"] (spV K mg 1 F__law_bag) := by
  exact fn_v (N := ["script", "cell"]) (ps := ["script"]) (k := 0) (g := g__law_bag) x__law_bag.F sc__law_bag fun cdv A outer s H E c =>
    (vs_one (vs_ret (ve_lst (va_cons ve_int (va_cons ve_int (va_cons ve_int (va_cons (ve_lcF (ve_lc c (vi_seq (ve_slice (vv 0) vo_none (vo_some ve_int))) (blkOk_by (own := [("cell", 1)]) (by kernel_rfl)) (fun _ _ _ _ _ => (vgd_name (i := 1) c.nd rfl (by first | exact .inl rfl | exact .inr rfl))) (fun _ _ _ _ _ c => vts_nil) (fun _ _ _ _ _ c => (ve_callB c_abs Z.z_abs (va_cons (vv 1) va_nil))))) va_nil)))))))
theorem ok__law_codes (Z : Zs mg) {f__law_codes : Addr} {fd__law_codes : FuncData} (x__law_codes : Fx K mg "_law_codes" s__law_codes ["yard", "passes"] f__law_codes fd__law_codes) : FnOk P w K mg base (L2.CX P w) 1 f__law_codes fd__law_codes ["yard", "passes"] (spV K mg 2 F__law_codes) := by
  exact fn_v (N := ["yard", "passes", "found", "turn", "longer", "code", "track"]) (ps := ["yard", "passes"]) (k := 0) (g := g__law_codes) x__law_codes.F sc__law_codes fun cdv A outer s H E c =>
    (vs_cons (vs_set c.nd (i := 2) rfl (by first | exact .inl rfl | exact .inr rfl) (ve_lst (va_cons (ve_tup va_nil) va_nil)))
      (vs_cons (vs_for c.calm (ix := [3]) (vi_range1 Z.z_range (va_cons (vv 1) va_nil) (hl := (vcons_len vnil_len))) (vgd_name (i := 3) c.nd rfl (by first | exact .inl rfl | exact .inr rfl)) (vs_cons (vs_set c.nd (i := 4) rfl (by first | exact .inl rfl | exact .inr rfl) (ve_lst va_nil))
      (vs_cons (vs_frz [2] (vs_for c.calm (ix := [5]) (vi_seq (vv 2)) (vgd_name (i := 5) c.nd rfl (by first | exact .inl rfl | exact .inr rfl)) (vs_one (vs_frz [5] (vs_expr (ve_mutB PySem.F.plainAttrs_list PySem.F.slot_list_extend PySem.F.type_list_extend m_extend (vv 4) (va_cons (ve_lcF (ve_lc c (vi_range1 Z.z_range (va_cons (ve_callB c_len Z.z_len (va_cons (vv 0) va_nil)) va_nil) (hl := (vcons_len vnil_len))) (blkOk_by (own := [("track", 6)]) (by kernel_rfl)) (fun _ _ _ _ _ => (vgd_name (i := 6) c.nd rfl (by first | exact .inl rfl | exact .inr rfl))) (fun _ _ _ _ _ c => vts_nil) (fun _ _ _ _ _ c => (ve_bin o_add (vv 5) (ve_tup (va_cons (vv 6) va_nil)))))) va_nil))))) (hp := passes_of rfl)))
      (vs_one (vs_setM c.nd (i := 2) rfl (by first | exact .inl rfl | exact .inr rfl) (vv 4))))) (hp := passes_of rfl))
      (vs_one (vs_frz [2] (vs_ret (vv 2))))))
theorem ok__law_rolled (Z : Zs mg) {f__law_rolled : Addr} {fd__law_rolled : FuncData} (x__law_rolled : Fx K mg "_law_rolled" s__law_rolled ["yard", "order", "rolling"] f__law_rolled fd__law_rolled) : FnOk P w K mg base (L2.CX P w) 1 f__law_rolled fd__law_rolled ["yard", "order", "rolling"] (spV K mg 3 F__law_rolled) := by
  exact fn_v (N := ["yard", "order", "rolling", "track", "wagon"]) (ps := ["yard", "order", "rolling"]) (k := 0) (g := g__law_rolled) x__law_rolled.F sc__law_rolled fun cdv A outer s H E c =>
    (vs_one (vs_ret (ve_lcF (ve_lc c (vi_range1 Z.z_range (va_cons (ve_callB c_len Z.z_len (va_cons (vv 0) va_nil)) va_nil) (hl := (vcons_len vnil_len))) (blkOk_by (own := [("track", 3)]) (by kernel_rfl)) (fun _ _ _ _ _ => (vgd_name (i := 3) c.nd rfl (by first | exact .inl rfl | exact .inr rfl))) (fun _ _ _ _ _ c => vts_nil) (fun _ _ _ _ _ c => (ve_lcF (ve_lc c (vi_seq (vv 1)) (blkOk_by (own := [("wagon", 4)]) (by kernel_rfl)) (fun _ _ _ _ _ => (vgd_name (i := 4) c.nd rfl (by first | exact .inl rfl | exact .inr rfl))) (fun _ _ _ _ _ c => (vts_one (vt_cmp (o_eqF c.hu) (ve_ix (vv 2) (vv 4)) (vv 3)))) (fun _ _ _ _ _ c => (vv 4)))))))))
theorem ok__law_pass (Z : Zs mg) {f__law_pass : Addr} {fd__law_pass : FuncData} {f__law_rolled : Addr} {fd__law_rolled : FuncData} (x__law_pass : Fx K mg "_law_pass" s__law_pass ["yard", "order", "rolling"] f__law_pass fd__law_pass) (x__law_rolled : Fx K mg "_law_rolled" s__law_rolled ["yard", "order", "rolling"] f__law_rolled fd__law_rolled) : FnOk P w K mg base (L2.CX P w) 2 f__law_pass fd__law_pass ["yard", "order", "rolling"] (spV K mg 3 F__law_pass) := by
  have k__law_rolled : FnOk P w K mg base (L2.CX P w) 1 f__law_rolled fd__law_rolled ["yard", "order", "rolling"] (spV K mg 3 F__law_rolled) := ok__law_rolled Z x__law_rolled 
  exact fn_v (N := ["yard", "order", "rolling", "found", "kind", "wagons"]) (ps := ["yard", "order", "rolling"]) (k := 1) (g := g__law_pass) x__law_pass.F sc__law_pass fun cdv A outer s H E c =>
    (vs_cons (vs_set c.nd (i := 3) rfl (by first | exact .inl rfl | exact .inr rfl) (ve_lst va_nil))
      (vs_cons (vs_for c.calm (ix := [4, 5]) (vi_zip Z.z_zip (va_cons (vv 0) (va_cons (ve_call c k__law_rolled (by decide) x__law_rolled.m x__law_rolled.F.kp x__law_rolled.b (va_cons (vv 0) (va_cons (vv 1) (va_cons (vv 2) va_nil))) (vcons_len (vcons_len (vcons_len vnil_len)))) va_nil))) (vgd_tup c.calm (vgds_cons (vgd_name (i := 4) c.nd rfl (by first | exact .inl rfl | exact .inr rfl)) (vgds_cons (vgd_name (i := 5) c.nd rfl (by first | exact .inl rfl | exact .inr rfl)) vgds_nil))) (vs_one (vs_frz [4, 5] (vs_expr (ve_mutB PySem.F.plainAttrs_list PySem.F.slot_list_extend PySem.F.type_list_extend m_extend (vv 3) (va_cons (ve_ite (vt_cmp (o_eqF c.hu) (vv 4) ve_int) (vv 5) (ve_rev (vv 5))) va_nil))))) (hp := passes_of rfl))
      (vs_one (vs_ret (vv 3)))))
theorem ok__law_late_order (Z : Zs mg) {f__law_late_order : Addr} {fd__law_late_order : FuncData} {f__law_rolled : Addr} {fd__law_rolled : FuncData} {f__law_pass : Addr} {fd__law_pass : FuncData} (x__law_late_order : Fx K mg "_law_late_order" s__law_late_order ["yard", "passes", "comers", "plan"] f__law_late_order fd__law_late_order) (x__law_rolled : Fx K mg "_law_rolled" s__law_rolled ["yard", "order", "rolling"] f__law_rolled fd__law_rolled) (x__law_pass : Fx K mg "_law_pass" s__law_pass ["yard", "order", "rolling"] f__law_pass fd__law_pass) : FnOk P w K mg base (L2.CX P w) 3 f__law_late_order fd__law_late_order ["yard", "passes", "comers", "plan"] (spV K mg 4 F__law_late_order) := by
  have k__law_pass : FnOk P w K mg base (L2.CX P w) 2 f__law_pass fd__law_pass ["yard", "order", "rolling"] (spV K mg 3 F__law_pass) := ok__law_pass Z x__law_pass x__law_rolled
  exact fn_v (N := ["yard", "passes", "comers", "plan", "order", "done", "at", "turn", "its", "code"]) (ps := ["yard", "passes", "comers", "plan"]) (k := 2) (g := g__law_late_order) x__law_late_order.F sc__law_late_order fun cdv A outer s H E c =>
    (vs_cons (vs_set c.nd (i := 4) rfl (by first | exact .inl rfl | exact .inr rfl) (ve_lst va_nil))
      (vs_cons (vs_for c.calm (ix := [5]) (vi_range1 Z.z_range (va_cons (ve_bin o_add (vv 1) ve_int) va_nil) (hl := (vcons_len vnil_len))) (vgd_name (i := 5) c.nd rfl (by first | exact .inl rfl | exact .inr rfl)) (vs_cons (vs_frz [4, 5] (vs_set c.nd (i := 4) rfl (by first | exact .inl rfl | exact .inr rfl) (ve_bin o_add (vv 4) (ve_lcF (ve_lc c (vi_enum Z.z_enumerate (va_cons (vv 2) va_nil)) (blkOk_by (own := [("at", 6), ("turn", 7), ("its", 8)]) (by kernel_rfl)) (fun _ _ _ _ _ => (vgd_tup c.calm (vgds_cons (vgd_name (i := 6) c.nd rfl (by first | exact .inl rfl | exact .inr rfl)) (vgds_cons (vgd_tup c.calm (vgds_cons (vgd_name (i := 7) c.nd rfl (by first | exact .inl rfl | exact .inr rfl)) (vgds_cons (vgd_name (i := 8) c.nd rfl (by first | exact .inl rfl | exact .inr rfl)) vgds_nil))) vgds_nil)))) (fun _ _ _ _ _ c => (vts_one (vt_cmp (o_eqF c.hu) (vv 7) (vv 5)))) (fun _ _ _ _ _ c => (vv 6)))))))
      (vs_one (vs_frz [5] (vs_if (vt_cmp (o_lt c.hu0) (vv 5) (vv 1)) (vs_one (vs_frz [4, 5] (vs_set c.nd (i := 4) rfl (by first | exact .inl rfl | exact .inr rfl) (ve_call c k__law_pass (by decide) x__law_pass.m x__law_pass.F.kp x__law_pass.b (va_cons (vv 0) (va_cons (vv 4) (va_cons (ve_lcF (ve_lc c (vi_seq (vv 3)) (blkOk_by (own := [("code", 9)]) (by kernel_rfl)) (fun _ _ _ _ _ => (vgd_name (i := 9) c.nd rfl (by first | exact .inl rfl | exact .inr rfl))) (fun _ _ _ _ _ c => vts_nil) (fun _ _ _ _ _ c => (ve_ite (vt_cmp o_gt (ve_callB c_len Z.z_len (va_cons (vv 9) va_nil)) (ve_bin o_sub (ve_bin o_sub (vv 1) ve_int) (vv 5))) (ve_ix (vv 9) (ve_bin o_sub (ve_bin o_sub (vv 1) ve_int) (vv 5))) ve_int)))) va_nil))) (vcons_len (vcons_len (vcons_len vnil_len))))))) vs_nil)))) (hp := passes_of rfl))
      (vs_one (vs_frz [4] (vs_ret (vv 4))))))
theorem ok__law_take (Z : Zs mg) {f__law_take : Addr} {fd__law_take : FuncData} (x__law_take : Fx K mg "_law_take" s__law_take ["bag", "many"] f__law_take fd__law_take) : FnOk P w K mg base (L2.CX P w) 1 f__law_take fd__law_take ["bag", "many"] (spV K mg 2 F__law_take) := by
  exact fn_v (N := ["bag", "many", "cell", "stirred", "value", "begin", "second"]) (ps := ["bag", "many"]) (k := 0) (g := g__law_take) x__law_take.F sc__law_take fun cdv A outer s H E c =>
    (vs_cons (vs_if (vt_cmp (o_eqF c.hu) (ve_ix (vv 0) ve_int) ve_int) (vs_cons (vs_set c.nd (i := 2) rfl (by first | exact .inl rfl | exact .inr rfl) (ve_ix (ve_bin o_add (ve_slice (ve_ix (vv 0) ve_int) (vo_some (ve_ix (vv 0) ve_int)) vo_none) (ve_lst (va_cons ve_int va_nil))) ve_int))
      (vs_cons (vs_augS (vv 0) ve_int ve_int i_add)
      (vs_cons (vs_frz [2] (vs_if (vt_cmp o_ge (vv 2) (ve_bin o_pow ve_int ve_int)) (vs_one (vs_frz [2] (vs_asgD (ix := []) (vv 2) (vgd_sub (W := W0) (vv 0) ve_int (by intro _; rfl))))) vs_nil))
      (vs_cons (vs_frz [2] (vs_set c.nd (i := 3) rfl (by first | exact .inl rfl | exact .inr rfl) (ve_bin o_add (ve_bin o_add (ve_bin o_mul (ve_ix (vv 0) ve_int) ve_int) (ve_bin o_mod (ve_callT c_int Z.z_int (va_cons (vv 2) va_nil)) ve_int)) (ve_bin o_mul ve_int (ve_ix (vv 0) ve_int)))))
      (vs_one (vs_frz [3] (vs_asgD (ix := []) (ve_bin o_mod (ve_callT c_int Z.z_int (va_cons (vv 3) va_nil)) ve_int) (vgd_sub (W := W0) (vv 0) ve_int (by intro _; rfl))))))))) vs_nil)
      (vs_cons (vs_if (vt_cmp o_gt (ve_ix (vv 0) ve_int) ve_int) (vs_cons (vs_set c.nd (i := 4) rfl (by first | exact .inl rfl | exact .inr rfl) (ve_bin o_mod (ve_callT c_int Z.z_int (va_cons (ve_ix (vv 0) ve_int) va_nil)) (vv 1)))
      (vs_cons (vs_asgD (ix := []) (ve_bin o_fdiv (ve_callT c_int Z.z_int (va_cons (ve_ix (vv 0) ve_int) va_nil)) (vv 1)) (vgd_sub (W := W0) (vv 0) ve_int (by intro _; rfl)))
      (vs_one (vs_frz [4] (vs_ret (vv 4)))))) vs_nil)
      (vs_cons (vs_set c.nd (i := 5) rfl (by first | exact .inl rfl | exact .inr rfl) (ve_bin o_mod (ve_callT c_int Z.z_int (va_cons (ve_bin o_mul (ve_bin o_add (ve_ix (vv 0) ve_int) ve_int) ve_int) va_nil)) ve_int))
      (vs_cons (vs_frz [5] (vs_set c.nd (i := 6) rfl (by first | exact .inl rfl | exact .inr rfl) (ve_bin o_mod (ve_callT c_int Z.z_int (va_cons (ve_bin o_mul (ve_bin o_mod (ve_callT c_int Z.z_int (va_cons (ve_bin o_mul (vv 5) (vv 5)) va_nil)) ve_int) ve_int) va_nil)) ve_int)))
      (vs_one (vs_frz [6] (vs_ret (ve_bin o_mod (ve_callT c_int Z.z_int (va_cons (ve_bin o_fdiv (vv 6) ve_int) va_nil)) (vv 1)))))))))
theorem ok__law_yard (Z : Zs mg) {f__law_yard : Addr} {fd__law_yard : FuncData} {f__law_take : Addr} {fd__law_take : FuncData} (x__law_yard : Fx K mg "_law_yard" s__law_yard ["bag", "most"] f__law_yard fd__law_yard) (x__law_take : Fx K mg "_law_take" s__law_take ["bag", "many"] f__law_take fd__law_take) : FnOk P w K mg base (L2.CX P w) 2 f__law_yard fd__law_yard ["bag", "most"] (spV K mg 2 F__law_yard) := by
  have k__law_take : FnOk P w K mg base (L2.CX P w) 1 f__law_take fd__law_take ["bag", "many"] (spV K mg 2 F__law_take) := ok__law_take Z x__law_take 
  exact fn_v (N := ["bag", "most", "track"]) (ps := ["bag", "most"]) (k := 1) (g := g__law_yard) x__law_yard.F sc__law_yard fun cdv A outer s H E c =>
    (vs_one (vs_ret (ve_callT c_tuple Z.z_tuple (va_cons (ve_lcF (ve_lc c (vi_range1 Z.z_range (va_cons (ve_bin o_add ve_int (ve_call c k__law_take (by decide) x__law_take.m x__law_take.F.kp x__law_take.b (va_cons (vv 0) (va_cons (vv 1) va_nil)) (vcons_len (vcons_len vnil_len)))) va_nil) (hl := (vcons_len vnil_len))) (blkOk_by (own := [("track", 2)]) (by kernel_rfl)) (fun _ _ _ _ _ => (vgd_name (i := 2) c.nd rfl (by first | exact .inl rfl | exact .inr rfl))) (fun _ _ _ _ _ c => vts_nil) (fun _ _ _ _ _ c => (ve_call c k__law_take (by decide) x__law_take.m x__law_take.F.kp x__law_take.b (va_cons (vv 0) (va_cons ve_int va_nil)) (vcons_len (vcons_len vnil_len)))))) va_nil))))
theorem ok_by_track (Z : Zs mg) {f_by_track : Addr} {fd_by_track : FuncData} (x_by_track : Fx K mg "by_track" s_by_track ["track", "kind", "some"] f_by_track fd_by_track) : FnOk P w K mg base (L2.CX P w) 1 f_by_track fd_by_track ["track", "kind", "some"] (spV K mg 3 F_by_track) := by
  exact fn_v (N := ["track", "kind", "some", "code", "turn", "sign"]) (ps := ["track", "kind", "some"]) (k := 0) (g := g_by_track) x_by_track.F sc_by_track fun cdv A outer s H E c =>
    (vs_cons (vs_if (vt_cmp (o_eqF c.hu) (vv 1) (ve_gint Z.g_STUB)) (vs_one (vs_ret (ve_lcF (ve_lc c (vi_rev Z.z_reversed (vv 2)) (blkOk_by (own := [("code", 3), ("turn", 4), ("sign", 5)]) (by kernel_rfl)) (fun _ _ _ _ _ => (vgd_tup c.calm (vgds_cons (vgd_name (i := 3) c.nd rfl (by first | exact .inl rfl | exact .inr rfl)) (vgds_cons (vgd_name (i := 4) c.nd rfl (by first | exact .inl rfl | exact .inr rfl)) (vgds_cons (vgd_name (i := 5) c.nd rfl (by first | exact .inl rfl | exact .inr rfl)) vgds_nil))))) (fun _ _ _ _ _ c => vts_nil) (fun _ _ _ _ _ c => (ve_tup (va_cons (ve_tup (va_cons (vv 0) (va_star (vv 3) va_nil))) (va_cons (vv 4) (va_cons (ve_bin o_sub ve_int (vv 5)) va_nil))))))))) vs_nil)
      (vs_one (vs_ret (ve_lcF (ve_lc c (vi_seq (vv 2)) (blkOk_by (own := [("code", 3), ("turn", 4), ("sign", 5)]) (by kernel_rfl)) (fun _ _ _ _ _ => (vgd_tup c.calm (vgds_cons (vgd_name (i := 3) c.nd rfl (by first | exact .inl rfl | exact .inr rfl)) (vgds_cons (vgd_name (i := 4) c.nd rfl (by first | exact .inl rfl | exact .inr rfl)) (vgds_cons (vgd_name (i := 5) c.nd rfl (by first | exact .inl rfl | exact .inr rfl)) vgds_nil))))) (fun _ _ _ _ _ c => vts_nil) (fun _ _ _ _ _ c => (ve_tup (va_cons (ve_tup (va_cons (vv 0) (va_star (vv 3) va_nil))) (va_cons (vv 4) (va_cons (vv 5) va_nil))))))))))
theorem ok_slots_many (Z : Zs mg) {f_slots_many : Addr} {fd_slots_many : FuncData} (x_slots_many : Fx K mg "slots_many" s_slots_many ["yard", "passes", "turns"] f_slots_many fd_slots_many) : FnOk P w K mg base (L2.CX P w) 1 f_slots_many fd_slots_many ["yard", "passes", "turns"] (spV K mg 3 F_slots_many) := by
  exact fn_v (N := ["yard", "passes", "turns", "found", "turn"]) (ps := ["yard", "passes", "turns"]) (k := 0) (g := g_slots_many) x_slots_many.F sc_slots_many fun cdv A outer s H E c =>
    (vs_cons (vs_set c.nd (i := 3) rfl (by first | exact .inl rfl | exact .inr rfl) ve_int)
      (vs_cons (vs_for c.calm (ix := [4]) (vi_range1 Z.z_range (va_cons (ve_bin o_add (vv 1) ve_int) va_nil) (hl := (vcons_len vnil_len))) (vgd_name (i := 4) c.nd rfl (by first | exact .inl rfl | exact .inr rfl)) (vs_one (vs_frz [3, 4] (vs_set c.nd (i := 3) rfl (by first | exact .inl rfl | exact .inr rfl) (ve_bin o_add (ve_bin o_mul (vv 3) (ve_ite (vt_cmp o_gt (vv 4) ve_int) (ve_callB c_len Z.z_len (va_cons (vv 0) va_nil)) ve_int)) (ve_callT c_int Z.z_int (va_cons (ve_cmp (o_inF c) (vv 4) (vv 2)) va_nil)))))) (hp := passes_of rfl))
      (vs_one (vs_frz [3] (vs_ret (vv 3))))))
theorem ok_slots (Z : Zs mg) {f_slots : Addr} {fd_slots : FuncData} {f_by_track : Addr} {fd_by_track : FuncData} {f_slots_many : Addr} {fd_slots_many : FuncData} (x_slots : Fx K mg "slots" s_slots ["yard", "passes", "turns"] f_slots fd_slots) (x_by_track : Fx K mg "by_track" s_by_track ["track", "kind", "some"] f_by_track fd_by_track) (x_slots_many : Fx K mg "slots_many" s_slots_many ["yard", "passes", "turns"] f_slots_many fd_slots_many) : FnOk P w K mg base (L2.CX P w) 2 f_slots fd_slots ["yard", "passes", "turns"] (spV K mg 3 F_slots) := by
  have k_by_track : FnOk P w K mg base (L2.CX P w) 1 f_by_track fd_by_track ["track", "kind", "some"] (spV K mg 3 F_by_track) := ok_by_track Z x_by_track 
  have k_slots_many : FnOk P w K mg base (L2.CX P w) 1 f_slots_many fd_slots_many ["yard", "passes", "turns"] (spV K mg 3 F_slots_many) := ok_slots_many Z x_slots_many 
  exact fn_v (N := ["yard", "passes", "turns", "found", "turn", "some", "track", "kind"]) (ps := ["yard", "passes", "turns"]) (k := 1) (g := g_slots) x_slots.F sc_slots fun cdv A outer s H E c =>
    (vs_cons (vs_if (vt_cmp o_gt (ve_call c k_slots_many (by decide) x_slots_many.m x_slots_many.F.kp x_slots_many.b (va_cons (vv 0) (va_cons (vv 1) (va_cons (vv 2) va_nil))) (vcons_len (vcons_len (vcons_len vnil_len)))) (ve_gint Z.g_MOST_SLOTS)) (vs_one vs_stuck) vs_nil)
      (vs_cons (vs_set c.nd (i := 3) rfl (by first | exact .inl rfl | exact .inr rfl) (ve_ite (vt_cmp (o_inF c) ve_int (vv 2)) (ve_lst (va_cons (ve_tup (va_cons (ve_tup va_nil) (va_cons ve_int (va_cons ve_int va_nil)))) va_nil)) (ve_lst va_nil)))
      (vs_cons (vs_for c.calm (ix := [4]) (vi_range2 Z.z_range (va_cons ve_int (va_cons (ve_bin o_add (vv 1) ve_int) va_nil)) (hl := (vcons_len (vcons_len vnil_len)))) (vgd_name (i := 4) c.nd rfl (by first | exact .inl rfl | exact .inr rfl)) (vs_cons (vs_par2 c.calm c.nd (i := 5) (j := 3) rfl rfl (by decide) rfl rfl (vp_cons (vv 3) (vp_cons (ve_lst va_nil) vp_nil)) (by with_unfolding_all rfl))
      (vs_cons (vs_for c.calm (ix := [6, 7]) (vi_enum Z.z_enumerate (va_cons (vv 0) va_nil)) (vgd_tup c.calm (vgds_cons (vgd_name (i := 6) c.nd rfl (by first | exact .inl rfl | exact .inr rfl)) (vgds_cons (vgd_name (i := 7) c.nd rfl (by first | exact .inl rfl | exact .inr rfl)) vgds_nil))) (vs_one (vs_frz [5, 6, 7] (vs_expr (ve_mutB PySem.F.plainAttrs_list PySem.F.slot_list_extend PySem.F.type_list_extend m_extend (vv 3) (va_cons (ve_call c k_by_track (by decide) x_by_track.m x_by_track.F.kp x_by_track.b (va_cons (vv 6) (va_cons (vv 7) (va_cons (vv 5) va_nil))) (vcons_len (vcons_len (vcons_len vnil_len)))) va_nil))))) (hp := passes_of rfl))
      (vs_one (vs_frz [4] (vs_expr (ve_mutB PySem.F.plainAttrs_list PySem.F.slot_list_extend PySem.F.type_list_extend m_extend (vv 3) (va_cons (ve_bin o_mul (ve_lst (va_cons (ve_tup (va_cons (ve_tup va_nil) (va_cons (vv 4) (va_cons ve_int va_nil)))) va_nil)) (ve_callT c_int Z.z_int (va_cons (ve_cmp (o_inF c) (vv 4) (vv 2)) va_nil))) va_nil))))))) (hp := passes_of rfl))
      (vs_one (vs_ret (ve_callT c_tuple Z.z_tuple (va_cons (vv 3) va_nil)))))))
theorem ok_law (Z : Zs mg) {f_law : Addr} {fd_law : FuncData} {f__law_alike : Addr} {fd__law_alike : FuncData} {f__law_bag : Addr} {fd__law_bag : FuncData} {f__law_codes : Addr} {fd__law_codes : FuncData} {f__law_rolled : Addr} {fd__law_rolled : FuncData} {f__law_pass : Addr} {fd__law_pass : FuncData} {f__law_late_order : Addr} {fd__law_late_order : FuncData} {f__law_take : Addr} {fd__law_take : FuncData} {f__law_yard : Addr} {fd__law_yard : FuncData} {f_by_track : Addr} {fd_by_track : FuncData} {f_slots_many : Addr} {fd_slots_many : FuncData} {f_slots : Addr} {fd_slots : FuncData} (x_law : Fx K mg "law" s_law ["script"] f_law fd_law) (x__law_alike : Fx K mg "_law_alike" s__law_alike ["found", "due"] f__law_alike fd__law_alike) (x__law_bag : Fx K mg "_law_bag" s__law_bag ["script"] f__law_bag fd__law_bag) (x__law_codes : Fx K mg "_law_codes" s__law_codes ["yard", "passes"] f__law_codes fd__law_codes) (x__law_rolled : Fx K mg "_law_rolled" s__law_rolled ["yard", "order", "rolling"] f__law_rolled fd__law_rolled) (x__law_pass : Fx K mg "_law_pass" s__law_pass ["yard", "order", "rolling"] f__law_pass fd__law_pass) (x__law_late_order : Fx K mg "_law_late_order" s__law_late_order ["yard", "passes", "comers", "plan"] f__law_late_order fd__law_late_order) (x__law_take : Fx K mg "_law_take" s__law_take ["bag", "many"] f__law_take fd__law_take) (x__law_yard : Fx K mg "_law_yard" s__law_yard ["bag", "most"] f__law_yard fd__law_yard) (x_by_track : Fx K mg "by_track" s_by_track ["track", "kind", "some"] f_by_track fd_by_track) (x_slots_many : Fx K mg "slots_many" s_slots_many ["yard", "passes", "turns"] f_slots_many fd_slots_many) (x_slots : Fx K mg "slots" s_slots ["yard", "passes", "turns"] f_slots fd_slots) : FnOk P w K mg base (L2.CX P w) 4 f_law fd_law ["script"] (spV K mg 1 F_law) := by
  have k__law_alike : FnOk P w K mg base (L2.CX P w) 1 f__law_alike fd__law_alike ["found", "due"] (spV K mg 2 F__law_alike) := ok__law_alike Z x__law_alike 
  have k__law_bag : FnOk P w K mg base (L2.CX P w) 1 f__law_bag fd__law_bag ["script"] (spV K mg 1 F__law_bag) := ok__law_bag Z x__law_bag 
  have k__law_codes : FnOk P w K mg base (L2.CX P w) 1 f__law_codes fd__law_codes ["yard", "passes"] (spV K mg 2 F__law_codes) := ok__law_codes Z x__law_codes 
  have k__law_late_order : FnOk P w K mg base (L2.CX P w) 3 f__law_late_order fd__law_late_order ["yard", "passes", "comers", "plan"] (spV K mg 4 F__law_late_order) := ok__law_late_order Z x__law_late_order x__law_rolled x__law_pass
  have k__law_take : FnOk P w K mg base (L2.CX P w) 1 f__law_take fd__law_take ["bag", "many"] (spV K mg 2 F__law_take) := ok__law_take Z x__law_take 
  have k__law_yard : FnOk P w K mg base (L2.CX P w) 2 f__law_yard fd__law_yard ["bag", "most"] (spV K mg 2 F__law_yard) := ok__law_yard Z x__law_yard x__law_take
  have k_slots : FnOk P w K mg base (L2.CX P w) 2 f_slots fd_slots ["yard", "passes", "turns"] (spV K mg 3 F_slots) := ok_slots Z x_slots x_by_track x_slots_many
  exact fn_v (N := ["script", "bag", "turn", "yard", "passes", "turns", "comers", "plan", "one", "code", "due", "at", "key", "found"]) (ps := ["script"]) (k := 3) (g := g_law) x_law.F sc_law fun cdv A outer s H E c =>
    (vs_cons (vs_set c.nd (i := 1) rfl (by first | exact .inl rfl | exact .inr rfl) (ve_call c k__law_bag (by decide) x__law_bag.m x__law_bag.F.kp x__law_bag.b (va_cons (vv 0) va_nil) (vcons_len vnil_len)))
      (vs_cons (vs_for c.calm (ix := [2]) (vi_range1 Z.z_range (va_cons ve_int va_nil) (hl := (vcons_len vnil_len))) (vgd_name (i := 2) c.nd rfl (by first | exact .inl rfl | exact .inr rfl)) (vs_fgts [3, 4, 5, 6, 7, 8, 9, 10, 11, 12, 13] (vs_cons (vs_parT c.calm (is := [3, 4]) (gn_cons (i := 3) c.nd rfl (by first | exact .inl rfl | exact .inr rfl) (gn_cons (i := 4) c.nd rfl (by first | exact .inl rfl | exact .inr rfl) gn_nil)) (vp_cons (ve_call c k__law_yard (by decide) x__law_yard.m x__law_yard.F.kp x__law_yard.b (va_cons (vv 1) (va_cons ve_int va_nil)) (vcons_len (vcons_len vnil_len))) (vp_cons (ve_call c k__law_take (by decide) x__law_take.m x__law_take.F.kp x__law_take.b (va_cons (vv 1) (va_cons ve_int va_nil)) (vcons_len (vcons_len vnil_len))) vp_nil)))
      (vs_cons (vs_frz [4, 8] (vs_set c.nd (i := 5) rfl (by first | exact .inl rfl | exact .inr rfl) (ve_callT c_tuple Z.z_tuple (va_cons (ve_lcF (ve_lc c (vi_range1 Z.z_range (va_cons (ve_bin o_add (vv 4) ve_int) va_nil) (hl := (vcons_len vnil_len))) (blkOk_by (own := [("one", 8)]) (by kernel_rfl)) (fun _ _ _ _ _ => (vgd_name (i := 8) c.nd rfl (by first | exact .inl rfl | exact .inr rfl))) (fun _ _ _ _ _ c => (vts_one (vt_cmp (o_eqF c.hu) (ve_call c k__law_take (by decide) x__law_take.m x__law_take.F.kp x__law_take.b (va_cons (vv 1) (va_cons ve_int va_nil)) (vcons_len (vcons_len vnil_len))) ve_int))) (fun _ _ _ _ _ c => (vv 8)))) va_nil))))
      (vs_cons (vs_par2 c.calm c.nd (i := 6) (j := 7) rfl rfl (by decide) rfl rfl (vp_cons (ve_lst va_nil) (vp_cons (ve_lst va_nil) vp_nil)) (by with_unfolding_all rfl))
      (vs_cons (vs_frz [5] (vs_for c.calm (ix := [8]) (vi_seq (vv 5)) (vgd_name (i := 8) c.nd rfl (by first | exact .inl rfl | exact .inr rfl)) (vs_one (vs_frz [3, 4, 8] (vs_for c.calm (ix := [9]) (vi_seq (ve_call c k__law_codes (by decide) x__law_codes.m x__law_codes.F.kp x__law_codes.b (va_cons (vv 3) (va_cons (ve_bin o_sub (vv 4) (vv 8)) va_nil)) (vcons_len (vcons_len vnil_len)))) (vgd_name (i := 9) c.nd rfl (by first | exact .inl rfl | exact .inr rfl)) (vs_cons (vs_frz [8] (vs_expr (ve_mutB PySem.F.plainAttrs_list PySem.F.slot_list_extend PySem.F.type_list_extend m_extend (vv 6) (va_cons (ve_lst (va_cons (ve_tup (va_cons (vv 8) (va_cons ve_int va_nil))) (va_cons (ve_tup (va_cons (vv 8) (va_cons ve_int va_nil))) va_nil))) va_nil))))
      (vs_one (vs_frz [9] (vs_expr (ve_mutB PySem.F.plainAttrs_list PySem.F.slot_list_extend PySem.F.type_list_extend m_extend (vv 7) (va_cons (ve_lst (va_cons (vv 9) (va_cons (vv 9) va_nil))) va_nil)))))) (hp := passes_of rfl)))) (hp := passes_of rfl)))
      (vs_cons (vs_set c.nd (i := 10) rfl (by first | exact .inl rfl | exact .inr rfl) (ve_lst va_nil))
      (vs_cons (vs_frz [3, 4] (vs_for c.calm (ix := [11]) (vi_seq (ve_call c k__law_late_order (by decide) x__law_late_order.m x__law_late_order.F.kp x__law_late_order.b (va_cons (vv 3) (va_cons (vv 4) (va_cons (vv 6) (va_cons (vv 7) va_nil)))) (vcons_len (vcons_len (vcons_len (vcons_len vnil_len)))))) (vgd_name (i := 11) c.nd rfl (by first | exact .inl rfl | exact .inr rfl)) (vs_cons (vs_frz [11] (vs_set c.nd (i := 12) rfl (by first | exact .inl rfl | exact .inr rfl) (ve_tup (va_cons (ve_ix (vv 7) (vv 11)) (va_cons (ve_ix (ve_ix (vv 6) (vv 11)) ve_int) va_nil)))))
      (vs_one (vs_frz [8, 12] (vs_if (vt_cmp (o_notinF c) (vv 12) (ve_lcF (ve_lc c (vi_seq (vv 10)) (blkOk_by (own := [("one", 8)]) (by kernel_rfl)) (fun _ _ _ _ _ => (vgd_name (i := 8) c.nd rfl (by first | exact .inl rfl | exact .inr rfl))) (fun _ _ _ _ _ c => vts_nil) (fun _ _ _ _ _ c => (ve_slice (vv 8) vo_none (vo_some ve_int)))))) (vs_one (vs_frz [11, 12] (vs_expr (ve_mut PySem.F.plainAttrs_list PySem.F.slot_list_append PySem.F.type_list_append m_append (vv 10) (va_cons (ve_bin o_add (vv 12) (ve_tup (va_cons (ve_ite (vt_cmp (o_eqF c.hu) (ve_bin o_mul (ve_bin o_fdiv (vv 11) ve_int) ve_int) (vv 11)) ve_int (ve_un o_neg ve_int)) va_nil))) va_nil))))) vs_nil)))) (hp := passes_of rfl)))
      (vs_cons (vs_frz [3, 4, 5] (vs_set c.nd (i := 13) rfl (by first | exact .inl rfl | exact .inr rfl) (ve_call c k_slots (by decide) x_slots.m x_slots.F.kp x_slots.b (va_cons (vv 3) (va_cons (vv 4) (va_cons (vv 5) va_nil))) (vcons_len (vcons_len (vcons_len vnil_len))))))
      (vs_one (vs_frz [3, 4, 5, 8, 13] (vs_if (vt_w (vw_or (vt_not (vt_tru (ve_call c k__law_alike (by decide) x__law_alike.m x__law_alike.F.kp x__law_alike.b (va_cons (vv 13) (va_cons (ve_callT c_tuple Z.z_tuple (va_cons (vv 10) va_nil)) va_nil)) (vcons_len (vcons_len vnil_len))))) (vw_or1 (vt_cmp (o_neF c.hu) (ve_callB c_len Z.z_len (va_cons (vv 13) va_nil)) (ve_callB (c_sum c.calm) Z.z_sum (va_cons (ve_lcF (ve_lc c (vi_seq (vv 5)) (blkOk_by (own := [("one", 8)]) (by kernel_rfl)) (fun _ _ _ _ _ => (vgd_name (i := 8) c.nd rfl (by first | exact .inl rfl | exact .inr rfl))) (fun _ _ _ _ _ c => vts_nil) (fun _ _ _ _ _ c => (ve_callB c_len Z.z_len (va_cons (ve_call c k__law_codes (by decide) x__law_codes.m x__law_codes.F.kp x__law_codes.b (va_cons (vv 3) (va_cons (ve_bin o_sub (vv 4) (vv 8)) va_nil)) (vcons_len (vcons_len vnil_len))) va_nil))))) va_nil)))))) (vs_one (vs_ret ve_bl)) vs_nil))))))))))) (hp := passes_of rfl))
      (vs_one (vs_ret ve_bl))))
end
/-! the head -/
def d__law_alike : He.DefD := ⟨("_law_alike", none), "_law_alike", "_law_alike", defArgs s__law_alike, defBody s__law_alike, defScope s__law_alike, [], []⟩
def d__law_bag : He.DefD := ⟨("_law_bag", none), "_law_bag", "_law_bag", defArgs s__law_bag, defBody s__law_bag, defScope s__law_bag, [], []⟩
def d__law_codes : He.DefD := ⟨("_law_codes", none), "_law_codes", "_law_codes", defArgs s__law_codes, defBody s__law_codes, defScope s__law_codes, [], []⟩
def d__law_rolled : He.DefD := ⟨("_law_rolled", none), "_law_rolled", "_law_rolled", defArgs s__law_rolled, defBody s__law_rolled, defScope s__law_rolled, [], []⟩
def d__law_pass : He.DefD := ⟨("_law_pass", none), "_law_pass", "_law_pass", defArgs s__law_pass, defBody s__law_pass, defScope s__law_pass, [], []⟩
def d__law_late_order : He.DefD := ⟨("_law_late_order", none), "_law_late_order", "_law_late_order", defArgs s__law_late_order, defBody s__law_late_order, defScope s__law_late_order, [], []⟩
def d__law_take : He.DefD := ⟨("_law_take", none), "_law_take", "_law_take", defArgs s__law_take, defBody s__law_take, defScope s__law_take, [], []⟩
def d__law_yard : He.DefD := ⟨("_law_yard", none), "_law_yard", "_law_yard", defArgs s__law_yard, defBody s__law_yard, defScope s__law_yard, [], []⟩
def d_by_track : He.DefD := ⟨("by_track", none), "by_track", "by_track", defArgs s_by_track, defBody s_by_track, defScope s_by_track, [], []⟩
def d_slots_many : He.DefD := ⟨("slots_many", none), "slots_many", "slots_many", defArgs s_slots_many, defBody s_slots_many, defScope s_slots_many, [], []⟩
def d_slots : He.DefD := ⟨("slots", none), "slots", "slots", defArgs s_slots, defBody s_slots, defScope s_slots, [], []⟩
def d_law : He.DefD := ⟨("law", none), "law", "law", defArgs s_law, defBody s_law, defScope s_law, [], []⟩
def fn : List He.DefD := [d__law_alike, d__law_bag, d__law_codes, d__law_rolled, d__law_pass, d__law_late_order, d__law_take, d__law_yard, d_by_track, d_slots_many, d_slots, d_law]
def fa : List He.Fa := [.glo "_law_alike", .glo "_law_bag", .glo "_law_codes", .glo "_law_rolled", .glo "_law_pass", .glo "_law_late_order", .glo "_law_take", .glo "_law_yard", .glo "by_track", .glo "slots_many", .glo "slots", .glo "law", .free "abs", .free "bool", .free "enumerate", .free "int", .free "isinstance", .free "len", .free "list", .free "range", .free "reversed", .free "str", .free "sum", .free "tuple", .free "zip", .int "MOST_SLOTS" (4096), .int "STUB" (1)]
abbrev R : PySem.W.OpenRow := PySem.W.OpenLaw.row PySem.Challenge.rw_yardpasses_k39_slots_of_late_wagons
abbrev hk : PySem.W.Hook := He.hookD 4 fa fn
def ob (s : PySem.W.SharedT) : He.AlD := He.obsDG 4 fa fn (HandSHeadRun.getT s)
theorem ob_eq (s : PySem.W.SharedT) : ob s = hk.obs s.abs := He.obsDG_eq (HandSHeadRun.getT_eq s)
theorem run (w : World) : HandSHeadRun.RunEq R (PySem.W.view R.prog [19]) hk ob 4000 ["_wall", "YardError", "TooMany", "STUB", "MOST_SLOTS", "by_track", "slots_many", "slots", "_law_bag", "_law_take", "_law_alike", "_law_rolled", "_law_pass", "_law_codes", "_law_yard", "_law_late_order"] w := by
  intro os
  kernel_rfl
theorem facts {P : Program} {w : World} {K : PySem.W.Frag} {h : Heap} {mg : Str → Option Value} {f : Addr} (X : K.In h) (G : h.Ns mainGlobals mg) (hfa : mg ("law" : Str) = some (.ref f)) (c : He.SaysD fa fn K) :
    ∃ fd : FuncData, (∀ (s : Shared) (v : Value), BindsTo s fd ⟨[v], []⟩ [("script", v)]) ∧ ∀ base : Heap, K.In base → base.Ns mainGlobals mg → FnOk P w K mg base (L2.CX P w) 4 f fd ["script"] (spV K mg 1 F_law) := by
  obtain ⟨fd__law_alike, H__law_alike⟩ := c.def_ 0 (d := d__law_alike) rfl
  obtain ⟨fd__law_bag, H__law_bag⟩ := c.def_ 1 (d := d__law_bag) rfl
  obtain ⟨fd__law_codes, H__law_codes⟩ := c.def_ 2 (d := d__law_codes) rfl
  obtain ⟨fd__law_rolled, H__law_rolled⟩ := c.def_ 3 (d := d__law_rolled) rfl
  obtain ⟨fd__law_pass, H__law_pass⟩ := c.def_ 4 (d := d__law_pass) rfl
  obtain ⟨fd__law_late_order, H__law_late_order⟩ := c.def_ 5 (d := d__law_late_order) rfl
  obtain ⟨fd__law_take, H__law_take⟩ := c.def_ 6 (d := d__law_take) rfl
  obtain ⟨fd__law_yard, H__law_yard⟩ := c.def_ 7 (d := d__law_yard) rfl
  obtain ⟨fd_by_track, H_by_track⟩ := c.def_ 8 (d := d_by_track) rfl
  obtain ⟨fd_slots_many, H_slots_many⟩ := c.def_ 9 (d := d_slots_many) rfl
  obtain ⟨fd_slots, H_slots⟩ := c.def_ 10 (d := d_slots) rfl
  obtain ⟨fd_law, H_law⟩ := c.def_ 11 (d := d_law) rfl
  have x__law_alike : Fx K mg "_law_alike" s__law_alike ["found", "due"] _ fd__law_alike := ⟨He5.fun_of H__law_alike, H__law_alike.bindsN (fun _ _ _ _ _ _ us hl => match us, hl with | [_, _], _ => rfl), He.glo_ok X G (c.fact 0 (f := .glo "_law_alike") rfl)⟩
  have x__law_bag : Fx K mg "_law_bag" s__law_bag ["script"] _ fd__law_bag := ⟨He5.fun_of H__law_bag, H__law_bag.bindsN (fun _ _ _ _ _ _ us hl => match us, hl with | [_], _ => rfl), He.glo_ok X G (c.fact 1 (f := .glo "_law_bag") rfl)⟩
  have x__law_codes : Fx K mg "_law_codes" s__law_codes ["yard", "passes"] _ fd__law_codes := ⟨He5.fun_of H__law_codes, H__law_codes.bindsN (fun _ _ _ _ _ _ us hl => match us, hl with | [_, _], _ => rfl), He.glo_ok X G (c.fact 2 (f := .glo "_law_codes") rfl)⟩
  have x__law_rolled : Fx K mg "_law_rolled" s__law_rolled ["yard", "order", "rolling"] _ fd__law_rolled := ⟨He5.fun_of H__law_rolled, H__law_rolled.bindsN (fun _ _ _ _ _ _ us hl => match us, hl with | [_, _, _], _ => rfl), He.glo_ok X G (c.fact 3 (f := .glo "_law_rolled") rfl)⟩
  have x__law_pass : Fx K mg "_law_pass" s__law_pass ["yard", "order", "rolling"] _ fd__law_pass := ⟨He5.fun_of H__law_pass, H__law_pass.bindsN (fun _ _ _ _ _ _ us hl => match us, hl with | [_, _, _], _ => rfl), He.glo_ok X G (c.fact 4 (f := .glo "_law_pass") rfl)⟩
  have x__law_late_order : Fx K mg "_law_late_order" s__law_late_order ["yard", "passes", "comers", "plan"] _ fd__law_late_order := ⟨He5.fun_of H__law_late_order, H__law_late_order.bindsN (fun _ _ _ _ _ _ us hl => match us, hl with | [_, _, _, _], _ => rfl), He.glo_ok X G (c.fact 5 (f := .glo "_law_late_order") rfl)⟩
  have x__law_take : Fx K mg "_law_take" s__law_take ["bag", "many"] _ fd__law_take := ⟨He5.fun_of H__law_take, H__law_take.bindsN (fun _ _ _ _ _ _ us hl => match us, hl with | [_, _], _ => rfl), He.glo_ok X G (c.fact 6 (f := .glo "_law_take") rfl)⟩
  have x__law_yard : Fx K mg "_law_yard" s__law_yard ["bag", "most"] _ fd__law_yard := ⟨He5.fun_of H__law_yard, H__law_yard.bindsN (fun _ _ _ _ _ _ us hl => match us, hl with | [_, _], _ => rfl), He.glo_ok X G (c.fact 7 (f := .glo "_law_yard") rfl)⟩
  have x_by_track : Fx K mg "by_track" s_by_track ["track", "kind", "some"] _ fd_by_track := ⟨He5.fun_of H_by_track, H_by_track.bindsN (fun _ _ _ _ _ _ us hl => match us, hl with | [_, _, _], _ => rfl), He.glo_ok X G (c.fact 8 (f := .glo "by_track") rfl)⟩
  have x_slots_many : Fx K mg "slots_many" s_slots_many ["yard", "passes", "turns"] _ fd_slots_many := ⟨He5.fun_of H_slots_many, H_slots_many.bindsN (fun _ _ _ _ _ _ us hl => match us, hl with | [_, _, _], _ => rfl), He.glo_ok X G (c.fact 9 (f := .glo "slots_many") rfl)⟩
  have x_slots : Fx K mg "slots" s_slots ["yard", "passes", "turns"] _ fd_slots := ⟨He5.fun_of H_slots, H_slots.bindsN (fun _ _ _ _ _ _ us hl => match us, hl with | [_, _, _], _ => rfl), He.glo_ok X G (c.fact 10 (f := .glo "slots") rfl)⟩
  have x_law : Fx K mg "law" s_law ["script"] _ fd_law := ⟨He5.fun_of H_law, H_law.bindsN (fun _ _ _ _ _ _ us hl => match us, hl with | [_], _ => rfl), He.glo_ok X G (c.fact 11 (f := .glo "law") rfl)⟩
  have e := hfa.symm.trans x_law.m
  cases e
  have Z : Zs mg := ⟨He.free_ok X G (c.fact 12 (f := .free "abs") rfl), He.free_ok X G (c.fact 13 (f := .free "bool") rfl), He.free_ok X G (c.fact 14 (f := .free "enumerate") rfl), He.free_ok X G (c.fact 15 (f := .free "int") rfl), He.free_ok X G (c.fact 16 (f := .free "isinstance") rfl), He.free_ok X G (c.fact 17 (f := .free "len") rfl), He.free_ok X G (c.fact 18 (f := .free "list") rfl), He.free_ok X G (c.fact 19 (f := .free "range") rfl), He.free_ok X G (c.fact 20 (f := .free "reversed") rfl), He.free_ok X G (c.fact 21 (f := .free "str") rfl), He.free_ok X G (c.fact 22 (f := .free "sum") rfl), He.free_ok X G (c.fact 23 (f := .free "tuple") rfl), He.free_ok X G (c.fact 24 (f := .free "zip") rfl), He.int_ok X G (c.fact 25 (f := .int "MOST_SLOTS" (4096)) rfl), He.int_ok X G (c.fact 26 (f := .int "STUB" (1)) rfl)⟩
  have b := FunD.bindsA (ps := ["script"]) H_law fun _ _ _ _ _ _ us hl => match us, hl with | [_], _ => rfl
  exact ⟨fd_law, fun s v => b s [v] rfl, fun base _ _ => ok_law Z x_law x__law_alike x__law_bag x__law_codes x__law_rolled x__law_pass x__law_late_order x__law_take x__law_yard x_by_track x_slots_many x_slots⟩
end Yk39
set_option Elab.async false
set_option linter.all false
set_option maxRecDepth 100000
set_option maxHeartbeats 0
namespace Yk39
open PySem PySem.Spec PyProof.Rows L2 VL LB
def newP (cs : List Nat) (k : Nat) : List Nat := (List.range cs.length).filter fun w => decide (cs.getD w 0 = k)
def digP (p k : Nat) (code : List Int) : Int := if p - 1 - k < code.length then code.getD (p - 1 - k) 0 else 0
def lateP (yard : List Int) (p : Nat) (cs : List Nat) (plan : List (List Int)) : Nat → List Nat
  | 0 => []
  | k + 1 => if k < p then passP (lateP yard p cs plan k ++ newP cs k) (plan.map (digP p k)) 0 yard else lateP yard p cs plan k ++ newP cs k
def comD (one : Nat) : Da := .tuple [intN one, .int 0]
theorem laneP_mem {ord : List Nat} {rs : List Int} {t w : Nat} (h : w ∈ laneP ord rs t) : w ∈ ord := (List.mem_filter.mp h).1
theorem passP_mem {ord : List Nat} {rs : List Int} : ∀ {ks : List Int} {t w : Nat}, w ∈ passP ord rs t ks → w ∈ ord
  | [], t, w, h => by cases h
  | k :: ks, t, w, h => by
    have h : w ∈ (if k = 0 then laneP ord rs t else (laneP ord rs t).reverse) ++ passP ord rs (t + 1) ks := h
    rcases List.mem_append.mp h with h | h
    · split at h
      · exact laneP_mem h
      · exact laneP_mem (List.mem_reverse.mp h)
    · exact passP_mem h
theorem lateP_lt {yard : List Int} {p : Nat} {cs : List Nat} {plan : List (List Int)} : ∀ {k w : Nat}, w ∈ lateP yard p cs plan k → w < cs.length
  | 0, w, h => by cases h
  | k + 1, w, h => by
    have hn : ∀ w, w ∈ lateP yard p cs plan k ++ newP cs k → w < cs.length := fun w h => by
      rcases List.mem_append.mp h with h | h
      · exact lateP_lt h
      · exact List.mem_range.mp (List.mem_filter.mp h).1
    have h : w ∈ (if k < p then passP (lateP yard p cs plan k ++ newP cs k) (plan.map (digP p k)) 0 yard else lateP yard p cs plan k ++ newP cs k) := h
    split at h
    · exact hn w (passP_mem h)
    · exact hn w h
theorem pass_at {ks : List Int} {o r : Da} {ord : List Nat} {rs : List Int} {s : VS} (hy : ks.length ≤ 1000000) (ho : seqD o = some (ord.map intN)) (hr : seqD r = some (rs.map PyData.int)) (hw : ∀ w ∈ ord, w < rs.length) (hl : ks.length * ord.length ≤ 16000000) (hl2 : ord.length ≤ 16000000) :
    callF F__law_pass [.d (tupI ks), .d o, .d r] s = .ok (.own (.l ((passP ord rs 0 ks).map intN)), s) := by
  rw [callF_ok (by simp [loans]) (by rfl) (pass_ok hy ho hr hw hl hl2) (fun i => by intro z; cases z), put_d, put_d, put_d, put_n]
/-- comers of a turn -/
theorem new_lc {yard : Da} {p : Nat} {cs : List Nat} {pl : List Da} {k : Nat} {o : SV} (hl : cs.length ≤ 16000000) :
    vLcF [6, 7, 8] (vItEnum (vCons (vVar 2) (vr []))) (vUnpT [vSetD 6, vUnpT [vSetD 7, vSetD 8]]) (VL.vBool (vBin eqF (vVar 7) (vVar 5))) (vVar 6)
      [.d yard, .d (.int p), .io (.l (cs.map comD)), .io (.l pl), o, .d (intN k), .un, .un, .un, .un] = .ok (.own (.l ((newP cs k).map intN)), [.d yard, .d (.int p), .io (.l (cs.map comD)), .io (.l pl), o, .d (intN k), .un, .un, .un, .un]) := by
  have e0 : ∀ (cs : List Nat) (c : Int), enumD c (cs.map comD) = ((List.range cs.length).map fun (w : Nat) => PyData.tuple [.int (c + Int.ofNat w), comD (cs.getD w 0)]) := fun cs => by
    induction cs with
    | nil => intro c; rfl
    | cons one cs ih =>
      intro c
      rw [List.map_cons, List.length_cons, List.range_succ_eq_map, List.map_cons, List.map_map]
      show _ :: enumD (c + 1) _ = _
      rw [ih (c + 1)]
      congr 1
      · show PyData.tuple [.int c, comD one] = PyData.tuple [.int (c + 0), comD one]
        rw [Int.add_zero]
      · apply List.map_congr_left
        intro w _
        show PyData.tuple [.int (c + 1 + (w : Int)), _] = PyData.tuple [.int (c + ((w + 1 : Nat) : Int)), _]
        have : c + 1 + (w : Int) = c + ((w + 1 : Nat) : Int) := by omega
        rw [this]; rfl
  have := lcF_of (ix := [6, 7, 8]) (gt := vUnpT [vSetD 6, vUnpT [vSetD 7, vSetD 8]]) (tt := VL.vBool (vBin eqF (vVar 7) (vVar 5))) (te := vVar 6) (fi := vItEnum (vCons (vVar 2) (vr []))) (xs := (List.range cs.length).map fun (w : Nat) => PyData.tuple [.int (0 + Int.ofNat w), comD (cs.getD w 0)]) (L := [(2, true)])
    (s := [.d yard, .d (.int p), .io (.l (cs.map comD)), .io (.l pl), o, .d (intN k), .un, .un, .un, .un])
    (s1 := [.d yard, .d (.int p), .lk (.l (cs.map comD)), .io (.l pl), o, .d (intN k), .un, .un, .un, .un]) (s2 := [.d yard, .d (.int p), .lk (.l (cs.map comD)), .io (.l pl), o, .d (intN k), .un, .un, .un, .un]) (ys := (newP cs k).map intN) (by
      rw [← e0]
      simp only [m_vb, bnd_ok, bnd_er, m_vr, m_stuck, m_seq, bS_nx, bS_bk, bS_ct, bS_rt, bS_er, m_if, m_ite, bI_t, bI_f, bI_er, m_and, m_or, m_not, m_bool, evB_b, m_opt, m_optn, m_tru, tru_b, tru_i, tru_n, tru_l, tru_t, m_var, var_d, var_own, var_io, var_lk, var_rd, m_c, st_d, st_o, st_l, oc_l, oc_m, rd_d, rd_o, rd_l, rdR_own, rdR_io, rdR_lk, m_bin, m_un, m_call, m_rdn, m_rdc, m_cons, m_conss, m_tup, m_lst, dts_n, dts_c, o_map, o_bind, add_i, sub_i, mul_i, mod_i, fdiv_i, pow_i, neg_i, iadd_i, abs_i, int_i, int_b, len_l, len_t, add_l, add_t, lt_i, le_i, gt_i, ge_i, eq_i, ne_i, eqF_i, neF_i, tuple_l, tuple_t, list_l, list_t, ix_l, ix_t, m_ret, m_drop, m_nx, m_asg, m_nox, nx_ok, set_d, set_o, setD_, wr_un, wr_d, wr_o, wr_rd, m_aug, m_asgD, evD_d, evD_o, m_frzn, m_frzc, m_frz1, fz_d, fz_un, fz_io, fz_lk, fz_rd, fz_o, m_sub, m_augS, m_app, ap_o, ap_io, m_ct, ct_o, ct_io, m_isl, is_o, is_io, m_mut, m_mutB, m_mut0, intD_i, m_sl, m_pn, m_ps, rs_d, rs_l, rsR_rd, rsR_o, rsR_io, sl_l, sl_t, arg_n, arg_c, arg_d, arg_l, ar_o, ar_io, ar_lk, ar_rd, put_n, put_d, put_io, m_put, pt_o, pt_io, i_seq, src_l, src_t, src_o, src_n, sr_o, sr_io, sr_lk, i_rng, i_enum, i_zip, i_rev, unl_n, unl_c, unl_1, ul_lk, ob_t, ob_f, wp_n, wp_c, rt_n, rt_c, fl_un, fl_d, m_unpT, tupD_t, unp_n, unp_c, range_1, range_2, ext_l, ext_t, app_1, m_pc, m_par, rl_n, rl_d, rl_o, rl_l, rlR_o, sr_n, sto_d, sto_o, List.getElem?_cons_zero, List.getElem?_cons_succ, List.set_cons_zero, List.set_cons_succ, Option.map_some, Option.bind_some, if_true, and_self]) rfl (lcG_pure (p := fun w => decide (cs.getD w 0 = k)) (h := intN) (List.range cs.length) fun w _ => ⟨[.d yard, .d (.int p), .lk (.l (cs.map comD)), .io (.l pl), o, .d (intN k), .d (intN w), .d (intN (cs.getD w 0)), .d (.int 0), .un], [.d yard, .d (.int p), .lk (.l (cs.map comD)), .io (.l pl), o, .d (intN k), .d (intN w), .d (intN (cs.getD w 0)), .d (.int 0), .un], by
        show vUnpT _ (PyData.tuple [.int (0 + Int.ofNat w), comD (cs.getD w 0)]) [.d yard, .d (.int p), .lk (.l (cs.map comD)), .io (.l pl), o, .d (intN k), .un, .un, .un, .un] = _
        rw [Int.zero_add]
        unfold comD
        simp only [m_vb, bnd_ok, bnd_er, m_vr, m_stuck, m_seq, bS_nx, bS_bk, bS_ct, bS_rt, bS_er, m_if, m_ite, bI_t, bI_f, bI_er, m_and, m_or, m_not, m_bool, evB_b, m_opt, m_optn, m_tru, tru_b, tru_i, tru_n, tru_l, tru_t, m_var, var_d, var_own, var_io, var_lk, var_rd, m_c, st_d, st_o, st_l, oc_l, oc_m, rd_d, rd_o, rd_l, rdR_own, rdR_io, rdR_lk, m_bin, m_un, m_call, m_rdn, m_rdc, m_cons, m_conss, m_tup, m_lst, dts_n, dts_c, o_map, o_bind, add_i, sub_i, mul_i, mod_i, fdiv_i, pow_i, neg_i, iadd_i, abs_i, int_i, int_b, len_l, len_t, add_l, add_t, lt_i, le_i, gt_i, ge_i, eq_i, ne_i, eqF_i, neF_i, tuple_l, tuple_t, list_l, list_t, ix_l, ix_t, m_ret, m_drop, m_nx, m_asg, m_nox, nx_ok, set_d, set_o, setD_, wr_un, wr_d, wr_o, wr_rd, m_aug, m_asgD, evD_d, evD_o, m_frzn, m_frzc, m_frz1, fz_d, fz_un, fz_io, fz_lk, fz_rd, fz_o, m_sub, m_augS, m_app, ap_o, ap_io, m_ct, ct_o, ct_io, m_isl, is_o, is_io, m_mut, m_mutB, m_mut0, intD_i, m_sl, m_pn, m_ps, rs_d, rs_l, rsR_rd, rsR_o, rsR_io, sl_l, sl_t, arg_n, arg_c, arg_d, arg_l, ar_o, ar_io, ar_lk, ar_rd, put_n, put_d, put_io, m_put, pt_o, pt_io, i_seq, src_l, src_t, src_o, src_n, sr_o, sr_io, sr_lk, i_rng, i_enum, i_zip, i_rev, unl_n, unl_c, unl_1, ul_lk, ob_t, ob_f, wp_n, wp_c, rt_n, rt_c, fl_un, fl_d, m_unpT, tupD_t, unp_n, unp_c, range_1, range_2, ext_l, ext_t, app_1, m_pc, m_par, rl_n, rl_d, rl_o, rl_l, rlR_o, sr_n, sto_d, sto_o, List.getElem?_cons_zero, List.getElem?_cons_succ, List.set_cons_zero, List.set_cons_succ, Option.map_some, Option.bind_some, if_true, and_self]; rfl, by
        unfold intN
        simp only [m_vb, bnd_ok, bnd_er, m_vr, m_stuck, m_seq, bS_nx, bS_bk, bS_ct, bS_rt, bS_er, m_if, m_ite, bI_t, bI_f, bI_er, m_and, m_or, m_not, m_bool, evB_b, m_opt, m_optn, m_tru, tru_b, tru_i, tru_n, tru_l, tru_t, m_var, var_d, var_own, var_io, var_lk, var_rd, m_c, st_d, st_o, st_l, oc_l, oc_m, rd_d, rd_o, rd_l, rdR_own, rdR_io, rdR_lk, m_bin, m_un, m_call, m_rdn, m_rdc, m_cons, m_conss, m_tup, m_lst, dts_n, dts_c, o_map, o_bind, add_i, sub_i, mul_i, mod_i, fdiv_i, pow_i, neg_i, iadd_i, abs_i, int_i, int_b, len_l, len_t, add_l, add_t, lt_i, le_i, gt_i, ge_i, eq_i, ne_i, eqF_i, neF_i, tuple_l, tuple_t, list_l, list_t, ix_l, ix_t, m_ret, m_drop, m_nx, m_asg, m_nox, nx_ok, set_d, set_o, setD_, wr_un, wr_d, wr_o, wr_rd, m_aug, m_asgD, evD_d, evD_o, m_frzn, m_frzc, m_frz1, fz_d, fz_un, fz_io, fz_lk, fz_rd, fz_o, m_sub, m_augS, m_app, ap_o, ap_io, m_ct, ct_o, ct_io, m_isl, is_o, is_io, m_mut, m_mutB, m_mut0, intD_i, m_sl, m_pn, m_ps, rs_d, rs_l, rsR_rd, rsR_o, rsR_io, sl_l, sl_t, arg_n, arg_c, arg_d, arg_l, ar_o, ar_io, ar_lk, ar_rd, put_n, put_d, put_io, m_put, pt_o, pt_io, i_seq, src_l, src_t, src_o, src_n, sr_o, sr_io, sr_lk, i_rng, i_enum, i_zip, i_rev, unl_n, unl_c, unl_1, ul_lk, ob_t, ob_f, wp_n, wp_c, rt_n, rt_c, fl_un, fl_d, m_unpT, tupD_t, unp_n, unp_c, range_1, range_2, ext_l, ext_t, app_1, m_pc, m_par, rl_n, rl_d, rl_o, rl_l, rlR_o, sr_n, sto_d, sto_o, List.getElem?_cons_zero, List.getElem?_cons_succ, List.set_cons_zero, List.set_cons_succ, Option.map_some, Option.bind_some, if_true, and_self]
        congr 3
        exact propext ⟨Int.ofNat.inj, fun h => by rw [h]⟩, fun _ => ⟨rfl, rfl⟩, fun _ => ⟨.d (intN w), [.d yard, .d (.int p), .lk (.l (cs.map comD)), .io (.l pl), o, .d (intN k), .d (intN w), .d (intN (cs.getD w 0)), .d (.int 0), .un], by simp only [m_vb, bnd_ok, bnd_er, m_vr, m_stuck, m_seq, bS_nx, bS_bk, bS_ct, bS_rt, bS_er, m_if, m_ite, bI_t, bI_f, bI_er, m_and, m_or, m_not, m_bool, evB_b, m_opt, m_optn, m_tru, tru_b, tru_i, tru_n, tru_l, tru_t, m_var, var_d, var_own, var_io, var_lk, var_rd, m_c, st_d, st_o, st_l, oc_l, oc_m, rd_d, rd_o, rd_l, rdR_own, rdR_io, rdR_lk, m_bin, m_un, m_call, m_rdn, m_rdc, m_cons, m_conss, m_tup, m_lst, dts_n, dts_c, o_map, o_bind, add_i, sub_i, mul_i, mod_i, fdiv_i, pow_i, neg_i, iadd_i, abs_i, int_i, int_b, len_l, len_t, add_l, add_t, lt_i, le_i, gt_i, ge_i, eq_i, ne_i, eqF_i, neF_i, tuple_l, tuple_t, list_l, list_t, ix_l, ix_t, m_ret, m_drop, m_nx, m_asg, m_nox, nx_ok, set_d, set_o, setD_, wr_un, wr_d, wr_o, wr_rd, m_aug, m_asgD, evD_d, evD_o, m_frzn, m_frzc, m_frz1, fz_d, fz_un, fz_io, fz_lk, fz_rd, fz_o, m_sub, m_augS, m_app, ap_o, ap_io, m_ct, ct_o, ct_io, m_isl, is_o, is_io, m_mut, m_mutB, m_mut0, intD_i, m_sl, m_pn, m_ps, rs_d, rs_l, rsR_rd, rsR_o, rsR_io, sl_l, sl_t, arg_n, arg_c, arg_d, arg_l, ar_o, ar_io, ar_lk, ar_rd, put_n, put_d, put_io, m_put, pt_o, pt_io, i_seq, src_l, src_t, src_o, src_n, sr_o, sr_io, sr_lk, i_rng, i_enum, i_zip, i_rev, unl_n, unl_c, unl_1, ul_lk, ob_t, ob_f, wp_n, wp_c, rt_n, rt_c, fl_un, fl_d, m_unpT, tupD_t, unp_n, unp_c, range_1, range_2, ext_l, ext_t, app_1, m_pc, m_par, rl_n, rl_d, rl_o, rl_l, rlR_o, sr_n, sto_d, sto_o, List.getElem?_cons_zero, List.getElem?_cons_succ, List.set_cons_zero, List.set_cons_succ, Option.map_some, Option.bind_some, if_true, and_self], rfl, rfl, rfl⟩⟩) (by
      rw [List.length_map]
      have : (newP cs k).length ≤ (List.range cs.length).length := List.length_filter_le _ _
      rw [List.length_range] at this
      omega)
  rw [this]
  simp only [m_vb, bnd_ok, bnd_er, m_vr, m_stuck, m_seq, bS_nx, bS_bk, bS_ct, bS_rt, bS_er, m_if, m_ite, bI_t, bI_f, bI_er, m_and, m_or, m_not, m_bool, evB_b, m_opt, m_optn, m_tru, tru_b, tru_i, tru_n, tru_l, tru_t, m_var, var_d, var_own, var_io, var_lk, var_rd, m_c, st_d, st_o, st_l, oc_l, oc_m, rd_d, rd_o, rd_l, rdR_own, rdR_io, rdR_lk, m_bin, m_un, m_call, m_rdn, m_rdc, m_cons, m_conss, m_tup, m_lst, dts_n, dts_c, o_map, o_bind, add_i, sub_i, mul_i, mod_i, fdiv_i, pow_i, neg_i, iadd_i, abs_i, int_i, int_b, len_l, len_t, add_l, add_t, lt_i, le_i, gt_i, ge_i, eq_i, ne_i, eqF_i, neF_i, tuple_l, tuple_t, list_l, list_t, ix_l, ix_t, m_ret, m_drop, m_nx, m_asg, m_nox, nx_ok, set_d, set_o, setD_, wr_un, wr_d, wr_o, wr_rd, m_aug, m_asgD, evD_d, evD_o, m_frzn, m_frzc, m_frz1, fz_d, fz_un, fz_io, fz_lk, fz_rd, fz_o, m_sub, m_augS, m_app, ap_o, ap_io, m_ct, ct_o, ct_io, m_isl, is_o, is_io, m_mut, m_mutB, m_mut0, intD_i, m_sl, m_pn, m_ps, rs_d, rs_l, rsR_rd, rsR_o, rsR_io, sl_l, sl_t, arg_n, arg_c, arg_d, arg_l, ar_o, ar_io, ar_lk, ar_rd, put_n, put_d, put_io, m_put, pt_o, pt_io, i_seq, src_l, src_t, src_o, src_n, sr_o, sr_io, sr_lk, i_rng, i_enum, i_zip, i_rev, unl_n, unl_c, unl_1, ul_lk, ob_t, ob_f, wp_n, wp_c, rt_n, rt_c, fl_un, fl_d, m_unpT, tupD_t, unp_n, unp_c, range_1, range_2, ext_l, ext_t, app_1, m_pc, m_par, rl_n, rl_d, rl_o, rl_l, rlR_o, sr_n, sto_d, sto_o, List.getElem?_cons_zero, List.getElem?_cons_succ, List.set_cons_zero, List.set_cons_succ, Option.map_some, Option.bind_some, if_true, and_self, Option.getD_some]
theorem newP_len (cs : List Nat) (k : Nat) : (newP cs k).length ≤ cs.length := by
  have : (newP cs k).length ≤ (List.range cs.length).length := List.length_filter_le _ _
  rwa [List.length_range] at this
/-- the digits of a pass -/
theorem dig_lc {yard : Da} {p : Nat} {cl : List Da} {plan : List (List Int)} {k : Nat} {o : Da} (hk : k < p) (hl : plan.length ≤ 16000000) :
    vLcF [9] (vItSeq (vVar 3)) (vSetD 9) (vr true) (vIte (VL.vBool (vBin gtD (vCall lenD (vCons (vVar 9) (vr []))) (vBin subD (vBin subD (vVar 1) (vC (.int 1))) (vVar 5)))) (vBin ixD (vVar 9) (vBin subD (vBin subD (vVar 1) (vC (.int 1))) (vVar 5))) (vC (.int 0)))
      [.d yard, .d (.int p), .io (.l cl), .io (.l (plan.map tupI)), .d o, .d (intN k), .un, .un, .un, .un] = .ok (.own (.l ((plan.map (digP p k)).map PyData.int)), [.d yard, .d (.int p), .io (.l cl), .io (.l (plan.map tupI)), .d o, .d (intN k), .un, .un, .un, .un]) := by
  have pk : (p : Int) - 1 - Int.ofNat k = Int.ofNat (p - 1 - k) := by show (p : Int) - 1 - (k : Int) = ((p - 1 - k : Nat) : Int); omega
  have := lcF_of (ix := [9]) (gt := vSetD 9) (tt := vr true) (te := vIte (VL.vBool (vBin gtD (vCall lenD (vCons (vVar 9) (vr []))) (vBin subD (vBin subD (vVar 1) (vC (.int 1))) (vVar 5)))) (vBin ixD (vVar 9) (vBin subD (vBin subD (vVar 1) (vC (.int 1))) (vVar 5))) (vC (.int 0))) (fi := vItSeq (vVar 3)) (xs := plan.map tupI) (L := [(3, true)])
    (s := [.d yard, .d (.int p), .io (.l cl), .io (.l (plan.map tupI)), .d o, .d (intN k), .un, .un, .un, .un])
    (s1 := [.d yard, .d (.int p), .io (.l cl), .lk (.l (plan.map tupI)), .d o, .d (intN k), .un, .un, .un, .un]) (s2 := [.d yard, .d (.int p), .io (.l cl), .lk (.l (plan.map tupI)), .d o, .d (intN k), .un, .un, .un, .un]) (by simp only [m_vb, bnd_ok, bnd_er, m_vr, m_stuck, m_seq, bS_nx, bS_bk, bS_ct, bS_rt, bS_er, m_if, m_ite, bI_t, bI_f, bI_er, m_and, m_or, m_not, m_bool, evB_b, m_opt, m_optn, m_tru, tru_b, tru_i, tru_n, tru_l, tru_t, m_var, var_d, var_own, var_io, var_lk, var_rd, m_c, st_d, st_o, st_l, oc_l, oc_m, rd_d, rd_o, rd_l, rdR_own, rdR_io, rdR_lk, m_bin, m_un, m_call, m_rdn, m_rdc, m_cons, m_conss, m_tup, m_lst, dts_n, dts_c, o_map, o_bind, add_i, sub_i, mul_i, mod_i, fdiv_i, pow_i, neg_i, iadd_i, abs_i, int_i, int_b, len_l, len_t, add_l, add_t, lt_i, le_i, gt_i, ge_i, eq_i, ne_i, eqF_i, neF_i, tuple_l, tuple_t, list_l, list_t, ix_l, ix_t, m_ret, m_drop, m_nx, m_asg, m_nox, nx_ok, set_d, set_o, setD_, wr_un, wr_d, wr_o, wr_rd, m_aug, m_asgD, evD_d, evD_o, m_frzn, m_frzc, m_frz1, fz_d, fz_un, fz_io, fz_lk, fz_rd, fz_o, m_sub, m_augS, m_app, ap_o, ap_io, m_ct, ct_o, ct_io, m_isl, is_o, is_io, m_mut, m_mutB, m_mut0, intD_i, m_sl, m_pn, m_ps, rs_d, rs_l, rsR_rd, rsR_o, rsR_io, sl_l, sl_t, arg_n, arg_c, arg_d, arg_l, ar_o, ar_io, ar_lk, ar_rd, put_n, put_d, put_io, m_put, pt_o, pt_io, i_seq, src_l, src_t, src_o, src_n, sr_o, sr_io, sr_lk, i_rng, i_enum, i_zip, i_rev, unl_n, unl_c, unl_1, ul_lk, ob_t, ob_f, wp_n, wp_c, rt_n, rt_c, fl_un, fl_d, m_unpT, tupD_t, unp_n, unp_c, range_1, range_2, ext_l, ext_t, app_1, m_pc, m_par, rl_n, rl_d, rl_o, rl_l, rlR_o, sr_n, sto_d, sto_o, List.getElem?_cons_zero, List.getElem?_cons_succ, List.set_cons_zero, List.set_cons_succ, Option.map_some, Option.bind_some, if_true, and_self]) rfl
    (lcG_pure (p := fun _ => true) (h := fun c => PyData.int (digP p k c)) plan fun c _ => ⟨[.d yard, .d (.int p), .io (.l cl), .lk (.l (plan.map tupI)), .d o, .d (intN k), .un, .un, .un, .d (tupI c)], [.d yard, .d (.int p), .io (.l cl), .lk (.l (plan.map tupI)), .d o, .d (intN k), .un, .un, .un, .d (tupI c)], by
      show vSetD 9 (tupI c) [.d yard, .d (.int p), .io (.l cl), .lk (.l (plan.map tupI)), .d o, .d (intN k), .un, .un, .un, .un] = _
      simp only [m_vb, bnd_ok, bnd_er, m_vr, m_stuck, m_seq, bS_nx, bS_bk, bS_ct, bS_rt, bS_er, m_if, m_ite, bI_t, bI_f, bI_er, m_and, m_or, m_not, m_bool, evB_b, m_opt, m_optn, m_tru, tru_b, tru_i, tru_n, tru_l, tru_t, m_var, var_d, var_own, var_io, var_lk, var_rd, m_c, st_d, st_o, st_l, oc_l, oc_m, rd_d, rd_o, rd_l, rdR_own, rdR_io, rdR_lk, m_bin, m_un, m_call, m_rdn, m_rdc, m_cons, m_conss, m_tup, m_lst, dts_n, dts_c, o_map, o_bind, add_i, sub_i, mul_i, mod_i, fdiv_i, pow_i, neg_i, iadd_i, abs_i, int_i, int_b, len_l, len_t, add_l, add_t, lt_i, le_i, gt_i, ge_i, eq_i, ne_i, eqF_i, neF_i, tuple_l, tuple_t, list_l, list_t, ix_l, ix_t, m_ret, m_drop, m_nx, m_asg, m_nox, nx_ok, set_d, set_o, setD_, wr_un, wr_d, wr_o, wr_rd, m_aug, m_asgD, evD_d, evD_o, m_frzn, m_frzc, m_frz1, fz_d, fz_un, fz_io, fz_lk, fz_rd, fz_o, m_sub, m_augS, m_app, ap_o, ap_io, m_ct, ct_o, ct_io, m_isl, is_o, is_io, m_mut, m_mutB, m_mut0, intD_i, m_sl, m_pn, m_ps, rs_d, rs_l, rsR_rd, rsR_o, rsR_io, sl_l, sl_t, arg_n, arg_c, arg_d, arg_l, ar_o, ar_io, ar_lk, ar_rd, put_n, put_d, put_io, m_put, pt_o, pt_io, i_seq, src_l, src_t, src_o, src_n, sr_o, sr_io, sr_lk, i_rng, i_enum, i_zip, i_rev, unl_n, unl_c, unl_1, ul_lk, ob_t, ob_f, wp_n, wp_c, rt_n, rt_c, fl_un, fl_d, m_unpT, tupD_t, unp_n, unp_c, range_1, range_2, ext_l, ext_t, app_1, m_pc, m_par, rl_n, rl_d, rl_o, rl_l, rlR_o, sr_n, sto_d, sto_o, List.getElem?_cons_zero, List.getElem?_cons_succ, List.set_cons_zero, List.set_cons_succ, Option.map_some, Option.bind_some, if_true, and_self], rfl, fun h => absurd h (by decide), fun _ => ⟨.d (.int (digP p k c)), [.d yard, .d (.int p), .io (.l cl), .lk (.l (plan.map tupI)), .d o, .d (intN k), .un, .un, .un, .d (tupI c)], by
        unfold intN tupI digP
        by_cases hc : p - 1 - k < c.length
        · have h1 : Int.ofNat (p - 1 - k) < ((c.map PyData.int).length : Int) := by rw [List.length_map]; exact Int.ofNat_lt.mpr hc
          simp only [m_vb, bnd_ok, bnd_er, m_vr, m_stuck, m_seq, bS_nx, bS_bk, bS_ct, bS_rt, bS_er, m_if, m_ite, bI_t, bI_f, bI_er, m_and, m_or, m_not, m_bool, evB_b, m_opt, m_optn, m_tru, tru_b, tru_i, tru_n, tru_l, tru_t, m_var, var_d, var_own, var_io, var_lk, var_rd, m_c, st_d, st_o, st_l, oc_l, oc_m, rd_d, rd_o, rd_l, rdR_own, rdR_io, rdR_lk, m_bin, m_un, m_call, m_rdn, m_rdc, m_cons, m_conss, m_tup, m_lst, dts_n, dts_c, o_map, o_bind, add_i, sub_i, mul_i, mod_i, fdiv_i, pow_i, neg_i, iadd_i, abs_i, int_i, int_b, len_l, len_t, add_l, add_t, lt_i, le_i, gt_i, ge_i, eq_i, ne_i, eqF_i, neF_i, tuple_l, tuple_t, list_l, list_t, ix_l, ix_t, m_ret, m_drop, m_nx, m_asg, m_nox, nx_ok, set_d, set_o, setD_, wr_un, wr_d, wr_o, wr_rd, m_aug, m_asgD, evD_d, evD_o, m_frzn, m_frzc, m_frz1, fz_d, fz_un, fz_io, fz_lk, fz_rd, fz_o, m_sub, m_augS, m_app, ap_o, ap_io, m_ct, ct_o, ct_io, m_isl, is_o, is_io, m_mut, m_mutB, m_mut0, intD_i, m_sl, m_pn, m_ps, rs_d, rs_l, rsR_rd, rsR_o, rsR_io, sl_l, sl_t, arg_n, arg_c, arg_d, arg_l, ar_o, ar_io, ar_lk, ar_rd, put_n, put_d, put_io, m_put, pt_o, pt_io, i_seq, src_l, src_t, src_o, src_n, sr_o, sr_io, sr_lk, i_rng, i_enum, i_zip, i_rev, unl_n, unl_c, unl_1, ul_lk, ob_t, ob_f, wp_n, wp_c, rt_n, rt_c, fl_un, fl_d, m_unpT, tupD_t, unp_n, unp_c, range_1, range_2, ext_l, ext_t, app_1, m_pc, m_par, rl_n, rl_d, rl_o, rl_l, rlR_o, sr_n, sto_d, sto_o, List.getElem?_cons_zero, List.getElem?_cons_succ, List.set_cons_zero, List.set_cons_succ, Option.map_some, Option.bind_some, if_true, and_self, pk, h1, decide_true, at_get hc, hc]
        · have h1 : ¬ Int.ofNat (p - 1 - k) < ((c.map PyData.int).length : Int) := by rw [List.length_map]; exact fun h => hc (Int.ofNat_lt.mp h)
          simp only [m_vb, bnd_ok, bnd_er, m_vr, m_stuck, m_seq, bS_nx, bS_bk, bS_ct, bS_rt, bS_er, m_if, m_ite, bI_t, bI_f, bI_er, m_and, m_or, m_not, m_bool, evB_b, m_opt, m_optn, m_tru, tru_b, tru_i, tru_n, tru_l, tru_t, m_var, var_d, var_own, var_io, var_lk, var_rd, m_c, st_d, st_o, st_l, oc_l, oc_m, rd_d, rd_o, rd_l, rdR_own, rdR_io, rdR_lk, m_bin, m_un, m_call, m_rdn, m_rdc, m_cons, m_conss, m_tup, m_lst, dts_n, dts_c, o_map, o_bind, add_i, sub_i, mul_i, mod_i, fdiv_i, pow_i, neg_i, iadd_i, abs_i, int_i, int_b, len_l, len_t, add_l, add_t, lt_i, le_i, gt_i, ge_i, eq_i, ne_i, eqF_i, neF_i, tuple_l, tuple_t, list_l, list_t, ix_l, ix_t, m_ret, m_drop, m_nx, m_asg, m_nox, nx_ok, set_d, set_o, setD_, wr_un, wr_d, wr_o, wr_rd, m_aug, m_asgD, evD_d, evD_o, m_frzn, m_frzc, m_frz1, fz_d, fz_un, fz_io, fz_lk, fz_rd, fz_o, m_sub, m_augS, m_app, ap_o, ap_io, m_ct, ct_o, ct_io, m_isl, is_o, is_io, m_mut, m_mutB, m_mut0, intD_i, m_sl, m_pn, m_ps, rs_d, rs_l, rsR_rd, rsR_o, rsR_io, sl_l, sl_t, arg_n, arg_c, arg_d, arg_l, ar_o, ar_io, ar_lk, ar_rd, put_n, put_d, put_io, m_put, pt_o, pt_io, i_seq, src_l, src_t, src_o, src_n, sr_o, sr_io, sr_lk, i_rng, i_enum, i_zip, i_rev, unl_n, unl_c, unl_1, ul_lk, ob_t, ob_f, wp_n, wp_c, rt_n, rt_c, fl_un, fl_d, m_unpT, tupD_t, unp_n, unp_c, range_1, range_2, ext_l, ext_t, app_1, m_pc, m_par, rl_n, rl_d, rl_o, rl_l, rlR_o, sr_n, sto_d, sto_o, List.getElem?_cons_zero, List.getElem?_cons_succ, List.set_cons_zero, List.set_cons_succ, Option.map_some, Option.bind_some, if_true, and_self, pk, h1, decide_false, hc, if_false], rfl, rfl, rfl⟩⟩) (by
      rw [List.length_map]
      have := List.length_filter_le (fun _ => true) plan
      omega)
  rw [List.filter_eq_self.mpr (by simp)] at this
  rw [this, List.map_map]
  simp only [m_vb, bnd_ok, bnd_er, m_vr, m_stuck, m_seq, bS_nx, bS_bk, bS_ct, bS_rt, bS_er, m_if, m_ite, bI_t, bI_f, bI_er, m_and, m_or, m_not, m_bool, evB_b, m_opt, m_optn, m_tru, tru_b, tru_i, tru_n, tru_l, tru_t, m_var, var_d, var_own, var_io, var_lk, var_rd, m_c, st_d, st_o, st_l, oc_l, oc_m, rd_d, rd_o, rd_l, rdR_own, rdR_io, rdR_lk, m_bin, m_un, m_call, m_rdn, m_rdc, m_cons, m_conss, m_tup, m_lst, dts_n, dts_c, o_map, o_bind, add_i, sub_i, mul_i, mod_i, fdiv_i, pow_i, neg_i, iadd_i, abs_i, int_i, int_b, len_l, len_t, add_l, add_t, lt_i, le_i, gt_i, ge_i, eq_i, ne_i, eqF_i, neF_i, tuple_l, tuple_t, list_l, list_t, ix_l, ix_t, m_ret, m_drop, m_nx, m_asg, m_nox, nx_ok, set_d, set_o, setD_, wr_un, wr_d, wr_o, wr_rd, m_aug, m_asgD, evD_d, evD_o, m_frzn, m_frzc, m_frz1, fz_d, fz_un, fz_io, fz_lk, fz_rd, fz_o, m_sub, m_augS, m_app, ap_o, ap_io, m_ct, ct_o, ct_io, m_isl, is_o, is_io, m_mut, m_mutB, m_mut0, intD_i, m_sl, m_pn, m_ps, rs_d, rs_l, rsR_rd, rsR_o, rsR_io, sl_l, sl_t, arg_n, arg_c, arg_d, arg_l, ar_o, ar_io, ar_lk, ar_rd, put_n, put_d, put_io, m_put, pt_o, pt_io, i_seq, src_l, src_t, src_o, src_n, sr_o, sr_io, sr_lk, i_rng, i_enum, i_zip, i_rev, unl_n, unl_c, unl_1, ul_lk, ob_t, ob_f, wp_n, wp_c, rt_n, rt_c, fl_un, fl_d, m_unpT, tupD_t, unp_n, unp_c, range_1, range_2, ext_l, ext_t, app_1, m_pc, m_par, rl_n, rl_d, rl_o, rl_l, rlR_o, sr_n, sto_d, sto_o, List.getElem?_cons_zero, List.getElem?_cons_succ, List.set_cons_zero, List.set_cons_succ, Option.map_some, Option.bind_some, if_true, and_self, Option.getD_some]
  rfl
theorem rs1 {p : Nat} : ((p : Int) + 1).toNat = p + 1 := by omega
theorem rs2 {p : Nat} (hr : (-1000000000 : Int) ≤ (p : Int) + 1 ∧ (p : Int) + 1 ≤ 1000000000) : rangeD [.int ((p : Int) + 1)] = some (rngD 0 ((p : Int) + 1).toNat 1) := by rw [range_1, if_pos hr]
theorem rs3 {s : VS} {p i : Nat} (h : s[i]? = some (.d (.int p))) : (vCons (vBin addD (vVar i) (vC (.int 1))) (vr [])) s = .ok ([.d (.int ((p : Int) + 1))], s) := by
  rw [m_cons, m_bin, m_var, h]
  simp only [var_d, bnd_ok, m_vb, m_c, st_d, rd_d, add_i, m_opt, m_vr]
theorem rng_succ {s : VS} {p i : Nat} (h : s[i]? = some (.d (.int p))) (hr : (-1000000000 : Int) ≤ (p : Int) + 1 ∧ (p : Int) + 1 ≤ 1000000000) : vItRng (vCons (vBin addD (vVar i) (vC (.int 1))) (vr [])) s = .ok ((rngD 0 ((p : Int) + 1).toNat 1, []), s) := by
  rw [i_rng, rs3 h, bnd_ok, m_vb, m_rdc, rd_d, bnd_ok, m_vb, m_rdn, bnd_ok, m_vr, bnd_ok, m_vb, rs2 hr, m_opt, bnd_ok, m_vr]
theorem late_ok {yard : List Int} {p : Nat} {cs : List Nat} {plan : List (List Int)} (hp : p ≤ 1000000) (hy : yard.length ≤ 1000000) (hc : cs.length ≤ 16000000) (hpl : plan.length = cs.length)
    (hb : ∀ k ≤ p, yard.length * (lateP yard p cs plan k ++ newP cs k).length ≤ 16000000 ∧ (lateP yard p cs plan k ++ newP cs k).length ≤ 16000000) :
    F__law_late_order [.d (tupI yard), .d (.int p), .io (.l (cs.map comD)), .io (.l (plan.map tupI))] = .ok (.d (.list ((lateP yard p cs plan (p + 1)).map intN)), [.d (tupI yard), .d (.int p), .io (.l (cs.map comD)), .io (.l (plan.map tupI))]) := by
  have hr : (-1000000000 : Int) ≤ (p : Int) + 1 ∧ (p : Int) + 1 ≤ 1000000000 := by omega
  have loop : ∃ s', law_late_order_s2 [.d (tupI yard), .d (.int p), .io (.l (cs.map comD)), .io (.l (plan.map tupI)), .own (.l []), .un, .un, .un, .un, .un] = .ok (.nx, s') ∧ ∃ x5 : SV, s' = [.d (tupI yard), .d (.int p), .io (.l (cs.map comD)), .io (.l (plan.map tupI)), .own (.l ((lateP yard p cs plan (p + 1)).map intN)), x5, .un, .un, .un, .un] ∨ s' = [.d (tupI yard), .d (.int p), .io (.l (cs.map comD)), .io (.l (plan.map tupI)), .d (.list ((lateP yard p cs plan (p + 1)).map intN)), x5, .un, .un, .un, .un] := by
    unfold law_late_order_s2
    refine (for_inv (L := []) (xs := rngD 0 (p + 1) 1) (s1 := [.d (tupI yard), .d (.int p), .io (.l (cs.map comD)), .io (.l (plan.map tupI)), .own (.l []), .un, .un, .un, .un, .un])
      (fun xs s => ∃ (k : Nat) (x4 x5 : SV), k ≤ p + 1 ∧ xs = (List.range' k (p + 1 - k)).map intN ∧ (x4 = .own (.l ((lateP yard p cs plan k).map intN)) ∨ x4 = .d (.list ((lateP yard p cs plan k).map intN))) ∧ wrOk (some x5) = true ∧ s = [.d (tupI yard), .d (.int p), .io (.l (cs.map comD)), .io (.l (plan.map tupI)), x4, x5, .un, .un, .un, .un]) ?_ ?_ ⟨0, _, .un, Nat.zero_le _, ?_, .inl rfl, rfl, rfl⟩).imp fun s' ⟨h1, h2⟩ => ⟨h1, ?_⟩
    · rintro x xs s ⟨k, x4, x5, hk, e1, h4, h5, rfl⟩
      have hkp : k ≤ p := by
        by_cases h : k ≤ p
        · exact h
        · have : p + 1 - k = 0 := by omega
          rw [this] at e1; cases e1
      have e2 : p + 1 - k = (p + 1 - (k + 1)) + 1 := by omega
      rw [e2, List.range'_succ, List.map_cons] at e1
      cases e1
      obtain ⟨hb1, hb2⟩ := hb k hkp
      have l1 : ((lateP yard p cs plan k).map intN).length + ((newP cs k).map intN).length ≤ 16777216 := by rw [List.length_map, List.length_map, ← List.length_append]; omega
      have st1 : (vFrz [4, 5] (vAsg (vBin addD (vVar 4) (vLcF [6, 7, 8] (vItEnum (vCons (vVar 2) (vr []))) (vUnpT [vSetD 6, vUnpT [vSetD 7, vSetD 8]]) (VL.vBool (vBin eqF (vVar 7) (vVar 5))) (vVar 6))) (vSet 4))) [.d (tupI yard), .d (.int p), .io (.l (cs.map comD)), .io (.l (plan.map tupI)), x4, .d (intN k), .un, .un, .un, .un]
          = .ok (.nx, [.d (tupI yard), .d (.int p), .io (.l (cs.map comD)), .io (.l (plan.map tupI)), .own (.l ((lateP yard p cs plan k ++ newP cs k).map intN)), .d (intN k), .un, .un, .un, .un]) := by
        rcases h4 with rfl | rfl
        · simp only [m_vb, bnd_ok, bnd_er, m_vr, m_stuck, m_seq, bS_nx, bS_bk, bS_ct, bS_rt, bS_er, m_if, m_ite, bI_t, bI_f, bI_er, m_and, m_or, m_not, m_bool, evB_b, m_opt, m_optn, m_tru, tru_b, tru_i, tru_n, tru_l, tru_t, m_var, var_d, var_own, var_io, var_lk, var_rd, m_c, st_d, st_o, st_l, oc_l, oc_m, rd_d, rd_o, rd_l, rdR_own, rdR_io, rdR_lk, m_bin, m_un, m_call, m_rdn, m_rdc, m_cons, m_conss, m_tup, m_lst, dts_n, dts_c, o_map, o_bind, add_i, sub_i, mul_i, mod_i, fdiv_i, pow_i, neg_i, iadd_i, abs_i, int_i, int_b, len_l, len_t, add_l, add_t, lt_i, le_i, gt_i, ge_i, eq_i, ne_i, eqF_i, neF_i, tuple_l, tuple_t, list_l, list_t, ix_l, ix_t, m_ret, m_drop, m_nx, m_asg, m_nox, nx_ok, set_d, set_o, setD_, wr_un, wr_d, wr_o, wr_rd, m_aug, m_asgD, evD_d, evD_o, m_frzn, m_frzc, m_frz1, fz_d, fz_un, fz_io, fz_lk, fz_rd, fz_o, m_sub, m_augS, m_app, ap_o, ap_io, m_ct, ct_o, ct_io, m_isl, is_o, is_io, m_mut, m_mutB, m_mut0, intD_i, m_sl, m_pn, m_ps, rs_d, rs_l, rsR_rd, rsR_o, rsR_io, sl_l, sl_t, arg_n, arg_c, arg_d, arg_l, ar_o, ar_io, ar_lk, ar_rd, put_n, put_d, put_io, m_put, pt_o, pt_io, i_seq, src_l, src_t, src_o, src_n, sr_o, sr_io, sr_lk, i_rng, i_enum, i_zip, i_rev, unl_n, unl_c, unl_1, ul_lk, ob_t, ob_f, wp_n, wp_c, rt_n, rt_c, fl_un, fl_d, m_unpT, tupD_t, unp_n, unp_c, range_1, range_2, ext_l, ext_t, app_1, m_pc, m_par, rl_n, rl_d, rl_o, rl_l, rlR_o, sr_n, sto_d, sto_o, List.getElem?_cons_zero, List.getElem?_cons_succ, List.set_cons_zero, List.set_cons_succ, Option.map_some, Option.bind_some, if_true, and_self, new_lc hc, l1, List.map_append]
        · simp only [m_vb, bnd_ok, bnd_er, m_vr, m_stuck, m_seq, bS_nx, bS_bk, bS_ct, bS_rt, bS_er, m_if, m_ite, bI_t, bI_f, bI_er, m_and, m_or, m_not, m_bool, evB_b, m_opt, m_optn, m_tru, tru_b, tru_i, tru_n, tru_l, tru_t, m_var, var_d, var_own, var_io, var_lk, var_rd, m_c, st_d, st_o, st_l, oc_l, oc_m, rd_d, rd_o, rd_l, rdR_own, rdR_io, rdR_lk, m_bin, m_un, m_call, m_rdn, m_rdc, m_cons, m_conss, m_tup, m_lst, dts_n, dts_c, o_map, o_bind, add_i, sub_i, mul_i, mod_i, fdiv_i, pow_i, neg_i, iadd_i, abs_i, int_i, int_b, len_l, len_t, add_l, add_t, lt_i, le_i, gt_i, ge_i, eq_i, ne_i, eqF_i, neF_i, tuple_l, tuple_t, list_l, list_t, ix_l, ix_t, m_ret, m_drop, m_nx, m_asg, m_nox, nx_ok, set_d, set_o, setD_, wr_un, wr_d, wr_o, wr_rd, m_aug, m_asgD, evD_d, evD_o, m_frzn, m_frzc, m_frz1, fz_d, fz_un, fz_io, fz_lk, fz_rd, fz_o, m_sub, m_augS, m_app, ap_o, ap_io, m_ct, ct_o, ct_io, m_isl, is_o, is_io, m_mut, m_mutB, m_mut0, intD_i, m_sl, m_pn, m_ps, rs_d, rs_l, rsR_rd, rsR_o, rsR_io, sl_l, sl_t, arg_n, arg_c, arg_d, arg_l, ar_o, ar_io, ar_lk, ar_rd, put_n, put_d, put_io, m_put, pt_o, pt_io, i_seq, src_l, src_t, src_o, src_n, sr_o, sr_io, sr_lk, i_rng, i_enum, i_zip, i_rev, unl_n, unl_c, unl_1, ul_lk, ob_t, ob_f, wp_n, wp_c, rt_n, rt_c, fl_un, fl_d, m_unpT, tupD_t, unp_n, unp_c, range_1, range_2, ext_l, ext_t, app_1, m_pc, m_par, rl_n, rl_d, rl_o, rl_l, rlR_o, sr_n, sto_d, sto_o, List.getElem?_cons_zero, List.getElem?_cons_succ, List.set_cons_zero, List.set_cons_succ, Option.map_some, Option.bind_some, if_true, and_self, new_lc hc, l1, List.map_append]
      by_cases hlt : k < p
      · have hi : Int.ofNat k < (p : Int) := Int.ofNat_lt.mpr hlt
        have pa := fun s => pass_at (ks := yard) (o := .list ((lateP yard p cs plan k ++ newP cs k).map intN)) (r := .list ((plan.map (digP p k)).map PyData.int)) (s := s) hy rfl rfl (fun w hw => by
          rw [List.length_map, hpl]
          rcases List.mem_append.mp hw with hw | hw
          · exact lateP_lt hw
          · exact List.mem_range.mp (List.mem_filter.mp hw).1) hb1 hb2
        have el : lateP yard p cs plan (k + 1) = passP (lateP yard p cs plan k ++ newP cs k) (plan.map (digP p k)) 0 yard := by
          show (if k < p then _ else _) = _
          rw [if_pos hlt]
        refine ⟨[.d (tupI yard), .d (.int p), .io (.l (cs.map comD)), .io (.l (plan.map tupI)), x4, .d (intN k), .un, .un, .un, .un], .nx, [.d (tupI yard), .d (.int p), .io (.l (cs.map comD)), .io (.l (plan.map tupI)), .own (.l ((lateP yard p cs plan (k + 1)).map intN)), .d (intN k), .un, .un, .un, .un], ?_, seq_then st1 ?_, .inl rfl, k + 1, _, .d (intN k), by omega, rfl, .inl rfl, rfl, rfl⟩
        · simp only [m_vb, bnd_ok, bnd_er, m_vr, m_stuck, m_seq, bS_nx, bS_bk, bS_ct, bS_rt, bS_er, m_if, m_ite, bI_t, bI_f, bI_er, m_and, m_or, m_not, m_bool, evB_b, m_opt, m_optn, m_tru, tru_b, tru_i, tru_n, tru_l, tru_t, m_var, var_d, var_own, var_io, var_lk, var_rd, m_c, st_d, st_o, st_l, oc_l, oc_m, rd_d, rd_o, rd_l, rdR_own, rdR_io, rdR_lk, m_bin, m_un, m_call, m_rdn, m_rdc, m_cons, m_conss, m_tup, m_lst, dts_n, dts_c, o_map, o_bind, add_i, sub_i, mul_i, mod_i, fdiv_i, pow_i, neg_i, iadd_i, abs_i, int_i, int_b, len_l, len_t, add_l, add_t, lt_i, le_i, gt_i, ge_i, eq_i, ne_i, eqF_i, neF_i, tuple_l, tuple_t, list_l, list_t, ix_l, ix_t, m_ret, m_drop, m_nx, m_asg, m_nox, nx_ok, set_d, set_o, setD_, wr_un, wr_d, wr_o, wr_rd, m_aug, m_asgD, evD_d, evD_o, m_frzn, m_frzc, m_frz1, fz_d, fz_un, fz_io, fz_lk, fz_rd, fz_o, m_sub, m_augS, m_app, ap_o, ap_io, m_ct, ct_o, ct_io, m_isl, is_o, is_io, m_mut, m_mutB, m_mut0, intD_i, m_sl, m_pn, m_ps, rs_d, rs_l, rsR_rd, rsR_o, rsR_io, sl_l, sl_t, arg_n, arg_c, arg_d, arg_l, ar_o, ar_io, ar_lk, ar_rd, put_n, put_d, put_io, m_put, pt_o, pt_io, i_seq, src_l, src_t, src_o, src_n, sr_o, sr_io, sr_lk, i_rng, i_enum, i_zip, i_rev, unl_n, unl_c, unl_1, ul_lk, ob_t, ob_f, wp_n, wp_c, rt_n, rt_c, fl_un, fl_d, m_unpT, tupD_t, unp_n, unp_c, range_1, range_2, ext_l, ext_t, app_1, m_pc, m_par, rl_n, rl_d, rl_o, rl_l, rlR_o, sr_n, sto_d, sto_o, List.getElem?_cons_zero, List.getElem?_cons_succ, List.set_cons_zero, List.set_cons_succ, Option.map_some, Option.bind_some, if_true, and_self, h5]
        · have d := dig_lc (yard := tupI yard) (cl := cs.map comD) (o := .list ((lateP yard p cs plan k ++ newP cs k).map intN)) hlt (plan := plan) (by omega)
          unfold law_late_order_s1
          rw [el]
          unfold intN at d pa ⊢
          simp only [m_vb, bnd_ok, bnd_er, m_vr, m_stuck, m_seq, bS_nx, bS_bk, bS_ct, bS_rt, bS_er, m_if, m_ite, bI_t, bI_f, bI_er, m_and, m_or, m_not, m_bool, evB_b, m_opt, m_optn, m_tru, tru_b, tru_i, tru_n, tru_l, tru_t, m_var, var_d, var_own, var_io, var_lk, var_rd, m_c, st_d, st_o, st_l, oc_l, oc_m, rd_d, rd_o, rd_l, rdR_own, rdR_io, rdR_lk, m_bin, m_un, m_call, m_rdn, m_rdc, m_cons, m_conss, m_tup, m_lst, dts_n, dts_c, o_map, o_bind, add_i, sub_i, mul_i, mod_i, fdiv_i, pow_i, neg_i, iadd_i, abs_i, int_i, int_b, len_l, len_t, add_l, add_t, lt_i, le_i, gt_i, ge_i, eq_i, ne_i, eqF_i, neF_i, tuple_l, tuple_t, list_l, list_t, ix_l, ix_t, m_ret, m_drop, m_nx, m_asg, m_nox, nx_ok, set_d, set_o, setD_, wr_un, wr_d, wr_o, wr_rd, m_aug, m_asgD, evD_d, evD_o, m_frzn, m_frzc, m_frz1, fz_d, fz_un, fz_io, fz_lk, fz_rd, fz_o, m_sub, m_augS, m_app, ap_o, ap_io, m_ct, ct_o, ct_io, m_isl, is_o, is_io, m_mut, m_mutB, m_mut0, intD_i, m_sl, m_pn, m_ps, rs_d, rs_l, rsR_rd, rsR_o, rsR_io, sl_l, sl_t, arg_n, arg_c, arg_d, arg_l, ar_o, ar_io, ar_lk, ar_rd, put_n, put_d, put_io, m_put, pt_o, pt_io, i_seq, src_l, src_t, src_o, src_n, sr_o, sr_io, sr_lk, i_rng, i_enum, i_zip, i_rev, unl_n, unl_c, unl_1, ul_lk, ob_t, ob_f, wp_n, wp_c, rt_n, rt_c, fl_un, fl_d, m_unpT, tupD_t, unp_n, unp_c, range_1, range_2, ext_l, ext_t, app_1, m_pc, m_par, rl_n, rl_d, rl_o, rl_l, rlR_o, sr_n, sto_d, sto_o, List.getElem?_cons_zero, List.getElem?_cons_succ, List.set_cons_zero, List.set_cons_succ, Option.map_some, Option.bind_some, if_true, and_self, hi, decide_true, d, m_callF, pa]
      · have hi : ¬ Int.ofNat k < (p : Int) := fun h => hlt (Int.ofNat_lt.mp h)
        have el : lateP yard p cs plan (k + 1) = lateP yard p cs plan k ++ newP cs k := by
          show (if k < p then _ else _) = _
          rw [if_neg hlt]
        refine ⟨[.d (tupI yard), .d (.int p), .io (.l (cs.map comD)), .io (.l (plan.map tupI)), x4, .d (intN k), .un, .un, .un, .un], .nx, [.d (tupI yard), .d (.int p), .io (.l (cs.map comD)), .io (.l (plan.map tupI)), .own (.l ((lateP yard p cs plan (k + 1)).map intN)), .d (intN k), .un, .un, .un, .un], ?_, seq_then st1 ?_, .inl rfl, k + 1, _, .d (intN k), by omega, rfl, .inl rfl, rfl, rfl⟩
        · simp only [m_vb, bnd_ok, bnd_er, m_vr, m_stuck, m_seq, bS_nx, bS_bk, bS_ct, bS_rt, bS_er, m_if, m_ite, bI_t, bI_f, bI_er, m_and, m_or, m_not, m_bool, evB_b, m_opt, m_optn, m_tru, tru_b, tru_i, tru_n, tru_l, tru_t, m_var, var_d, var_own, var_io, var_lk, var_rd, m_c, st_d, st_o, st_l, oc_l, oc_m, rd_d, rd_o, rd_l, rdR_own, rdR_io, rdR_lk, m_bin, m_un, m_call, m_rdn, m_rdc, m_cons, m_conss, m_tup, m_lst, dts_n, dts_c, o_map, o_bind, add_i, sub_i, mul_i, mod_i, fdiv_i, pow_i, neg_i, iadd_i, abs_i, int_i, int_b, len_l, len_t, add_l, add_t, lt_i, le_i, gt_i, ge_i, eq_i, ne_i, eqF_i, neF_i, tuple_l, tuple_t, list_l, list_t, ix_l, ix_t, m_ret, m_drop, m_nx, m_asg, m_nox, nx_ok, set_d, set_o, setD_, wr_un, wr_d, wr_o, wr_rd, m_aug, m_asgD, evD_d, evD_o, m_frzn, m_frzc, m_frz1, fz_d, fz_un, fz_io, fz_lk, fz_rd, fz_o, m_sub, m_augS, m_app, ap_o, ap_io, m_ct, ct_o, ct_io, m_isl, is_o, is_io, m_mut, m_mutB, m_mut0, intD_i, m_sl, m_pn, m_ps, rs_d, rs_l, rsR_rd, rsR_o, rsR_io, sl_l, sl_t, arg_n, arg_c, arg_d, arg_l, ar_o, ar_io, ar_lk, ar_rd, put_n, put_d, put_io, m_put, pt_o, pt_io, i_seq, src_l, src_t, src_o, src_n, sr_o, sr_io, sr_lk, i_rng, i_enum, i_zip, i_rev, unl_n, unl_c, unl_1, ul_lk, ob_t, ob_f, wp_n, wp_c, rt_n, rt_c, fl_un, fl_d, m_unpT, tupD_t, unp_n, unp_c, range_1, range_2, ext_l, ext_t, app_1, m_pc, m_par, rl_n, rl_d, rl_o, rl_l, rlR_o, sr_n, sto_d, sto_o, List.getElem?_cons_zero, List.getElem?_cons_succ, List.set_cons_zero, List.set_cons_succ, Option.map_some, Option.bind_some, if_true, and_self, h5]
        · unfold law_late_order_s1
          rw [el]
          unfold intN
          simp only [m_vb, bnd_ok, bnd_er, m_vr, m_stuck, m_seq, bS_nx, bS_bk, bS_ct, bS_rt, bS_er, m_if, m_ite, bI_t, bI_f, bI_er, m_and, m_or, m_not, m_bool, evB_b, m_opt, m_optn, m_tru, tru_b, tru_i, tru_n, tru_l, tru_t, m_var, var_d, var_own, var_io, var_lk, var_rd, m_c, st_d, st_o, st_l, oc_l, oc_m, rd_d, rd_o, rd_l, rdR_own, rdR_io, rdR_lk, m_bin, m_un, m_call, m_rdn, m_rdc, m_cons, m_conss, m_tup, m_lst, dts_n, dts_c, o_map, o_bind, add_i, sub_i, mul_i, mod_i, fdiv_i, pow_i, neg_i, iadd_i, abs_i, int_i, int_b, len_l, len_t, add_l, add_t, lt_i, le_i, gt_i, ge_i, eq_i, ne_i, eqF_i, neF_i, tuple_l, tuple_t, list_l, list_t, ix_l, ix_t, m_ret, m_drop, m_nx, m_asg, m_nox, nx_ok, set_d, set_o, setD_, wr_un, wr_d, wr_o, wr_rd, m_aug, m_asgD, evD_d, evD_o, m_frzn, m_frzc, m_frz1, fz_d, fz_un, fz_io, fz_lk, fz_rd, fz_o, m_sub, m_augS, m_app, ap_o, ap_io, m_ct, ct_o, ct_io, m_isl, is_o, is_io, m_mut, m_mutB, m_mut0, intD_i, m_sl, m_pn, m_ps, rs_d, rs_l, rsR_rd, rsR_o, rsR_io, sl_l, sl_t, arg_n, arg_c, arg_d, arg_l, ar_o, ar_io, ar_lk, ar_rd, put_n, put_d, put_io, m_put, pt_o, pt_io, i_seq, src_l, src_t, src_o, src_n, sr_o, sr_io, sr_lk, i_rng, i_enum, i_zip, i_rev, unl_n, unl_c, unl_1, ul_lk, ob_t, ob_f, wp_n, wp_c, rt_n, rt_c, fl_un, fl_d, m_unpT, tupD_t, unp_n, unp_c, range_1, range_2, ext_l, ext_t, app_1, m_pc, m_par, rl_n, rl_d, rl_o, rl_l, rlR_o, sr_n, sto_d, sto_o, List.getElem?_cons_zero, List.getElem?_cons_succ, List.set_cons_zero, List.set_cons_succ, Option.map_some, Option.bind_some, if_true, and_self, hi, decide_false]
    · exact rs1 (p := p) ▸ rng_succ (i := 1) rfl hr
    · rw [rngD_map, List.range_eq_range']; rfl
    · obtain ⟨k, x4, x5, hk, e1, h4, h5, rfl⟩ := h2
      have : k = p + 1 := by
        by_cases h : k = p + 1
        · exact h
        · have e2 : p + 1 - k = (p - k) + 1 := by omega
          rw [e2, List.range'_succ] at e1; cases e1
      subst this
      exact ⟨x5, h4.imp (fun h => by rw [h]) fun h => by rw [h]⟩
  obtain ⟨s', hs, x5, h⟩ := loop
  refine run_ok (c := .rt (.d (.list ((lateP yard p cs plan (p + 1)).map intN)))) (s := [.d (tupI yard), .d (.int p), .io (.l (cs.map comD)), .io (.l (plan.map tupI)), .d (.list ((lateP yard p cs plan (p + 1)).map intN)), x5, .un, .un, .un, .un]) ?_ rfl
  show g__law_late_order [.d (tupI yard), .d (.int p), .io (.l (cs.map comD)), .io (.l (plan.map tupI)), .un, .un, .un, .un, .un, .un] = _
  unfold g__law_late_order
  refine seq_then (s1 := [.d (tupI yard), .d (.int p), .io (.l (cs.map comD)), .io (.l (plan.map tupI)), .own (.l []), .un, .un, .un, .un, .un]) ?_ (seq_then hs ?_)
  · simp only [m_vb, bnd_ok, bnd_er, m_vr, m_stuck, m_seq, bS_nx, bS_bk, bS_ct, bS_rt, bS_er, m_if, m_ite, bI_t, bI_f, bI_er, m_and, m_or, m_not, m_bool, evB_b, m_opt, m_optn, m_tru, tru_b, tru_i, tru_n, tru_l, tru_t, m_var, var_d, var_own, var_io, var_lk, var_rd, m_c, st_d, st_o, st_l, oc_l, oc_m, rd_d, rd_o, rd_l, rdR_own, rdR_io, rdR_lk, m_bin, m_un, m_call, m_rdn, m_rdc, m_cons, m_conss, m_tup, m_lst, dts_n, dts_c, o_map, o_bind, add_i, sub_i, mul_i, mod_i, fdiv_i, pow_i, neg_i, iadd_i, abs_i, int_i, int_b, len_l, len_t, add_l, add_t, lt_i, le_i, gt_i, ge_i, eq_i, ne_i, eqF_i, neF_i, tuple_l, tuple_t, list_l, list_t, ix_l, ix_t, m_ret, m_drop, m_nx, m_asg, m_nox, nx_ok, set_d, set_o, setD_, wr_un, wr_d, wr_o, wr_rd, m_aug, m_asgD, evD_d, evD_o, m_frzn, m_frzc, m_frz1, fz_d, fz_un, fz_io, fz_lk, fz_rd, fz_o, m_sub, m_augS, m_app, ap_o, ap_io, m_ct, ct_o, ct_io, m_isl, is_o, is_io, m_mut, m_mutB, m_mut0, intD_i, m_sl, m_pn, m_ps, rs_d, rs_l, rsR_rd, rsR_o, rsR_io, sl_l, sl_t, arg_n, arg_c, arg_d, arg_l, ar_o, ar_io, ar_lk, ar_rd, put_n, put_d, put_io, m_put, pt_o, pt_io, i_seq, src_l, src_t, src_o, src_n, sr_o, sr_io, sr_lk, i_rng, i_enum, i_zip, i_rev, unl_n, unl_c, unl_1, ul_lk, ob_t, ob_f, wp_n, wp_c, rt_n, rt_c, fl_un, fl_d, m_unpT, tupD_t, unp_n, unp_c, range_1, range_2, ext_l, ext_t, app_1, m_pc, m_par, rl_n, rl_d, rl_o, rl_l, rlR_o, sr_n, sto_d, sto_o, List.getElem?_cons_zero, List.getElem?_cons_succ, List.set_cons_zero, List.set_cons_succ, Option.map_some, Option.bind_some, if_true, and_self, List.length_nil, Nat.zero_le]
  · rcases h with rfl | rfl
    · simp only [m_vb, bnd_ok, bnd_er, m_vr, m_stuck, m_seq, bS_nx, bS_bk, bS_ct, bS_rt, bS_er, m_if, m_ite, bI_t, bI_f, bI_er, m_and, m_or, m_not, m_bool, evB_b, m_opt, m_optn, m_tru, tru_b, tru_i, tru_n, tru_l, tru_t, m_var, var_d, var_own, var_io, var_lk, var_rd, m_c, st_d, st_o, st_l, oc_l, oc_m, rd_d, rd_o, rd_l, rdR_own, rdR_io, rdR_lk, m_bin, m_un, m_call, m_rdn, m_rdc, m_cons, m_conss, m_tup, m_lst, dts_n, dts_c, o_map, o_bind, add_i, sub_i, mul_i, mod_i, fdiv_i, pow_i, neg_i, iadd_i, abs_i, int_i, int_b, len_l, len_t, add_l, add_t, lt_i, le_i, gt_i, ge_i, eq_i, ne_i, eqF_i, neF_i, tuple_l, tuple_t, list_l, list_t, ix_l, ix_t, m_ret, m_drop, m_nx, m_asg, m_nox, nx_ok, set_d, set_o, setD_, wr_un, wr_d, wr_o, wr_rd, m_aug, m_asgD, evD_d, evD_o, m_frzn, m_frzc, m_frz1, fz_d, fz_un, fz_io, fz_lk, fz_rd, fz_o, m_sub, m_augS, m_app, ap_o, ap_io, m_ct, ct_o, ct_io, m_isl, is_o, is_io, m_mut, m_mutB, m_mut0, intD_i, m_sl, m_pn, m_ps, rs_d, rs_l, rsR_rd, rsR_o, rsR_io, sl_l, sl_t, arg_n, arg_c, arg_d, arg_l, ar_o, ar_io, ar_lk, ar_rd, put_n, put_d, put_io, m_put, pt_o, pt_io, i_seq, src_l, src_t, src_o, src_n, sr_o, sr_io, sr_lk, i_rng, i_enum, i_zip, i_rev, unl_n, unl_c, unl_1, ul_lk, ob_t, ob_f, wp_n, wp_c, rt_n, rt_c, fl_un, fl_d, m_unpT, tupD_t, unp_n, unp_c, range_1, range_2, ext_l, ext_t, app_1, m_pc, m_par, rl_n, rl_d, rl_o, rl_l, rlR_o, sr_n, sto_d, sto_o, List.getElem?_cons_zero, List.getElem?_cons_succ, List.set_cons_zero, List.set_cons_succ, Option.map_some, Option.bind_some, if_true, and_self]
    · simp only [m_vb, bnd_ok, bnd_er, m_vr, m_stuck, m_seq, bS_nx, bS_bk, bS_ct, bS_rt, bS_er, m_if, m_ite, bI_t, bI_f, bI_er, m_and, m_or, m_not, m_bool, evB_b, m_opt, m_optn, m_tru, tru_b, tru_i, tru_n, tru_l, tru_t, m_var, var_d, var_own, var_io, var_lk, var_rd, m_c, st_d, st_o, st_l, oc_l, oc_m, rd_d, rd_o, rd_l, rdR_own, rdR_io, rdR_lk, m_bin, m_un, m_call, m_rdn, m_rdc, m_cons, m_conss, m_tup, m_lst, dts_n, dts_c, o_map, o_bind, add_i, sub_i, mul_i, mod_i, fdiv_i, pow_i, neg_i, iadd_i, abs_i, int_i, int_b, len_l, len_t, add_l, add_t, lt_i, le_i, gt_i, ge_i, eq_i, ne_i, eqF_i, neF_i, tuple_l, tuple_t, list_l, list_t, ix_l, ix_t, m_ret, m_drop, m_nx, m_asg, m_nox, nx_ok, set_d, set_o, setD_, wr_un, wr_d, wr_o, wr_rd, m_aug, m_asgD, evD_d, evD_o, m_frzn, m_frzc, m_frz1, fz_d, fz_un, fz_io, fz_lk, fz_rd, fz_o, m_sub, m_augS, m_app, ap_o, ap_io, m_ct, ct_o, ct_io, m_isl, is_o, is_io, m_mut, m_mutB, m_mut0, intD_i, m_sl, m_pn, m_ps, rs_d, rs_l, rsR_rd, rsR_o, rsR_io, sl_l, sl_t, arg_n, arg_c, arg_d, arg_l, ar_o, ar_io, ar_lk, ar_rd, put_n, put_d, put_io, m_put, pt_o, pt_io, i_seq, src_l, src_t, src_o, src_n, sr_o, sr_io, sr_lk, i_rng, i_enum, i_zip, i_rev, unl_n, unl_c, unl_1, ul_lk, ob_t, ob_f, wp_n, wp_c, rt_n, rt_c, fl_un, fl_d, m_unpT, tupD_t, unp_n, unp_c, range_1, range_2, ext_l, ext_t, app_1, m_pc, m_par, rl_n, rl_d, rl_o, rl_l, rlR_o, sr_n, sto_d, sto_o, List.getElem?_cons_zero, List.getElem?_cons_succ, List.set_cons_zero, List.set_cons_succ, Option.map_some, Option.bind_some, if_true, and_self]
end Yk39
set_option Elab.async false
set_option linter.all false
set_option maxRecDepth 100000
set_option maxHeartbeats 0
namespace Yk39
open PySem PySem.Spec PyProof.Rows L2 VL LB
structure Slot where
  code : List Int
  one : Nat
  sign : Int
def slotD (e : Slot) : Da := .tuple [tupI e.code, intN e.one, .int e.sign]
def keyD' (c : List Int) (one : Nat) : Da := .tuple [tupI c, intN one]
def signP (w : Nat) : Int := if Int.ofNat w / 2 * 2 = Int.ofNat w then 1 else -1
def dueStep (cs : List Nat) (plan : List (List Int)) (acc : List Slot) (w : Nat) : List Slot :=
  if acc.any (fun e => (e.code == plan.getD w []) && (e.one == cs.getD w 0)) = true then acc else acc ++ [⟨plan.getD w [], cs.getD w 0, signP w⟩]
theorem eqv_int (i j : Int) : PyData.eqv (.int i) (.int j) = (i == j) := by simp only [PyData.eqv]
theorem eqvAll_ints : ∀ c d : List Int, PyData.eqvAll (c.map PyData.int) (d.map PyData.int) = (c == d)
  | [], [] => by simp [PyData.eqvAll]
  | [], _ :: _ => by simp [PyData.eqvAll]
  | _ :: _, [] => by simp [PyData.eqvAll]
  | x :: c, y :: d => by simp only [List.map_cons, PyData.eqvAll, PyData.eqv, eqvAll_ints c d, List.cons_beq_cons]
theorem eqv_key (c d : List Int) (a b : Nat) : PyData.eqv (keyD' c a) (keyD' d b) = ((c == d) && (a == b)) := by
  have h : (Int.ofNat a == Int.ofNat b) = (a == b) := by
    by_cases e : a = b
    · subst e; simp
    · have : Int.ofNat a ≠ Int.ofNat b := fun z => e (Int.ofNat.inj z)
      rw [beq_eq_false_iff_ne.mpr this, beq_eq_false_iff_ne.mpr e]
  simp only [keyD', tupI, intN, PyData.eqv, PyData.eqvAll, eqvAll_ints, h, Bool.and_true]
theorem shFs_ints (n : Nat) : ∀ c : List Int, shFs n (c.map PyData.int) = true
  | [] => by simp only [List.map_nil, shFs]
  | x :: c => by simp only [List.map_cons, shFs, shF, shFs_ints n c, Bool.and_self]
theorem shF_key (n : Nat) (c : List Int) (a : Nat) : shF (n + 2) (keyD' c a) = true := by
  simp only [keyD', tupI, intN, shF, shFs, shFs_ints, Bool.and_self]
theorem shFs_keys (n : Nat) : ∀ l : List Slot, shFs (n + 2) (l.map fun e => keyD' e.code e.one) = true
  | [] => by simp only [List.map_nil, shFs]
  | e :: l => by simp only [List.map_cons, shFs, shF_key, shFs_keys n l, Bool.and_self]
/-- the keys so far -/
theorem keys_lc {a0 a1 a2 a3 a4 a5 a6 a7 x9 x11 x12 x13 : SV} {x8 : SV} {l : List Slot} (h8 : flatS (some x8) = true) (hl : l.length ≤ 16000000) :
    vLcF [8] (vItSeq (vVar 10)) (vSetD 8) (vr true) (vSl (vVar 8) (vPart none) (vPart (some (vC (.int 2))))) [a0, a1, a2, a3, a4, a5, a6, a7, x8, x9, .own (.l (l.map slotD)), x11, x12, x13]
      = .ok (.own (.l (l.map fun e => keyD' e.code e.one)), [a0, a1, a2, a3, a4, a5, a6, a7, x8, x9, .own (.l (l.map slotD)), x11, x12, x13]) := by
  have c2 : ∀ e : Slot, VL.cutD [tupI e.code, intN e.one, .int e.sign] none (some 2) = [tupI e.code, intN e.one] := fun e => by rw [cut_to (by decide)]; rfl
  have := lcF_of (ix := [8]) (gt := vSetD 8) (tt := vr true) (te := vSl (vVar 8) (vPart none) (vPart (some (vC (.int 2))))) (fi := vItSeq (vVar 10)) (xs := l.map slotD) (L := [(10, false)])
    (s := [a0, a1, a2, a3, a4, a5, a6, a7, x8, x9, .own (.l (l.map slotD)), x11, x12, x13]) (s1 := [a0, a1, a2, a3, a4, a5, a6, a7, x8, x9, .lk (.l (l.map slotD)), x11, x12, x13]) (s2 := [a0, a1, a2, a3, a4, a5, a6, a7, .un, x9, .lk (.l (l.map slotD)), x11, x12, x13])
    (by simp only [m_vb, bnd_ok, bnd_er, m_vr, m_stuck, m_seq, bS_nx, bS_bk, bS_ct, bS_rt, bS_er, m_if, m_ite, bI_t, bI_f, bI_er, m_and, m_or, m_not, m_bool, evB_b, m_opt, m_optn, m_tru, tru_b, tru_i, tru_n, tru_l, tru_t, m_var, var_d, var_own, var_io, var_lk, var_rd, m_c, st_d, st_o, st_l, oc_l, oc_m, rd_d, rd_o, rd_l, rdR_own, rdR_io, rdR_lk, m_bin, m_un, m_call, m_rdn, m_rdc, m_cons, m_conss, m_tup, m_lst, dts_n, dts_c, o_map, o_bind, add_i, sub_i, mul_i, mod_i, fdiv_i, pow_i, neg_i, iadd_i, abs_i, int_i, int_b, len_l, len_t, add_l, add_t, lt_i, le_i, gt_i, ge_i, eq_i, ne_i, eqF_i, neF_i, tuple_l, tuple_t, list_l, list_t, ix_l, ix_t, m_ret, m_drop, m_nx, m_asg, m_nox, nx_ok, set_d, set_o, setD_, wr_un, wr_d, wr_o, wr_rd, m_aug, m_asgD, evD_d, evD_o, m_frzn, m_frzc, m_frz1, fz_d, fz_un, fz_io, fz_lk, fz_rd, fz_o, m_sub, m_augS, m_app, ap_o, ap_io, m_ct, ct_o, ct_io, m_isl, is_o, is_io, m_mut, m_mutB, m_mut0, intD_i, m_sl, m_pn, m_ps, rs_d, rs_l, rsR_rd, rsR_o, rsR_io, sl_l, sl_t, arg_n, arg_c, arg_d, arg_l, ar_o, ar_io, ar_lk, ar_rd, put_n, put_d, put_io, m_put, pt_o, pt_io, i_seq, src_l, src_t, src_o, src_n, sr_o, sr_io, sr_lk, i_rng, i_enum, i_zip, i_rev, unl_n, unl_c, unl_1, ul_lk, ob_t, ob_f, wp_n, wp_c, rt_n, rt_c, fl_un, fl_d, m_unpT, tupD_t, unp_n, unp_c, range_1, range_2, ext_l, ext_t, app_1, m_pc, m_par, rl_n, rl_d, rl_o, rl_l, rlR_o, sr_n, sto_d, sto_o, List.getElem?_cons_zero, List.getElem?_cons_succ, List.set_cons_zero, List.set_cons_succ, Option.map_some, Option.bind_some, if_true, and_self]) (by show ([8].all fun j => flatS _) = true; simp only [List.all_cons, List.all_nil, List.getElem?_cons_succ, List.getElem?_cons_zero, h8, Bool.and_self])
    (lcG_pure (p := fun _ => true) (h := fun e => keyD' e.code e.one) l fun e _ => ⟨[a0, a1, a2, a3, a4, a5, a6, a7, .d (slotD e), x9, .lk (.l (l.map slotD)), x11, x12, x13], [a0, a1, a2, a3, a4, a5, a6, a7, .d (slotD e), x9, .lk (.l (l.map slotD)), x11, x12, x13], by
      show vSetD 8 (slotD e) [a0, a1, a2, a3, a4, a5, a6, a7, .un, x9, .lk (.l (l.map slotD)), x11, x12, x13] = _
      simp only [m_vb, bnd_ok, bnd_er, m_vr, m_stuck, m_seq, bS_nx, bS_bk, bS_ct, bS_rt, bS_er, m_if, m_ite, bI_t, bI_f, bI_er, m_and, m_or, m_not, m_bool, evB_b, m_opt, m_optn, m_tru, tru_b, tru_i, tru_n, tru_l, tru_t, m_var, var_d, var_own, var_io, var_lk, var_rd, m_c, st_d, st_o, st_l, oc_l, oc_m, rd_d, rd_o, rd_l, rdR_own, rdR_io, rdR_lk, m_bin, m_un, m_call, m_rdn, m_rdc, m_cons, m_conss, m_tup, m_lst, dts_n, dts_c, o_map, o_bind, add_i, sub_i, mul_i, mod_i, fdiv_i, pow_i, neg_i, iadd_i, abs_i, int_i, int_b, len_l, len_t, add_l, add_t, lt_i, le_i, gt_i, ge_i, eq_i, ne_i, eqF_i, neF_i, tuple_l, tuple_t, list_l, list_t, ix_l, ix_t, m_ret, m_drop, m_nx, m_asg, m_nox, nx_ok, set_d, set_o, setD_, wr_un, wr_d, wr_o, wr_rd, m_aug, m_asgD, evD_d, evD_o, m_frzn, m_frzc, m_frz1, fz_d, fz_un, fz_io, fz_lk, fz_rd, fz_o, m_sub, m_augS, m_app, ap_o, ap_io, m_ct, ct_o, ct_io, m_isl, is_o, is_io, m_mut, m_mutB, m_mut0, intD_i, m_sl, m_pn, m_ps, rs_d, rs_l, rsR_rd, rsR_o, rsR_io, sl_l, sl_t, arg_n, arg_c, arg_d, arg_l, ar_o, ar_io, ar_lk, ar_rd, put_n, put_d, put_io, m_put, pt_o, pt_io, i_seq, src_l, src_t, src_o, src_n, sr_o, sr_io, sr_lk, i_rng, i_enum, i_zip, i_rev, unl_n, unl_c, unl_1, ul_lk, ob_t, ob_f, wp_n, wp_c, rt_n, rt_c, fl_un, fl_d, m_unpT, tupD_t, unp_n, unp_c, range_1, range_2, ext_l, ext_t, app_1, m_pc, m_par, rl_n, rl_d, rl_o, rl_l, rlR_o, sr_n, sto_d, sto_o, List.getElem?_cons_zero, List.getElem?_cons_succ, List.set_cons_zero, List.set_cons_succ, Option.map_some, Option.bind_some, if_true, and_self], rfl, fun h => absurd h (by decide), fun _ => ⟨.d (keyD' e.code e.one), [a0, a1, a2, a3, a4, a5, a6, a7, .d (slotD e), x9, .lk (.l (l.map slotD)), x11, x12, x13], by
        unfold slotD keyD'
        simp only [m_vb, bnd_ok, bnd_er, m_vr, m_stuck, m_seq, bS_nx, bS_bk, bS_ct, bS_rt, bS_er, m_if, m_ite, bI_t, bI_f, bI_er, m_and, m_or, m_not, m_bool, evB_b, m_opt, m_optn, m_tru, tru_b, tru_i, tru_n, tru_l, tru_t, m_var, var_d, var_own, var_io, var_lk, var_rd, m_c, st_d, st_o, st_l, oc_l, oc_m, rd_d, rd_o, rd_l, rdR_own, rdR_io, rdR_lk, m_bin, m_un, m_call, m_rdn, m_rdc, m_cons, m_conss, m_tup, m_lst, dts_n, dts_c, o_map, o_bind, add_i, sub_i, mul_i, mod_i, fdiv_i, pow_i, neg_i, iadd_i, abs_i, int_i, int_b, len_l, len_t, add_l, add_t, lt_i, le_i, gt_i, ge_i, eq_i, ne_i, eqF_i, neF_i, tuple_l, tuple_t, list_l, list_t, ix_l, ix_t, m_ret, m_drop, m_nx, m_asg, m_nox, nx_ok, set_d, set_o, setD_, wr_un, wr_d, wr_o, wr_rd, m_aug, m_asgD, evD_d, evD_o, m_frzn, m_frzc, m_frz1, fz_d, fz_un, fz_io, fz_lk, fz_rd, fz_o, m_sub, m_augS, m_app, ap_o, ap_io, m_ct, ct_o, ct_io, m_isl, is_o, is_io, m_mut, m_mutB, m_mut0, intD_i, m_sl, m_pn, m_ps, rs_d, rs_l, rsR_rd, rsR_o, rsR_io, sl_l, sl_t, arg_n, arg_c, arg_d, arg_l, ar_o, ar_io, ar_lk, ar_rd, put_n, put_d, put_io, m_put, pt_o, pt_io, i_seq, src_l, src_t, src_o, src_n, sr_o, sr_io, sr_lk, i_rng, i_enum, i_zip, i_rev, unl_n, unl_c, unl_1, ul_lk, ob_t, ob_f, wp_n, wp_c, rt_n, rt_c, fl_un, fl_d, m_unpT, tupD_t, unp_n, unp_c, range_1, range_2, ext_l, ext_t, app_1, m_pc, m_par, rl_n, rl_d, rl_o, rl_l, rlR_o, sr_n, sto_d, sto_o, List.getElem?_cons_zero, List.getElem?_cons_succ, List.set_cons_zero, List.set_cons_succ, Option.map_some, Option.bind_some, if_true, and_self, c2], rfl, rfl, rfl⟩⟩) (by
      rw [List.length_map]
      have := List.length_filter_le (fun _ => true) l
      omega)
  rw [List.filter_eq_self.mpr (by simp)] at this
  rw [this]
  simp only [m_vb, bnd_ok, bnd_er, m_vr, m_stuck, m_seq, bS_nx, bS_bk, bS_ct, bS_rt, bS_er, m_if, m_ite, bI_t, bI_f, bI_er, m_and, m_or, m_not, m_bool, evB_b, m_opt, m_optn, m_tru, tru_b, tru_i, tru_n, tru_l, tru_t, m_var, var_d, var_own, var_io, var_lk, var_rd, m_c, st_d, st_o, st_l, oc_l, oc_m, rd_d, rd_o, rd_l, rdR_own, rdR_io, rdR_lk, m_bin, m_un, m_call, m_rdn, m_rdc, m_cons, m_conss, m_tup, m_lst, dts_n, dts_c, o_map, o_bind, add_i, sub_i, mul_i, mod_i, fdiv_i, pow_i, neg_i, iadd_i, abs_i, int_i, int_b, len_l, len_t, add_l, add_t, lt_i, le_i, gt_i, ge_i, eq_i, ne_i, eqF_i, neF_i, tuple_l, tuple_t, list_l, list_t, ix_l, ix_t, m_ret, m_drop, m_nx, m_asg, m_nox, nx_ok, set_d, set_o, setD_, wr_un, wr_d, wr_o, wr_rd, m_aug, m_asgD, evD_d, evD_o, m_frzn, m_frzc, m_frz1, fz_d, fz_un, fz_io, fz_lk, fz_rd, fz_o, m_sub, m_augS, m_app, ap_o, ap_io, m_ct, ct_o, ct_io, m_isl, is_o, is_io, m_mut, m_mutB, m_mut0, intD_i, m_sl, m_pn, m_ps, rs_d, rs_l, rsR_rd, rsR_o, rsR_io, sl_l, sl_t, arg_n, arg_c, arg_d, arg_l, ar_o, ar_io, ar_lk, ar_rd, put_n, put_d, put_io, m_put, pt_o, pt_io, i_seq, src_l, src_t, src_o, src_n, sr_o, sr_io, sr_lk, i_rng, i_enum, i_zip, i_rev, unl_n, unl_c, unl_1, ul_lk, ob_t, ob_f, wp_n, wp_c, rt_n, rt_c, fl_un, fl_d, m_unpT, tupD_t, unp_n, unp_c, range_1, range_2, ext_l, ext_t, app_1, m_pc, m_par, rl_n, rl_d, rl_o, rl_l, rlR_o, sr_n, sto_d, sto_o, List.getElem?_cons_zero, List.getElem?_cons_succ, List.set_cons_zero, List.set_cons_succ, Option.map_some, Option.bind_some, if_true, and_self, Option.getD_some]
theorem at_getE {α : Type} {xs : List α} {enc : α → Da} {w : Nat} {dflt : α} (h : w < xs.length) : atI (xs.map enc) (Int.ofNat w) = some (enc (xs.getD w dflt)) := by
  rw [at_nat (show (0 : Int) ≤ Int.ofNat w from Int.natCast_nonneg w)]
  show (xs.map enc)[w]? = _
  rw [List.getElem?_map, List.getElem?_eq_getElem h, List.getD_eq_getElem?_getD, List.getElem?_eq_getElem h]; rfl
theorem inB_keys {c : List Int} {a : Nat} : ∀ l : List Slot, inB (keyD' c a) (l.map fun e => keyD' e.code e.one) = l.any fun e => (e.code == c) && (e.one == a)
  | [] => rfl
  | e :: l => by
    have ih := inB_keys (c := c) (a := a) l
    unfold inB at ih ⊢
    rw [List.map_cons, List.any_cons, List.any_cons, ih, eqv_key]
theorem notin_keys {c : List Int} {a : Nat} {l : List Slot} : notinF (keyD' c a) (.list (l.map fun e => keyD' e.code e.one)) = some (.d (.bool (!(l.any fun e => (e.code == c) && (e.one == a))))) := by
  show (if shF 64 (keyD' c a) = true ∧ shFs 63 (l.map fun e => keyD' e.code e.one) = true then some (EV.d (.bool (if true = true then !inB _ _ else inB _ _))) else none) = _
  rw [if_pos ⟨shF_key 62 c a, shFs_keys 61 l⟩, if_pos rfl, inB_keys]
theorem due_step {a0 a1 a2 a3 a4 a5 x9 x12 x13 x8 : SV} {cs : List Nat} {plan : List (List Int)} {l : List Slot} {w : Nat} (hw : w < cs.length) (hp : plan.length = cs.length) (hc : cs.length ≤ 1000000) (h8 : x8 = .un ∨ ∃ d, x8 = .d d) (h12 : wrOk (some x12) = true) (hl : l.length ≤ 1000000) :
    r5 [a0, a1, a2, a3, a4, a5, .own (.l (cs.map comD)), .own (.l (plan.map tupI)), x8, x9, .own (.l (l.map slotD)), .d (intN w), x12, x13]
      = .ok (.nx, [a0, a1, a2, a3, a4, a5, .own (.l (cs.map comD)), .own (.l (plan.map tupI)), x8, x9, .own (.l ((dueStep cs plan l w).map slotD)), .d (intN w), .d (keyD' (plan.getD w []) (cs.getD w 0)), x13]) := by
  have f8 : flatS (some x8) = true := by rcases h8 with rfl | ⟨d, rfl⟩ <;> rfl
  have z8 : ∀ s : VS, frzR 8 s (some x8) = s := fun s => by rcases h8 with rfl | ⟨d, rfl⟩ <;> rfl
  have g1 := at_getE (enc := tupI) (dflt := []) (show w < plan.length by omega)
  have g2 := at_getE (enc := comD) (dflt := 0) hw
  unfold r5
  refine seq_then (s1 := [a0, a1, a2, a3, a4, a5, .own (.l (cs.map comD)), .own (.l (plan.map tupI)), x8, x9, .own (.l (l.map slotD)), .d (intN w), .d (keyD' (plan.getD w []) (cs.getD w 0)), x13]) ?_ ?_
  · have g3 : atI [intN (cs.getD w 0), PyData.int 0] 0 = some (intN (cs.getD w 0)) := at_0
    unfold comD at g2 ⊢
    unfold keyD'
    rw [show intN w = .int (Int.ofNat w) from rfl]
    simp only [m_vb, bnd_ok, bnd_er, m_vr, m_stuck, m_seq, bS_nx, bS_bk, bS_ct, bS_rt, bS_er, m_if, m_ite, bI_t, bI_f, bI_er, m_and, m_or, m_not, m_bool, evB_b, m_opt, m_optn, m_tru, tru_b, tru_i, tru_n, tru_l, tru_t, m_var, var_d, var_own, var_io, var_lk, var_rd, m_c, st_d, st_o, st_l, oc_l, oc_m, rd_d, rd_o, rd_l, rdR_own, rdR_io, rdR_lk, m_bin, m_un, m_call, m_rdn, m_rdc, m_cons, m_conss, m_tup, m_lst, dts_n, dts_c, o_map, o_bind, add_i, sub_i, mul_i, mod_i, fdiv_i, pow_i, neg_i, iadd_i, abs_i, int_i, int_b, len_l, len_t, add_l, add_t, lt_i, le_i, gt_i, ge_i, eq_i, ne_i, eqF_i, neF_i, tuple_l, tuple_t, list_l, list_t, ix_l, ix_t, m_ret, m_drop, m_nx, m_asg, m_nox, nx_ok, set_d, set_o, setD_, wr_un, wr_d, wr_o, wr_rd, m_aug, m_asgD, evD_d, evD_o, m_frzn, m_frzc, m_frz1, fz_d, fz_un, fz_io, fz_lk, fz_rd, fz_o, m_sub, m_augS, m_app, ap_o, ap_io, m_ct, ct_o, ct_io, m_isl, is_o, is_io, m_mut, m_mutB, m_mut0, intD_i, m_sl, m_pn, m_ps, rs_d, rs_l, rsR_rd, rsR_o, rsR_io, sl_l, sl_t, arg_n, arg_c, arg_d, arg_l, ar_o, ar_io, ar_lk, ar_rd, put_n, put_d, put_io, m_put, pt_o, pt_io, i_seq, src_l, src_t, src_o, src_n, sr_o, sr_io, sr_lk, i_rng, i_enum, i_zip, i_rev, unl_n, unl_c, unl_1, ul_lk, ob_t, ob_f, wp_n, wp_c, rt_n, rt_c, fl_un, fl_d, m_unpT, tupD_t, unp_n, unp_c, range_1, range_2, ext_l, ext_t, app_1, m_pc, m_par, rl_n, rl_d, rl_o, rl_l, rlR_o, sr_n, sto_d, sto_o, List.getElem?_cons_zero, List.getElem?_cons_succ, List.set_cons_zero, List.set_cons_succ, Option.map_some, Option.bind_some, if_true, and_self, g1, g2, g3, h12, List.length_cons, List.length_nil, show (0 + 1 + 1 : Nat) ≤ 16777216 by decide]
  · unfold r4 law_s2 dueStep
    have k := keys_lc (a0 := a0) (a1 := a1) (a2 := a2) (a3 := a3) (a4 := a4) (a5 := a5) (a6 := .own (.l (cs.map comD))) (a7 := .own (.l (plan.map tupI))) (x8 := x8) (x9 := x9) (x11 := .d (intN w)) (x12 := .d (keyD' (plan.getD w []) (cs.getD w 0))) (x13 := x13) (l := l) f8 (by omega)
    by_cases hin : (l.any fun e => (e.code == plan.getD w []) && (e.one == cs.getD w 0)) = true
    · rw [if_pos hin]
      simp only [m_vb, bnd_ok, bnd_er, m_vr, m_stuck, m_seq, bS_nx, bS_bk, bS_ct, bS_rt, bS_er, m_if, m_ite, bI_t, bI_f, bI_er, m_and, m_or, m_not, m_bool, evB_b, m_opt, m_optn, m_tru, tru_b, tru_i, tru_n, tru_l, tru_t, m_var, var_d, var_own, var_io, var_lk, var_rd, m_c, st_d, st_o, st_l, oc_l, oc_m, rd_d, rd_o, rd_l, rdR_own, rdR_io, rdR_lk, m_bin, m_un, m_call, m_rdn, m_rdc, m_cons, m_conss, m_tup, m_lst, dts_n, dts_c, o_map, o_bind, add_i, sub_i, mul_i, mod_i, fdiv_i, pow_i, neg_i, iadd_i, abs_i, int_i, int_b, len_l, len_t, add_l, add_t, lt_i, le_i, gt_i, ge_i, eq_i, ne_i, eqF_i, neF_i, tuple_l, tuple_t, list_l, list_t, ix_l, ix_t, m_ret, m_drop, m_nx, m_asg, m_nox, nx_ok, set_d, set_o, setD_, wr_un, wr_d, wr_o, wr_rd, m_aug, m_asgD, evD_d, evD_o, m_frzn, m_frzc, m_frz1, fz_d, fz_un, fz_io, fz_lk, fz_rd, fz_o, m_sub, m_augS, m_app, ap_o, ap_io, m_ct, ct_o, ct_io, m_isl, is_o, is_io, m_mut, m_mutB, m_mut0, intD_i, m_sl, m_pn, m_ps, rs_d, rs_l, rsR_rd, rsR_o, rsR_io, sl_l, sl_t, arg_n, arg_c, arg_d, arg_l, ar_o, ar_io, ar_lk, ar_rd, put_n, put_d, put_io, m_put, pt_o, pt_io, i_seq, src_l, src_t, src_o, src_n, sr_o, sr_io, sr_lk, i_rng, i_enum, i_zip, i_rev, unl_n, unl_c, unl_1, ul_lk, ob_t, ob_f, wp_n, wp_c, rt_n, rt_c, fl_un, fl_d, m_unpT, tupD_t, unp_n, unp_c, range_1, range_2, ext_l, ext_t, app_1, m_pc, m_par, rl_n, rl_d, rl_o, rl_l, rlR_o, sr_n, sto_d, sto_o, List.getElem?_cons_zero, List.getElem?_cons_succ, List.set_cons_zero, List.set_cons_succ, Option.map_some, Option.bind_some, if_true, and_self, z8, k, notin_keys, hin, Bool.not_true]
    · rw [if_neg hin]
      have hin' : (l.any fun e => (e.code == plan.getD w []) && (e.one == cs.getD w 0)) = false := by simpa using hin
      have m1 : (Int.ofNat w / 2).natAbs.log2 + (2 : Int).natAbs.log2 < 1000000 := mulg (by show (0 : Int) ≤ (w : Int) / 2; omega) (by show (w : Int) / 2 < _; omega) (by decide) (by decide)
      have d1 : (0 : Int) < 2 ∧ (2 : Int).natAbs.log2 < 9000 := by decide
      have c1 : ([tupI (plan.getD w []), intN (cs.getD w 0)] : List Da).length + ([PyData.int (signP w)] : List Da).length ≤ 16777216 := by show 2 + 1 ≤ _; omega
      have c2 : (l.map slotD).length < 16777216 := by rw [List.length_map]; omega
      have ad : addD (keyD' (plan.getD w []) (cs.getD w 0)) (.tuple [.int (signP w)]) = some (.d (slotD ⟨plan.getD w [], cs.getD w 0, signP w⟩)) := by
        unfold keyD'
        rw [add_t, if_pos c1]; rfl
      rw [show intN w = .int (Int.ofNat w) from rfl] at k ⊢
      by_cases hs : Int.ofNat w / 2 * 2 = Int.ofNat w
      · have es : signP w = 1 := if_pos hs
        rw [es] at ad ⊢
        simp only [m_vb, bnd_ok, bnd_er, m_vr, m_stuck, m_seq, bS_nx, bS_bk, bS_ct, bS_rt, bS_er, m_if, m_ite, bI_t, bI_f, bI_er, m_and, m_or, m_not, m_bool, evB_b, m_opt, m_optn, m_tru, tru_b, tru_i, tru_n, tru_l, tru_t, m_var, var_d, var_own, var_io, var_lk, var_rd, m_c, st_d, st_o, st_l, oc_l, oc_m, rd_d, rd_o, rd_l, rdR_own, rdR_io, rdR_lk, m_bin, m_un, m_call, m_rdn, m_rdc, m_cons, m_conss, m_tup, m_lst, dts_n, dts_c, o_map, o_bind, add_i, sub_i, mul_i, mod_i, fdiv_i, pow_i, neg_i, iadd_i, abs_i, int_i, int_b, len_l, len_t, add_l, add_t, lt_i, le_i, gt_i, ge_i, eq_i, ne_i, eqF_i, neF_i, tuple_l, tuple_t, list_l, list_t, ix_l, ix_t, m_ret, m_drop, m_nx, m_asg, m_nox, nx_ok, set_d, set_o, setD_, wr_un, wr_d, wr_o, wr_rd, m_aug, m_asgD, evD_d, evD_o, m_frzn, m_frzc, m_frz1, fz_d, fz_un, fz_io, fz_lk, fz_rd, fz_o, m_sub, m_augS, m_app, ap_o, ap_io, m_ct, ct_o, ct_io, m_isl, is_o, is_io, m_mut, m_mutB, m_mut0, intD_i, m_sl, m_pn, m_ps, rs_d, rs_l, rsR_rd, rsR_o, rsR_io, sl_l, sl_t, arg_n, arg_c, arg_d, arg_l, ar_o, ar_io, ar_lk, ar_rd, put_n, put_d, put_io, m_put, pt_o, pt_io, i_seq, src_l, src_t, src_o, src_n, sr_o, sr_io, sr_lk, i_rng, i_enum, i_zip, i_rev, unl_n, unl_c, unl_1, ul_lk, ob_t, ob_f, wp_n, wp_c, rt_n, rt_c, fl_un, fl_d, m_unpT, tupD_t, unp_n, unp_c, range_1, range_2, ext_l, ext_t, app_1, m_pc, m_par, rl_n, rl_d, rl_o, rl_l, rlR_o, sr_n, sto_d, sto_o, List.getElem?_cons_zero, List.getElem?_cons_succ, List.set_cons_zero, List.set_cons_succ, Option.map_some, Option.bind_some, if_true, and_self, z8, k, notin_keys, hin', Bool.not_false, d1, m1, hs, decide_true, List.length_cons, List.length_nil, show (0 + 1 : Nat) ≤ 16777216 by decide, ad, app_1, c2, List.map_append, List.map_cons, List.map_nil]
      · have es : signP w = -1 := if_neg hs
        rw [es] at ad ⊢
        simp only [m_vb, bnd_ok, bnd_er, m_vr, m_stuck, m_seq, bS_nx, bS_bk, bS_ct, bS_rt, bS_er, m_if, m_ite, bI_t, bI_f, bI_er, m_and, m_or, m_not, m_bool, evB_b, m_opt, m_optn, m_tru, tru_b, tru_i, tru_n, tru_l, tru_t, m_var, var_d, var_own, var_io, var_lk, var_rd, m_c, st_d, st_o, st_l, oc_l, oc_m, rd_d, rd_o, rd_l, rdR_own, rdR_io, rdR_lk, m_bin, m_un, m_call, m_rdn, m_rdc, m_cons, m_conss, m_tup, m_lst, dts_n, dts_c, o_map, o_bind, add_i, sub_i, mul_i, mod_i, fdiv_i, pow_i, neg_i, iadd_i, abs_i, int_i, int_b, len_l, len_t, add_l, add_t, lt_i, le_i, gt_i, ge_i, eq_i, ne_i, eqF_i, neF_i, tuple_l, tuple_t, list_l, list_t, ix_l, ix_t, m_ret, m_drop, m_nx, m_asg, m_nox, nx_ok, set_d, set_o, setD_, wr_un, wr_d, wr_o, wr_rd, m_aug, m_asgD, evD_d, evD_o, m_frzn, m_frzc, m_frz1, fz_d, fz_un, fz_io, fz_lk, fz_rd, fz_o, m_sub, m_augS, m_app, ap_o, ap_io, m_ct, ct_o, ct_io, m_isl, is_o, is_io, m_mut, m_mutB, m_mut0, intD_i, m_sl, m_pn, m_ps, rs_d, rs_l, rsR_rd, rsR_o, rsR_io, sl_l, sl_t, arg_n, arg_c, arg_d, arg_l, ar_o, ar_io, ar_lk, ar_rd, put_n, put_d, put_io, m_put, pt_o, pt_io, i_seq, src_l, src_t, src_o, src_n, sr_o, sr_io, sr_lk, i_rng, i_enum, i_zip, i_rev, unl_n, unl_c, unl_1, ul_lk, ob_t, ob_f, wp_n, wp_c, rt_n, rt_c, fl_un, fl_d, m_unpT, tupD_t, unp_n, unp_c, range_1, range_2, ext_l, ext_t, app_1, m_pc, m_par, rl_n, rl_d, rl_o, rl_l, rlR_o, sr_n, sto_d, sto_o, List.getElem?_cons_zero, List.getElem?_cons_succ, List.set_cons_zero, List.set_cons_succ, Option.map_some, Option.bind_some, if_true, and_self, z8, k, notin_keys, hin', Bool.not_false, d1, m1, hs, decide_false, List.length_cons, List.length_nil, show (0 + 1 : Nat) ≤ 16777216 by decide, ad, app_1, c2, List.map_append, List.map_cons, List.map_nil]
end Yk39
set_option Elab.async false
set_option linter.all false
set_option maxRecDepth 100000
set_option maxHeartbeats 0
namespace Yk39
open PySem PySem.Spec PyProof.Rows L2 VL LB
/-! slots by a recursion -/
def byT (t : Nat) (kind : Int) (l : List Slot) : List Slot := if kind = 1 then l.reverse.map fun e => ⟨Int.ofNat t :: e.code, e.one, 0 - e.sign⟩ else l.map fun e => ⟨Int.ofNat t :: e.code, e.one, e.sign⟩
def byTs : Nat → List Int → List Slot → List Slot
  | _, [], _ => []
  | t, k :: ks, l => byT t k l ++ byTs (t + 1) ks l
def fresh (ts : List Nat) (k : Nat) : List Slot := if k ∈ ts then [⟨[], k, 1⟩] else []
def slP (y : List Int) (ts : List Nat) : Nat → List Slot
  | 0 => fresh ts 0
  | k + 1 => byTs 0 y (slP y ts k) ++ fresh ts (k + 1)
def dirP (sg : Int) (l : List Nat) : List Nat := if sg = 1 then l else l.reverse
/-- the wagons -/
structure Wag (p : Nat) (cs : List Nat) (pl : List (List Int)) (ts : List Nat) : Prop where
  len : pl.length = cs.length
  code : ∀ w, w < cs.length → (pl.getD w []).length + cs.getD w 0 = p
  mem : ∀ w, w < cs.length → cs.getD w 0 ∈ ts
def grp (p : Nat) (cs : List Nat) (pl : List (List Int)) (k : Nat) (e : Slot) : List Nat := (List.range cs.length).filter fun w => decide (cs.getD w 0 = e.one) && decide ((pl.getD w []).drop (p - k) = e.code)
def allG (p : Nat) (cs : List Nat) (pl : List (List Int)) (k : Nat) (l : List Slot) : List Nat := l.flatMap fun e => dirP e.sign (grp p cs pl k e)
theorem dirP_filter (q : Nat → Bool) (sg : Int) (l : List Nat) : (dirP sg l).filter q = dirP sg (l.filter q) := by
  unfold dirP
  split
  · rfl
  · rw [List.filter_reverse]
theorem dirP_neg {sg : Int} (h : sg = 1 ∨ sg = -1) (l : List Nat) : (dirP sg l).reverse = dirP (0 - sg) l := by
  unfold dirP
  rcases h with rfl | rfl
  · rw [if_pos rfl, if_neg (by decide)]
  · rw [if_neg (by decide), if_pos (by decide), List.reverse_reverse]
/-- what holds of the slots after k passes -/
structure SlK (y : List Int) (ts : List Nat) (k : Nat) (e : Slot) : Prop where
  one : e.one ≤ k
  mem : e.one ∈ ts
  len : e.code.length + e.one = k
  sg : e.sign = 1 ∨ e.sign = -1
  dig : ∀ d ∈ e.code, 0 ≤ d ∧ d < y.length
theorem fresh_ok {y : List Int} {ts : List Nat} {k : Nat} : ∀ e ∈ fresh ts k, SlK y ts k e := fun e h => by
  unfold fresh at h
  split at h
  · rename_i hk
    rw [List.mem_singleton.mp h]
    exact ⟨Nat.le_refl _, hk, Nat.zero_add _, .inl rfl, fun _ h => by cases h⟩
  · cases h
theorem byT_mem {t : Nat} {kind : Int} {l : List Slot} {e : Slot} (h : e ∈ byT t kind l) : ∃ f ∈ l, e.code = Int.ofNat t :: f.code ∧ e.one = f.one ∧ (e.sign = f.sign ∨ e.sign = 0 - f.sign) := by
  unfold byT at h
  split at h
  · obtain ⟨f, hf, rfl⟩ := List.mem_map.mp h
    exact ⟨f, List.mem_reverse.mp hf, rfl, rfl, .inr rfl⟩
  · obtain ⟨f, hf, rfl⟩ := List.mem_map.mp h
    exact ⟨f, hf, rfl, rfl, .inl rfl⟩
theorem byTs_mem {l : List Slot} {e : Slot} : ∀ {ks : List Int} {t : Nat}, e ∈ byTs t ks l → ∃ u, t ≤ u ∧ u < t + ks.length ∧ ∃ f ∈ l, e.code = Int.ofNat u :: f.code ∧ e.one = f.one ∧ (e.sign = f.sign ∨ e.sign = 0 - f.sign)
  | [], t, h => by cases h
  | k :: ks, t, h => by
    rcases List.mem_append.mp (show e ∈ byT t k l ++ byTs (t + 1) ks l from h) with h | h
    · exact ⟨t, Nat.le_refl _, by rw [List.length_cons]; omega, byT_mem h⟩
    · obtain ⟨u, h1, h2, h3⟩ := byTs_mem h
      exact ⟨u, by omega, by rw [List.length_cons]; omega, h3⟩
theorem slP_ok {y : List Int} {ts : List Nat} : ∀ {k : Nat}, ∀ e ∈ slP y ts k, SlK y ts k e
  | 0, e, h => fresh_ok e h
  | k + 1, e, h => by
    rcases List.mem_append.mp (show e ∈ byTs 0 y (slP y ts k) ++ fresh ts (k + 1) from h) with h | h
    · obtain ⟨u, _, hu, f, hf, h1, h2, h3⟩ := byTs_mem h
      have F := slP_ok f hf
      refine ⟨by rw [h2]; have := F.one; omega, h2 ▸ F.mem, by rw [h1, h2, List.length_cons]; have := F.len; omega, ?_, fun d hd => ?_⟩
      · have := F.sg
        omega
      · rw [h1] at hd
        rcases List.mem_cons.mp hd with rfl | hd
        · exact ⟨Int.natCast_nonneg _, by show (u : Int) < _; omega⟩
        · exact F.dig d hd
    · exact fresh_ok e h
section
variable {y : List Int} {p : Nat} {cs : List Nat} {pl : List (List Int)} {ts : List Nat}
theorem getD_map {α β : Type} {l : List α} {f : α → β} {w : Nat} {d : α} {d' : β} (h : w < l.length) : (l.map f).getD w d' = f (l.getD w d) := by
  rw [List.getD_eq_getElem?_getD, List.getD_eq_getElem?_getD, List.getElem?_map, List.getElem?_eq_getElem h]; rfl
theorem grp_filter (W : Wag p cs pl ts) {k t : Nat} (hk : k < p) {e e' : Slot} (h1 : e.one ≤ k) (hc : e'.code = Int.ofNat t :: e.code) (ho : e'.one = e.one) :
    (grp p cs pl k e).filter (fun w => decide ((pl.map (digP p k)).getD w 0 = Int.ofNat t)) = grp p cs pl (k + 1) e' := by
  unfold grp
  rw [List.filter_filter]
  apply List.filter_congr
  intro w hw
  have hw := List.mem_range.mp hw
  rw [ho, hc]
  by_cases ht : cs.getD w 0 = e.one
  · rw [getD_map (d := []) (by rw [W.len]; exact hw)]
    have hl := W.code w hw
    generalize pl.getD w [] = c at hl
    have hlt : p - 1 - k < c.length := by omega
    have e1 : p - (k + 1) = p - 1 - k := by omega
    have e2 : p - k = p - 1 - k + 1 := by omega
    unfold digP
    rw [if_pos hlt, e1, e2, List.getD_eq_getElem?_getD, List.getElem?_eq_getElem hlt, Option.getD_some, List.drop_eq_getElem_cons hlt]
    simp only [ht, decide_true, Bool.true_and, List.cons.injEq, Bool.decide_and]
  · simp only [ht, decide_false, Bool.false_and, Bool.and_false]
theorem lane_ok (W : Wag p cs pl ts) {k t : Nat} (hk : k < p) {kind : Int} (hkd : kind = 0 ∨ kind = 1) {l : List Slot} (hl : ∀ e ∈ l, e.one ≤ k ∧ (e.sign = 1 ∨ e.sign = -1)) :
    (if kind = 0 then laneP (allG p cs pl k l) (pl.map (digP p k)) t else (laneP (allG p cs pl k l) (pl.map (digP p k)) t).reverse) = allG p cs pl (k + 1) (byT t kind l) := by
  have h : laneP (allG p cs pl k l) (pl.map (digP p k)) t = l.flatMap fun e => dirP e.sign (grp p cs pl (k + 1) ⟨Int.ofNat t :: e.code, e.one, e.sign⟩) := by
    unfold laneP allG
    rw [List.filter_flatMap]
    rw [List.flatMap_def, List.flatMap_def]
    congr 1
    apply List.map_congr_left
    intro e he
    rw [dirP_filter, grp_filter W hk (hl e he).1 (e' := ⟨Int.ofNat t :: e.code, e.one, e.sign⟩) rfl rfl]
  unfold byT
  rcases hkd with rfl | rfl
  · rw [if_pos rfl, if_neg (by decide), h]
    unfold allG
    rw [List.flatMap_map]
  · rw [if_neg (by decide), if_pos rfl, h, List.reverse_flatMap]
    unfold allG
    rw [List.flatMap_map, List.flatMap_def, List.flatMap_def]
    congr 1
    apply List.map_congr_left
    intro e he
    show (dirP e.sign _).reverse = _
    rw [dirP_neg (hl e (List.mem_reverse.mp he)).2]
    rfl
theorem pass_slots (W : Wag p cs pl ts) {k : Nat} (hk : k < p) {l : List Slot} (hl : ∀ e ∈ l, e.one ≤ k ∧ (e.sign = 1 ∨ e.sign = -1)) : ∀ {ks : List Int} {t : Nat}, (∀ x ∈ ks, x = 0 ∨ x = 1) →
    passP (allG p cs pl k l) (pl.map (digP p k)) t ks = allG p cs pl (k + 1) (byTs t ks l)
  | [], t, _ => rfl
  | kd :: ks, t, h => by
    show _ ++ passP _ _ (t + 1) ks = _
    rw [lane_ok W hk (h kd List.mem_cons_self) hl, pass_slots W hk hl fun x hx => h x (List.mem_cons_of_mem _ hx)]
    unfold allG
    show _ = (byT t kd l ++ byTs (t + 1) ks l).flatMap _
    rw [List.flatMap_append]
theorem new_slots (W : Wag p cs pl ts) {k : Nat} (hk : k ≤ p) : newP cs k = allG p cs pl k (fresh ts k) := by
  unfold fresh allG newP
  by_cases h : k ∈ ts
  · rw [if_pos h, List.flatMap_cons, List.flatMap_nil, List.append_nil]
    unfold dirP grp
    rw [if_pos rfl]
    apply List.filter_congr
    intro w hw
    have hw := List.mem_range.mp hw
    have hl := W.code w hw
    by_cases ht : cs.getD w 0 = k
    · have : (pl.getD w []).drop (p - k) = [] := List.drop_of_length_le (by omega)
      simp only [ht, this, decide_true, Bool.and_self]
    · simp only [ht, decide_false, Bool.false_and]
  · rw [if_neg h, List.flatMap_nil]
    apply List.filter_eq_nil_iff.mpr
    intro w hw
    have hw := List.mem_range.mp hw
    intro hd
    exact h (of_decide_eq_true hd ▸ W.mem w hw)
theorem late_slots (W : Wag p cs pl ts) (hy : ∀ x ∈ y, x = 0 ∨ x = 1) : ∀ {k : Nat}, k ≤ p → lateP y p cs pl k ++ newP cs k = allG p cs pl k (slP y ts k)
  | 0, h => new_slots W h
  | k + 1, h => by
    have ih := late_slots W hy (k := k) (by omega)
    have e1 : lateP y p cs pl (k + 1) = passP (lateP y p cs pl k ++ newP cs k) (pl.map (digP p k)) 0 y := by
      show (if k < p then _ else _) = _
      rw [if_pos (by omega)]
    rw [e1, ih, pass_slots W (by omega) (fun e he => ⟨(slP_ok e he).one, (slP_ok e he).sg⟩) hy, new_slots W h]
    unfold allG
    show _ = (byTs 0 y (slP y ts k) ++ fresh ts (k + 1)).flatMap _
    rw [List.flatMap_append]
theorem late_all (W : Wag p cs pl ts) (hy : ∀ x ∈ y, x = 0 ∨ x = 1) : lateP y p cs pl (p + 1) = allG p cs pl p (slP y ts p) := by
  rw [← late_slots W hy (Nat.le_refl p)]
  show (if p < p then _ else _) = _
  rw [if_neg (by omega)]
/-! each code has its two wagons -/
/-- the keys differ -/
def keyNe (a b : Slot) : Prop := ¬ (a.code = b.code ∧ a.one = b.one)
theorem byT_ne {t : Nat} {kind : Int} {l : List Slot} (h : l.Pairwise keyNe) : (byT t kind l).Pairwise keyNe := by
  unfold byT
  split
  · refine List.pairwise_map.mpr (List.pairwise_reverse.mpr (h.imp fun {a b} q => ?_))
    intro z
    exact q ⟨(List.cons.inj z.1).2.symm, z.2.symm⟩
  · refine List.pairwise_map.mpr (h.imp fun {a b} q => ?_)
    intro z
    exact q ⟨(List.cons.inj z.1).2, z.2⟩
theorem byTs_ne {l : List Slot} (h : l.Pairwise keyNe) : ∀ {ks : List Int} {t : Nat}, (byTs t ks l).Pairwise keyNe
  | [], t => .nil
  | k :: ks, t => by
    refine List.pairwise_append.mpr ⟨byT_ne h, byTs_ne h, fun a ha b hb z => ?_⟩
    obtain ⟨f, _, ha, _⟩ := byT_mem ha
    obtain ⟨u, hu, _, g, _, hb, _⟩ := byTs_mem hb
    rw [ha, hb] at z
    have := Int.ofNat.inj (List.cons.inj z.1).1
    omega
theorem slP_ne {ts : List Nat} : ∀ {k : Nat}, (slP y ts k).Pairwise keyNe
  | 0 => by
    show (fresh ts 0).Pairwise keyNe
    unfold fresh
    split
    · exact List.pairwise_singleton _ _
    · exact .nil
  | k + 1 => by
    refine List.pairwise_append.mpr ⟨byTs_ne slP_ne, ?_, fun a ha b hb z => ?_⟩
    · unfold fresh
      split
      · exact List.pairwise_singleton _ _
      · exact .nil
    · obtain ⟨u, _, _, f, hf, _, h2, _⟩ := byTs_mem ha
      have h3 := (slP_ok f hf).one
      have h4 : b.one = k + 1 := by
        unfold fresh at hb
        split at hb
        · rw [List.mem_singleton.mp hb]
        · cases hb
      have := z.2
      omega
/-- a group is a pair -/
def Pair (cs : List Nat) (pl : List (List Int)) (p : Nat) (e : Slot) : Prop := ∃ j, grp p cs pl p e = [2 * j, 2 * j + 1]
theorem sign_even (j : Nat) : signP (2 * j) = 1 := by
  unfold signP
  rw [if_pos]
  show ((2 * j : Nat) : Int) / 2 * 2 = ((2 * j : Nat) : Int)
  omega
theorem sign_odd (j : Nat) : signP (2 * j + 1) = -1 := by
  unfold signP
  rw [if_neg]
  show ¬ ((2 * j + 1 : Nat) : Int) / 2 * 2 = ((2 * j + 1 : Nat) : Int)
  omega
theorem any_key {acc : List Slot} {e : Slot} : (acc.any (fun f => (f.code == e.code) && (f.one == e.one)) = true) ↔ ∃ f ∈ acc, f.code = e.code ∧ f.one = e.one := by
  simp only [List.any_eq_true, Bool.and_eq_true, beq_iff_eq]
theorem due_grp {e : Slot} {acc : List Slot} (hP : Pair cs pl p e) (hs : e.sign = 1 ∨ e.sign = -1) (hf : ∀ f ∈ acc, keyNe f e) : (dirP e.sign (grp p cs pl p e)).foldl (dueStep cs pl) acc = acc ++ [e] := by
  obtain ⟨j, hj⟩ := hP
  have key : ∀ w, w ∈ grp p cs pl p e → cs.getD w 0 = e.one ∧ pl.getD w [] = e.code := fun w hw => by
    have := (List.mem_filter.mp hw).2
    rw [Nat.sub_self] at this
    simpa using this
  have k1 := key (2 * j) (by rw [hj]; simp)
  have k2 := key (2 * j + 1) (by rw [hj]; simp)
  have no : ¬ (acc.any (fun f => (f.code == e.code) && (f.one == e.one)) = true) := fun h => by
    obtain ⟨f, h1, h2⟩ := any_key.mp h
    exact hf f h1 h2
  have yes : ∀ x : Slot, x.code = e.code → x.one = e.one → ((acc ++ [x]).any (fun f => (f.code == e.code) && (f.one == e.one)) = true) := fun x h1 h2 => any_key.mpr ⟨x, by simp, h1, h2⟩
  rw [hj]
  unfold dirP
  obtain ⟨ec, eo, es⟩ := e
  dsimp only at k1 k2 no yes hs ⊢
  rcases hs with rfl | rfl
  · rw [if_pos rfl, List.foldl_cons, List.foldl_cons, List.foldl_nil]
    unfold dueStep
    rw [k1.1, k1.2, if_neg no, sign_even, k2.1, k2.2, if_pos (yes _ rfl rfl)]
  · rw [if_neg (by decide)]
    show List.foldl _ acc [2 * j + 1, 2 * j] = _
    rw [List.foldl_cons, List.foldl_cons, List.foldl_nil]
    unfold dueStep
    rw [k2.1, k2.2, if_neg no, sign_odd, k1.1, k1.2, if_pos (yes _ rfl rfl)]
theorem due_all : ∀ {l acc : List Slot}, (∀ e ∈ l, Pair cs pl p e ∧ (e.sign = 1 ∨ e.sign = -1)) → (acc ++ l).Pairwise keyNe → (allG p cs pl p l).foldl (dueStep cs pl) acc = acc ++ l
  | [], acc, _, _ => by rw [List.append_nil]; rfl
  | e :: l, acc, h, hp => by
    unfold allG
    rw [List.flatMap_cons, List.foldl_append, due_grp (h e List.mem_cons_self).1 (h e List.mem_cons_self).2 fun f hf => (List.pairwise_append.mp hp).2.2 f hf e List.mem_cons_self]
    have := due_all (l := l) (acc := acc ++ [e]) (fun f hf => h f (List.mem_cons_of_mem _ hf)) (by rw [List.append_assoc]; exact hp)
    unfold allG at this
    rw [this, List.append_assoc]; rfl
end
end Yk39
set_option Elab.async false
set_option linter.all false
set_option maxRecDepth 100000
set_option maxHeartbeats 0
namespace Yk39
open PySem PySem.Spec PyProof.Rows L2 VL LB
def un1 (x : SV) : Prop := x = .un ∨ ∃ d, x = .d d
theorem un1_wr {x : SV} (h : un1 x) : wrOk (some x) = true := by rcases h with rfl | ⟨d, rfl⟩ <;> rfl
theorem un1_flat {x : SV} (h : un1 x) : flatS (some x) = true := by rcases h with rfl | ⟨d, rfl⟩ <;> rfl
theorem un1_frz {s : VS} {k : Nat} {x : SV} (h : un1 x) : frzR k s (some x) = s := by rcases h with rfl | ⟨d, rfl⟩ <;> rfl
def csA (n p : Nat) (A : List Nat) : List Nat := A.flatMap fun one => (codesP n (p - one)).flatMap fun _ => [one, one]
def plA (n p : Nat) (A : List Nat) : List (List Int) := A.flatMap fun one => (codesP n (p - one)).flatMap fun c => [c, c]
theorem dup_len {α β : Type} {l : List α} {f : α → β} : (l.flatMap fun c => [f c, f c]).length = 2 * l.length := by
  induction l with
  | nil => rfl
  | cons x l ih => rw [List.flatMap_cons, List.length_append, ih, List.length_cons, List.length_cons, List.length_cons, List.length_nil]; omega
theorem csA_len {n p : Nat} (hq : ∀ q ≤ p, n ^ q ≤ 1000) : ∀ A : List Nat, (csA n p A).length ≤ 2000 * A.length
  | [] => Nat.le_refl _
  | a :: A => by
    have ih := csA_len (n := n) (p := p) hq A
    unfold csA at ih ⊢
    rw [List.flatMap_cons, List.length_append, dup_len, codesP_len, List.length_cons]
    have := hq (p - a) (by omega)
    omega
theorem plA_len {n p : Nat} : ∀ A : List Nat, (plA n p A).length = (csA n p A).length
  | [] => rfl
  | a :: A => by
    have ih := plA_len (n := n) (p := p) A
    unfold csA plA at ih ⊢
    rw [List.flatMap_cons, List.length_append, List.flatMap_cons, List.length_append, ih]
    show (List.flatMap (fun c => [id c, id c]) _).length + _ = (List.flatMap (fun c => [(fun _ => a) c, (fun _ => a) c]) _).length + _
    rw [dup_len, dup_len]
theorem r9_ok {a0 a1 a2 a3 a4 a5 a10 a11 a12 a13 : SV} {X Y : List Da} {o c : Da} (h1 : X.length + 2 ≤ 16777216) (h2 : Y.length + 2 ≤ 16777216) :
    r9 [a0, a1, a2, a3, a4, a5, .own (.l X), .own (.l Y), .d o, .d c, a10, a11, a12, a13] = .ok (.nx, [a0, a1, a2, a3, a4, a5, .own (.l (X ++ [.tuple [o, .int 0], .tuple [o, .int 0]])), .own (.l (Y ++ [c, c])), .d o, .d c, a10, a11, a12, a13]) := by
  unfold r9 r8
  simp only [m_vb, bnd_ok, bnd_er, m_vr, m_stuck, m_seq, bS_nx, bS_bk, bS_ct, bS_rt, bS_er, m_if, m_ite, bI_t, bI_f, bI_er, m_and, m_or, m_not, m_bool, evB_b, m_opt, m_optn, m_tru, tru_b, tru_i, tru_n, tru_l, tru_t, m_var, var_d, var_own, var_io, var_lk, var_rd, m_c, st_d, st_o, st_l, oc_l, oc_m, rd_d, rd_o, rd_l, rdR_own, rdR_io, rdR_lk, m_bin, m_un, m_call, m_rdn, m_rdc, m_cons, m_conss, m_tup, m_lst, dts_n, dts_c, o_map, o_bind, add_i, sub_i, mul_i, mod_i, fdiv_i, pow_i, neg_i, iadd_i, abs_i, int_i, int_b, len_l, len_t, add_l, add_t, lt_i, le_i, gt_i, ge_i, eq_i, ne_i, eqF_i, neF_i, tuple_l, tuple_t, list_l, list_t, ix_l, ix_t, m_ret, m_drop, m_nx, m_asg, m_nox, nx_ok, set_d, set_o, setD_, wr_un, wr_d, wr_o, wr_rd, m_aug, m_asgD, evD_d, evD_o, m_frzn, m_frzc, m_frz1, fz_d, fz_un, fz_io, fz_lk, fz_rd, fz_o, m_sub, m_augS, m_app, ap_o, ap_io, m_ct, ct_o, ct_io, m_isl, is_o, is_io, m_mut, m_mutB, m_mut0, intD_i, m_sl, m_pn, m_ps, rs_d, rs_l, rsR_rd, rsR_o, rsR_io, sl_l, sl_t, arg_n, arg_c, arg_d, arg_l, ar_o, ar_io, ar_lk, ar_rd, put_n, put_d, put_io, m_put, pt_o, pt_io, i_seq, src_l, src_t, src_o, src_n, sr_o, sr_io, sr_lk, i_rng, i_enum, i_zip, i_rev, unl_n, unl_c, unl_1, ul_lk, ob_t, ob_f, wp_n, wp_c, rt_n, rt_c, fl_un, fl_d, m_unpT, tupD_t, unp_n, unp_c, range_1, range_2, ext_l, ext_t, app_1, m_pc, m_par, rl_n, rl_d, rl_o, rl_l, rlR_o, sr_n, sto_d, sto_o, List.getElem?_cons_zero, List.getElem?_cons_succ, List.set_cons_zero, List.set_cons_succ, Option.map_some, Option.bind_some, if_true, and_self, List.length_cons, List.length_nil, Nat.zero_add, Nat.reduceAdd, show (2 : Nat) ≤ 16777216 by decide, ext_l, h1, h2]
theorem com_in {a0 a1 a2 a5 a9 a10 a11 a12 a13 : SV} {y : List Int} {p one : Nat} {C : List Nat} {P : List (List Int)} (h1 : one ≤ p) (hq : ∀ q ≤ p, y.length ^ q ≤ 1000) (hp : p ≤ 1000) (hy : y.length ≤ 1000) (h9 : un1 a9) (hC : C.length ≤ 10000000) (hP : P.length ≤ 10000000) :
    ∃ x9, r10 [a0, a1, a2, .d (tupI y), .d (.int p), a5, .own (.l (C.map comD)), .own (.l (P.map tupI)), .d (intN one), a9, a10, a11, a12, a13]
      = .ok (.nx, [a0, a1, a2, .d (tupI y), .d (.int p), a5, .own (.l ((C ++ (codesP y.length (p - one)).flatMap fun _ => [one, one]).map comD)), .own (.l ((P ++ (codesP y.length (p - one)).flatMap fun c => [c, c]).map tupI)), .d (intN one), x9, a10, a11, a12, a13]) ∧ un1 x9 := by
  have ca := fun s => codes_at (s := s) (ys := y.map PyData.int) (p := p - one) (by omega) (by rw [List.length_map]; omega) (fun q hlt => by rw [List.length_map, ← Nat.pow_succ]; have := hq q.succ (by omega); omega)
  rw [List.length_map] at ca
  have pk : (p : Int) - Int.ofNat one = ((p - one : Nat) : Int) := by show (p : Int) - (one : Int) = _; omega
  unfold r10 law_s4
  simp only [m_frzc, m_frzn, m_frz1, List.getElem?_cons_succ, List.getElem?_cons_zero, fz_d]
  obtain ⟨s', h, A, B, x9, e1, e2, hx, rfl⟩ := for_inv (L := []) (fi := vItSeq ((vCallF F__law_codes ((vCons (vVar 3) ((vCons (vBin subD (vVar 4) (vVar 8)) (vr []))))))) ) (gt := vSetD 9) (g := r9) (xs := (codesP y.length (p - one)).map tupI)
    (s := [a0, a1, a2, .d (tupI y), .d (.int p), a5, .own (.l (C.map comD)), .own (.l (P.map tupI)), .d (intN one), a9, a10, a11, a12, a13])
    (s1 := [a0, a1, a2, .d (tupI y), .d (.int p), a5, .own (.l (C.map comD)), .own (.l (P.map tupI)), .d (intN one), a9, a10, a11, a12, a13])
    (fun xs s => ∃ (A B : List (List Int)) (x9 : SV), A ++ B = codesP y.length (p - one) ∧ xs = B.map tupI ∧ un1 x9 ∧ s = [a0, a1, a2, .d (tupI y), .d (.int p), a5, .own (.l ((C ++ A.flatMap fun _ => [one, one]).map comD)), .own (.l ((P ++ A.flatMap fun c => [c, c]).map tupI)), .d (intN one), x9, a10, a11, a12, a13])
    (fun x xs s hR => by
      obtain ⟨A, B, x9, e1, e2, hx, rfl⟩ := hR
      cases B with
      | nil => cases e2
      | cons c B =>
        cases e2
        have hA : A.length ≤ 1000 := by
          have h := congrArg List.length e1
          rw [List.length_append, codesP_len] at h
          have := hq (p - one) (by omega)
          omega
        have l1 : ((C ++ A.flatMap fun _ => [one, one]).map comD).length + ([comD one, comD one] : List Da).length ≤ 16777216 := by
          rw [List.length_map, List.length_append]
          show _ + (List.flatMap (fun c => [(fun _ => one) c, (fun _ => one) c]) A).length + 2 ≤ _
          rw [dup_len]; omega
        have l2 : ((P ++ A.flatMap fun c => [c, c]).map tupI).length + ([tupI c, tupI c] : List Da).length ≤ 16777216 := by
          rw [List.length_map, List.length_append]
          show _ + (List.flatMap (fun c => [id c, id c]) A).length + 2 ≤ _
          rw [dup_len]; omega
        refine ⟨[a0, a1, a2, .d (tupI y), .d (.int p), a5, .own (.l ((C ++ A.flatMap fun _ => [one, one]).map comD)), .own (.l ((P ++ A.flatMap fun c => [c, c]).map tupI)), .d (intN one), .d (tupI c), a10, a11, a12, a13], .nx, _, by simp only [m_vb, bnd_ok, bnd_er, m_vr, m_stuck, m_seq, bS_nx, bS_bk, bS_ct, bS_rt, bS_er, m_if, m_ite, bI_t, bI_f, bI_er, m_and, m_or, m_not, m_bool, evB_b, m_opt, m_optn, m_tru, tru_b, tru_i, tru_n, tru_l, tru_t, m_var, var_d, var_own, var_io, var_lk, var_rd, m_c, st_d, st_o, st_l, oc_l, oc_m, rd_d, rd_o, rd_l, rdR_own, rdR_io, rdR_lk, m_bin, m_un, m_call, m_rdn, m_rdc, m_cons, m_conss, m_tup, m_lst, dts_n, dts_c, o_map, o_bind, add_i, sub_i, mul_i, mod_i, fdiv_i, pow_i, neg_i, iadd_i, abs_i, int_i, int_b, len_l, len_t, add_l, add_t, lt_i, le_i, gt_i, ge_i, eq_i, ne_i, eqF_i, neF_i, tuple_l, tuple_t, list_l, list_t, ix_l, ix_t, m_ret, m_drop, m_nx, m_asg, m_nox, nx_ok, set_d, set_o, setD_, wr_un, wr_d, wr_o, wr_rd, m_aug, m_asgD, evD_d, evD_o, m_frzn, m_frzc, m_frz1, fz_d, fz_un, fz_io, fz_lk, fz_rd, fz_o, m_sub, m_augS, m_app, ap_o, ap_io, m_ct, ct_o, ct_io, m_isl, is_o, is_io, m_mut, m_mutB, m_mut0, intD_i, m_sl, m_pn, m_ps, rs_d, rs_l, rsR_rd, rsR_o, rsR_io, sl_l, sl_t, arg_n, arg_c, arg_d, arg_l, ar_o, ar_io, ar_lk, ar_rd, put_n, put_d, put_io, m_put, pt_o, pt_io, i_seq, src_l, src_t, src_o, src_n, sr_o, sr_io, sr_lk, i_rng, i_enum, i_zip, i_rev, unl_n, unl_c, unl_1, ul_lk, ob_t, ob_f, wp_n, wp_c, rt_n, rt_c, fl_un, fl_d, m_unpT, tupD_t, unp_n, unp_c, range_1, range_2, ext_l, ext_t, app_1, m_pc, m_par, rl_n, rl_d, rl_o, rl_l, rlR_o, sr_n, sto_d, sto_o, List.getElem?_cons_zero, List.getElem?_cons_succ, List.set_cons_zero, List.set_cons_succ, Option.map_some, Option.bind_some, if_true, and_self, un1_wr hx], ?_, .inl rfl, A ++ [c], B, .d (tupI c), by rw [List.append_assoc]; exact e1, rfl, .inr ⟨_, rfl⟩, rfl⟩
        rw [r9_ok l1 l2]
        unfold comD
        simp only [List.map_append, List.flatMap_append, List.flatMap_cons, List.flatMap_nil, List.append_assoc, List.append_nil, List.map_cons, List.map_nil])
    (by
      unfold tupI at ca ⊢
      unfold intN
      simp only [m_vb, bnd_ok, bnd_er, m_vr, m_stuck, m_seq, bS_nx, bS_bk, bS_ct, bS_rt, bS_er, m_if, m_ite, bI_t, bI_f, bI_er, m_and, m_or, m_not, m_bool, evB_b, m_opt, m_optn, m_tru, tru_b, tru_i, tru_n, tru_l, tru_t, m_var, var_d, var_own, var_io, var_lk, var_rd, m_c, st_d, st_o, st_l, oc_l, oc_m, rd_d, rd_o, rd_l, rdR_own, rdR_io, rdR_lk, m_bin, m_un, m_call, m_rdn, m_rdc, m_cons, m_conss, m_tup, m_lst, dts_n, dts_c, o_map, o_bind, add_i, sub_i, mul_i, mod_i, fdiv_i, pow_i, neg_i, iadd_i, abs_i, int_i, int_b, len_l, len_t, add_l, add_t, lt_i, le_i, gt_i, ge_i, eq_i, ne_i, eqF_i, neF_i, tuple_l, tuple_t, list_l, list_t, ix_l, ix_t, m_ret, m_drop, m_nx, m_asg, m_nox, nx_ok, set_d, set_o, setD_, wr_un, wr_d, wr_o, wr_rd, m_aug, m_asgD, evD_d, evD_o, m_frzn, m_frzc, m_frz1, fz_d, fz_un, fz_io, fz_lk, fz_rd, fz_o, m_sub, m_augS, m_app, ap_o, ap_io, m_ct, ct_o, ct_io, m_isl, is_o, is_io, m_mut, m_mutB, m_mut0, intD_i, m_sl, m_pn, m_ps, rs_d, rs_l, rsR_rd, rsR_o, rsR_io, sl_l, sl_t, arg_n, arg_c, arg_d, arg_l, ar_o, ar_io, ar_lk, ar_rd, put_n, put_d, put_io, m_put, pt_o, pt_io, i_seq, src_l, src_t, src_o, src_n, sr_o, sr_io, sr_lk, i_rng, i_enum, i_zip, i_rev, unl_n, unl_c, unl_1, ul_lk, ob_t, ob_f, wp_n, wp_c, rt_n, rt_c, fl_un, fl_d, m_unpT, tupD_t, unp_n, unp_c, range_1, range_2, ext_l, ext_t, app_1, m_pc, m_par, rl_n, rl_d, rl_o, rl_l, rlR_o, sr_n, sto_d, sto_o, List.getElem?_cons_zero, List.getElem?_cons_succ, List.set_cons_zero, List.set_cons_succ, Option.map_some, Option.bind_some, if_true, and_self, m_callF, pk, ca]) ⟨[], codesP y.length (p - one), a9, rfl, rfl, h9, by simp only [List.flatMap_nil, List.append_nil]⟩
  have e5 : B = [] := by cases B with
    | nil => rfl
    | cons _ _ => cases e2
  subst e5
  rw [List.append_nil] at e1
  subst e1
  exact ⟨x9, h, hx⟩
theorem com_ok {a0 a1 a2 a10 a11 a12 a13 : SV} {y : List Int} {p : Nat} {ts : List Nat} (ht : ∀ one ∈ ts, one ≤ p) (hl : ts.length ≤ 1000) (hq : ∀ q ≤ p, y.length ^ q ≤ 1000) (hp : p ≤ 1000) (hy : y.length ≤ 1000) :
    ∃ x8 x9, law_s5 [a0, a1, a2, .d (tupI y), .d (.int p), .d (.tuple (ts.map intN)), .own (.l []), .own (.l []), .un, .un, a10, a11, a12, a13]
      = .ok (.nx, [a0, a1, a2, .d (tupI y), .d (.int p), .d (.tuple (ts.map intN)), .own (.l ((csA y.length p ts).map comD)), .own (.l ((plA y.length p ts).map tupI)), x8, x9, a10, a11, a12, a13]) ∧ un1 x8 ∧ un1 x9 := by
  unfold law_s5
  obtain ⟨s', h, A, B, x8, x9, e1, e2, h8, h9, rfl⟩ := for_inv (L := []) (fi := vItSeq (vVar 5)) (gt := vSetD 8) (g := r10) (xs := ts.map intN)
    (s := [a0, a1, a2, .d (tupI y), .d (.int p), .d (.tuple (ts.map intN)), .own (.l []), .own (.l []), .un, .un, a10, a11, a12, a13])
    (s1 := [a0, a1, a2, .d (tupI y), .d (.int p), .d (.tuple (ts.map intN)), .own (.l []), .own (.l []), .un, .un, a10, a11, a12, a13])
    (fun xs s => ∃ (A B : List Nat) (x8 x9 : SV), A ++ B = ts ∧ xs = B.map intN ∧ un1 x8 ∧ un1 x9 ∧ s = [a0, a1, a2, .d (tupI y), .d (.int p), .d (.tuple (ts.map intN)), .own (.l ((csA y.length p A).map comD)), .own (.l ((plA y.length p A).map tupI)), x8, x9, a10, a11, a12, a13])
    (fun x xs s hR => by
      obtain ⟨A, B, x8, x9, e1, e2, h8, h9, rfl⟩ := hR
      cases B with
      | nil => cases e2
      | cons one B =>
        cases e2
        have hA : A.length ≤ 1000 := by
          have h := congrArg List.length e1
          rw [List.length_append] at h
          omega
        have hc := csA_len hq A
        have hpl := plA_len (n := y.length) (p := p) A
        obtain ⟨x9', st, hx⟩ := com_in (a0 := a0) (a1 := a1) (a2 := a2) (a5 := .d (.tuple (ts.map intN))) (a9 := x9) (a10 := a10) (a11 := a11) (a12 := a12) (a13 := a13) (C := csA y.length p A) (P := plA y.length p A) (ht one (by rw [← e1]; simp)) hq hp hy h9 (by omega) (by omega)
        refine ⟨_, .nx, _, ?_, st, .inl rfl, A ++ [one], B, .d (intN one), x9', by rw [List.append_assoc]; exact e1, rfl, .inr ⟨_, rfl⟩, hx, ?_⟩
        · simp only [m_vb, bnd_ok, bnd_er, m_vr, m_stuck, m_seq, bS_nx, bS_bk, bS_ct, bS_rt, bS_er, m_if, m_ite, bI_t, bI_f, bI_er, m_and, m_or, m_not, m_bool, evB_b, m_opt, m_optn, m_tru, tru_b, tru_i, tru_n, tru_l, tru_t, m_var, var_d, var_own, var_io, var_lk, var_rd, m_c, st_d, st_o, st_l, oc_l, oc_m, rd_d, rd_o, rd_l, rdR_own, rdR_io, rdR_lk, m_bin, m_un, m_call, m_rdn, m_rdc, m_cons, m_conss, m_tup, m_lst, dts_n, dts_c, o_map, o_bind, add_i, sub_i, mul_i, mod_i, fdiv_i, pow_i, neg_i, iadd_i, abs_i, int_i, int_b, len_l, len_t, add_l, add_t, lt_i, le_i, gt_i, ge_i, eq_i, ne_i, eqF_i, neF_i, tuple_l, tuple_t, list_l, list_t, ix_l, ix_t, m_ret, m_drop, m_nx, m_asg, m_nox, nx_ok, set_d, set_o, setD_, wr_un, wr_d, wr_o, wr_rd, m_aug, m_asgD, evD_d, evD_o, m_frzn, m_frzc, m_frz1, fz_d, fz_un, fz_io, fz_lk, fz_rd, fz_o, m_sub, m_augS, m_app, ap_o, ap_io, m_ct, ct_o, ct_io, m_isl, is_o, is_io, m_mut, m_mutB, m_mut0, intD_i, m_sl, m_pn, m_ps, rs_d, rs_l, rsR_rd, rsR_o, rsR_io, sl_l, sl_t, arg_n, arg_c, arg_d, arg_l, ar_o, ar_io, ar_lk, ar_rd, put_n, put_d, put_io, m_put, pt_o, pt_io, i_seq, src_l, src_t, src_o, src_n, sr_o, sr_io, sr_lk, i_rng, i_enum, i_zip, i_rev, unl_n, unl_c, unl_1, ul_lk, ob_t, ob_f, wp_n, wp_c, rt_n, rt_c, fl_un, fl_d, m_unpT, tupD_t, unp_n, unp_c, range_1, range_2, ext_l, ext_t, app_1, m_pc, m_par, rl_n, rl_d, rl_o, rl_l, rlR_o, sr_n, sto_d, sto_o, List.getElem?_cons_zero, List.getElem?_cons_succ, List.set_cons_zero, List.set_cons_succ, Option.map_some, Option.bind_some, if_true, and_self, un1_wr h8]
        · unfold csA plA
          simp only [List.flatMap_append, List.flatMap_cons, List.flatMap_nil, List.append_nil])
    (by simp only [m_vb, bnd_ok, bnd_er, m_vr, m_stuck, m_seq, bS_nx, bS_bk, bS_ct, bS_rt, bS_er, m_if, m_ite, bI_t, bI_f, bI_er, m_and, m_or, m_not, m_bool, evB_b, m_opt, m_optn, m_tru, tru_b, tru_i, tru_n, tru_l, tru_t, m_var, var_d, var_own, var_io, var_lk, var_rd, m_c, st_d, st_o, st_l, oc_l, oc_m, rd_d, rd_o, rd_l, rdR_own, rdR_io, rdR_lk, m_bin, m_un, m_call, m_rdn, m_rdc, m_cons, m_conss, m_tup, m_lst, dts_n, dts_c, o_map, o_bind, add_i, sub_i, mul_i, mod_i, fdiv_i, pow_i, neg_i, iadd_i, abs_i, int_i, int_b, len_l, len_t, add_l, add_t, lt_i, le_i, gt_i, ge_i, eq_i, ne_i, eqF_i, neF_i, tuple_l, tuple_t, list_l, list_t, ix_l, ix_t, m_ret, m_drop, m_nx, m_asg, m_nox, nx_ok, set_d, set_o, setD_, wr_un, wr_d, wr_o, wr_rd, m_aug, m_asgD, evD_d, evD_o, m_frzn, m_frzc, m_frz1, fz_d, fz_un, fz_io, fz_lk, fz_rd, fz_o, m_sub, m_augS, m_app, ap_o, ap_io, m_ct, ct_o, ct_io, m_isl, is_o, is_io, m_mut, m_mutB, m_mut0, intD_i, m_sl, m_pn, m_ps, rs_d, rs_l, rsR_rd, rsR_o, rsR_io, sl_l, sl_t, arg_n, arg_c, arg_d, arg_l, ar_o, ar_io, ar_lk, ar_rd, put_n, put_d, put_io, m_put, pt_o, pt_io, i_seq, src_l, src_t, src_o, src_n, sr_o, sr_io, sr_lk, i_rng, i_enum, i_zip, i_rev, unl_n, unl_c, unl_1, ul_lk, ob_t, ob_f, wp_n, wp_c, rt_n, rt_c, fl_un, fl_d, m_unpT, tupD_t, unp_n, unp_c, range_1, range_2, ext_l, ext_t, app_1, m_pc, m_par, rl_n, rl_d, rl_o, rl_l, rlR_o, sr_n, sto_d, sto_o, List.getElem?_cons_zero, List.getElem?_cons_succ, List.set_cons_zero, List.set_cons_succ, Option.map_some, Option.bind_some, if_true, and_self]) ⟨[], ts, .un, .un, rfl, rfl, .inl rfl, .inl rfl, rfl⟩
  have e5 : B = [] := by cases B with
    | nil => rfl
    | cons _ _ => cases e2
  subst e5
  rw [List.append_nil] at e1
  subst e1
  exact ⟨x8, x9, h, h8, h9⟩
end Yk39
set_option Elab.async false
set_option linter.all false
set_option maxRecDepth 100000
set_option maxHeartbeats 0
namespace Yk39
open PySem PySem.Spec PyProof.Rows L2 VL LB
/-! the program's slots -/
theorem byT_lc_through {t kd : Da} {l : List Slot} (hl : l.length ≤ 1000000) (hc : ∀ e ∈ l, e.code.length ≤ 1000000) :
    vLcF [3, 4, 5] (vItSeq (vVar 2)) (vUnpT [(vSetD 3), (vSetD 4), (vSetD 5)]) (vr true) ((vTuple ((vCons ((vTuple ((vCons (vVar 0) ((vConsS (vVar 3) (vr []))))))) ((vCons (vVar 4) ((vCons (vVar 5) (vr []))))))))) [.d t, .d kd, .d (.list (l.map slotD)), .un, .un, .un]
      = .ok (.own (.l (l.map fun e => PyData.tuple [.tuple (t :: e.code.map PyData.int), intN e.one, .int e.sign])), [.d t, .d kd, .d (.list (l.map slotD)), .un, .un, .un]) := by
  refine lc_map (xs := l) (enc := slotD) (L := []) (s1 := [.d t, .d kd, .d (.list (l.map slotD)), .un, .un, .un]) (base := [.d t, .d kd, .d (.list (l.map slotD)), .un, .un, .un]) (by simp only [m_vb, bnd_ok, bnd_er, m_vr, m_stuck, m_seq, bS_nx, bS_bk, bS_ct, bS_rt, bS_er, m_if, m_ite, bI_t, bI_f, bI_er, m_and, m_or, m_not, m_bool, evB_b, m_opt, m_optn, m_tru, tru_b, tru_i, tru_n, tru_l, tru_t, m_var, var_d, var_own, var_io, var_lk, var_rd, m_c, st_d, st_o, st_l, oc_l, oc_m, rd_d, rd_o, rd_l, rdR_own, rdR_io, rdR_lk, m_bin, m_un, m_call, m_rdn, m_rdc, m_cons, m_conss, m_tup, m_lst, dts_n, dts_c, o_map, o_bind, add_i, sub_i, mul_i, mod_i, fdiv_i, pow_i, neg_i, iadd_i, abs_i, int_i, int_b, len_l, len_t, add_l, add_t, lt_i, le_i, gt_i, ge_i, eq_i, ne_i, eqF_i, neF_i, tuple_l, tuple_t, list_l, list_t, ix_l, ix_t, m_ret, m_drop, m_nx, m_asg, m_nox, nx_ok, set_d, set_o, setD_, wr_un, wr_d, wr_o, wr_rd, m_aug, m_asgD, evD_d, evD_o, m_frzn, m_frzc, m_frz1, fz_d, fz_un, fz_io, fz_lk, fz_rd, fz_o, m_sub, m_augS, m_app, ap_o, ap_io, m_ct, ct_o, ct_io, m_isl, is_o, is_io, m_mut, m_mutB, m_mut0, intD_i, m_sl, m_pn, m_ps, rs_d, rs_l, rsR_rd, rsR_o, rsR_io, sl_l, sl_t, arg_n, arg_c, arg_d, arg_l, ar_o, ar_io, ar_lk, ar_rd, put_n, put_d, put_io, m_put, pt_o, pt_io, i_seq, src_l, src_t, src_o, src_n, sr_o, sr_io, sr_lk, i_rng, i_enum, i_zip, i_rev, unl_n, unl_c, unl_1, ul_lk, ob_t, ob_f, wp_n, wp_c, rt_n, rt_c, fl_un, fl_d, m_unpT, tupD_t, unp_n, unp_c, range_1, range_2, ext_l, ext_t, app_1, m_pc, m_par, rl_n, rl_d, rl_o, rl_l, rlR_o, sr_n, sto_d, sto_o, List.getElem?_cons_zero, List.getElem?_cons_succ, List.set_cons_zero, List.set_cons_succ, Option.map_some, Option.bind_some, if_true, and_self]) rfl rfl (fun e he => ?_) (by omega)
  have l1 : (e.code.map PyData.int).length + 1 ≤ 16777216 := by rw [List.length_map]; have := hc e he; omega
  refine ⟨[.d t, .d kd, .d (.list (l.map slotD)), .d (tupI e.code), .d (intN e.one), .d (.int e.sign)], .d (.tuple [.tuple (t :: e.code.map PyData.int), intN e.one, .int e.sign]), [.d t, .d kd, .d (.list (l.map slotD)), .d (tupI e.code), .d (intN e.one), .d (.int e.sign)], ?_, ?_, rfl, rfl, rfl⟩
  · unfold slotD
    simp only [m_vb, bnd_ok, bnd_er, m_vr, m_stuck, m_seq, bS_nx, bS_bk, bS_ct, bS_rt, bS_er, m_if, m_ite, bI_t, bI_f, bI_er, m_and, m_or, m_not, m_bool, evB_b, m_opt, m_optn, m_tru, tru_b, tru_i, tru_n, tru_l, tru_t, m_var, var_d, var_own, var_io, var_lk, var_rd, m_c, st_d, st_o, st_l, oc_l, oc_m, rd_d, rd_o, rd_l, rdR_own, rdR_io, rdR_lk, m_bin, m_un, m_call, m_rdn, m_rdc, m_cons, m_conss, m_tup, m_lst, dts_n, dts_c, o_map, o_bind, add_i, sub_i, mul_i, mod_i, fdiv_i, pow_i, neg_i, iadd_i, abs_i, int_i, int_b, len_l, len_t, add_l, add_t, lt_i, le_i, gt_i, ge_i, eq_i, ne_i, eqF_i, neF_i, tuple_l, tuple_t, list_l, list_t, ix_l, ix_t, m_ret, m_drop, m_nx, m_asg, m_nox, nx_ok, set_d, set_o, setD_, wr_un, wr_d, wr_o, wr_rd, m_aug, m_asgD, evD_d, evD_o, m_frzn, m_frzc, m_frz1, fz_d, fz_un, fz_io, fz_lk, fz_rd, fz_o, m_sub, m_augS, m_app, ap_o, ap_io, m_ct, ct_o, ct_io, m_isl, is_o, is_io, m_mut, m_mutB, m_mut0, intD_i, m_sl, m_pn, m_ps, rs_d, rs_l, rsR_rd, rsR_o, rsR_io, sl_l, sl_t, arg_n, arg_c, arg_d, arg_l, ar_o, ar_io, ar_lk, ar_rd, put_n, put_d, put_io, m_put, pt_o, pt_io, i_seq, src_l, src_t, src_o, src_n, sr_o, sr_io, sr_lk, i_rng, i_enum, i_zip, i_rev, unl_n, unl_c, unl_1, ul_lk, ob_t, ob_f, wp_n, wp_c, rt_n, rt_c, fl_un, fl_d, m_unpT, tupD_t, unp_n, unp_c, range_1, range_2, ext_l, ext_t, app_1, m_pc, m_par, rl_n, rl_d, rl_o, rl_l, rlR_o, sr_n, sto_d, sto_o, List.getElem?_cons_zero, List.getElem?_cons_succ, List.set_cons_zero, List.set_cons_succ, Option.map_some, Option.bind_some, if_true, and_self]
  · unfold tupI
    have ds : dts ((e.code.map PyData.int).map EV.d) = some (e.code.map PyData.int) := by
      generalize e.code.map PyData.int = q
      induction q with
      | nil => rfl
      | cons x q ih => rw [List.map_cons, dts_c, ih]; rfl
    simp only [m_vb, bnd_ok, bnd_er, m_vr, m_stuck, m_seq, bS_nx, bS_bk, bS_ct, bS_rt, bS_er, m_if, m_ite, bI_t, bI_f, bI_er, m_and, m_or, m_not, m_bool, evB_b, m_opt, m_optn, m_tru, tru_b, tru_i, tru_n, tru_l, tru_t, m_var, var_d, var_own, var_io, var_lk, var_rd, m_c, st_d, st_o, st_l, oc_l, oc_m, rd_d, rd_o, rd_l, rdR_own, rdR_io, rdR_lk, m_bin, m_un, m_call, m_rdn, m_rdc, m_cons, m_conss, m_tup, m_lst, dts_n, dts_c, o_map, o_bind, add_i, sub_i, mul_i, mod_i, fdiv_i, pow_i, neg_i, iadd_i, abs_i, int_i, int_b, len_l, len_t, add_l, add_t, lt_i, le_i, gt_i, ge_i, eq_i, ne_i, eqF_i, neF_i, tuple_l, tuple_t, list_l, list_t, ix_l, ix_t, m_ret, m_drop, m_nx, m_asg, m_nox, nx_ok, set_d, set_o, setD_, wr_un, wr_d, wr_o, wr_rd, m_aug, m_asgD, evD_d, evD_o, m_frzn, m_frzc, m_frz1, fz_d, fz_un, fz_io, fz_lk, fz_rd, fz_o, m_sub, m_augS, m_app, ap_o, ap_io, m_ct, ct_o, ct_io, m_isl, is_o, is_io, m_mut, m_mutB, m_mut0, intD_i, m_sl, m_pn, m_ps, rs_d, rs_l, rsR_rd, rsR_o, rsR_io, sl_l, sl_t, arg_n, arg_c, arg_d, arg_l, ar_o, ar_io, ar_lk, ar_rd, put_n, put_d, put_io, m_put, pt_o, pt_io, i_seq, src_l, src_t, src_o, src_n, sr_o, sr_io, sr_lk, i_rng, i_enum, i_zip, i_rev, unl_n, unl_c, unl_1, ul_lk, ob_t, ob_f, wp_n, wp_c, rt_n, rt_c, fl_un, fl_d, m_unpT, tupD_t, unp_n, unp_c, range_1, range_2, ext_l, ext_t, app_1, m_pc, m_par, rl_n, rl_d, rl_o, rl_l, rlR_o, sr_n, sto_d, sto_o, List.getElem?_cons_zero, List.getElem?_cons_succ, List.set_cons_zero, List.set_cons_succ, Option.map_some, Option.bind_some, if_true, and_self, seqD, List.append_nil, ds, l1, List.length_cons, List.length_nil, Nat.zero_add, Nat.reduceAdd, show (3 : Nat) ≤ 16777216 by decide]
theorem byT_lc_stub {t kd : Da} {l : List Slot} (hl : l.length ≤ 1000000) (hc : ∀ e ∈ l, e.code.length ≤ 1000000) :
    vLcF [3, 4, 5] (vItRev (vVar 2)) (vUnpT [(vSetD 3), (vSetD 4), (vSetD 5)]) (vr true) ((vTuple ((vCons ((vTuple ((vCons (vVar 0) ((vConsS (vVar 3) (vr []))))))) ((vCons (vVar 4) ((vCons ((vBin subD (vC (.int 0)) (vVar 5))) (vr []))))))))) [.d t, .d kd, .d (.list (l.map slotD)), .un, .un, .un]
      = .ok (.own (.l (l.reverse.map fun e => PyData.tuple [.tuple (t :: e.code.map PyData.int), intN e.one, .int (0 - e.sign)])), [.d t, .d kd, .d (.list (l.map slotD)), .un, .un, .un]) := by
  refine lc_map (xs := l.reverse) (enc := slotD) (L := []) (s1 := [.d t, .d kd, .d (.list (l.map slotD)), .un, .un, .un]) (base := [.d t, .d kd, .d (.list (l.map slotD)), .un, .un, .un]) (by simp only [m_vb, bnd_ok, bnd_er, m_vr, m_stuck, m_seq, bS_nx, bS_bk, bS_ct, bS_rt, bS_er, m_if, m_ite, bI_t, bI_f, bI_er, m_and, m_or, m_not, m_bool, evB_b, m_opt, m_optn, m_tru, tru_b, tru_i, tru_n, tru_l, tru_t, m_var, var_d, var_own, var_io, var_lk, var_rd, m_c, st_d, st_o, st_l, oc_l, oc_m, rd_d, rd_o, rd_l, rdR_own, rdR_io, rdR_lk, m_bin, m_un, m_call, m_rdn, m_rdc, m_cons, m_conss, m_tup, m_lst, dts_n, dts_c, o_map, o_bind, add_i, sub_i, mul_i, mod_i, fdiv_i, pow_i, neg_i, iadd_i, abs_i, int_i, int_b, len_l, len_t, add_l, add_t, lt_i, le_i, gt_i, ge_i, eq_i, ne_i, eqF_i, neF_i, tuple_l, tuple_t, list_l, list_t, ix_l, ix_t, m_ret, m_drop, m_nx, m_asg, m_nox, nx_ok, set_d, set_o, setD_, wr_un, wr_d, wr_o, wr_rd, m_aug, m_asgD, evD_d, evD_o, m_frzn, m_frzc, m_frz1, fz_d, fz_un, fz_io, fz_lk, fz_rd, fz_o, m_sub, m_augS, m_app, ap_o, ap_io, m_ct, ct_o, ct_io, m_isl, is_o, is_io, m_mut, m_mutB, m_mut0, intD_i, m_sl, m_pn, m_ps, rs_d, rs_l, rsR_rd, rsR_o, rsR_io, sl_l, sl_t, arg_n, arg_c, arg_d, arg_l, ar_o, ar_io, ar_lk, ar_rd, put_n, put_d, put_io, m_put, pt_o, pt_io, i_seq, src_l, src_t, src_o, src_n, sr_o, sr_io, sr_lk, i_rng, i_enum, i_zip, i_rev, unl_n, unl_c, unl_1, ul_lk, ob_t, ob_f, wp_n, wp_c, rt_n, rt_c, fl_un, fl_d, m_unpT, tupD_t, unp_n, unp_c, range_1, range_2, ext_l, ext_t, app_1, m_pc, m_par, rl_n, rl_d, rl_o, rl_l, rlR_o, sr_n, sto_d, sto_o, List.getElem?_cons_zero, List.getElem?_cons_succ, List.set_cons_zero, List.set_cons_succ, Option.map_some, Option.bind_some, if_true, and_self, List.map_reverse]) rfl rfl (fun e he => ?_) (by rw [List.length_reverse]; omega)
  have l1 : (e.code.map PyData.int).length + 1 ≤ 16777216 := by rw [List.length_map]; have := hc e (List.mem_reverse.mp he); omega
  refine ⟨[.d t, .d kd, .d (.list (l.map slotD)), .d (tupI e.code), .d (intN e.one), .d (.int e.sign)], .d (.tuple [.tuple (t :: e.code.map PyData.int), intN e.one, .int (0 - e.sign)]), [.d t, .d kd, .d (.list (l.map slotD)), .d (tupI e.code), .d (intN e.one), .d (.int e.sign)], ?_, ?_, rfl, rfl, rfl⟩
  · unfold slotD
    simp only [m_vb, bnd_ok, bnd_er, m_vr, m_stuck, m_seq, bS_nx, bS_bk, bS_ct, bS_rt, bS_er, m_if, m_ite, bI_t, bI_f, bI_er, m_and, m_or, m_not, m_bool, evB_b, m_opt, m_optn, m_tru, tru_b, tru_i, tru_n, tru_l, tru_t, m_var, var_d, var_own, var_io, var_lk, var_rd, m_c, st_d, st_o, st_l, oc_l, oc_m, rd_d, rd_o, rd_l, rdR_own, rdR_io, rdR_lk, m_bin, m_un, m_call, m_rdn, m_rdc, m_cons, m_conss, m_tup, m_lst, dts_n, dts_c, o_map, o_bind, add_i, sub_i, mul_i, mod_i, fdiv_i, pow_i, neg_i, iadd_i, abs_i, int_i, int_b, len_l, len_t, add_l, add_t, lt_i, le_i, gt_i, ge_i, eq_i, ne_i, eqF_i, neF_i, tuple_l, tuple_t, list_l, list_t, ix_l, ix_t, m_ret, m_drop, m_nx, m_asg, m_nox, nx_ok, set_d, set_o, setD_, wr_un, wr_d, wr_o, wr_rd, m_aug, m_asgD, evD_d, evD_o, m_frzn, m_frzc, m_frz1, fz_d, fz_un, fz_io, fz_lk, fz_rd, fz_o, m_sub, m_augS, m_app, ap_o, ap_io, m_ct, ct_o, ct_io, m_isl, is_o, is_io, m_mut, m_mutB, m_mut0, intD_i, m_sl, m_pn, m_ps, rs_d, rs_l, rsR_rd, rsR_o, rsR_io, sl_l, sl_t, arg_n, arg_c, arg_d, arg_l, ar_o, ar_io, ar_lk, ar_rd, put_n, put_d, put_io, m_put, pt_o, pt_io, i_seq, src_l, src_t, src_o, src_n, sr_o, sr_io, sr_lk, i_rng, i_enum, i_zip, i_rev, unl_n, unl_c, unl_1, ul_lk, ob_t, ob_f, wp_n, wp_c, rt_n, rt_c, fl_un, fl_d, m_unpT, tupD_t, unp_n, unp_c, range_1, range_2, ext_l, ext_t, app_1, m_pc, m_par, rl_n, rl_d, rl_o, rl_l, rlR_o, sr_n, sto_d, sto_o, List.getElem?_cons_zero, List.getElem?_cons_succ, List.set_cons_zero, List.set_cons_succ, Option.map_some, Option.bind_some, if_true, and_self]
  · unfold tupI
    have ds : dts ((e.code.map PyData.int).map EV.d) = some (e.code.map PyData.int) := by
      generalize e.code.map PyData.int = q
      induction q with
      | nil => rfl
      | cons x q ih => rw [List.map_cons, dts_c, ih]; rfl
    simp only [m_vb, bnd_ok, bnd_er, m_vr, m_stuck, m_seq, bS_nx, bS_bk, bS_ct, bS_rt, bS_er, m_if, m_ite, bI_t, bI_f, bI_er, m_and, m_or, m_not, m_bool, evB_b, m_opt, m_optn, m_tru, tru_b, tru_i, tru_n, tru_l, tru_t, m_var, var_d, var_own, var_io, var_lk, var_rd, m_c, st_d, st_o, st_l, oc_l, oc_m, rd_d, rd_o, rd_l, rdR_own, rdR_io, rdR_lk, m_bin, m_un, m_call, m_rdn, m_rdc, m_cons, m_conss, m_tup, m_lst, dts_n, dts_c, o_map, o_bind, add_i, sub_i, mul_i, mod_i, fdiv_i, pow_i, neg_i, iadd_i, abs_i, int_i, int_b, len_l, len_t, add_l, add_t, lt_i, le_i, gt_i, ge_i, eq_i, ne_i, eqF_i, neF_i, tuple_l, tuple_t, list_l, list_t, ix_l, ix_t, m_ret, m_drop, m_nx, m_asg, m_nox, nx_ok, set_d, set_o, setD_, wr_un, wr_d, wr_o, wr_rd, m_aug, m_asgD, evD_d, evD_o, m_frzn, m_frzc, m_frz1, fz_d, fz_un, fz_io, fz_lk, fz_rd, fz_o, m_sub, m_augS, m_app, ap_o, ap_io, m_ct, ct_o, ct_io, m_isl, is_o, is_io, m_mut, m_mutB, m_mut0, intD_i, m_sl, m_pn, m_ps, rs_d, rs_l, rsR_rd, rsR_o, rsR_io, sl_l, sl_t, arg_n, arg_c, arg_d, arg_l, ar_o, ar_io, ar_lk, ar_rd, put_n, put_d, put_io, m_put, pt_o, pt_io, i_seq, src_l, src_t, src_o, src_n, sr_o, sr_io, sr_lk, i_rng, i_enum, i_zip, i_rev, unl_n, unl_c, unl_1, ul_lk, ob_t, ob_f, wp_n, wp_c, rt_n, rt_c, fl_un, fl_d, m_unpT, tupD_t, unp_n, unp_c, range_1, range_2, ext_l, ext_t, app_1, m_pc, m_par, rl_n, rl_d, rl_o, rl_l, rlR_o, sr_n, sto_d, sto_o, List.getElem?_cons_zero, List.getElem?_cons_succ, List.set_cons_zero, List.set_cons_succ, Option.map_some, Option.bind_some, if_true, and_self, seqD, List.append_nil, ds, l1, List.length_cons, List.length_nil, Nat.zero_add, Nat.reduceAdd, show (3 : Nat) ≤ 16777216 by decide]
theorem by_track_ok {t : Nat} {kind : Int} {l : List Slot} (hl : l.length ≤ 1000000) (hc : ∀ e ∈ l, e.code.length ≤ 1000000) :
    F_by_track [.d (intN t), .d (.int kind), .d (.list (l.map slotD))] = .ok (.own (.l ((byT t kind l).map slotD)), [.d (intN t), .d (.int kind), .d (.list (l.map slotD))]) := by
  refine run_ok (c := .rt (.own (.l ((byT t kind l).map slotD)))) (s := [.d (intN t), .d (.int kind), .d (.list (l.map slotD)), .un, .un, .un]) ?_ rfl
  show g_by_track [.d (intN t), .d (.int kind), .d (.list (l.map slotD)), .un, .un, .un] = _
  unfold g_by_track by_track_s1 byT
  by_cases h : kind = 1
  · rw [if_pos h, List.map_map]
    simp only [m_vb, bnd_ok, bnd_er, m_vr, m_stuck, m_seq, bS_nx, bS_bk, bS_ct, bS_rt, bS_er, m_if, m_ite, bI_t, bI_f, bI_er, m_and, m_or, m_not, m_bool, evB_b, m_opt, m_optn, m_tru, tru_b, tru_i, tru_n, tru_l, tru_t, m_var, var_d, var_own, var_io, var_lk, var_rd, m_c, st_d, st_o, st_l, oc_l, oc_m, rd_d, rd_o, rd_l, rdR_own, rdR_io, rdR_lk, m_bin, m_un, m_call, m_rdn, m_rdc, m_cons, m_conss, m_tup, m_lst, dts_n, dts_c, o_map, o_bind, add_i, sub_i, mul_i, mod_i, fdiv_i, pow_i, neg_i, iadd_i, abs_i, int_i, int_b, len_l, len_t, add_l, add_t, lt_i, le_i, gt_i, ge_i, eq_i, ne_i, eqF_i, neF_i, tuple_l, tuple_t, list_l, list_t, ix_l, ix_t, m_ret, m_drop, m_nx, m_asg, m_nox, nx_ok, set_d, set_o, setD_, wr_un, wr_d, wr_o, wr_rd, m_aug, m_asgD, evD_d, evD_o, m_frzn, m_frzc, m_frz1, fz_d, fz_un, fz_io, fz_lk, fz_rd, fz_o, m_sub, m_augS, m_app, ap_o, ap_io, m_ct, ct_o, ct_io, m_isl, is_o, is_io, m_mut, m_mutB, m_mut0, intD_i, m_sl, m_pn, m_ps, rs_d, rs_l, rsR_rd, rsR_o, rsR_io, sl_l, sl_t, arg_n, arg_c, arg_d, arg_l, ar_o, ar_io, ar_lk, ar_rd, put_n, put_d, put_io, m_put, pt_o, pt_io, i_seq, src_l, src_t, src_o, src_n, sr_o, sr_io, sr_lk, i_rng, i_enum, i_zip, i_rev, unl_n, unl_c, unl_1, ul_lk, ob_t, ob_f, wp_n, wp_c, rt_n, rt_c, fl_un, fl_d, m_unpT, tupD_t, unp_n, unp_c, range_1, range_2, ext_l, ext_t, app_1, m_pc, m_par, rl_n, rl_d, rl_o, rl_l, rlR_o, sr_n, sto_d, sto_o, List.getElem?_cons_zero, List.getElem?_cons_succ, List.set_cons_zero, List.set_cons_succ, Option.map_some, Option.bind_some, if_true, and_self, h, decide_true, byT_lc_stub hl hc]
    rfl
  · rw [if_neg h, List.map_map]
    simp only [m_vb, bnd_ok, bnd_er, m_vr, m_stuck, m_seq, bS_nx, bS_bk, bS_ct, bS_rt, bS_er, m_if, m_ite, bI_t, bI_f, bI_er, m_and, m_or, m_not, m_bool, evB_b, m_opt, m_optn, m_tru, tru_b, tru_i, tru_n, tru_l, tru_t, m_var, var_d, var_own, var_io, var_lk, var_rd, m_c, st_d, st_o, st_l, oc_l, oc_m, rd_d, rd_o, rd_l, rdR_own, rdR_io, rdR_lk, m_bin, m_un, m_call, m_rdn, m_rdc, m_cons, m_conss, m_tup, m_lst, dts_n, dts_c, o_map, o_bind, add_i, sub_i, mul_i, mod_i, fdiv_i, pow_i, neg_i, iadd_i, abs_i, int_i, int_b, len_l, len_t, add_l, add_t, lt_i, le_i, gt_i, ge_i, eq_i, ne_i, eqF_i, neF_i, tuple_l, tuple_t, list_l, list_t, ix_l, ix_t, m_ret, m_drop, m_nx, m_asg, m_nox, nx_ok, set_d, set_o, setD_, wr_un, wr_d, wr_o, wr_rd, m_aug, m_asgD, evD_d, evD_o, m_frzn, m_frzc, m_frz1, fz_d, fz_un, fz_io, fz_lk, fz_rd, fz_o, m_sub, m_augS, m_app, ap_o, ap_io, m_ct, ct_o, ct_io, m_isl, is_o, is_io, m_mut, m_mutB, m_mut0, intD_i, m_sl, m_pn, m_ps, rs_d, rs_l, rsR_rd, rsR_o, rsR_io, sl_l, sl_t, arg_n, arg_c, arg_d, arg_l, ar_o, ar_io, ar_lk, ar_rd, put_n, put_d, put_io, m_put, pt_o, pt_io, i_seq, src_l, src_t, src_o, src_n, sr_o, sr_io, sr_lk, i_rng, i_enum, i_zip, i_rev, unl_n, unl_c, unl_1, ul_lk, ob_t, ob_f, wp_n, wp_c, rt_n, rt_c, fl_un, fl_d, m_unpT, tupD_t, unp_n, unp_c, range_1, range_2, ext_l, ext_t, app_1, m_pc, m_par, rl_n, rl_d, rl_o, rl_l, rlR_o, sr_n, sto_d, sto_o, List.getElem?_cons_zero, List.getElem?_cons_succ, List.set_cons_zero, List.set_cons_succ, Option.map_some, Option.bind_some, if_true, and_self, h, decide_false, byT_lc_through hl hc]
    rfl
theorem by_track_at {t : Nat} {kind : Int} {l : List Slot} {s : VS} (hl : l.length ≤ 1000000) (hc : ∀ e ∈ l, e.code.length ≤ 1000000) :
    callF F_by_track [.d (intN t), .d (.int kind), .d (.list (l.map slotD))] s = .ok (.own (.l ((byT t kind l).map slotD)), s) := by
  rw [callF_ok (by simp [loans]) (by rfl) (by_track_ok hl hc) (fun i => by intro z; cases z), put_d, put_d, put_d, put_n]
theorem by_track_lk {t : Nat} {kind : Int} {l : List Slot} {s : VS} {k : Nat} (hs : s[k]? = some (.own (.l (l.map slotD)))) (hl : l.length ≤ 1000000) (hc : ∀ e ∈ l, e.code.length ≤ 1000000) : True := trivial
theorem byT_len (t : Nat) (kind : Int) (l : List Slot) : (byT t kind l).length = l.length := by
  unfold byT
  split
  · rw [List.length_map, List.length_reverse]
  · rw [List.length_map]
theorem byTs_len (l : List Slot) : ∀ (ks : List Int) (t : Nat), (byTs t ks l).length = ks.length * l.length
  | [], t => by rw [List.length_nil, Nat.zero_mul]; rfl
  | k :: ks, t => by
    show (byT t k l ++ byTs (t + 1) ks l).length = _
    rw [List.length_append, byT_len, byTs_len l ks, List.length_cons, Nat.add_mul, Nat.one_mul, Nat.add_comm]
theorem fresh_len (ts : List Nat) (k : Nat) : (fresh ts k).length = if k ∈ ts then 1 else 0 := by
  unfold fresh
  split <;> rfl
theorem slP_code {y : List Int} {ts : List Nat} {k : Nat} : ∀ e ∈ slP y ts k, e.code.length ≤ k := fun e h => by have := (slP_ok e h).len; omega
theorem enum_ints (y : List Int) : ∀ (c : Nat), enumD (c : Int) (y.map PyData.int) = (List.range' c y.length).zipWith (fun t k => PyData.tuple [intN t, .int k]) y := by
  induction y with
  | nil => intro c; rfl
  | cons k y ih =>
    intro c
    rw [List.map_cons, List.length_cons, List.range'_succ, List.zipWith_cons_cons]
    show _ :: enumD ((c : Int) + 1) _ = _
    rw [show (c : Int) + 1 = ((c + 1 : Nat) : Int) from rfl, ih (c + 1)]; rfl
def enumZ (y : List Int) (t : Nat) : List Da := (List.range' t y.length).zipWith (fun t k => PyData.tuple [intN t, .int k]) y
theorem tracks_ok {y : List Int} {a1 a2 a4 a6 a7 : SV} {l : List Slot} (hl : l.length ≤ 1000000) (hc : ∀ e ∈ l, e.code.length ≤ 1000000) (hy : y.length * l.length ≤ 16000000) (h6 : un1 a6) (h7 : un1 a7) :
    ∃ x5 x6 x7, slots_s1 [.d (tupI y), a1, a2, .own (.l []), a4, .own (.l (l.map slotD)), a6, a7] = .ok (.nx, [.d (tupI y), a1, a2, .own (.l ((byTs 0 y l).map slotD)), a4, x5, x6, x7]) ∧ wrOk (some x5) = true ∧ un1 x6 ∧ un1 x7 := by
  unfold slots_s1
  obtain ⟨s', h, A, t, ks, x5, x6, x7, e1, e2, h5, h6, h7, rfl⟩ := for_inv (L := []) (fi := (vItEnum ((vCons (vVar 0) (vr []))))) (gt := (vUnpT [(vSetD 6), (vSetD 7)])) (g := (vFrz [5, 6, 7] (vDrop ((vMutB extendD (vVar 3) ((vCons ((vCallF F_by_track ((vCons (vVar 6) ((vCons (vVar 7) ((vCons (vVar 5) (vr []))))))))) (vr [])))))))) (xs := enumZ y 0)
    (s := [.d (tupI y), a1, a2, .own (.l []), a4, .own (.l (l.map slotD)), a6, a7])
    (s1 := [.d (tupI y), a1, a2, .own (.l []), a4, .own (.l (l.map slotD)), a6, a7])
    (fun xs s => ∃ (A : List Slot) (t : Nat) (ks : List Int) (x5 x6 x7 : SV), A ++ byTs t ks l = byTs 0 y l ∧ xs = enumZ ks t ∧ (x5 = .own (.l (l.map slotD)) ∨ x5 = .d (.list (l.map slotD))) ∧ un1 x6 ∧ un1 x7 ∧ s = [.d (tupI y), a1, a2, .own (.l (A.map slotD)), a4, x5, x6, x7])
    (fun x xs s hR => by
      obtain ⟨A, t, ks, x5, x6, x7, e1, e2, h5, h6, h7, rfl⟩ := hR
      cases ks with
      | nil => cases e2
      | cons k ks =>
        unfold enumZ at e2
        rw [List.length_cons, List.range'_succ, List.zipWith_cons_cons] at e2
        cases e2
        have l1 : (A.map slotD).length + ((byT t k l).map slotD).length ≤ 16777216 := by
          have h := congrArg List.length e1
          rw [List.length_append, byTs_len, byTs_len, List.length_cons, Nat.add_mul, Nat.one_mul] at h
          rw [List.length_map, List.length_map, byT_len]
          omega
        refine ⟨[.d (tupI y), a1, a2, .own (.l (A.map slotD)), a4, x5, .d (intN t), .d (.int k)], .nx, [.d (tupI y), a1, a2, .own (.l ((A ++ byT t k l).map slotD)), a4, .d (.list (l.map slotD)), .d (intN t), .d (.int k)], ?_, ?_, .inl rfl, A ++ byT t k l, t + 1, ks, .d (.list (l.map slotD)), .d (intN t), .d (.int k), by rw [List.append_assoc]; exact e1, rfl, .inr rfl, .inr ⟨_, rfl⟩, .inr ⟨_, rfl⟩, rfl⟩
        · simp only [m_vb, bnd_ok, bnd_er, m_vr, m_stuck, m_seq, bS_nx, bS_bk, bS_ct, bS_rt, bS_er, m_if, m_ite, bI_t, bI_f, bI_er, m_and, m_or, m_not, m_bool, evB_b, m_opt, m_optn, m_tru, tru_b, tru_i, tru_n, tru_l, tru_t, m_var, var_d, var_own, var_io, var_lk, var_rd, m_c, st_d, st_o, st_l, oc_l, oc_m, rd_d, rd_o, rd_l, rdR_own, rdR_io, rdR_lk, m_bin, m_un, m_call, m_rdn, m_rdc, m_cons, m_conss, m_tup, m_lst, dts_n, dts_c, o_map, o_bind, add_i, sub_i, mul_i, mod_i, fdiv_i, pow_i, neg_i, iadd_i, abs_i, int_i, int_b, len_l, len_t, add_l, add_t, lt_i, le_i, gt_i, ge_i, eq_i, ne_i, eqF_i, neF_i, tuple_l, tuple_t, list_l, list_t, ix_l, ix_t, m_ret, m_drop, m_nx, m_asg, m_nox, nx_ok, set_d, set_o, setD_, wr_un, wr_d, wr_o, wr_rd, m_aug, m_asgD, evD_d, evD_o, m_frzn, m_frzc, m_frz1, fz_d, fz_un, fz_io, fz_lk, fz_rd, fz_o, m_sub, m_augS, m_app, ap_o, ap_io, m_ct, ct_o, ct_io, m_isl, is_o, is_io, m_mut, m_mutB, m_mut0, intD_i, m_sl, m_pn, m_ps, rs_d, rs_l, rsR_rd, rsR_o, rsR_io, sl_l, sl_t, arg_n, arg_c, arg_d, arg_l, ar_o, ar_io, ar_lk, ar_rd, put_n, put_d, put_io, m_put, pt_o, pt_io, i_seq, src_l, src_t, src_o, src_n, sr_o, sr_io, sr_lk, i_rng, i_enum, i_zip, i_rev, unl_n, unl_c, unl_1, ul_lk, ob_t, ob_f, wp_n, wp_c, rt_n, rt_c, fl_un, fl_d, m_unpT, tupD_t, unp_n, unp_c, range_1, range_2, ext_l, ext_t, app_1, m_pc, m_par, rl_n, rl_d, rl_o, rl_l, rlR_o, sr_n, sto_d, sto_o, List.getElem?_cons_zero, List.getElem?_cons_succ, List.set_cons_zero, List.set_cons_succ, Option.map_some, Option.bind_some, if_true, and_self, un1_wr h6, un1_wr h7]
        · have fz : ∀ s : VS, s[5]? = some x5 → frz1 5 s = s.set 5 (.d (.list (l.map slotD))) := fun s hs => by
            rw [m_frz1, hs]
            rcases h5 with rfl | rfl
            · rfl
            · apply List.ext_getElem?
              intro j
              by_cases hj : j = 5
              · subst hj; rw [List.getElem?_set_self (by exact (List.getElem?_eq_some_iff.mp hs).1)]; exact hs
              · rw [List.getElem?_set_ne (Ne.symm hj)]; rfl
          rw [m_frzc, fz _ rfl]
          simp only [m_vb, bnd_ok, bnd_er, m_vr, m_stuck, m_seq, bS_nx, bS_bk, bS_ct, bS_rt, bS_er, m_if, m_ite, bI_t, bI_f, bI_er, m_and, m_or, m_not, m_bool, evB_b, m_opt, m_optn, m_tru, tru_b, tru_i, tru_n, tru_l, tru_t, m_var, var_d, var_own, var_io, var_lk, var_rd, m_c, st_d, st_o, st_l, oc_l, oc_m, rd_d, rd_o, rd_l, rdR_own, rdR_io, rdR_lk, m_bin, m_un, m_call, m_rdn, m_rdc, m_cons, m_conss, m_tup, m_lst, dts_n, dts_c, o_map, o_bind, add_i, sub_i, mul_i, mod_i, fdiv_i, pow_i, neg_i, iadd_i, abs_i, int_i, int_b, len_l, len_t, add_l, add_t, lt_i, le_i, gt_i, ge_i, eq_i, ne_i, eqF_i, neF_i, tuple_l, tuple_t, list_l, list_t, ix_l, ix_t, m_ret, m_drop, m_nx, m_asg, m_nox, nx_ok, set_d, set_o, setD_, wr_un, wr_d, wr_o, wr_rd, m_aug, m_asgD, evD_d, evD_o, m_frzn, m_frzc, m_frz1, fz_d, fz_un, fz_io, fz_lk, fz_rd, fz_o, m_sub, m_augS, m_app, ap_o, ap_io, m_ct, ct_o, ct_io, m_isl, is_o, is_io, m_mut, m_mutB, m_mut0, intD_i, m_sl, m_pn, m_ps, rs_d, rs_l, rsR_rd, rsR_o, rsR_io, sl_l, sl_t, arg_n, arg_c, arg_d, arg_l, ar_o, ar_io, ar_lk, ar_rd, put_n, put_d, put_io, m_put, pt_o, pt_io, i_seq, src_l, src_t, src_o, src_n, sr_o, sr_io, sr_lk, i_rng, i_enum, i_zip, i_rev, unl_n, unl_c, unl_1, ul_lk, ob_t, ob_f, wp_n, wp_c, rt_n, rt_c, fl_un, fl_d, m_unpT, tupD_t, unp_n, unp_c, range_1, range_2, ext_l, ext_t, app_1, m_pc, m_par, rl_n, rl_d, rl_o, rl_l, rlR_o, sr_n, sto_d, sto_o, List.getElem?_cons_zero, List.getElem?_cons_succ, List.set_cons_zero, List.set_cons_succ, Option.map_some, Option.bind_some, if_true, and_self, m_callF, by_track_at hl hc, ext_l, l1, List.map_append])
    (by
      have := enum_ints y 0
      unfold tupI enumZ
      simp only [m_vb, bnd_ok, bnd_er, m_vr, m_stuck, m_seq, bS_nx, bS_bk, bS_ct, bS_rt, bS_er, m_if, m_ite, bI_t, bI_f, bI_er, m_and, m_or, m_not, m_bool, evB_b, m_opt, m_optn, m_tru, tru_b, tru_i, tru_n, tru_l, tru_t, m_var, var_d, var_own, var_io, var_lk, var_rd, m_c, st_d, st_o, st_l, oc_l, oc_m, rd_d, rd_o, rd_l, rdR_own, rdR_io, rdR_lk, m_bin, m_un, m_call, m_rdn, m_rdc, m_cons, m_conss, m_tup, m_lst, dts_n, dts_c, o_map, o_bind, add_i, sub_i, mul_i, mod_i, fdiv_i, pow_i, neg_i, iadd_i, abs_i, int_i, int_b, len_l, len_t, add_l, add_t, lt_i, le_i, gt_i, ge_i, eq_i, ne_i, eqF_i, neF_i, tuple_l, tuple_t, list_l, list_t, ix_l, ix_t, m_ret, m_drop, m_nx, m_asg, m_nox, nx_ok, set_d, set_o, setD_, wr_un, wr_d, wr_o, wr_rd, m_aug, m_asgD, evD_d, evD_o, m_frzn, m_frzc, m_frz1, fz_d, fz_un, fz_io, fz_lk, fz_rd, fz_o, m_sub, m_augS, m_app, ap_o, ap_io, m_ct, ct_o, ct_io, m_isl, is_o, is_io, m_mut, m_mutB, m_mut0, intD_i, m_sl, m_pn, m_ps, rs_d, rs_l, rsR_rd, rsR_o, rsR_io, sl_l, sl_t, arg_n, arg_c, arg_d, arg_l, ar_o, ar_io, ar_lk, ar_rd, put_n, put_d, put_io, m_put, pt_o, pt_io, i_seq, src_l, src_t, src_o, src_n, sr_o, sr_io, sr_lk, i_rng, i_enum, i_zip, i_rev, unl_n, unl_c, unl_1, ul_lk, ob_t, ob_f, wp_n, wp_c, rt_n, rt_c, fl_un, fl_d, m_unpT, tupD_t, unp_n, unp_c, range_1, range_2, ext_l, ext_t, app_1, m_pc, m_par, rl_n, rl_d, rl_o, rl_l, rlR_o, sr_n, sto_d, sto_o, List.getElem?_cons_zero, List.getElem?_cons_succ, List.set_cons_zero, List.set_cons_succ, Option.map_some, Option.bind_some, if_true, and_self]
      rw [show (0 : Int) = ((0 : Nat) : Int) from rfl, this]) ⟨[], 0, y, _, a6, a7, rfl, rfl, .inl rfl, h6, h7, rfl⟩
  have e5 : ks = [] := by
    cases ks with
    | nil => rfl
    | cons k ks => unfold enumZ at e2; rw [List.length_cons, List.range'_succ, List.zipWith_cons_cons] at e2; cases e2
  subst e5
  have : byTs t [] l = [] := rfl
  rw [this, List.append_nil] at e1
  subst e1
  exact ⟨x5, x6, x7, h, by rcases h5 with rfl | rfl <;> rfl, h6, h7⟩
theorem mul_bool {x : Da} {k : Nat} {ts : List Nat} : mulD (.list [x]) (.int (if decide (k ∈ ts) = true then 1 else 0)) = some (.own (.l (if k ∈ ts then [x] else []))) := by
  by_cases h : k ∈ ts
  · rw [decide_eq_true h, if_pos rfl, if_pos h]; rfl
  · rw [decide_eq_false h, if_neg Bool.false_ne_true, if_neg h]; rfl
theorem fresh_map (ts : List Nat) (k : Nat) : (fresh ts k).map slotD = if k ∈ ts then [slotD ⟨[], k, 1⟩] else [] := by
  unfold fresh
  split <;> rfl
theorem many_ok {y : List Int} {p : Nat} {ts : List Nat} (hp : p ≤ 1000) (hy : y.length ≤ 1000) (hs : ∀ k ≤ p, (slP y ts k).length ≤ 4096) :
    F_slots_many [.d (tupI y), .d (.int p), .d (.tuple (ts.map intN))] = .ok (.d (.int (slP y ts p).length), [.d (tupI y), .d (.int p), .d (.tuple (ts.map intN))]) := by
  have hr : (-1000000000 : Int) ≤ (p : Int) + 1 ∧ (p : Int) + 1 ≤ 1000000000 := by omega
  have loop : ∃ s', slots_many_s1 [.d (tupI y), .d (.int p), .d (.tuple (ts.map intN)), .d (.int 0), .un] = .ok (.nx, s') ∧ ∃ x4, s' = [.d (tupI y), .d (.int p), .d (.tuple (ts.map intN)), .d (.int (slP y ts p).length), x4] := by
    unfold slots_many_s1
    obtain ⟨s', h, k, v, x4, hk, e1, e2, h4, rfl⟩ := for_inv (L := []) (fi := (vItRng ((vCons ((vBin addD (vVar 1) (vC (.int 1)))) (vr []))))) (gt := vSetD 4) (g := (vFrz [3, 4] (vAsg ((vBin addD ((vBin mulD (vVar 3) ((vIte ((VL.vBool (vBin gtD (vVar 4) (vC (.int 0))))) ((vCall lenD ((vCons (vVar 0) (vr []))))) (vC (.int 1)))))) ((vCall toIntD ((vCons ((vBin inF (vVar 4) (vVar 2))) (vr []))))))) (vSet 3)))) (xs := rngD 0 (p + 1) 1)
      (s := [.d (tupI y), .d (.int p), .d (.tuple (ts.map intN)), .d (.int 0), .un]) (s1 := [.d (tupI y), .d (.int p), .d (.tuple (ts.map intN)), .d (.int 0), .un])
      (fun xs s => ∃ (k v : Nat) (x4 : SV), k ≤ p + 1 ∧ xs = (List.range' k (p + 1 - k)).map intN ∧ (k = 0 ∧ v = 0 ∨ ∃ j, k = j + 1 ∧ v = (slP y ts j).length) ∧ un1 x4 ∧ s = [.d (tupI y), .d (.int p), .d (.tuple (ts.map intN)), .d (.int v), x4])
      (fun x xs s hR => by
        obtain ⟨k, v, x4, hk, e1, e2, h4, rfl⟩ := hR
        have hkp : k ≤ p := by
          by_cases h : k ≤ p
          · exact h
          · have : p + 1 - k = 0 := by omega
            rw [this] at e1; cases e1
        have e3 : p + 1 - k = (p + 1 - (k + 1)) + 1 := by omega
        rw [e3, List.range'_succ, List.map_cons] at e1
        cases e1
        have hv : v ≤ 4096 := by
          rcases e2 with ⟨_, rfl⟩ | ⟨j, rfl, rfl⟩
          · omega
          · exact hs j (by omega)
        refine ⟨[.d (tupI y), .d (.int p), .d (.tuple (ts.map intN)), .d (.int v), .d (intN k)], .nx, [.d (tupI y), .d (.int p), .d (.tuple (ts.map intN)), .d (.int (slP y ts k).length), .d (intN k)], by simp only [m_vb, bnd_ok, bnd_er, m_vr, m_stuck, m_seq, bS_nx, bS_bk, bS_ct, bS_rt, bS_er, m_if, m_ite, bI_t, bI_f, bI_er, m_and, m_or, m_not, m_bool, evB_b, m_opt, m_optn, m_tru, tru_b, tru_i, tru_n, tru_l, tru_t, m_var, var_d, var_own, var_io, var_lk, var_rd, m_c, st_d, st_o, st_l, oc_l, oc_m, rd_d, rd_o, rd_l, rdR_own, rdR_io, rdR_lk, m_bin, m_un, m_call, m_rdn, m_rdc, m_cons, m_conss, m_tup, m_lst, dts_n, dts_c, o_map, o_bind, add_i, sub_i, mul_i, mod_i, fdiv_i, pow_i, neg_i, iadd_i, abs_i, int_i, int_b, len_l, len_t, add_l, add_t, lt_i, le_i, gt_i, ge_i, eq_i, ne_i, eqF_i, neF_i, tuple_l, tuple_t, list_l, list_t, ix_l, ix_t, m_ret, m_drop, m_nx, m_asg, m_nox, nx_ok, set_d, set_o, setD_, wr_un, wr_d, wr_o, wr_rd, m_aug, m_asgD, evD_d, evD_o, m_frzn, m_frzc, m_frz1, fz_d, fz_un, fz_io, fz_lk, fz_rd, fz_o, m_sub, m_augS, m_app, ap_o, ap_io, m_ct, ct_o, ct_io, m_isl, is_o, is_io, m_mut, m_mutB, m_mut0, intD_i, m_sl, m_pn, m_ps, rs_d, rs_l, rsR_rd, rsR_o, rsR_io, sl_l, sl_t, arg_n, arg_c, arg_d, arg_l, ar_o, ar_io, ar_lk, ar_rd, put_n, put_d, put_io, m_put, pt_o, pt_io, i_seq, src_l, src_t, src_o, src_n, sr_o, sr_io, sr_lk, i_rng, i_enum, i_zip, i_rev, unl_n, unl_c, unl_1, ul_lk, ob_t, ob_f, wp_n, wp_c, rt_n, rt_c, fl_un, fl_d, m_unpT, tupD_t, unp_n, unp_c, range_1, range_2, ext_l, ext_t, app_1, m_pc, m_par, rl_n, rl_d, rl_o, rl_l, rlR_o, sr_n, sto_d, sto_o, List.getElem?_cons_zero, List.getElem?_cons_succ, List.set_cons_zero, List.set_cons_succ, Option.map_some, Option.bind_some, if_true, and_self, un1_wr h4], ?_, .inl rfl, k + 1, _, .d (intN k), by omega, rfl, .inr ⟨k, rfl, rfl⟩, .inr ⟨_, rfl⟩, rfl⟩
        have m1 : ((v : Int)).natAbs.log2 + (((y.map PyData.int).length : Int)).natAbs.log2 < 1000000 := mulg (by omega) (by omega) (by omega) (by rw [List.length_map]; omega)
        have m2 : ((v : Int)).natAbs.log2 + ((1 : Int)).natAbs.log2 < 1000000 := mulg (by omega) (by omega) (by decide) (by decide)
        have inn := in_nats (k := k) (l := ts)
        unfold intN at inn
        have bi : ∀ b : Bool, (if b = true then (1 : Int) else 0) = ((if b = true then (1 : Nat) else 0 : Nat) : Int) := fun b => by cases b <;> rfl
        rcases e2 with ⟨rfl, rfl⟩ | ⟨j, rfl, rfl⟩
        · have g0 : ¬ ((0 : Int) < Int.ofNat 0) := by decide
          have e4 : ((0 : Nat) : Int) * 1 + (if decide (0 ∈ ts) = true then (1 : Int) else 0) = ((slP y ts 0).length : Int) := by
            show _ = ((fresh ts 0).length : Int)
            rw [fresh_len, bi]
            simp
          unfold tupI intN at *
          simp only [m_vb, bnd_ok, bnd_er, m_vr, m_stuck, m_seq, bS_nx, bS_bk, bS_ct, bS_rt, bS_er, m_if, m_ite, bI_t, bI_f, bI_er, m_and, m_or, m_not, m_bool, evB_b, m_opt, m_optn, m_tru, tru_b, tru_i, tru_n, tru_l, tru_t, m_var, var_d, var_own, var_io, var_lk, var_rd, m_c, st_d, st_o, st_l, oc_l, oc_m, rd_d, rd_o, rd_l, rdR_own, rdR_io, rdR_lk, m_bin, m_un, m_call, m_rdn, m_rdc, m_cons, m_conss, m_tup, m_lst, dts_n, dts_c, o_map, o_bind, add_i, sub_i, mul_i, mod_i, fdiv_i, pow_i, neg_i, iadd_i, abs_i, int_i, int_b, len_l, len_t, add_l, add_t, lt_i, le_i, gt_i, ge_i, eq_i, ne_i, eqF_i, neF_i, tuple_l, tuple_t, list_l, list_t, ix_l, ix_t, m_ret, m_drop, m_nx, m_asg, m_nox, nx_ok, set_d, set_o, setD_, wr_un, wr_d, wr_o, wr_rd, m_aug, m_asgD, evD_d, evD_o, m_frzn, m_frzc, m_frz1, fz_d, fz_un, fz_io, fz_lk, fz_rd, fz_o, m_sub, m_augS, m_app, ap_o, ap_io, m_ct, ct_o, ct_io, m_isl, is_o, is_io, m_mut, m_mutB, m_mut0, intD_i, m_sl, m_pn, m_ps, rs_d, rs_l, rsR_rd, rsR_o, rsR_io, sl_l, sl_t, arg_n, arg_c, arg_d, arg_l, ar_o, ar_io, ar_lk, ar_rd, put_n, put_d, put_io, m_put, pt_o, pt_io, i_seq, src_l, src_t, src_o, src_n, sr_o, sr_io, sr_lk, i_rng, i_enum, i_zip, i_rev, unl_n, unl_c, unl_1, ul_lk, ob_t, ob_f, wp_n, wp_c, rt_n, rt_c, fl_un, fl_d, m_unpT, tupD_t, unp_n, unp_c, range_1, range_2, ext_l, ext_t, app_1, m_pc, m_par, rl_n, rl_d, rl_o, rl_l, rlR_o, sr_n, sto_d, sto_o, List.getElem?_cons_zero, List.getElem?_cons_succ, List.set_cons_zero, List.set_cons_succ, Option.map_some, Option.bind_some, if_true, and_self, g0, decide_false, m2, inn, e4]
        · have g0 : ((0 : Int) < Int.ofNat (j + 1)) := by show (0 : Int) < ((j + 1 : Nat) : Int); omega
          have e4 : ((slP y ts j).length : Int) * ((y.map PyData.int).length : Int) + (if decide (j + 1 ∈ ts) = true then (1 : Int) else 0) = ((slP y ts (j + 1)).length : Int) := by
            show _ = ((byTs 0 y (slP y ts j) ++ fresh ts (j + 1)).length : Int)
            rw [List.length_append, byTs_len, fresh_len, bi, List.length_map, Nat.mul_comm]
            simp
          unfold tupI intN at *
          simp only [m_vb, bnd_ok, bnd_er, m_vr, m_stuck, m_seq, bS_nx, bS_bk, bS_ct, bS_rt, bS_er, m_if, m_ite, bI_t, bI_f, bI_er, m_and, m_or, m_not, m_bool, evB_b, m_opt, m_optn, m_tru, tru_b, tru_i, tru_n, tru_l, tru_t, m_var, var_d, var_own, var_io, var_lk, var_rd, m_c, st_d, st_o, st_l, oc_l, oc_m, rd_d, rd_o, rd_l, rdR_own, rdR_io, rdR_lk, m_bin, m_un, m_call, m_rdn, m_rdc, m_cons, m_conss, m_tup, m_lst, dts_n, dts_c, o_map, o_bind, add_i, sub_i, mul_i, mod_i, fdiv_i, pow_i, neg_i, iadd_i, abs_i, int_i, int_b, len_l, len_t, add_l, add_t, lt_i, le_i, gt_i, ge_i, eq_i, ne_i, eqF_i, neF_i, tuple_l, tuple_t, list_l, list_t, ix_l, ix_t, m_ret, m_drop, m_nx, m_asg, m_nox, nx_ok, set_d, set_o, setD_, wr_un, wr_d, wr_o, wr_rd, m_aug, m_asgD, evD_d, evD_o, m_frzn, m_frzc, m_frz1, fz_d, fz_un, fz_io, fz_lk, fz_rd, fz_o, m_sub, m_augS, m_app, ap_o, ap_io, m_ct, ct_o, ct_io, m_isl, is_o, is_io, m_mut, m_mutB, m_mut0, intD_i, m_sl, m_pn, m_ps, rs_d, rs_l, rsR_rd, rsR_o, rsR_io, sl_l, sl_t, arg_n, arg_c, arg_d, arg_l, ar_o, ar_io, ar_lk, ar_rd, put_n, put_d, put_io, m_put, pt_o, pt_io, i_seq, src_l, src_t, src_o, src_n, sr_o, sr_io, sr_lk, i_rng, i_enum, i_zip, i_rev, unl_n, unl_c, unl_1, ul_lk, ob_t, ob_f, wp_n, wp_c, rt_n, rt_c, fl_un, fl_d, m_unpT, tupD_t, unp_n, unp_c, range_1, range_2, ext_l, ext_t, app_1, m_pc, m_par, rl_n, rl_d, rl_o, rl_l, rlR_o, sr_n, sto_d, sto_o, List.getElem?_cons_zero, List.getElem?_cons_succ, List.set_cons_zero, List.set_cons_succ, Option.map_some, Option.bind_some, if_true, and_self, g0, decide_true, m1, inn, e4])
      (rs1 (p := p) ▸ rng_succ (i := 1) rfl hr) ⟨0, 0, .un, by omega, by rw [rngD_map, List.range_eq_range']; rfl, .inl ⟨rfl, rfl⟩, .inl rfl, rfl⟩
    have : k = p + 1 := by
      by_cases h : k = p + 1
      · exact h
      · have e2 : p + 1 - k = (p - k) + 1 := by omega
        rw [e2, List.range'_succ] at e1; cases e1
    subst this
    rcases e2 with ⟨h, _⟩ | ⟨j, hj, rfl⟩
    · omega
    · have : j = p := by omega
      subst this
      exact ⟨_, h, x4, rfl⟩
  obtain ⟨s', hs, x4, rfl⟩ := loop
  refine run_ok (c := .rt (.d (.int (slP y ts p).length))) (s := [.d (tupI y), .d (.int p), .d (.tuple (ts.map intN)), .d (.int (slP y ts p).length), x4]) ?_ rfl
  show g_slots_many [.d (tupI y), .d (.int p), .d (.tuple (ts.map intN)), .un, .un] = _
  unfold g_slots_many
  refine seq_then (s1 := [.d (tupI y), .d (.int p), .d (.tuple (ts.map intN)), .d (.int 0), .un]) ?_ (seq_then hs ?_)
  · simp only [m_vb, bnd_ok, bnd_er, m_vr, m_stuck, m_seq, bS_nx, bS_bk, bS_ct, bS_rt, bS_er, m_if, m_ite, bI_t, bI_f, bI_er, m_and, m_or, m_not, m_bool, evB_b, m_opt, m_optn, m_tru, tru_b, tru_i, tru_n, tru_l, tru_t, m_var, var_d, var_own, var_io, var_lk, var_rd, m_c, st_d, st_o, st_l, oc_l, oc_m, rd_d, rd_o, rd_l, rdR_own, rdR_io, rdR_lk, m_bin, m_un, m_call, m_rdn, m_rdc, m_cons, m_conss, m_tup, m_lst, dts_n, dts_c, o_map, o_bind, add_i, sub_i, mul_i, mod_i, fdiv_i, pow_i, neg_i, iadd_i, abs_i, int_i, int_b, len_l, len_t, add_l, add_t, lt_i, le_i, gt_i, ge_i, eq_i, ne_i, eqF_i, neF_i, tuple_l, tuple_t, list_l, list_t, ix_l, ix_t, m_ret, m_drop, m_nx, m_asg, m_nox, nx_ok, set_d, set_o, setD_, wr_un, wr_d, wr_o, wr_rd, m_aug, m_asgD, evD_d, evD_o, m_frzn, m_frzc, m_frz1, fz_d, fz_un, fz_io, fz_lk, fz_rd, fz_o, m_sub, m_augS, m_app, ap_o, ap_io, m_ct, ct_o, ct_io, m_isl, is_o, is_io, m_mut, m_mutB, m_mut0, intD_i, m_sl, m_pn, m_ps, rs_d, rs_l, rsR_rd, rsR_o, rsR_io, sl_l, sl_t, arg_n, arg_c, arg_d, arg_l, ar_o, ar_io, ar_lk, ar_rd, put_n, put_d, put_io, m_put, pt_o, pt_io, i_seq, src_l, src_t, src_o, src_n, sr_o, sr_io, sr_lk, i_rng, i_enum, i_zip, i_rev, unl_n, unl_c, unl_1, ul_lk, ob_t, ob_f, wp_n, wp_c, rt_n, rt_c, fl_un, fl_d, m_unpT, tupD_t, unp_n, unp_c, range_1, range_2, ext_l, ext_t, app_1, m_pc, m_par, rl_n, rl_d, rl_o, rl_l, rlR_o, sr_n, sto_d, sto_o, List.getElem?_cons_zero, List.getElem?_cons_succ, List.set_cons_zero, List.set_cons_succ, Option.map_some, Option.bind_some, if_true, and_self]
  · simp only [m_vb, bnd_ok, bnd_er, m_vr, m_stuck, m_seq, bS_nx, bS_bk, bS_ct, bS_rt, bS_er, m_if, m_ite, bI_t, bI_f, bI_er, m_and, m_or, m_not, m_bool, evB_b, m_opt, m_optn, m_tru, tru_b, tru_i, tru_n, tru_l, tru_t, m_var, var_d, var_own, var_io, var_lk, var_rd, m_c, st_d, st_o, st_l, oc_l, oc_m, rd_d, rd_o, rd_l, rdR_own, rdR_io, rdR_lk, m_bin, m_un, m_call, m_rdn, m_rdc, m_cons, m_conss, m_tup, m_lst, dts_n, dts_c, o_map, o_bind, add_i, sub_i, mul_i, mod_i, fdiv_i, pow_i, neg_i, iadd_i, abs_i, int_i, int_b, len_l, len_t, add_l, add_t, lt_i, le_i, gt_i, ge_i, eq_i, ne_i, eqF_i, neF_i, tuple_l, tuple_t, list_l, list_t, ix_l, ix_t, m_ret, m_drop, m_nx, m_asg, m_nox, nx_ok, set_d, set_o, setD_, wr_un, wr_d, wr_o, wr_rd, m_aug, m_asgD, evD_d, evD_o, m_frzn, m_frzc, m_frz1, fz_d, fz_un, fz_io, fz_lk, fz_rd, fz_o, m_sub, m_augS, m_app, ap_o, ap_io, m_ct, ct_o, ct_io, m_isl, is_o, is_io, m_mut, m_mutB, m_mut0, intD_i, m_sl, m_pn, m_ps, rs_d, rs_l, rsR_rd, rsR_o, rsR_io, sl_l, sl_t, arg_n, arg_c, arg_d, arg_l, ar_o, ar_io, ar_lk, ar_rd, put_n, put_d, put_io, m_put, pt_o, pt_io, i_seq, src_l, src_t, src_o, src_n, sr_o, sr_io, sr_lk, i_rng, i_enum, i_zip, i_rev, unl_n, unl_c, unl_1, ul_lk, ob_t, ob_f, wp_n, wp_c, rt_n, rt_c, fl_un, fl_d, m_unpT, tupD_t, unp_n, unp_c, range_1, range_2, ext_l, ext_t, app_1, m_pc, m_par, rl_n, rl_d, rl_o, rl_l, rlR_o, sr_n, sto_d, sto_o, List.getElem?_cons_zero, List.getElem?_cons_succ, List.set_cons_zero, List.set_cons_succ, Option.map_some, Option.bind_some, if_true, and_self]
end Yk39
set_option Elab.async false
set_option linter.all false
set_option maxRecDepth 100000
set_option maxHeartbeats 0
namespace Yk39
open PySem PySem.Spec PyProof.Rows L2 VL LB
theorem rngD_from (a n : Nat) : rngD (a : Int) n 1 = (List.range' a n).map intN := by
  unfold rngD
  rw [List.range'_eq_map_range, List.map_map]
  apply List.map_congr_left
  intro i _
  show PyData.int ((a : Int) + (i : Int) * 1) = PyData.int ((a + i : Nat) : Int)
  rw [Int.mul_one]; rfl
theorem rt1 {p : Nat} : ((p : Int) + 1 - 1).toNat = p := by omega
theorem rt2 {p : Nat} (hr : (-1000000000 : Int) ≤ 1 ∧ (1 : Int) ≤ 1000000000 ∧ (-1000000000 : Int) ≤ (p : Int) + 1 ∧ (p : Int) + 1 ≤ 1000000000) : rangeD [.int 1, .int ((p : Int) + 1)] = some (rngD 1 ((p : Int) + 1 - 1).toNat 1) := by rw [range_2, if_pos hr]
theorem rt3 {s : VS} {p i : Nat} (h : s[i]? = some (.d (.int p))) : (vCons (vC (.int 1)) (vCons (vBin addD (vVar i) (vC (.int 1))) (vr []))) s = .ok ([.d (.int 1), .d (.int ((p : Int) + 1))], s) := by
  rw [m_cons, m_c, bnd_ok, m_vb, rs3 h, bnd_ok, m_vr]; rfl
theorem rng_two {s : VS} {p i : Nat} (h : s[i]? = some (.d (.int p))) (hr : (-1000000000 : Int) ≤ 1 ∧ (1 : Int) ≤ 1000000000 ∧ (-1000000000 : Int) ≤ (p : Int) + 1 ∧ (p : Int) + 1 ≤ 1000000000) : vItRng (vCons (vC (.int 1)) (vCons (vBin addD (vVar i) (vC (.int 1))) (vr []))) s = .ok ((rngD 1 p 1, []), s) := by
  rw [i_rng, rt3 h, bnd_ok, m_vb, m_rdc, rd_d, bnd_ok, m_vb, m_rdc, rd_d, bnd_ok, m_vb, m_rdn, bnd_ok, m_vr, bnd_ok, m_vr, bnd_ok, m_vb, rt2 hr, m_opt, bnd_ok, m_vr, rt1]
theorem rngD_1 (n : Nat) : rngD 1 n 1 = (List.range' 1 n).map intN := rngD_from 1 n
theorem gt_no {a b : Int} (h : ¬ b < a) : gtD (.int a) (.int b) = some (.d (.bool false)) := by rw [gt_i, decide_eq_false h]
theorem s3_ok {a b c : Da} {x3 x4 x5 x6 x7 : SV} {n : Int} (mc : ∀ s, callF F_slots_many [.d a, .d b, .d c] s = .ok (.d (.int n), s)) (h : ¬ (4096 : Int) < n) :
    slots_s3 [.d a, .d b, .d c, x3, x4, x5, x6, x7] = .ok (.nx, [.d a, .d b, .d c, x3, x4, x5, x6, x7]) := by
  unfold slots_s3
  have g1 := gt_no h
  simp only [m_if, m_bool, m_bin, m_callF, m_cons, m_vb, m_var, List.getElem?_cons_zero, List.getElem?_cons_succ, var_d, bnd_ok, m_vr, st_d, mc, m_c, rd_d, g1, m_opt, evB_b, bI_f, m_nx]
theorem slots_ok {y : List Int} {p : Nat} {ts : List Nat} (hp : p ≤ 1000) (hy : y.length ≤ 1000) (hs : ∀ k ≤ p, (slP y ts k).length ≤ 4096) :
    F_slots [.d (tupI y), .d (.int p), .d (.tuple (ts.map intN))] = .ok (.d (.tuple ((slP y ts p).map slotD)), [.d (tupI y), .d (.int p), .d (.tuple (ts.map intN))]) := by
  have hr : (-1000000000 : Int) ≤ 1 ∧ (1 : Int) ≤ 1000000000 ∧ (-1000000000 : Int) ≤ (p : Int) + 1 ∧ (p : Int) + 1 ≤ 1000000000 := by omega
  have loop : ∃ s', slots_s2 [.d (tupI y), .d (.int p), .d (.tuple (ts.map intN)), .own (.l ((slP y ts 0).map slotD)), .un, .un, .un, .un] = .ok (.nx, s') ∧ ∃ x4 x5 x6 x7, s' = [.d (tupI y), .d (.int p), .d (.tuple (ts.map intN)), .own (.l ((slP y ts p).map slotD)), x4, x5, x6, x7] := by
    unfold slots_s2
    obtain ⟨s', h, k, x4, x5, x6, x7, hk, e1, h4, h5, h6, h7, rfl⟩ := for_inv (L := []) (fi := (vItRng ((vCons (vC (.int 1)) ((vCons ((vBin addD (vVar 1) (vC (.int 1)))) (vr []))))))) (gt := vSetD 4) (g := (vSeq (vPar [5, 3] (vPc (vVar 3) ((vPc ((vList (vr []))) (vr [])))))
      (vSeq slots_s1
      (vFrz [4] (vDrop ((vMutB extendD (vVar 3) ((vCons ((vBin mulD ((vList ((vCons ((vTuple ((vCons ((vTuple (vr []))) ((vCons (vVar 4) ((vCons (vC (.int 1)) (vr []))))))))) (vr []))))) ((vCall toIntD ((vCons ((vBin inF (vVar 4) (vVar 2))) (vr []))))))) (vr [])))))))))) (xs := rngD 1 p 1)
      (s := [.d (tupI y), .d (.int p), .d (.tuple (ts.map intN)), .own (.l ((slP y ts 0).map slotD)), .un, .un, .un, .un]) (s1 := [.d (tupI y), .d (.int p), .d (.tuple (ts.map intN)), .own (.l ((slP y ts 0).map slotD)), .un, .un, .un, .un])
      (fun xs s => ∃ (k : Nat) (x4 x5 x6 x7 : SV), k ≤ p ∧ xs = (List.range' (k + 1) (p - k)).map intN ∧ un1 x4 ∧ wrOk (some x5) = true ∧ un1 x6 ∧ un1 x7 ∧ s = [.d (tupI y), .d (.int p), .d (.tuple (ts.map intN)), .own (.l ((slP y ts k).map slotD)), x4, x5, x6, x7])
      (fun x xs s hR => by
        obtain ⟨k, x4, x5, x6, x7, hk, e1, h4, h5, h6, h7, rfl⟩ := hR
        have hkp : k < p := by
          by_cases h : k < p
          · exact h
          · have : p - k = 0 := by omega
            rw [this] at e1; cases e1
        have e3 : p - k = (p - (k + 1)) + 1 := by omega
        rw [e3, List.range'_succ, List.map_cons] at e1
        cases e1
        have hl := hs k (by omega)
        have hl2 := hs (k + 1) (by omega)
        have e4 : slP y ts (k + 1) = byTs 0 y (slP y ts k) ++ fresh ts (k + 1) := rfl
        obtain ⟨x5', x6', x7', st, h5', h6', h7'⟩ := tracks_ok (y := y) (a1 := .d (.int p)) (a2 := .d (.tuple (ts.map intN))) (a4 := .d (intN (k + 1))) (a6 := x6) (a7 := x7) (l := slP y ts k) (by omega) (fun e he => by have := slP_code e he; omega) (by calc y.length * (slP y ts k).length ≤ 1000 * 4096 := Nat.mul_le_mul hy hl
              _ ≤ 16000000 := by decide) h6 h7
        have l1 : ((byTs 0 y (slP y ts k)).map slotD).length + (if k + 1 ∈ ts then [slotD ⟨[], k + 1, 1⟩] else []).length ≤ 16777216 := by
          rw [← fresh_map, List.length_map, List.length_map, ← List.length_append, ← e4]; omega
        refine ⟨[.d (tupI y), .d (.int p), .d (.tuple (ts.map intN)), .own (.l ((slP y ts k).map slotD)), .d (intN (k + 1)), x5, x6, x7], .nx, [.d (tupI y), .d (.int p), .d (.tuple (ts.map intN)), .own (.l ((slP y ts (k + 1)).map slotD)), .d (intN (k + 1)), x5', x6', x7'], by simp only [m_vb, bnd_ok, bnd_er, m_vr, m_stuck, m_seq, bS_nx, bS_bk, bS_ct, bS_rt, bS_er, m_if, m_ite, bI_t, bI_f, bI_er, m_and, m_or, m_not, m_bool, evB_b, m_opt, m_optn, m_tru, tru_b, tru_i, tru_n, tru_l, tru_t, m_var, var_d, var_own, var_io, var_lk, var_rd, m_c, st_d, st_o, st_l, oc_l, oc_m, rd_d, rd_o, rd_l, rdR_own, rdR_io, rdR_lk, m_bin, m_un, m_call, m_rdn, m_rdc, m_cons, m_conss, m_tup, m_lst, dts_n, dts_c, o_map, o_bind, add_i, sub_i, mul_i, mod_i, fdiv_i, pow_i, neg_i, iadd_i, abs_i, int_i, int_b, len_l, len_t, add_l, add_t, lt_i, le_i, gt_i, ge_i, eq_i, ne_i, eqF_i, neF_i, tuple_l, tuple_t, list_l, list_t, ix_l, ix_t, m_ret, m_drop, m_nx, m_asg, m_nox, nx_ok, set_d, set_o, setD_, wr_un, wr_d, wr_o, wr_rd, m_aug, m_asgD, evD_d, evD_o, m_frzn, m_frzc, m_frz1, fz_d, fz_un, fz_io, fz_lk, fz_rd, fz_o, m_sub, m_augS, m_app, ap_o, ap_io, m_ct, ct_o, ct_io, m_isl, is_o, is_io, m_mut, m_mutB, m_mut0, intD_i, m_sl, m_pn, m_ps, rs_d, rs_l, rsR_rd, rsR_o, rsR_io, sl_l, sl_t, arg_n, arg_c, arg_d, arg_l, ar_o, ar_io, ar_lk, ar_rd, put_n, put_d, put_io, m_put, pt_o, pt_io, i_seq, src_l, src_t, src_o, src_n, sr_o, sr_io, sr_lk, i_rng, i_enum, i_zip, i_rev, unl_n, unl_c, unl_1, ul_lk, ob_t, ob_f, wp_n, wp_c, rt_n, rt_c, fl_un, fl_d, m_unpT, tupD_t, unp_n, unp_c, range_1, range_2, ext_l, ext_t, app_1, m_pc, m_par, rl_n, rl_d, rl_o, rl_l, rlR_o, sr_n, sto_d, sto_o, List.getElem?_cons_zero, List.getElem?_cons_succ, List.set_cons_zero, List.set_cons_succ, Option.map_some, Option.bind_some, if_true, and_self, un1_wr h4], ?_, .inl rfl, k + 1, .d (intN (k + 1)), x5', x6', x7', by omega, rfl, .inr ⟨_, rfl⟩, h5', h6', h7', rfl⟩
        refine seq_then (s1 := [.d (tupI y), .d (.int p), .d (.tuple (ts.map intN)), .own (.l []), .d (intN (k + 1)), .own (.l ((slP y ts k).map slotD)), x6, x7]) ?_ (seq_then st ?_)
        · simp only [m_vb, bnd_ok, bnd_er, m_vr, m_stuck, m_seq, bS_nx, bS_bk, bS_ct, bS_rt, bS_er, m_if, m_ite, bI_t, bI_f, bI_er, m_and, m_or, m_not, m_bool, evB_b, m_opt, m_optn, m_tru, tru_b, tru_i, tru_n, tru_l, tru_t, m_var, var_d, var_own, var_io, var_lk, var_rd, m_c, st_d, st_o, st_l, oc_l, oc_m, rd_d, rd_o, rd_l, rdR_own, rdR_io, rdR_lk, m_bin, m_un, m_call, m_rdn, m_rdc, m_cons, m_conss, m_tup, m_lst, dts_n, dts_c, o_map, o_bind, add_i, sub_i, mul_i, mod_i, fdiv_i, pow_i, neg_i, iadd_i, abs_i, int_i, int_b, len_l, len_t, add_l, add_t, lt_i, le_i, gt_i, ge_i, eq_i, ne_i, eqF_i, neF_i, tuple_l, tuple_t, list_l, list_t, ix_l, ix_t, m_ret, m_drop, m_nx, m_asg, m_nox, nx_ok, set_d, set_o, setD_, wr_un, wr_d, wr_o, wr_rd, m_aug, m_asgD, evD_d, evD_o, m_frzn, m_frzc, m_frz1, fz_d, fz_un, fz_io, fz_lk, fz_rd, fz_o, m_sub, m_augS, m_app, ap_o, ap_io, m_ct, ct_o, ct_io, m_isl, is_o, is_io, m_mut, m_mutB, m_mut0, intD_i, m_sl, m_pn, m_ps, rs_d, rs_l, rsR_rd, rsR_o, rsR_io, sl_l, sl_t, arg_n, arg_c, arg_d, arg_l, ar_o, ar_io, ar_lk, ar_rd, put_n, put_d, put_io, m_put, pt_o, pt_io, i_seq, src_l, src_t, src_o, src_n, sr_o, sr_io, sr_lk, i_rng, i_enum, i_zip, i_rev, unl_n, unl_c, unl_1, ul_lk, ob_t, ob_f, wp_n, wp_c, rt_n, rt_c, fl_un, fl_d, m_unpT, tupD_t, unp_n, unp_c, range_1, range_2, ext_l, ext_t, app_1, m_pc, m_par, rl_n, rl_d, rl_o, rl_l, rlR_o, sr_n, sto_d, sto_o, List.getElem?_cons_zero, List.getElem?_cons_succ, List.set_cons_zero, List.set_cons_succ, Option.map_some, Option.bind_some, if_true, and_self, h5, List.length_nil, Nat.zero_le]
        · have inn := in_nats (k := k + 1) (l := ts)
          have mu := mul_bool (x := PyData.tuple [.tuple [], intN (k + 1), .int 1]) (k := k + 1) (ts := ts)
          have es : slotD ⟨[], k + 1, 1⟩ = PyData.tuple [.tuple [], intN (k + 1), .int 1] := rfl
          rw [es] at l1
          rw [e4, List.map_append, fresh_map, es]
          simp only [m_vb, bnd_ok, bnd_er, m_vr, m_stuck, m_seq, bS_nx, bS_bk, bS_ct, bS_rt, bS_er, m_if, m_ite, bI_t, bI_f, bI_er, m_and, m_or, m_not, m_bool, evB_b, m_opt, m_optn, m_tru, tru_b, tru_i, tru_n, tru_l, tru_t, m_var, var_d, var_own, var_io, var_lk, var_rd, m_c, st_d, st_o, st_l, oc_l, oc_m, rd_d, rd_o, rd_l, rdR_own, rdR_io, rdR_lk, m_bin, m_un, m_call, m_rdn, m_rdc, m_cons, m_conss, m_tup, m_lst, dts_n, dts_c, o_map, o_bind, add_i, sub_i, mul_i, mod_i, fdiv_i, pow_i, neg_i, iadd_i, abs_i, int_i, int_b, len_l, len_t, add_l, add_t, lt_i, le_i, gt_i, ge_i, eq_i, ne_i, eqF_i, neF_i, tuple_l, tuple_t, list_l, list_t, ix_l, ix_t, m_ret, m_drop, m_nx, m_asg, m_nox, nx_ok, set_d, set_o, setD_, wr_un, wr_d, wr_o, wr_rd, m_aug, m_asgD, evD_d, evD_o, m_frzn, m_frzc, m_frz1, fz_d, fz_un, fz_io, fz_lk, fz_rd, fz_o, m_sub, m_augS, m_app, ap_o, ap_io, m_ct, ct_o, ct_io, m_isl, is_o, is_io, m_mut, m_mutB, m_mut0, intD_i, m_sl, m_pn, m_ps, rs_d, rs_l, rsR_rd, rsR_o, rsR_io, sl_l, sl_t, arg_n, arg_c, arg_d, arg_l, ar_o, ar_io, ar_lk, ar_rd, put_n, put_d, put_io, m_put, pt_o, pt_io, i_seq, src_l, src_t, src_o, src_n, sr_o, sr_io, sr_lk, i_rng, i_enum, i_zip, i_rev, unl_n, unl_c, unl_1, ul_lk, ob_t, ob_f, wp_n, wp_c, rt_n, rt_c, fl_un, fl_d, m_unpT, tupD_t, unp_n, unp_c, range_1, range_2, ext_l, ext_t, app_1, m_pc, m_par, rl_n, rl_d, rl_o, rl_l, rlR_o, sr_n, sto_d, sto_o, List.getElem?_cons_zero, List.getElem?_cons_succ, List.set_cons_zero, List.set_cons_succ, Option.map_some, Option.bind_some, if_true, and_self, inn, List.length_cons, List.length_nil, Nat.zero_add, Nat.reduceAdd, Nat.zero_le, show (3 : Nat) ≤ 16777216 by decide, show (1 : Nat) ≤ 16777216 by decide, mu, ext_l, l1])
      (rng_two (i := 1) rfl hr) ⟨0, .un, .un, .un, .un, by omega, by rw [rngD_1]; rfl, .inl rfl, rfl, .inl rfl, .inl rfl, rfl⟩
    have : k = p := by
      by_cases h : k = p
      · exact h
      · have e2 : p - k = (p - k - 1) + 1 := by omega
        rw [e2, List.range'_succ] at e1; cases e1
    subst this
    exact ⟨_, h, x4, x5, x6, x7, rfl⟩
  obtain ⟨s', hs', x4, x5, x6, x7, rfl⟩ := loop
  refine run_ok (c := .rt (.d (.tuple ((slP y ts p).map slotD)))) (s := [.d (tupI y), .d (.int p), .d (.tuple (ts.map intN)), .own (.l ((slP y ts p).map slotD)), x4, x5, x6, x7]) ?_ rfl
  show g_slots [.d (tupI y), .d (.int p), .d (.tuple (ts.map intN)), .un, .un, .un, .un, .un] = _
  unfold g_slots
  refine seq_then (s1 := [.d (tupI y), .d (.int p), .d (.tuple (ts.map intN)), .un, .un, .un, .un, .un]) ?_ (seq_then (s1 := [.d (tupI y), .d (.int p), .d (.tuple (ts.map intN)), .own (.l ((slP y ts 0).map slotD)), .un, .un, .un, .un]) ?_ (seq_then hs' ?_))
  · have mc : ∀ s, callF F_slots_many [.d (tupI y), .d (.int p), .d (.tuple (ts.map intN))] s = .ok (.d (.int (slP y ts p).length), s) := fun s => by
      rw [callF_ok (by simp [loans]) (by rfl) (many_ok hp hy hs) (fun i => by intro z; cases z), put_d, put_d, put_d, put_n]
    exact s3_ok mc (by have := hs p (Nat.le_refl _); omega)
  · have inn : inF (.int 0) (.tuple (ts.map intN)) = some (.d (.bool (decide (0 ∈ ts)))) := in_nats (k := 0) (l := ts)
    have e0 : (slP y ts 0).map slotD = if 0 ∈ ts then [slotD ⟨[], 0, 1⟩] else [] := fresh_map ts 0
    rw [e0]
    by_cases h : 0 ∈ ts
    · rw [if_pos h]
      simp only [m_vb, bnd_ok, bnd_er, m_vr, m_stuck, m_seq, bS_nx, bS_bk, bS_ct, bS_rt, bS_er, m_if, m_ite, bI_t, bI_f, bI_er, m_and, m_or, m_not, m_bool, evB_b, m_opt, m_optn, m_tru, tru_b, tru_i, tru_n, tru_l, tru_t, m_var, var_d, var_own, var_io, var_lk, var_rd, m_c, st_d, st_o, st_l, oc_l, oc_m, rd_d, rd_o, rd_l, rdR_own, rdR_io, rdR_lk, m_bin, m_un, m_call, m_rdn, m_rdc, m_cons, m_conss, m_tup, m_lst, dts_n, dts_c, o_map, o_bind, add_i, sub_i, mul_i, mod_i, fdiv_i, pow_i, neg_i, iadd_i, abs_i, int_i, int_b, len_l, len_t, add_l, add_t, lt_i, le_i, gt_i, ge_i, eq_i, ne_i, eqF_i, neF_i, tuple_l, tuple_t, list_l, list_t, ix_l, ix_t, m_ret, m_drop, m_nx, m_asg, m_nox, nx_ok, set_d, set_o, setD_, wr_un, wr_d, wr_o, wr_rd, m_aug, m_asgD, evD_d, evD_o, m_frzn, m_frzc, m_frz1, fz_d, fz_un, fz_io, fz_lk, fz_rd, fz_o, m_sub, m_augS, m_app, ap_o, ap_io, m_ct, ct_o, ct_io, m_isl, is_o, is_io, m_mut, m_mutB, m_mut0, intD_i, m_sl, m_pn, m_ps, rs_d, rs_l, rsR_rd, rsR_o, rsR_io, sl_l, sl_t, arg_n, arg_c, arg_d, arg_l, ar_o, ar_io, ar_lk, ar_rd, put_n, put_d, put_io, m_put, pt_o, pt_io, i_seq, src_l, src_t, src_o, src_n, sr_o, sr_io, sr_lk, i_rng, i_enum, i_zip, i_rev, unl_n, unl_c, unl_1, ul_lk, ob_t, ob_f, wp_n, wp_c, rt_n, rt_c, fl_un, fl_d, m_unpT, tupD_t, unp_n, unp_c, range_1, range_2, ext_l, ext_t, app_1, m_pc, m_par, rl_n, rl_d, rl_o, rl_l, rlR_o, sr_n, sto_d, sto_o, List.getElem?_cons_zero, List.getElem?_cons_succ, List.set_cons_zero, List.set_cons_succ, Option.map_some, Option.bind_some, if_true, and_self, inn, h, decide_true, List.length_cons, List.length_nil, Nat.zero_add, Nat.reduceAdd, Nat.zero_le, show (3 : Nat) ≤ 16777216 by decide, show (1 : Nat) ≤ 16777216 by decide]
      rfl
    · rw [if_neg h]
      simp only [m_vb, bnd_ok, bnd_er, m_vr, m_stuck, m_seq, bS_nx, bS_bk, bS_ct, bS_rt, bS_er, m_if, m_ite, bI_t, bI_f, bI_er, m_and, m_or, m_not, m_bool, evB_b, m_opt, m_optn, m_tru, tru_b, tru_i, tru_n, tru_l, tru_t, m_var, var_d, var_own, var_io, var_lk, var_rd, m_c, st_d, st_o, st_l, oc_l, oc_m, rd_d, rd_o, rd_l, rdR_own, rdR_io, rdR_lk, m_bin, m_un, m_call, m_rdn, m_rdc, m_cons, m_conss, m_tup, m_lst, dts_n, dts_c, o_map, o_bind, add_i, sub_i, mul_i, mod_i, fdiv_i, pow_i, neg_i, iadd_i, abs_i, int_i, int_b, len_l, len_t, add_l, add_t, lt_i, le_i, gt_i, ge_i, eq_i, ne_i, eqF_i, neF_i, tuple_l, tuple_t, list_l, list_t, ix_l, ix_t, m_ret, m_drop, m_nx, m_asg, m_nox, nx_ok, set_d, set_o, setD_, wr_un, wr_d, wr_o, wr_rd, m_aug, m_asgD, evD_d, evD_o, m_frzn, m_frzc, m_frz1, fz_d, fz_un, fz_io, fz_lk, fz_rd, fz_o, m_sub, m_augS, m_app, ap_o, ap_io, m_ct, ct_o, ct_io, m_isl, is_o, is_io, m_mut, m_mutB, m_mut0, intD_i, m_sl, m_pn, m_ps, rs_d, rs_l, rsR_rd, rsR_o, rsR_io, sl_l, sl_t, arg_n, arg_c, arg_d, arg_l, ar_o, ar_io, ar_lk, ar_rd, put_n, put_d, put_io, m_put, pt_o, pt_io, i_seq, src_l, src_t, src_o, src_n, sr_o, sr_io, sr_lk, i_rng, i_enum, i_zip, i_rev, unl_n, unl_c, unl_1, ul_lk, ob_t, ob_f, wp_n, wp_c, rt_n, rt_c, fl_un, fl_d, m_unpT, tupD_t, unp_n, unp_c, range_1, range_2, ext_l, ext_t, app_1, m_pc, m_par, rl_n, rl_d, rl_o, rl_l, rlR_o, sr_n, sto_d, sto_o, List.getElem?_cons_zero, List.getElem?_cons_succ, List.set_cons_zero, List.set_cons_succ, Option.map_some, Option.bind_some, if_true, and_self, inn, h, decide_false, List.length_nil, Nat.zero_le]
  · simp only [m_vb, bnd_ok, bnd_er, m_vr, m_stuck, m_seq, bS_nx, bS_bk, bS_ct, bS_rt, bS_er, m_if, m_ite, bI_t, bI_f, bI_er, m_and, m_or, m_not, m_bool, evB_b, m_opt, m_optn, m_tru, tru_b, tru_i, tru_n, tru_l, tru_t, m_var, var_d, var_own, var_io, var_lk, var_rd, m_c, st_d, st_o, st_l, oc_l, oc_m, rd_d, rd_o, rd_l, rdR_own, rdR_io, rdR_lk, m_bin, m_un, m_call, m_rdn, m_rdc, m_cons, m_conss, m_tup, m_lst, dts_n, dts_c, o_map, o_bind, add_i, sub_i, mul_i, mod_i, fdiv_i, pow_i, neg_i, iadd_i, abs_i, int_i, int_b, len_l, len_t, add_l, add_t, lt_i, le_i, gt_i, ge_i, eq_i, ne_i, eqF_i, neF_i, tuple_l, tuple_t, list_l, list_t, ix_l, ix_t, m_ret, m_drop, m_nx, m_asg, m_nox, nx_ok, set_d, set_o, setD_, wr_un, wr_d, wr_o, wr_rd, m_aug, m_asgD, evD_d, evD_o, m_frzn, m_frzc, m_frz1, fz_d, fz_un, fz_io, fz_lk, fz_rd, fz_o, m_sub, m_augS, m_app, ap_o, ap_io, m_ct, ct_o, ct_io, m_isl, is_o, is_io, m_mut, m_mutB, m_mut0, intD_i, m_sl, m_pn, m_ps, rs_d, rs_l, rsR_rd, rsR_o, rsR_io, sl_l, sl_t, arg_n, arg_c, arg_d, arg_l, ar_o, ar_io, ar_lk, ar_rd, put_n, put_d, put_io, m_put, pt_o, pt_io, i_seq, src_l, src_t, src_o, src_n, sr_o, sr_io, sr_lk, i_rng, i_enum, i_zip, i_rev, unl_n, unl_c, unl_1, ul_lk, ob_t, ob_f, wp_n, wp_c, rt_n, rt_c, fl_un, fl_d, m_unpT, tupD_t, unp_n, unp_c, range_1, range_2, ext_l, ext_t, app_1, m_pc, m_par, rl_n, rl_d, rl_o, rl_l, rlR_o, sr_n, sto_d, sto_o, List.getElem?_cons_zero, List.getElem?_cons_succ, List.set_cons_zero, List.set_cons_succ, Option.map_some, Option.bind_some, if_true, and_self]
theorem sum_ok {a0 a1 a2 a6 a7 x8 a9 a10 a11 a12 a13 : SV} {y : List Int} {p : Nat} {ts : List Nat} (ht : ∀ one ∈ ts, one ≤ p) (hl : ts.length ≤ 1000) (hq : ∀ q ≤ p, y.length ^ q ≤ 1000) (hp : p ≤ 1000) (hy : y.length ≤ 1000) (h8 : un1 x8) :
    (vCall sumD ((vCons ((vLcF [8] (vItSeq (vVar 5)) (vSetD 8) (vr true) ((vCall lenD ((vCons ((vCallF F__law_codes ((vCons (vVar 3) ((vCons ((vBin subD (vVar 4) (vVar 8))) (vr []))))))) (vr []))))))) (vr []))))
      [a0, a1, a2, .d (tupI y), .d (.int p), .d (.tuple (ts.map intN)), a6, a7, x8, a9, a10, a11, a12, a13] = .ok (.d (.int (ts.map fun one => ((y.length ^ (p - one) : Nat) : Int)).sum), [a0, a1, a2, .d (tupI y), .d (.int p), .d (.tuple (ts.map intN)), a6, a7, x8, a9, a10, a11, a12, a13]) := by
  have lc := lc_map (ix := [8]) (gt := vSetD 8) (te := (vCall lenD ((vCons ((vCallF F__law_codes ((vCons (vVar 3) ((vCons ((vBin subD (vVar 4) (vVar 8))) (vr []))))))) (vr []))))) (fi := vItSeq (vVar 5)) (xs := ts) (enc := intN) (L := []) (h := fun one => PyData.int ((y.length ^ (p - one) : Nat) : Int))
    (s := [a0, a1, a2, .d (tupI y), .d (.int p), .d (.tuple (ts.map intN)), a6, a7, x8, a9, a10, a11, a12, a13])
    (s1 := [a0, a1, a2, .d (tupI y), .d (.int p), .d (.tuple (ts.map intN)), a6, a7, x8, a9, a10, a11, a12, a13]) (base := [a0, a1, a2, .d (tupI y), .d (.int p), .d (.tuple (ts.map intN)), a6, a7, .un, a9, a10, a11, a12, a13])
    (by simp only [m_vb, bnd_ok, bnd_er, m_vr, m_stuck, m_seq, bS_nx, bS_bk, bS_ct, bS_rt, bS_er, m_if, m_ite, bI_t, bI_f, bI_er, m_and, m_or, m_not, m_bool, evB_b, m_opt, m_optn, m_tru, tru_b, tru_i, tru_n, tru_l, tru_t, m_var, var_d, var_own, var_io, var_lk, var_rd, m_c, st_d, st_o, st_l, oc_l, oc_m, rd_d, rd_o, rd_l, rdR_own, rdR_io, rdR_lk, m_bin, m_un, m_call, m_rdn, m_rdc, m_cons, m_conss, m_tup, m_lst, dts_n, dts_c, o_map, o_bind, add_i, sub_i, mul_i, mod_i, fdiv_i, pow_i, neg_i, iadd_i, abs_i, int_i, int_b, len_l, len_t, add_l, add_t, lt_i, le_i, gt_i, ge_i, eq_i, ne_i, eqF_i, neF_i, tuple_l, tuple_t, list_l, list_t, ix_l, ix_t, m_ret, m_drop, m_nx, m_asg, m_nox, nx_ok, set_d, set_o, setD_, wr_un, wr_d, wr_o, wr_rd, m_aug, m_asgD, evD_d, evD_o, m_frzn, m_frzc, m_frz1, fz_d, fz_un, fz_io, fz_lk, fz_rd, fz_o, m_sub, m_augS, m_app, ap_o, ap_io, m_ct, ct_o, ct_io, m_isl, is_o, is_io, m_mut, m_mutB, m_mut0, intD_i, m_sl, m_pn, m_ps, rs_d, rs_l, rsR_rd, rsR_o, rsR_io, sl_l, sl_t, arg_n, arg_c, arg_d, arg_l, ar_o, ar_io, ar_lk, ar_rd, put_n, put_d, put_io, m_put, pt_o, pt_io, i_seq, src_l, src_t, src_o, src_n, sr_o, sr_io, sr_lk, i_rng, i_enum, i_zip, i_rev, unl_n, unl_c, unl_1, ul_lk, ob_t, ob_f, wp_n, wp_c, rt_n, rt_c, fl_un, fl_d, m_unpT, tupD_t, unp_n, unp_c, range_1, range_2, ext_l, ext_t, app_1, m_pc, m_par, rl_n, rl_d, rl_o, rl_l, rlR_o, sr_n, sto_d, sto_o, List.getElem?_cons_zero, List.getElem?_cons_succ, List.set_cons_zero, List.set_cons_succ, Option.map_some, Option.bind_some, if_true, and_self]) (by show ([8].all fun j => flatS _) = true; simp only [List.all_cons, List.all_nil, List.getElem?_cons_succ, List.getElem?_cons_zero, un1_flat h8, Bool.and_self]) rfl (fun one ho => by
      have h1 := ht one ho
      have ca := fun s => codes_at (s := s) (ys := y.map PyData.int) (p := p - one) (by omega) (by rw [List.length_map]; omega) (fun q hlt => by
        rw [List.length_map, ← Nat.pow_succ]
        have := hq q.succ (by omega)
        omega)
      rw [List.length_map] at ca
      have pk : (p : Int) - Int.ofNat one = ((p - one : Nat) : Int) := by show (p : Int) - (one : Int) = _; omega
      refine ⟨[a0, a1, a2, .d (tupI y), .d (.int p), .d (.tuple (ts.map intN)), a6, a7, .d (intN one), a9, a10, a11, a12, a13], .d (.int ((y.length ^ (p - one) : Nat) : Int)), [a0, a1, a2, .d (tupI y), .d (.int p), .d (.tuple (ts.map intN)), a6, a7, .d (intN one), a9, a10, a11, a12, a13], by simp only [m_vb, bnd_ok, bnd_er, m_vr, m_stuck, m_seq, bS_nx, bS_bk, bS_ct, bS_rt, bS_er, m_if, m_ite, bI_t, bI_f, bI_er, m_and, m_or, m_not, m_bool, evB_b, m_opt, m_optn, m_tru, tru_b, tru_i, tru_n, tru_l, tru_t, m_var, var_d, var_own, var_io, var_lk, var_rd, m_c, st_d, st_o, st_l, oc_l, oc_m, rd_d, rd_o, rd_l, rdR_own, rdR_io, rdR_lk, m_bin, m_un, m_call, m_rdn, m_rdc, m_cons, m_conss, m_tup, m_lst, dts_n, dts_c, o_map, o_bind, add_i, sub_i, mul_i, mod_i, fdiv_i, pow_i, neg_i, iadd_i, abs_i, int_i, int_b, len_l, len_t, add_l, add_t, lt_i, le_i, gt_i, ge_i, eq_i, ne_i, eqF_i, neF_i, tuple_l, tuple_t, list_l, list_t, ix_l, ix_t, m_ret, m_drop, m_nx, m_asg, m_nox, nx_ok, set_d, set_o, setD_, wr_un, wr_d, wr_o, wr_rd, m_aug, m_asgD, evD_d, evD_o, m_frzn, m_frzc, m_frz1, fz_d, fz_un, fz_io, fz_lk, fz_rd, fz_o, m_sub, m_augS, m_app, ap_o, ap_io, m_ct, ct_o, ct_io, m_isl, is_o, is_io, m_mut, m_mutB, m_mut0, intD_i, m_sl, m_pn, m_ps, rs_d, rs_l, rsR_rd, rsR_o, rsR_io, sl_l, sl_t, arg_n, arg_c, arg_d, arg_l, ar_o, ar_io, ar_lk, ar_rd, put_n, put_d, put_io, m_put, pt_o, pt_io, i_seq, src_l, src_t, src_o, src_n, sr_o, sr_io, sr_lk, i_rng, i_enum, i_zip, i_rev, unl_n, unl_c, unl_1, ul_lk, ob_t, ob_f, wp_n, wp_c, rt_n, rt_c, fl_un, fl_d, m_unpT, tupD_t, unp_n, unp_c, range_1, range_2, ext_l, ext_t, app_1, m_pc, m_par, rl_n, rl_d, rl_o, rl_l, rlR_o, sr_n, sto_d, sto_o, List.getElem?_cons_zero, List.getElem?_cons_succ, List.set_cons_zero, List.set_cons_succ, Option.map_some, Option.bind_some, if_true, and_self], ?_, rfl, rfl, rfl⟩
      unfold tupI at ca ⊢
      rw [show intN one = .int (Int.ofNat one) from rfl]
      simp only [m_vb, bnd_ok, bnd_er, m_vr, m_stuck, m_seq, bS_nx, bS_bk, bS_ct, bS_rt, bS_er, m_if, m_ite, bI_t, bI_f, bI_er, m_and, m_or, m_not, m_bool, evB_b, m_opt, m_optn, m_tru, tru_b, tru_i, tru_n, tru_l, tru_t, m_var, var_d, var_own, var_io, var_lk, var_rd, m_c, st_d, st_o, st_l, oc_l, oc_m, rd_d, rd_o, rd_l, rdR_own, rdR_io, rdR_lk, m_bin, m_un, m_call, m_rdn, m_rdc, m_cons, m_conss, m_tup, m_lst, dts_n, dts_c, o_map, o_bind, add_i, sub_i, mul_i, mod_i, fdiv_i, pow_i, neg_i, iadd_i, abs_i, int_i, int_b, len_l, len_t, add_l, add_t, lt_i, le_i, gt_i, ge_i, eq_i, ne_i, eqF_i, neF_i, tuple_l, tuple_t, list_l, list_t, ix_l, ix_t, m_ret, m_drop, m_nx, m_asg, m_nox, nx_ok, set_d, set_o, setD_, wr_un, wr_d, wr_o, wr_rd, m_aug, m_asgD, evD_d, evD_o, m_frzn, m_frzc, m_frz1, fz_d, fz_un, fz_io, fz_lk, fz_rd, fz_o, m_sub, m_augS, m_app, ap_o, ap_io, m_ct, ct_o, ct_io, m_isl, is_o, is_io, m_mut, m_mutB, m_mut0, intD_i, m_sl, m_pn, m_ps, rs_d, rs_l, rsR_rd, rsR_o, rsR_io, sl_l, sl_t, arg_n, arg_c, arg_d, arg_l, ar_o, ar_io, ar_lk, ar_rd, put_n, put_d, put_io, m_put, pt_o, pt_io, i_seq, src_l, src_t, src_o, src_n, sr_o, sr_io, sr_lk, i_rng, i_enum, i_zip, i_rev, unl_n, unl_c, unl_1, ul_lk, ob_t, ob_f, wp_n, wp_c, rt_n, rt_c, fl_un, fl_d, m_unpT, tupD_t, unp_n, unp_c, range_1, range_2, ext_l, ext_t, app_1, m_pc, m_par, rl_n, rl_d, rl_o, rl_l, rlR_o, sr_n, sto_d, sto_o, List.getElem?_cons_zero, List.getElem?_cons_succ, List.set_cons_zero, List.set_cons_succ, Option.map_some, Option.bind_some, if_true, and_self, m_callF, pk, ca, List.length_map, codesP_len]) (by omega)
  have e : (ts.map fun one => PyData.int ((y.length ^ (p - one) : Nat) : Int)) = (ts.map fun one => ((y.length ^ (p - one) : Nat) : Int)).map PyData.int := by rw [List.map_map]; rfl
  rw [e] at lc
  rw [m_call, m_cons, lc]
  simp only [m_vb, bnd_ok, bnd_er, m_vr, m_stuck, m_seq, bS_nx, bS_bk, bS_ct, bS_rt, bS_er, m_if, m_ite, bI_t, bI_f, bI_er, m_and, m_or, m_not, m_bool, evB_b, m_opt, m_optn, m_tru, tru_b, tru_i, tru_n, tru_l, tru_t, m_var, var_d, var_own, var_io, var_lk, var_rd, m_c, st_d, st_o, st_l, oc_l, oc_m, rd_d, rd_o, rd_l, rdR_own, rdR_io, rdR_lk, m_bin, m_un, m_call, m_rdn, m_rdc, m_cons, m_conss, m_tup, m_lst, dts_n, dts_c, o_map, o_bind, add_i, sub_i, mul_i, mod_i, fdiv_i, pow_i, neg_i, iadd_i, abs_i, int_i, int_b, len_l, len_t, add_l, add_t, lt_i, le_i, gt_i, ge_i, eq_i, ne_i, eqF_i, neF_i, tuple_l, tuple_t, list_l, list_t, ix_l, ix_t, m_ret, m_drop, m_nx, m_asg, m_nox, nx_ok, set_d, set_o, setD_, wr_un, wr_d, wr_o, wr_rd, m_aug, m_asgD, evD_d, evD_o, m_frzn, m_frzc, m_frz1, fz_d, fz_un, fz_io, fz_lk, fz_rd, fz_o, m_sub, m_augS, m_app, ap_o, ap_io, m_ct, ct_o, ct_io, m_isl, is_o, is_io, m_mut, m_mutB, m_mut0, intD_i, m_sl, m_pn, m_ps, rs_d, rs_l, rsR_rd, rsR_o, rsR_io, sl_l, sl_t, arg_n, arg_c, arg_d, arg_l, ar_o, ar_io, ar_lk, ar_rd, put_n, put_d, put_io, m_put, pt_o, pt_io, i_seq, src_l, src_t, src_o, src_n, sr_o, sr_io, sr_lk, i_rng, i_enum, i_zip, i_rev, unl_n, unl_c, unl_1, ul_lk, ob_t, ob_f, wp_n, wp_c, rt_n, rt_c, fl_un, fl_d, m_unpT, tupD_t, unp_n, unp_c, range_1, range_2, ext_l, ext_t, app_1, m_pc, m_par, rl_n, rl_d, rl_o, rl_l, rlR_o, sr_n, sto_d, sto_o, List.getElem?_cons_zero, List.getElem?_cons_succ, List.set_cons_zero, List.set_cons_succ, Option.map_some, Option.bind_some, if_true, and_self, Option.getD_some, sumD, ints?_map]
/-! the wagons of the law -/
def bsP (n p : Nat) (ts : List Nat) : List (Nat × List Int) := ts.flatMap fun one => (codesP n (p - one)).map fun c => (one, c)
theorem csA_eq (n p : Nat) (ts : List Nat) : csA n p ts = (bsP n p ts).flatMap fun b => [b.1, b.1] := by
  unfold csA bsP
  rw [List.flatMap_assoc]
  congr 1
  funext one
  rw [List.flatMap_map]
theorem plA_eq (n p : Nat) (ts : List Nat) : plA n p ts = (bsP n p ts).flatMap fun b => [b.2, b.2] := by
  unfold plA bsP
  rw [List.flatMap_assoc]
  congr 1
  funext one
  rw [List.flatMap_map]
theorem dup_get {α β : Type} {f : α → β} : ∀ {l : List α} {w : Nat}, (l.flatMap fun b => [f b, f b])[w]? = (l[w / 2]?).map f
  | [], w => by simp
  | x :: l, 0 => rfl
  | x :: l, 1 => rfl
  | x :: l, w + 2 => by
    rw [List.flatMap_cons, show (w + 2) / 2 = w / 2 + 1 by omega]
    show ((l.flatMap fun b => [f b, f b]))[w]? = _
    rw [dup_get (l := l) (w := w)]; rfl
theorem bs_mem {n p : Nat} {ts : List Nat} {b : Nat × List Int} : b ∈ bsP n p ts ↔ b.1 ∈ ts ∧ b.2 ∈ codesP n (p - b.1) := by
  unfold bsP
  constructor
  · intro h
    obtain ⟨one, h1, h⟩ := List.mem_flatMap.mp h
    obtain ⟨c, h2, rfl⟩ := List.mem_map.mp h
    exact ⟨h1, h2⟩
  · intro ⟨h1, h2⟩
    exact List.mem_flatMap.mpr ⟨b.1, h1, List.mem_map.mpr ⟨b.2, h2, rfl⟩⟩
theorem csA_lenE (n p : Nat) (ts : List Nat) : (csA n p ts).length = 2 * (bsP n p ts).length := by rw [csA_eq, dup_len]
theorem csA_get {n p : Nat} {ts : List Nat} {w : Nat} (h : w < (csA n p ts).length) : ∃ b, (bsP n p ts)[w / 2]? = some b ∧ (csA n p ts).getD w 0 = b.1 ∧ (plA n p ts).getD w [] = b.2 := by
  rw [csA_lenE] at h
  have hlt : w / 2 < (bsP n p ts).length := by omega
  refine ⟨_, List.getElem?_eq_getElem hlt, ?_, ?_⟩
  · rw [csA_eq, List.getD_eq_getElem?_getD, dup_get (f := Prod.fst), List.getElem?_eq_getElem hlt]; rfl
  · rw [plA_eq, List.getD_eq_getElem?_getD, dup_get (f := Prod.snd), List.getElem?_eq_getElem hlt]; rfl
theorem wag_ok {n p : Nat} {ts : List Nat} (ht : ∀ one ∈ ts, one ≤ p) : Wag p (csA n p ts) (plA n p ts) ts := by
  refine ⟨plA_len ts, fun w hw => ?_, fun w hw => ?_⟩
  · obtain ⟨b, h1, h2, h3⟩ := csA_get hw
    have := bs_mem.mp (List.mem_of_getElem? h1)
    rw [h2, h3, codesP_mem _ _ _ this.2]
    have := ht _ this.1
    omega
  · obtain ⟨b, h1, h2, h3⟩ := csA_get hw
    rw [h2]
    exact (bs_mem.mp (List.mem_of_getElem? h1)).1
theorem codesP_in {n : Nat} : ∀ {q : Nat} {c : List Int}, c.length = q → (∀ d ∈ c, 0 ≤ d ∧ d < n) → c ∈ codesP n q
  | 0, c, h, _ => by rw [List.length_eq_zero_iff.mp h]; exact List.mem_singleton.mpr rfl
  | q + 1, c, h, hd => by
    have hne : c ≠ [] := by intro z; subst z; cases h
    have e := List.dropLast_concat_getLast hne
    show c ∈ codesX n (codesP n q)
    unfold codesX
    refine List.mem_flatMap.mpr ⟨c.dropLast, codesP_in (by rw [List.length_dropLast]; omega) (fun d hdd => hd d (List.dropLast_subset c hdd)), List.mem_map.mpr ⟨(c.getLast hne).toNat, ?_, ?_⟩⟩
    · have := hd _ (List.getLast_mem hne)
      exact List.mem_range.mpr (by omega)
    · have := hd _ (List.getLast_mem hne)
      have e2 : Int.ofNat (c.getLast hne).toNat = c.getLast hne := by show ((c.getLast hne).toNat : Int) = _; omega
      rw [e2, e]
theorem codesX_nodup {n : Nat} {A : List (List Int)} (h : A.Nodup) : (codesX n A).Nodup := by
  unfold codesX
  refine List.pairwise_flatMap.mpr ⟨fun c _ => ?_, h.imp fun {a b} hab x hx z hz e => ?_⟩
  · refine List.pairwise_map.mpr (List.nodup_range.imp fun {a b} hab e => hab ?_)
    have := (List.append_inj' e rfl).2
    exact Int.ofNat.inj (List.cons.inj this).1
  · obtain ⟨t, _, rfl⟩ := List.mem_map.mp hx
    obtain ⟨u, _, rfl⟩ := List.mem_map.mp hz
    exact hab (List.append_inj' e rfl).1
theorem codesP_nodup (n : Nat) : ∀ q, (codesP n q).Nodup
  | 0 => by show ([[]] : List (List Int)).Nodup; simp
  | q + 1 => codesX_nodup (codesP_nodup n q)
theorem bs_nodup {n p : Nat} {ts : List Nat} (h : ts.Nodup) : (bsP n p ts).Nodup := by
  unfold bsP
  refine List.pairwise_flatMap.mpr ⟨fun one _ => ?_, h.imp fun {a b} hab x hx z hz e => ?_⟩
  · refine List.pairwise_map.mpr ((codesP_nodup n _).imp fun {a b} hab e => hab (Prod.mk.inj e).2)
  · obtain ⟨c, _, rfl⟩ := List.mem_map.mp hx
    obtain ⟨d, _, rfl⟩ := List.mem_map.mp hz
    exact hab (Prod.mk.inj e).1
theorem filter_half (j : Nat) : ∀ m : Nat, j < m → (List.range (2 * m)).filter (fun w => decide (w / 2 = j)) = [2 * j, 2 * j + 1]
  | 0, h => by omega
  | m + 1, h => by
    have e : List.range (2 * (m + 1)) = List.range (2 * m) ++ [2 * m, 2 * m + 1] := by
      rw [show 2 * (m + 1) = 2 * m + 1 + 1 by omega, List.range_succ, List.range_succ, List.append_assoc]; rfl
    rw [e, List.filter_append]
    by_cases hj : j < m
    · rw [filter_half j m hj, List.filter_cons_of_neg (by simp; omega), List.filter_cons_of_neg (by simp; omega)]; rfl
    · have : j = m := by omega
      subst this
      have : (List.range (2 * j)).filter (fun w => decide (w / 2 = j)) = [] := List.filter_eq_nil_iff.mpr fun w hw => by
        have := List.mem_range.mp hw
        simp; omega
      rw [this, List.filter_cons_of_pos (by simp), List.filter_cons_of_pos (by simp; omega)]; rfl
theorem pair_ok {n p : Nat} {ts : List Nat} (hn : ts.Nodup) {e : Slot} (h1 : e.one ∈ ts) (h2 : e.code ∈ codesP n (p - e.one)) : Pair (csA n p ts) (plA n p ts) p e := by
  obtain ⟨j, hj⟩ := List.getElem?_of_mem ((bs_mem (n := n) (p := p) (ts := ts) (b := (e.one, e.code))).mpr ⟨h1, h2⟩)
  obtain ⟨hlt, hj'⟩ := List.getElem?_eq_some_iff.mp hj
  refine ⟨j, ?_⟩
  unfold grp
  rw [← filter_half j _ hlt, csA_lenE]
  apply List.filter_congr
  intro w hw
  rw [← csA_lenE] at hw
  obtain ⟨b, g1, g2, g3⟩ := csA_get (List.mem_range.mp hw)
  obtain ⟨hlw, hb⟩ := List.getElem?_eq_some_iff.mp g1
  rw [g2, g3, Nat.sub_self, List.drop_zero, ← Bool.decide_and]
  congr 1
  refine propext ⟨fun ⟨z1, z2⟩ => ?_, fun z => ?_⟩
  · have hbe : b = (e.one, e.code) := Prod.ext z1 z2
    have nd := bs_nodup (n := n) (p := p) hn
    by_cases hlt2 : w / 2 < j
    · exact absurd (by rw [hb, hj', hbe]) (List.pairwise_iff_getElem.mp nd (w / 2) j hlw hlt hlt2)
    · by_cases hlt3 : j < w / 2
      · exact absurd (by rw [hb, hj', hbe]) (List.pairwise_iff_getElem.mp nd j (w / 2) hlt hlw hlt3)
      · omega
  · subst z
    rw [hj] at g1
    cases g1
    exact ⟨rfl, rfl⟩
theorem due_slots {y : List Int} {p : Nat} {ts : List Nat} (hy : ∀ x ∈ y, x = 0 ∨ x = 1) (ht : ∀ one ∈ ts, one ≤ p) (hn : ts.Nodup) :
    (lateP y p (csA y.length p ts) (plA y.length p ts) (p + 1)).foldl (dueStep (csA y.length p ts) (plA y.length p ts)) [] = slP y ts p := by
  rw [late_all (wag_ok ht) hy, due_all (fun e he => ?_) (by rw [List.nil_append]; exact slP_ne), List.nil_append]
  have S := slP_ok e he
  exact ⟨pair_ok hn S.mem (codesP_in (by have := S.len; omega) S.dig), S.sg⟩
/-! how many -/
def fL (n k : Nat) (ts : List Nat) : Nat := (ts.map fun one => if one ≤ k then n ^ (k - one) else 0).sum
theorem fL_succ (n k : Nat) : ∀ ts : List Nat, fL n (k + 1) ts = n * fL n k ts + ts.count (k + 1)
  | [] => by simp [fL]
  | a :: ts => by
    have ih := fL_succ n k ts
    unfold fL at ih ⊢
    rw [List.map_cons, List.sum_cons, List.map_cons, List.sum_cons, ih, List.count_cons, Nat.mul_add]
    by_cases h1 : a ≤ k
    · rw [if_pos (by omega), if_pos h1, show k + 1 - a = (k - a) + 1 by omega, Nat.pow_succ, Nat.mul_comm (n ^ (k - a)) n]
      rw [if_neg (by simp; omega)]; omega
    · rw [if_neg h1, Nat.mul_zero]
      by_cases h2 : a = k + 1
      · subst h2; rw [if_pos (Nat.le_refl _), Nat.sub_self, Nat.pow_zero, if_pos (by simp)]; omega
      · rw [if_neg (by omega), if_neg (by simp; omega)]
        omega
theorem fL_zero (n : Nat) : ∀ ts : List Nat, fL n 0 ts = ts.count 0
  | [] => rfl
  | a :: ts => by
    have ih := fL_zero n ts
    unfold fL at ih ⊢
    rw [List.map_cons, List.sum_cons, ih, List.count_cons]
    by_cases h1 : a = 0
    · subst h1; rw [if_pos (Nat.le_refl _), if_pos (by simp)]; simp; omega
    · rw [if_neg (by omega), if_neg (by simp; omega)]; omega
theorem slP_len {y : List Int} {ts : List Nat} (hn : ts.Nodup) : ∀ k, (slP y ts k).length = fL y.length k ts
  | 0 => by
    show (fresh ts 0).length = _
    rw [fresh_len, fL_zero]
    rw [List.Nodup.count hn]
  | k + 1 => by
    show (byTs 0 y (slP y ts k) ++ fresh ts (k + 1)).length = _
    rw [List.length_append, byTs_len, fresh_len, fL_succ, slP_len hn k, List.Nodup.count hn]
theorem sum_len {y : List Int} {p : Nat} {ts : List Nat} (ht : ∀ one ∈ ts, one ≤ p) (hn : ts.Nodup) : (ts.map fun one => ((y.length ^ (p - one) : Nat) : Int)).sum = ((slP y ts p).length : Int) := by
  rw [slP_len hn]
  unfold fL
  clear hn
  induction ts with
  | nil => rfl
  | cons a ts ih =>
    rw [List.map_cons, List.sum_cons, List.map_cons, List.sum_cons, ih fun o ho => ht o (List.mem_cons_of_mem _ ho), if_pos (ht a List.mem_cons_self)]
    rfl
theorem slP_small {y : List Int} {ts : List Nat} (hy : y.length ≤ 3) {k : Nat} (hk : k ≤ 3) : (slP y ts k).length ≤ 40 := by
  have f : ∀ k, (fresh ts k).length ≤ 1 := fun k => by rw [fresh_len]; split <;> omega
  have st : ∀ k m, (slP y ts k).length ≤ m → (slP y ts (k + 1)).length ≤ 3 * m + 1 := fun k m h => by
    show (byTs 0 y (slP y ts k) ++ fresh ts (k + 1)).length ≤ _
    rw [List.length_append, byTs_len]
    have := Nat.mul_le_mul hy h
    have := f (k + 1)
    omega
  have h0 : (slP y ts 0).length ≤ 1 := f 0
  have h1 := st 0 1 h0
  have h2 := st 1 4 h1
  have h3 := st 2 13 h2
  rw [Nat.zero_add] at h1
  rcases (show k = 0 ∨ k = 1 ∨ k = 2 ∨ k = 3 by omega) with rfl | rfl | rfl | rfl
  · omega
  · omega
  · exact Nat.le_trans h2 (by decide)
  · exact Nat.le_trans h3 (by decide)
end Yk39
set_option Elab.async false
set_option linter.all false
set_option maxRecDepth 100000
set_option maxHeartbeats 0
namespace Yk39
open PySem PySem.Spec PyProof.Rows L2 VL LB
def fok : SV → Bool
  | .io _ => false
  | .lk _ => false
  | _ => true
theorem fgt_ok {k : Nat} {s : VS} {x : SV} (h : s[k]? = some x) (hx : fok x = true) : fgt1 k s = s.set k .un := by
  unfold fgt1
  rw [h]
  cases x <;> first | rfl | cases hx
theorem fgt_all {a0 a1 a2 x3 x4 x5 x6 x7 x8 x9 x10 x11 x12 x13 : SV} (h3 : fok x3 = true) (h4 : fok x4 = true) (h5 : fok x5 = true) (h6 : fok x6 = true) (h7 : fok x7 = true) (h8 : fok x8 = true) (h9 : fok x9 = true) (h10 : fok x10 = true) (h11 : fok x11 = true) (h12 : fok x12 = true) (h13 : fok x13 = true) :
    [3, 4, 5, 6, 7, 8, 9, 10, 11, 12, 13].foldl (fun s i => fgt1 i s) [a0, a1, a2, x3, x4, x5, x6, x7, x8, x9, x10, x11, x12, x13] = [a0, a1, a2, .un, .un, .un, .un, .un, .un, .un, .un, .un, .un, .un] := by
  simp only [List.foldl_cons, List.foldl_nil]
  rw [fgt_ok (k := 3) (x := x3) rfl h3, fgt_ok (k := 4) (x := x4) rfl h4, fgt_ok (k := 5) (x := x5) rfl h5, fgt_ok (k := 6) (x := x6) rfl h6, fgt_ok (k := 7) (x := x7) rfl h7, fgt_ok (k := 8) (x := x8) rfl h8,
    fgt_ok (k := 9) (x := x9) rfl h9, fgt_ok (k := 10) (x := x10) rfl h10, fgt_ok (k := 11) (x := x11) rfl h11, fgt_ok (k := 12) (x := x12) rfl h12, fgt_ok (k := 13) (x := x13) rfl h13]
  rfl
theorem yard_at {n k : Nat} {s : VS} {b : Bool} {bag : List Da} {m : Nat} (hs : s[k]? = some (ownB b (.l bag))) (hb : BagOk (n + m + 1) bag) (hm : 0 < m) (hm2 : m ≤ 1000) :
    ∃ (ys : List Int) (bag' : List Da), callF F__law_yard [.loan k, .d (.int m)] s = .ok (.d (tupI ys), s.set k (ownB b (.l bag'))) ∧ 1 ≤ ys.length ∧ ys.length ≤ m ∧ (∀ y ∈ ys, y = 0 ∨ y = 1) ∧ BagOk n bag' := by
  obtain ⟨ys, bag', h, h0, h1, h2, hb'⟩ := yard_ok hb hm hm2
  refine ⟨ys, bag', ?_, h0, h1, h2, hb'⟩
  rw [callF_ok (by simp [loans]) (by rw [arg_c, arg_ob hs]; rfl) h (fun i => by intro z; cases z), put_io, put_ob hs, put_d, put_n]
theorem turns_lc {n p : Nat} {a0 x2 y : SV} {bag : List Da} (hb : BagOk (n + (p + 1)) bag) (hp : p ≤ 1000) :
    ∃ (ts : List Nat) (bag' : List Da), vLcF [8] (vItRng ((vCons ((vBin addD (vVar 4) (vC (.int 1)))) (vr [])))) (vSetD 8) (VL.vBool (vBin eqF ((vCallF F__law_take ((vCons (vVar 1) ((vCons (vC (.int 2)) (vr []))))))) (vC (.int 0)))) (vVar 8)
      [a0, .own (.l bag), x2, y, .d (.int p), .un, .un, .un, .un, .un, .un, .un, .un, .un] = .ok (.own (.l (ts.map intN)), [a0, .own (.l bag'), x2, y, .d (.int p), .un, .un, .un, .un, .un, .un, .un, .un, .un])
      ∧ ts.Sublist (List.range (p + 1)) ∧ BagOk n bag' := by
  have hr : (-1000000000 : Int) ≤ (p : Int) + 1 ∧ (p : Int) + 1 ≤ 1000000000 := by omega
  obtain ⟨ys, s', hG, q, done, rest, bag', e1, e2, e3, hq, e4, hb'⟩ := lcG_inv (ix := [8]) (gt := vSetD 8) (tt := VL.vBool (vBin eqF ((vCallF F__law_take ((vCons (vVar 1) ((vCons (vC (.int 2)) (vr []))))))) (vC (.int 0)))) (te := vVar 8)
    (fun xs acc s => ∃ (q done rest : List Nat) (bag' : List Da), acc = q.map intN ∧ xs = rest.map intN ∧ done ++ rest = List.range (p + 1) ∧ q.Sublist done ∧ s = [a0, .own (.l bag'), x2, y, .d (.int p), .un, .un, .un, .un, .un, .un, .un, .un, .un] ∧ BagOk (n + rest.length) bag')
    (fun x xs acc s hR => by
      obtain ⟨q, done, rest, bag', rfl, e2, e3, hq, rfl, hb'⟩ := hR
      cases rest with
      | nil => cases e2
      | cons r rest =>
        cases e2
        obtain ⟨v, bag2, h2, v0, v1, hb2⟩ := take_at (k := 1) (s := [a0, .own (.l bag'), x2, y, .d (.int p), .un, .un, .un, .d (intN r), .un, .un, .un, .un, .un]) (b := false) (n := n + rest.length) (m := 2) rfl hb' (by decide) (by decide)
        refine ⟨[a0, .own (.l bag'), x2, y, .d (.int p), .un, .un, .un, .d (intN r), .un, .un, .un, .un, .un], decide (v = 0), [a0, .own (.l bag2), x2, y, .d (.int p), .un, .un, .un, .d (intN r), .un, .un, .un, .un, .un], by simp only [m_vb, bnd_ok, bnd_er, m_vr, m_stuck, m_seq, bS_nx, bS_bk, bS_ct, bS_rt, bS_er, m_if, m_ite, bI_t, bI_f, bI_er, m_and, m_or, m_not, m_bool, evB_b, m_opt, m_optn, m_tru, tru_b, tru_i, tru_n, tru_l, tru_t, m_var, var_d, var_own, var_io, var_lk, var_rd, m_c, st_d, st_o, st_l, oc_l, oc_m, rd_d, rd_o, rd_l, rdR_own, rdR_io, rdR_lk, m_bin, m_un, m_call, m_rdn, m_rdc, m_cons, m_conss, m_tup, m_lst, dts_n, dts_c, o_map, o_bind, add_i, sub_i, mul_i, mod_i, fdiv_i, pow_i, neg_i, iadd_i, abs_i, int_i, int_b, len_l, len_t, add_l, add_t, lt_i, le_i, gt_i, ge_i, eq_i, ne_i, eqF_i, neF_i, tuple_l, tuple_t, list_l, list_t, ix_l, ix_t, m_ret, m_drop, m_nx, m_asg, m_nox, nx_ok, set_d, set_o, setD_, wr_un, wr_d, wr_o, wr_rd, m_aug, m_asgD, evD_d, evD_o, m_frzn, m_frzc, m_frz1, fz_d, fz_un, fz_io, fz_lk, fz_rd, fz_o, m_sub, m_augS, m_app, ap_o, ap_io, m_ct, ct_o, ct_io, m_isl, is_o, is_io, m_mut, m_mutB, m_mut0, intD_i, m_sl, m_pn, m_ps, rs_d, rs_l, rsR_rd, rsR_o, rsR_io, sl_l, sl_t, arg_n, arg_c, arg_d, arg_l, ar_o, ar_io, ar_lk, ar_rd, put_n, put_d, put_io, m_put, pt_o, pt_io, i_seq, src_l, src_t, src_o, src_n, sr_o, sr_io, sr_lk, i_rng, i_enum, i_zip, i_rev, unl_n, unl_c, unl_1, ul_lk, ob_t, ob_f, wp_n, wp_c, rt_n, rt_c, fl_un, fl_d, m_unpT, tupD_t, unp_n, unp_c, range_1, range_2, ext_l, ext_t, app_1, m_pc, m_par, rl_n, rl_d, rl_o, rl_l, rlR_o, sr_n, sto_d, sto_o, List.getElem?_cons_zero, List.getElem?_cons_succ, List.set_cons_zero, List.set_cons_succ, Option.map_some, Option.bind_some, if_true, and_self], ?_, fun hf => ⟨rfl, q, done ++ [r], rest, bag2, rfl, rfl, by rw [List.append_assoc]; exact e3, hq.trans (List.sublist_append_left _ _), rfl, hb2⟩,
          fun ht => ⟨.d (intN r), intN r, [a0, .own (.l bag2), x2, y, .d (.int p), .un, .un, .un, .d (intN r), .un, .un, .un, .un, .un], by simp only [m_vb, bnd_ok, bnd_er, m_vr, m_stuck, m_seq, bS_nx, bS_bk, bS_ct, bS_rt, bS_er, m_if, m_ite, bI_t, bI_f, bI_er, m_and, m_or, m_not, m_bool, evB_b, m_opt, m_optn, m_tru, tru_b, tru_i, tru_n, tru_l, tru_t, m_var, var_d, var_own, var_io, var_lk, var_rd, m_c, st_d, st_o, st_l, oc_l, oc_m, rd_d, rd_o, rd_l, rdR_own, rdR_io, rdR_lk, m_bin, m_un, m_call, m_rdn, m_rdc, m_cons, m_conss, m_tup, m_lst, dts_n, dts_c, o_map, o_bind, add_i, sub_i, mul_i, mod_i, fdiv_i, pow_i, neg_i, iadd_i, abs_i, int_i, int_b, len_l, len_t, add_l, add_t, lt_i, le_i, gt_i, ge_i, eq_i, ne_i, eqF_i, neF_i, tuple_l, tuple_t, list_l, list_t, ix_l, ix_t, m_ret, m_drop, m_nx, m_asg, m_nox, nx_ok, set_d, set_o, setD_, wr_un, wr_d, wr_o, wr_rd, m_aug, m_asgD, evD_d, evD_o, m_frzn, m_frzc, m_frz1, fz_d, fz_un, fz_io, fz_lk, fz_rd, fz_o, m_sub, m_augS, m_app, ap_o, ap_io, m_ct, ct_o, ct_io, m_isl, is_o, is_io, m_mut, m_mutB, m_mut0, intD_i, m_sl, m_pn, m_ps, rs_d, rs_l, rsR_rd, rsR_o, rsR_io, sl_l, sl_t, arg_n, arg_c, arg_d, arg_l, ar_o, ar_io, ar_lk, ar_rd, put_n, put_d, put_io, m_put, pt_o, pt_io, i_seq, src_l, src_t, src_o, src_n, sr_o, sr_io, sr_lk, i_rng, i_enum, i_zip, i_rev, unl_n, unl_c, unl_1, ul_lk, ob_t, ob_f, wp_n, wp_c, rt_n, rt_c, fl_un, fl_d, m_unpT, tupD_t, unp_n, unp_c, range_1, range_2, ext_l, ext_t, app_1, m_pc, m_par, rl_n, rl_d, rl_o, rl_l, rlR_o, sr_n, sto_d, sto_o, List.getElem?_cons_zero, List.getElem?_cons_succ, List.set_cons_zero, List.set_cons_succ, Option.map_some, Option.bind_some, if_true, and_self], rfl, rfl, q ++ [r], done ++ [r], rest, bag2, by rw [List.map_append]; rfl, rfl, by rw [List.append_assoc]; exact e3, hq.append (List.Sublist.refl _), rfl, hb2⟩⟩
        simp only [m_vb, bnd_ok, bnd_er, m_vr, m_stuck, m_seq, bS_nx, bS_bk, bS_ct, bS_rt, bS_er, m_if, m_ite, bI_t, bI_f, bI_er, m_and, m_or, m_not, m_bool, evB_b, m_opt, m_optn, m_tru, tru_b, tru_i, tru_n, tru_l, tru_t, m_var, var_d, var_own, var_io, var_lk, var_rd, m_c, st_d, st_o, st_l, oc_l, oc_m, rd_d, rd_o, rd_l, rdR_own, rdR_io, rdR_lk, m_bin, m_un, m_call, m_rdn, m_rdc, m_cons, m_conss, m_tup, m_lst, dts_n, dts_c, o_map, o_bind, add_i, sub_i, mul_i, mod_i, fdiv_i, pow_i, neg_i, iadd_i, abs_i, int_i, int_b, len_l, len_t, add_l, add_t, lt_i, le_i, gt_i, ge_i, eq_i, ne_i, eqF_i, neF_i, tuple_l, tuple_t, list_l, list_t, ix_l, ix_t, m_ret, m_drop, m_nx, m_asg, m_nox, nx_ok, set_d, set_o, setD_, wr_un, wr_d, wr_o, wr_rd, m_aug, m_asgD, evD_d, evD_o, m_frzn, m_frzc, m_frz1, fz_d, fz_un, fz_io, fz_lk, fz_rd, fz_o, m_sub, m_augS, m_app, ap_o, ap_io, m_ct, ct_o, ct_io, m_isl, is_o, is_io, m_mut, m_mutB, m_mut0, intD_i, m_sl, m_pn, m_ps, rs_d, rs_l, rsR_rd, rsR_o, rsR_io, sl_l, sl_t, arg_n, arg_c, arg_d, arg_l, ar_o, ar_io, ar_lk, ar_rd, put_n, put_d, put_io, m_put, pt_o, pt_io, i_seq, src_l, src_t, src_o, src_n, sr_o, sr_io, sr_lk, i_rng, i_enum, i_zip, i_rev, unl_n, unl_c, unl_1, ul_lk, ob_t, ob_f, wp_n, wp_c, rt_n, rt_c, fl_un, fl_d, m_unpT, tupD_t, unp_n, unp_c, range_1, range_2, ext_l, ext_t, app_1, m_pc, m_par, rl_n, rl_d, rl_o, rl_l, rlR_o, sr_n, sto_d, sto_o, List.getElem?_cons_zero, List.getElem?_cons_succ, List.set_cons_zero, List.set_cons_succ, Option.map_some, Option.bind_some, if_true, and_self, m_callF, h2, ob_f])
    (rngD 0 (p + 1) 1) [] [a0, .own (.l bag), x2, y, .d (.int p), .un, .un, .un, .un, .un, .un, .un, .un, .un] ⟨[], [], List.range (p + 1), bag, rfl, by rw [rngD_map]; rfl, rfl, .slnil, rfl, by rw [List.length_range]; exact hb⟩
  rw [List.nil_append] at e1
  have e5 : rest = [] := by cases rest with
    | nil => rfl
    | cons _ _ => cases e2
  subst e5
  rw [List.append_nil] at e3
  subst e1 e4 e3
  have hl : q.length ≤ p + 1 := by have := hq.length_le; rwa [List.length_range] at this
  have lc := lcF_of (ix := [8]) (L := []) (s2 := [a0, .own (.l bag'), x2, y, .d (.int p), .un, .un, .un, .un, .un, .un, .un, .un, .un]) (rs1 (p := p) ▸ rng_succ (s := [a0, .own (.l bag), x2, y, .d (.int p), .un, .un, .un, .un, .un, .un, .un, .un, .un]) (i := 4) rfl hr) rfl hG (by rw [List.length_map]; omega)
  exact ⟨q, bag', lc, hq, hb'⟩
theorem dueStep_len (cs : List Nat) (pl : List (List Int)) (acc : List Slot) (w : Nat) : (dueStep cs pl acc w).length ≤ acc.length + 1 := by
  unfold dueStep
  split
  · omega
  · rw [List.length_append]; exact Nat.le_refl _
theorem dueFold_len (cs : List Nat) (pl : List (List Int)) : ∀ (l : List Nat) (acc : List Slot), (l.foldl (dueStep cs pl) acc).length ≤ acc.length + l.length
  | [], acc => Nat.le_refl _
  | w :: l, acc => by
    have h1 := dueFold_len cs pl l (dueStep cs pl acc w)
    have h2 := dueStep_len cs pl acc w
    rw [List.foldl_cons, List.length_cons]; omega
theorem allG_len {p : Nat} {cs : List Nat} {pl : List (List Int)} {k : Nat} : ∀ l : List Slot, (allG p cs pl k l).length ≤ l.length * cs.length
  | [] => Nat.zero_le _
  | e :: l => by
    have ih := allG_len (p := p) (cs := cs) (pl := pl) (k := k) l
    unfold allG at ih ⊢
    rw [List.flatMap_cons, List.length_append, List.length_cons, Nat.add_mul, Nat.one_mul]
    have h : (dirP e.sign (grp p cs pl k e)).length ≤ cs.length := by
      have h1 : (grp p cs pl k e).length ≤ (List.range cs.length).length := List.length_filter_le _ _
      rw [List.length_range] at h1
      unfold dirP
      split
      · exact h1
      · rw [List.length_reverse]; exact h1
    omega
/-- a drawn input -/
structure Inp (y : List Int) (p : Nat) (ts : List Nat) : Prop where
  y3 : y.length ≤ 3
  bit : ∀ x ∈ y, x = 0 ∨ x = 1
  p3 : p ≤ 3
  le : ∀ one ∈ ts, one ≤ p
  nd : ts.Nodup
  tl : ts.length ≤ 4
section
variable {y : List Int} {p : Nat} {ts : List Nat} (I : Inp y p ts)
include I
theorem Inp.pw : ∀ q ≤ p, y.length ^ q ≤ 1000 := fun q hq => by
  have h3 := I.p3
  calc y.length ^ q ≤ 3 ^ q := Nat.pow_le_pow_left I.y3 q
    _ ≤ 3 ^ 3 := Nat.pow_le_pow_right (by decide) (by omega)
    _ ≤ 1000 := by decide
theorem Inp.cs : (csA y.length p ts).length ≤ 8000 := by
  have := csA_len I.pw ts
  have := I.tl
  omega
theorem Inp.sl : ∀ k ≤ p, (slP y ts k).length ≤ 40 := fun k hk => slP_small I.y3 (by have := I.p3; omega)
theorem Inp.la : ∀ k ≤ p, (lateP y p (csA y.length p ts) (plA y.length p ts) k ++ newP (csA y.length p ts) k).length ≤ 320000 := fun k hk => by
  rw [late_slots (wag_ok I.le) I.bit hk]
  calc _ ≤ _ := allG_len _
    _ ≤ 40 * 8000 := Nat.mul_le_mul (I.sl k hk) I.cs
    _ ≤ 320000 := by decide
theorem Inp.lt : (lateP y p (csA y.length p ts) (plA y.length p ts) (p + 1)).length ≤ 320000 := by
  rw [late_all (wag_ok I.le) I.bit]
  calc _ ≤ _ := allG_len _
    _ ≤ 40 * 8000 := Nat.mul_le_mul (I.sl p (Nat.le_refl _)) I.cs
    _ ≤ 320000 := by decide
end
theorem late_at {a0 a1 a2 x8 x9 : SV} {cs : List Da} {pl ol : List Da} {y : Da} {p : Da} {ts : Da} (lo : F__law_late_order [.d y, .d p, .io (.l cs), .io (.l pl)] = .ok (.d (.list ol), [.d y, .d p, .io (.l cs), .io (.l pl)])) :
    vItSeq (vCallF F__law_late_order (vCons (vVar 3) (vCons (vVar 4) (vCons (vVar 6) (vCons (vVar 7) (vr [])))))) [a0, a1, a2, .d y, .d p, .d ts, .own (.l cs), .own (.l pl), x8, x9, .own (.l []), .un, .un, .un]
      = .ok ((ol, []), [a0, a1, a2, .d y, .d p, .d ts, .own (.l cs), .own (.l pl), x8, x9, .own (.l []), .un, .un, .un]) := by
  have ca : callF F__law_late_order [.d y, .d p, .loan 6, .loan 7] [a0, a1, a2, .d y, .d p, .d ts, .own (.l cs), .own (.l pl), x8, x9, .own (.l []), .un, .un, .un]
      = .ok (.d (.list ol), [a0, a1, a2, .d y, .d p, .d ts, .own (.l cs), .own (.l pl), x8, x9, .own (.l []), .un, .un, .un]) := by
    rw [callF_ok (by simp [loans]) (by rfl) lo (fun i => by intro z; cases z), put_d, put_d, put_io, put_io, put_n]
    rfl
  simp only [m_vb, bnd_ok, bnd_er, m_vr, m_stuck, m_seq, bS_nx, bS_bk, bS_ct, bS_rt, bS_er, m_if, m_ite, bI_t, bI_f, bI_er, m_and, m_or, m_not, m_bool, evB_b, m_opt, m_optn, m_tru, tru_b, tru_i, tru_n, tru_l, tru_t, m_var, var_d, var_own, var_io, var_lk, var_rd, m_c, st_d, st_o, st_l, oc_l, oc_m, rd_d, rd_o, rd_l, rdR_own, rdR_io, rdR_lk, m_bin, m_un, m_call, m_rdn, m_rdc, m_cons, m_conss, m_tup, m_lst, dts_n, dts_c, o_map, o_bind, add_i, sub_i, mul_i, mod_i, fdiv_i, pow_i, neg_i, iadd_i, abs_i, int_i, int_b, len_l, len_t, add_l, add_t, lt_i, le_i, gt_i, ge_i, eq_i, ne_i, eqF_i, neF_i, tuple_l, tuple_t, list_l, list_t, ix_l, ix_t, m_ret, m_drop, m_nx, m_asg, m_nox, nx_ok, set_d, set_o, setD_, wr_un, wr_d, wr_o, wr_rd, m_aug, m_asgD, evD_d, evD_o, m_frzn, m_frzc, m_frz1, fz_d, fz_un, fz_io, fz_lk, fz_rd, fz_o, m_sub, m_augS, m_app, ap_o, ap_io, m_ct, ct_o, ct_io, m_isl, is_o, is_io, m_mut, m_mutB, m_mut0, intD_i, m_sl, m_pn, m_ps, rs_d, rs_l, rsR_rd, rsR_o, rsR_io, sl_l, sl_t, arg_n, arg_c, arg_d, arg_l, ar_o, ar_io, ar_lk, ar_rd, put_n, put_d, put_io, m_put, pt_o, pt_io, i_seq, src_l, src_t, src_o, src_n, sr_o, sr_io, sr_lk, i_rng, i_enum, i_zip, i_rev, unl_n, unl_c, unl_1, ul_lk, ob_t, ob_f, wp_n, wp_c, rt_n, rt_c, fl_un, fl_d, m_unpT, tupD_t, unp_n, unp_c, range_1, range_2, ext_l, ext_t, app_1, m_pc, m_par, rl_n, rl_d, rl_o, rl_l, rlR_o, sr_n, sto_d, sto_o, List.getElem?_cons_zero, List.getElem?_cons_succ, List.set_cons_zero, List.set_cons_succ, Option.map_some, Option.bind_some, if_true, and_self, m_callF, ca]
theorem due_loop {a0 a1 a2 x8 x9 : SV} {y : List Int} {p : Nat} {ts : List Nat} (I : Inp y p ts) (h8 : un1 x8) :
    ∃ x11 x12, law_s3 [a0, a1, a2, .d (tupI y), .d (.int p), .d (.tuple (ts.map intN)), .own (.l ((csA y.length p ts).map comD)), .own (.l ((plA y.length p ts).map tupI)), x8, x9, .own (.l []), .un, .un, .un]
      = .ok (.nx, [a0, a1, a2, .d (tupI y), .d (.int p), .d (.tuple (ts.map intN)), .own (.l ((csA y.length p ts).map comD)), .own (.l ((plA y.length p ts).map tupI)), x8, x9, .own (.l ((slP y ts p).map slotD)), x11, x12, .un]) ∧ un1 x11 ∧ un1 x12 := by
  have p3 := I.p3
  have y3 := I.y3
  have hcs := I.cs
  have hlt := I.lt
  have lo := late_ok (yard := y) (p := p) (cs := csA y.length p ts) (plan := plA y.length p ts) (by omega) (by omega) (by omega) (plA_len ts) (fun k hk => ⟨by
    calc y.length * _ ≤ 3 * 320000 := Nat.mul_le_mul y3 (I.la k hk)
      _ ≤ 16000000 := by decide, by have := I.la k hk; omega⟩)
  have hds := due_slots I.bit I.le I.nd
  have hll := fun w => lateP_lt (yard := y) (p := p) (cs := csA y.length p ts) (plan := plA y.length p ts) (k := p + 1) (w := w)
  have hpl := plA_len (n := y.length) (p := p) ts
  generalize csA y.length p ts = cs at *
  generalize plA y.length p ts = pl at *
  generalize lateP y p cs pl (p + 1) = la at *
  unfold law_s3
  obtain ⟨s', h1, A, B, x11, x12, e1, e2, h11, h12, rfl⟩ := for_inv (L := []) (gt := vSetD 11) (g := r5)
    (s1 := [a0, a1, a2, .d (tupI y), .d (.int p), .d (.tuple (ts.map intN)), .own (.l (cs.map comD)), .own (.l (pl.map tupI)), x8, x9, .own (.l []), .un, .un, .un])
    (fun xs s => ∃ (A B : List Nat) (x11 x12 : SV), A ++ B = la ∧ xs = B.map intN ∧ un1 x11 ∧ un1 x12 ∧ s = [a0, a1, a2, .d (tupI y), .d (.int p), .d (.tuple (ts.map intN)), .own (.l (cs.map comD)), .own (.l (pl.map tupI)), x8, x9, .own (.l ((A.foldl (dueStep cs pl) []).map slotD)), x11, x12, .un])
    (fun x xs s hR => by
      obtain ⟨A, B, x11, x12, e1, e2, h11, h12, rfl⟩ := hR
      cases B with
      | nil => cases e2
      | cons w B =>
        cases e2
        have hw : w ∈ la := by rw [← e1]; simp
        have hA : A.length ≤ 320000 := by
          have h := congrArg List.length e1
          rw [List.length_append] at h
          omega
        have hf := dueFold_len cs pl A []
        rw [List.length_nil] at hf
        have st := due_step (a0 := a0) (a1 := a1) (a2 := a2) (a3 := .d (tupI y)) (a4 := .d (.int p)) (a5 := .d (.tuple (ts.map intN))) (x9 := x9) (x12 := x12) (x13 := .un) (x8 := x8) (cs := cs) (plan := pl) (l := A.foldl (dueStep cs pl) []) (w := w) (hll w hw) hpl (by omega) h8 (un1_wr h12) (by omega)
        refine ⟨_, .nx, _, ?_, st, .inl rfl, A ++ [w], B, .d (intN w), .d (keyD' (pl.getD w []) (cs.getD w 0)), by rw [List.append_assoc]; exact e1, rfl, .inr ⟨_, rfl⟩, .inr ⟨_, rfl⟩, by rw [List.foldl_append]; rfl⟩
        simp only [m_vb, bnd_ok, bnd_er, m_vr, m_stuck, m_seq, bS_nx, bS_bk, bS_ct, bS_rt, bS_er, m_if, m_ite, bI_t, bI_f, bI_er, m_and, m_or, m_not, m_bool, evB_b, m_opt, m_optn, m_tru, tru_b, tru_i, tru_n, tru_l, tru_t, m_var, var_d, var_own, var_io, var_lk, var_rd, m_c, st_d, st_o, st_l, oc_l, oc_m, rd_d, rd_o, rd_l, rdR_own, rdR_io, rdR_lk, m_bin, m_un, m_call, m_rdn, m_rdc, m_cons, m_conss, m_tup, m_lst, dts_n, dts_c, o_map, o_bind, add_i, sub_i, mul_i, mod_i, fdiv_i, pow_i, neg_i, iadd_i, abs_i, int_i, int_b, len_l, len_t, add_l, add_t, lt_i, le_i, gt_i, ge_i, eq_i, ne_i, eqF_i, neF_i, tuple_l, tuple_t, list_l, list_t, ix_l, ix_t, m_ret, m_drop, m_nx, m_asg, m_nox, nx_ok, set_d, set_o, setD_, wr_un, wr_d, wr_o, wr_rd, m_aug, m_asgD, evD_d, evD_o, m_frzn, m_frzc, m_frz1, fz_d, fz_un, fz_io, fz_lk, fz_rd, fz_o, m_sub, m_augS, m_app, ap_o, ap_io, m_ct, ct_o, ct_io, m_isl, is_o, is_io, m_mut, m_mutB, m_mut0, intD_i, m_sl, m_pn, m_ps, rs_d, rs_l, rsR_rd, rsR_o, rsR_io, sl_l, sl_t, arg_n, arg_c, arg_d, arg_l, ar_o, ar_io, ar_lk, ar_rd, put_n, put_d, put_io, m_put, pt_o, pt_io, i_seq, src_l, src_t, src_o, src_n, sr_o, sr_io, sr_lk, i_rng, i_enum, i_zip, i_rev, unl_n, unl_c, unl_1, ul_lk, ob_t, ob_f, wp_n, wp_c, rt_n, rt_c, fl_un, fl_d, m_unpT, tupD_t, unp_n, unp_c, range_1, range_2, ext_l, ext_t, app_1, m_pc, m_par, rl_n, rl_d, rl_o, rl_l, rlR_o, sr_n, sto_d, sto_o, List.getElem?_cons_zero, List.getElem?_cons_succ, List.set_cons_zero, List.set_cons_succ, Option.map_some, Option.bind_some, if_true, and_self, un1_wr h11])
    (late_at lo) ⟨[], la, .un, .un, rfl, rfl, .inl rfl, .inl rfl, rfl⟩
  have e5 : B = [] := by cases B with
    | nil => rfl
    | cons _ _ => cases e2
  subst e5
  rw [List.append_nil] at e1
  subst e1
  rw [hds] at h1
  exact ⟨x11, x12, h1, h11, h12⟩
theorem good_slot (e : Slot) : shF 5 (slotD e) = true := by
  simp only [slotD, tupI, intN, shF, shFs, shFs_ints, Bool.and_self]
theorem good_slots : ∀ l : List Slot, shFs 5 (l.map slotD) = true
  | [] => by simp only [List.map_nil, shFs]
  | e :: l => by simp only [List.map_cons, shFs, good_slot, good_slots l, Bool.and_self]
theorem nodes_ints : ∀ l : List Int, nodesL (l.map PyData.int) = l.length
  | [] => rfl
  | x :: l => by simp only [List.map_cons, nodesL, nodesD, nodes_ints l, List.length_cons]; omega
theorem nodes_slots {k : Nat} : ∀ {l : List Slot}, (∀ e ∈ l, e.code.length ≤ k) → nodesL (l.map slotD) ≤ l.length * (k + 4)
  | [], _ => Nat.zero_le _
  | e :: l, h => by
    have ih := nodes_slots (k := k) fun f hf => h f (List.mem_cons_of_mem _ hf)
    have h1 := h e List.mem_cons_self
    have h2 : nodesD (slotD e) = e.code.length + 4 := by simp only [slotD, tupI, intN, nodesD, nodesL, nodes_ints]; omega
    rw [List.map_cons, List.length_cons, Nat.add_mul, Nat.one_mul]
    simp only [nodesL]
    omega
end Yk39
set_option Elab.async false
set_option linter.all false
set_option maxRecDepth 100000
set_option maxHeartbeats 0
namespace Yk39
open PySem PySem.Spec PyProof.Rows L2 VL LB
/-- the state between two turns -/
def Fr (ns : List Int) (n : Nat) (s : VS) : Prop := ∃ (bag : List Da) (x2 x3 x4 x5 x6 x7 x8 x9 x10 x11 x12 x13 : SV), s = [.rd (ns.map PyData.int), .own (.l bag), x2, x3, x4, x5, x6, x7, x8, x9, x10, x11, x12, x13] ∧ BagOk n bag ∧ wrOk (some x2) = true ∧
  (fok x3 = true ∧ fok x4 = true ∧ fok x5 = true ∧ fok x6 = true ∧ fok x7 = true ∧ fok x8 = true ∧ fok x9 = true ∧ fok x10 = true ∧ fok x11 = true ∧ fok x12 = true ∧ fok x13 = true)
theorem un1_fok {x : SV} (h : un1 x) : fok x = true := by rcases h with rfl | ⟨d, rfl⟩ <;> rfl
theorem alike_at {x : Da} {s : VS} (hg : GoodD x) (hn : nodesD x ≤ 900000) : callF F__law_alike [.d x, .d x] s = .ok (.d (.bool true), s) := by
  rw [callF_ok (by simp [loans]) (by rfl) (alike_refl hg hn) (fun i => by intro z; cases z), put_d, put_d, put_n]
theorem asg13 {a0 a1 a2 a6 a7 x8 x9 a10 x11 x12 : SV} {y p ts z : Da} (h : ∀ s, callF F_slots [.d y, .d p, .d ts] s = .ok (.d z, s)) :
    (vFrz [3, 4, 5] (vAsg ((vCallF F_slots ((vCons (vVar 3) ((vCons (vVar 4) ((vCons (vVar 5) (vr []))))))))) (vSet 13))) [a0, a1, a2, .d y, .d p, .d ts, a6, a7, x8, x9, a10, x11, x12, .un] = .ok (.nx, [a0, a1, a2, .d y, .d p, .d ts, a6, a7, x8, x9, a10, x11, x12, .d z]) := by
  simp only [m_vb, bnd_ok, bnd_er, m_vr, m_stuck, m_seq, bS_nx, bS_bk, bS_ct, bS_rt, bS_er, m_if, m_ite, bI_t, bI_f, bI_er, m_and, m_or, m_not, m_bool, evB_b, m_opt, m_optn, m_tru, tru_b, tru_i, tru_n, tru_l, tru_t, m_var, var_d, var_own, var_io, var_lk, var_rd, m_c, st_d, st_o, st_l, oc_l, oc_m, rd_d, rd_o, rd_l, rdR_own, rdR_io, rdR_lk, m_bin, m_un, m_call, m_rdn, m_rdc, m_cons, m_conss, m_tup, m_lst, dts_n, dts_c, o_map, o_bind, add_i, sub_i, mul_i, mod_i, fdiv_i, pow_i, neg_i, iadd_i, abs_i, int_i, int_b, len_l, len_t, add_l, add_t, lt_i, le_i, gt_i, ge_i, eq_i, ne_i, eqF_i, neF_i, tuple_l, tuple_t, list_l, list_t, ix_l, ix_t, m_ret, m_drop, m_nx, m_asg, m_nox, nx_ok, set_d, set_o, setD_, wr_un, wr_d, wr_o, wr_rd, m_aug, m_asgD, evD_d, evD_o, m_frzn, m_frzc, m_frz1, fz_d, fz_un, fz_io, fz_lk, fz_rd, fz_o, m_sub, m_augS, m_app, ap_o, ap_io, m_ct, ct_o, ct_io, m_isl, is_o, is_io, m_mut, m_mutB, m_mut0, intD_i, m_sl, m_pn, m_ps, rs_d, rs_l, rsR_rd, rsR_o, rsR_io, sl_l, sl_t, arg_n, arg_c, arg_d, arg_l, ar_o, ar_io, ar_lk, ar_rd, put_n, put_d, put_io, m_put, pt_o, pt_io, i_seq, src_l, src_t, src_o, src_n, sr_o, sr_io, sr_lk, i_rng, i_enum, i_zip, i_rev, unl_n, unl_c, unl_1, ul_lk, ob_t, ob_f, wp_n, wp_c, rt_n, rt_c, fl_un, fl_d, m_unpT, tupD_t, unp_n, unp_c, range_1, range_2, ext_l, ext_t, app_1, m_pc, m_par, rl_n, rl_d, rl_o, rl_l, rlR_o, sr_n, sto_d, sto_o, List.getElem?_cons_zero, List.getElem?_cons_succ, List.set_cons_zero, List.set_cons_succ, Option.map_some, Option.bind_some, if_true, and_self, m_callF, h]
theorem neF_same {i : Int} : neF (.int i) (.int i) = some (.d (.bool false)) := by rw [neF_i, decide_eq_true rfl]; rfl
theorem test_ok {a0 a1 a2 a6 a7 x8 x9 x11 x12 : SV} {y p ts : Da} {ds : List Da} (h8 : un1 x8) (ha : ∀ s, callF F__law_alike [.d (.tuple ds), .d (.tuple ds)] s = .ok (.d (.bool true), s))
    (hs : (vCall sumD ((vCons ((vLcF [8] (vItSeq (vVar 5)) (vSetD 8) (vr true) ((vCall lenD ((vCons ((vCallF F__law_codes ((vCons (vVar 3) ((vCons ((vBin subD (vVar 4) (vVar 8))) (vr []))))))) (vr []))))))) (vr []))))
      [a0, a1, a2, .d y, .d p, .d ts, a6, a7, x8, x9, .own (.l ds), x11, x12, .d (.tuple ds)] = .ok (.d (.int ds.length), [a0, a1, a2, .d y, .d p, .d ts, a6, a7, x8, x9, .own (.l ds), x11, x12, .d (.tuple ds)])) :
    r2 [a0, a1, a2, .d y, .d p, .d ts, a6, a7, x8, x9, .own (.l ds), x11, x12, .d (.tuple ds)] = .ok (.nx, [a0, a1, a2, .d y, .d p, .d ts, a6, a7, x8, x9, .own (.l ds), x11, x12, .d (.tuple ds)]) := by
  unfold r2 law_s1
  generalize (vCall sumD ((vCons ((vLcF [8] (vItSeq (vVar 5)) (vSetD 8) (vr true) ((vCall lenD ((vCons ((vCallF F__law_codes ((vCons (vVar 3) ((vCons ((vBin subD (vVar 4) (vVar 8))) (vr []))))))) (vr []))))))) (vr [])))) = sm at hs ⊢
  simp only [m_vb, bnd_ok, bnd_er, m_vr, m_stuck, m_seq, bS_nx, bS_bk, bS_ct, bS_rt, bS_er, m_if, m_ite, bI_t, bI_f, bI_er, m_and, m_or, m_not, m_bool, evB_b, m_opt, m_optn, m_tru, tru_b, tru_i, tru_n, tru_l, tru_t, m_var, var_d, var_own, var_io, var_lk, var_rd, m_c, st_d, st_o, st_l, oc_l, oc_m, rd_d, rd_o, rd_l, rdR_own, rdR_io, rdR_lk, m_bin, m_un, m_call, m_rdn, m_rdc, m_cons, m_conss, m_tup, m_lst, dts_n, dts_c, o_map, o_bind, add_i, sub_i, mul_i, mod_i, fdiv_i, pow_i, neg_i, iadd_i, abs_i, int_i, int_b, len_l, len_t, add_l, add_t, lt_i, le_i, gt_i, ge_i, eq_i, ne_i, eqF_i, neF_i, tuple_l, tuple_t, list_l, list_t, ix_l, ix_t, m_ret, m_drop, m_nx, m_asg, m_nox, nx_ok, set_d, set_o, setD_, wr_un, wr_d, wr_o, wr_rd, m_aug, m_asgD, evD_d, evD_o, m_frzn, m_frzc, m_frz1, fz_d, fz_un, fz_io, fz_lk, fz_rd, fz_o, m_sub, m_augS, m_app, ap_o, ap_io, m_ct, ct_o, ct_io, m_isl, is_o, is_io, m_mut, m_mutB, m_mut0, intD_i, m_sl, m_pn, m_ps, rs_d, rs_l, rsR_rd, rsR_o, rsR_io, sl_l, sl_t, arg_n, arg_c, arg_d, arg_l, ar_o, ar_io, ar_lk, ar_rd, put_n, put_d, put_io, m_put, pt_o, pt_io, i_seq, src_l, src_t, src_o, src_n, sr_o, sr_io, sr_lk, i_rng, i_enum, i_zip, i_rev, unl_n, unl_c, unl_1, ul_lk, ob_t, ob_f, wp_n, wp_c, rt_n, rt_c, fl_un, fl_d, m_unpT, tupD_t, unp_n, unp_c, range_1, range_2, ext_l, ext_t, app_1, m_pc, m_par, rl_n, rl_d, rl_o, rl_l, rlR_o, sr_n, sto_d, sto_o, List.getElem?_cons_zero, List.getElem?_cons_succ, List.set_cons_zero, List.set_cons_succ, Option.map_some, Option.bind_some, if_true, and_self, un1_frz h8, m_callF, ha, Bool.not_true, hs, neF_same]
  rfl
/-- from the comers on -/
theorem r12_ok {a0 a1 a2 : SV} {y : List Int} {p : Nat} {ts : List Nat} (I : Inp y p ts) :
    ∃ x8 x9 x11 x12 : SV, r12 [a0, a1, a2, .d (tupI y), .d (.int p), .d (.tuple (ts.map intN)), .un, .un, .un, .un, .un, .un, .un, .un]
      = .ok (.nx, [a0, a1, a2, .d (tupI y), .d (.int p), .d (.tuple (ts.map intN)), .own (.l ((csA y.length p ts).map comD)), .own (.l ((plA y.length p ts).map tupI)), x8, x9, .own (.l ((slP y ts p).map slotD)), x11, x12, .d (.tuple ((slP y ts p).map slotD))])
      ∧ un1 x8 ∧ un1 x9 ∧ un1 x11 ∧ un1 x12 := by
  have p3 := I.p3
  have y3 := I.y3
  obtain ⟨x8, x9, hc, h8, h9⟩ := com_ok (a0 := a0) (a1 := a1) (a2 := a2) (a10 := .un) (a11 := .un) (a12 := .un) (a13 := .un) I.le (by have := I.tl; omega) I.pw (by omega) (by omega)
  obtain ⟨x11, x12, hd, h11, h12⟩ := due_loop (a0 := a0) (a1 := a1) (a2 := a2) (x8 := x8) (x9 := x9) I h8
  have sl := slots_ok (y := y) (p := p) (ts := ts) (by omega) (by omega) (fun k hk => Nat.le_trans (I.sl k hk) (by decide))
  have sa : ∀ s, callF F_slots [.d (tupI y), .d (.int p), .d (.tuple (ts.map intN))] s = .ok (.d (.tuple ((slP y ts p).map slotD)), s) := fun s => by
    rw [callF_ok (by simp [loans]) (by rfl) sl (fun i => by intro z; cases z), put_d, put_d, put_d, put_n]
  have al := fun s => alike_at (x := .tuple ((slP y ts p).map slotD)) (s := s) ⟨6, by simp only [shF]; exact good_slots _⟩ (by
    simp only [nodesD]
    have h1 := nodes_slots (k := 3) (l := slP y ts p) fun e he => by have := slP_code e he; omega
    have h2 := Nat.mul_le_mul_right (3 + 4) (I.sl p (Nat.le_refl _))
    omega)
  have su := sum_ok (a0 := a0) (a1 := a1) (a2 := a2) (a6 := .own (.l ((csA y.length p ts).map comD))) (a7 := .own (.l ((plA y.length p ts).map tupI))) (x8 := x8) (a9 := x9) (a10 := .own (.l ((slP y ts p).map slotD))) (a11 := x11) (a12 := x12) (a13 := .d (.tuple ((slP y ts p).map slotD))) I.le (by have := I.tl; omega) I.pw (by omega) (by omega) h8
  rw [sum_len I.le I.nd, ← List.length_map (f := slotD) (as := slP y ts p)] at su
  refine ⟨x8, x9, x11, x12, ?_, h8, h9, h11, h12⟩
  unfold r12
  refine seq_then (s1 := [a0, a1, a2, .d (tupI y), .d (.int p), .d (.tuple (ts.map intN)), .own (.l []), .own (.l []), .un, .un, .un, .un, .un, .un]) ?_ ?_
  · simp only [m_vb, bnd_ok, bnd_er, m_vr, m_stuck, m_seq, bS_nx, bS_bk, bS_ct, bS_rt, bS_er, m_if, m_ite, bI_t, bI_f, bI_er, m_and, m_or, m_not, m_bool, evB_b, m_opt, m_optn, m_tru, tru_b, tru_i, tru_n, tru_l, tru_t, m_var, var_d, var_own, var_io, var_lk, var_rd, m_c, st_d, st_o, st_l, oc_l, oc_m, rd_d, rd_o, rd_l, rdR_own, rdR_io, rdR_lk, m_bin, m_un, m_call, m_rdn, m_rdc, m_cons, m_conss, m_tup, m_lst, dts_n, dts_c, o_map, o_bind, add_i, sub_i, mul_i, mod_i, fdiv_i, pow_i, neg_i, iadd_i, abs_i, int_i, int_b, len_l, len_t, add_l, add_t, lt_i, le_i, gt_i, ge_i, eq_i, ne_i, eqF_i, neF_i, tuple_l, tuple_t, list_l, list_t, ix_l, ix_t, m_ret, m_drop, m_nx, m_asg, m_nox, nx_ok, set_d, set_o, setD_, wr_un, wr_d, wr_o, wr_rd, m_aug, m_asgD, evD_d, evD_o, m_frzn, m_frzc, m_frz1, fz_d, fz_un, fz_io, fz_lk, fz_rd, fz_o, m_sub, m_augS, m_app, ap_o, ap_io, m_ct, ct_o, ct_io, m_isl, is_o, is_io, m_mut, m_mutB, m_mut0, intD_i, m_sl, m_pn, m_ps, rs_d, rs_l, rsR_rd, rsR_o, rsR_io, sl_l, sl_t, arg_n, arg_c, arg_d, arg_l, ar_o, ar_io, ar_lk, ar_rd, put_n, put_d, put_io, m_put, pt_o, pt_io, i_seq, src_l, src_t, src_o, src_n, sr_o, sr_io, sr_lk, i_rng, i_enum, i_zip, i_rev, unl_n, unl_c, unl_1, ul_lk, ob_t, ob_f, wp_n, wp_c, rt_n, rt_c, fl_un, fl_d, m_unpT, tupD_t, unp_n, unp_c, range_1, range_2, ext_l, ext_t, app_1, m_pc, m_par, rl_n, rl_d, rl_o, rl_l, rlR_o, sr_n, sto_d, sto_o, List.getElem?_cons_zero, List.getElem?_cons_succ, List.set_cons_zero, List.set_cons_succ, Option.map_some, Option.bind_some, if_true, and_self, List.length_nil, Nat.zero_le]
  unfold r11
  refine seq_then (s1 := [a0, a1, a2, .d (tupI y), .d (.int p), .d (.tuple (ts.map intN)), .own (.l ((csA y.length p ts).map comD)), .own (.l ((plA y.length p ts).map tupI)), x8, x9, .un, .un, .un, .un]) ?_ ?_
  · simp only [m_vb, bnd_ok, bnd_er, m_vr, m_stuck, m_seq, bS_nx, bS_bk, bS_ct, bS_rt, bS_er, m_if, m_ite, bI_t, bI_f, bI_er, m_and, m_or, m_not, m_bool, evB_b, m_opt, m_optn, m_tru, tru_b, tru_i, tru_n, tru_l, tru_t, m_var, var_d, var_own, var_io, var_lk, var_rd, m_c, st_d, st_o, st_l, oc_l, oc_m, rd_d, rd_o, rd_l, rdR_own, rdR_io, rdR_lk, m_bin, m_un, m_call, m_rdn, m_rdc, m_cons, m_conss, m_tup, m_lst, dts_n, dts_c, o_map, o_bind, add_i, sub_i, mul_i, mod_i, fdiv_i, pow_i, neg_i, iadd_i, abs_i, int_i, int_b, len_l, len_t, add_l, add_t, lt_i, le_i, gt_i, ge_i, eq_i, ne_i, eqF_i, neF_i, tuple_l, tuple_t, list_l, list_t, ix_l, ix_t, m_ret, m_drop, m_nx, m_asg, m_nox, nx_ok, set_d, set_o, setD_, wr_un, wr_d, wr_o, wr_rd, m_aug, m_asgD, evD_d, evD_o, m_frzn, m_frzc, m_frz1, fz_d, fz_un, fz_io, fz_lk, fz_rd, fz_o, m_sub, m_augS, m_app, ap_o, ap_io, m_ct, ct_o, ct_io, m_isl, is_o, is_io, m_mut, m_mutB, m_mut0, intD_i, m_sl, m_pn, m_ps, rs_d, rs_l, rsR_rd, rsR_o, rsR_io, sl_l, sl_t, arg_n, arg_c, arg_d, arg_l, ar_o, ar_io, ar_lk, ar_rd, put_n, put_d, put_io, m_put, pt_o, pt_io, i_seq, src_l, src_t, src_o, src_n, sr_o, sr_io, sr_lk, i_rng, i_enum, i_zip, i_rev, unl_n, unl_c, unl_1, ul_lk, ob_t, ob_f, wp_n, wp_c, rt_n, rt_c, fl_un, fl_d, m_unpT, tupD_t, unp_n, unp_c, range_1, range_2, ext_l, ext_t, app_1, m_pc, m_par, rl_n, rl_d, rl_o, rl_l, rlR_o, sr_n, sto_d, sto_o, List.getElem?_cons_zero, List.getElem?_cons_succ, List.set_cons_zero, List.set_cons_succ, Option.map_some, Option.bind_some, if_true, and_self]
    exact hc
  unfold r7
  refine seq_then (s1 := [a0, a1, a2, .d (tupI y), .d (.int p), .d (.tuple (ts.map intN)), .own (.l ((csA y.length p ts).map comD)), .own (.l ((plA y.length p ts).map tupI)), x8, x9, .own (.l []), .un, .un, .un]) ?_ ?_
  · simp only [m_vb, bnd_ok, bnd_er, m_vr, m_stuck, m_seq, bS_nx, bS_bk, bS_ct, bS_rt, bS_er, m_if, m_ite, bI_t, bI_f, bI_er, m_and, m_or, m_not, m_bool, evB_b, m_opt, m_optn, m_tru, tru_b, tru_i, tru_n, tru_l, tru_t, m_var, var_d, var_own, var_io, var_lk, var_rd, m_c, st_d, st_o, st_l, oc_l, oc_m, rd_d, rd_o, rd_l, rdR_own, rdR_io, rdR_lk, m_bin, m_un, m_call, m_rdn, m_rdc, m_cons, m_conss, m_tup, m_lst, dts_n, dts_c, o_map, o_bind, add_i, sub_i, mul_i, mod_i, fdiv_i, pow_i, neg_i, iadd_i, abs_i, int_i, int_b, len_l, len_t, add_l, add_t, lt_i, le_i, gt_i, ge_i, eq_i, ne_i, eqF_i, neF_i, tuple_l, tuple_t, list_l, list_t, ix_l, ix_t, m_ret, m_drop, m_nx, m_asg, m_nox, nx_ok, set_d, set_o, setD_, wr_un, wr_d, wr_o, wr_rd, m_aug, m_asgD, evD_d, evD_o, m_frzn, m_frzc, m_frz1, fz_d, fz_un, fz_io, fz_lk, fz_rd, fz_o, m_sub, m_augS, m_app, ap_o, ap_io, m_ct, ct_o, ct_io, m_isl, is_o, is_io, m_mut, m_mutB, m_mut0, intD_i, m_sl, m_pn, m_ps, rs_d, rs_l, rsR_rd, rsR_o, rsR_io, sl_l, sl_t, arg_n, arg_c, arg_d, arg_l, ar_o, ar_io, ar_lk, ar_rd, put_n, put_d, put_io, m_put, pt_o, pt_io, i_seq, src_l, src_t, src_o, src_n, sr_o, sr_io, sr_lk, i_rng, i_enum, i_zip, i_rev, unl_n, unl_c, unl_1, ul_lk, ob_t, ob_f, wp_n, wp_c, rt_n, rt_c, fl_un, fl_d, m_unpT, tupD_t, unp_n, unp_c, range_1, range_2, ext_l, ext_t, app_1, m_pc, m_par, rl_n, rl_d, rl_o, rl_l, rlR_o, sr_n, sto_d, sto_o, List.getElem?_cons_zero, List.getElem?_cons_succ, List.set_cons_zero, List.set_cons_succ, Option.map_some, Option.bind_some, if_true, and_self, List.length_nil, Nat.zero_le]
  unfold r6
  refine seq_then (s1 := [a0, a1, a2, .d (tupI y), .d (.int p), .d (.tuple (ts.map intN)), .own (.l ((csA y.length p ts).map comD)), .own (.l ((plA y.length p ts).map tupI)), x8, x9, .own (.l ((slP y ts p).map slotD)), x11, x12, .un]) ?_ ?_
  · simp only [m_vb, bnd_ok, bnd_er, m_vr, m_stuck, m_seq, bS_nx, bS_bk, bS_ct, bS_rt, bS_er, m_if, m_ite, bI_t, bI_f, bI_er, m_and, m_or, m_not, m_bool, evB_b, m_opt, m_optn, m_tru, tru_b, tru_i, tru_n, tru_l, tru_t, m_var, var_d, var_own, var_io, var_lk, var_rd, m_c, st_d, st_o, st_l, oc_l, oc_m, rd_d, rd_o, rd_l, rdR_own, rdR_io, rdR_lk, m_bin, m_un, m_call, m_rdn, m_rdc, m_cons, m_conss, m_tup, m_lst, dts_n, dts_c, o_map, o_bind, add_i, sub_i, mul_i, mod_i, fdiv_i, pow_i, neg_i, iadd_i, abs_i, int_i, int_b, len_l, len_t, add_l, add_t, lt_i, le_i, gt_i, ge_i, eq_i, ne_i, eqF_i, neF_i, tuple_l, tuple_t, list_l, list_t, ix_l, ix_t, m_ret, m_drop, m_nx, m_asg, m_nox, nx_ok, set_d, set_o, setD_, wr_un, wr_d, wr_o, wr_rd, m_aug, m_asgD, evD_d, evD_o, m_frzn, m_frzc, m_frz1, fz_d, fz_un, fz_io, fz_lk, fz_rd, fz_o, m_sub, m_augS, m_app, ap_o, ap_io, m_ct, ct_o, ct_io, m_isl, is_o, is_io, m_mut, m_mutB, m_mut0, intD_i, m_sl, m_pn, m_ps, rs_d, rs_l, rsR_rd, rsR_o, rsR_io, sl_l, sl_t, arg_n, arg_c, arg_d, arg_l, ar_o, ar_io, ar_lk, ar_rd, put_n, put_d, put_io, m_put, pt_o, pt_io, i_seq, src_l, src_t, src_o, src_n, sr_o, sr_io, sr_lk, i_rng, i_enum, i_zip, i_rev, unl_n, unl_c, unl_1, ul_lk, ob_t, ob_f, wp_n, wp_c, rt_n, rt_c, fl_un, fl_d, m_unpT, tupD_t, unp_n, unp_c, range_1, range_2, ext_l, ext_t, app_1, m_pc, m_par, rl_n, rl_d, rl_o, rl_l, rlR_o, sr_n, sto_d, sto_o, List.getElem?_cons_zero, List.getElem?_cons_succ, List.set_cons_zero, List.set_cons_succ, Option.map_some, Option.bind_some, if_true, and_self]
    exact hd
  unfold r3
  exact seq_then (asg13 sa) (test_ok h8 al su)
theorem draws_ok {a0 x2 : SV} {bag : List Da} {n : Nat} (hb : BagOk (n + 10) bag) :
    ∃ (y : List Int) (p : Nat) (bag' : List Da), (vPar [3, 4] (vPc ((vCallF F__law_yard ((vCons (vVar 1) ((vCons (vC (.int 3)) (vr []))))))) ((vPc ((vCallF F__law_take ((vCons (vVar 1) ((vCons (vC (.int 4)) (vr []))))))) (vr []))))) [a0, .own (.l bag), x2, .un, .un, .un, .un, .un, .un, .un, .un, .un, .un, .un]
      = .ok (.nx, [a0, .own (.l bag'), x2, .d (tupI y), .d (.int p), .un, .un, .un, .un, .un, .un, .un, .un, .un]) ∧ y.length ≤ 3 ∧ (∀ x ∈ y, x = 0 ∨ x = 1) ∧ p ≤ 3 ∧ BagOk (n + 4) bag' := by
  obtain ⟨y, bag1, e1, y1, y3, yb, hb1⟩ := yard_at (n := n + 5) (m := 3) (k := 1) (s := [a0, .own (.l bag), x2, .un, .un, .un, .un, .un, .un, .un, .un, .un, .un, .un]) (b := false) rfl (hb.mono (by omega)) (by decide) (by decide)
  obtain ⟨v, bag2, e2, v0, v1, hb2⟩ := take_at (n := n + 4) (k := 1) (s := [a0, .own (.l bag1), x2, .un, .un, .un, .un, .un, .un, .un, .un, .un, .un, .un]) (b := false) (m := 4) rfl hb1 (by decide) (by decide)
  obtain ⟨p, rfl⟩ := Int.eq_ofNat_of_zero_le v0
  refine ⟨y, p, bag2, ?_, y3, yb, by omega, hb2⟩
  have e1' : callF F__law_yard [.loan 1, .d (.int 3)] [a0, .own (.l bag), x2, .un, .un, .un, .un, .un, .un, .un, .un, .un, .un, .un] = .ok (.d (tupI y), [a0, .own (.l bag1), x2, .un, .un, .un, .un, .un, .un, .un, .un, .un, .un, .un]) := e1
  have e2' : callF F__law_take [.loan 1, .d (.int 4)] [a0, .own (.l bag1), x2, .un, .un, .un, .un, .un, .un, .un, .un, .un, .un, .un] = .ok (.d (.int p), [a0, .own (.l bag2), x2, .un, .un, .un, .un, .un, .un, .un, .un, .un, .un, .un]) := e2
  simp only [m_vb, bnd_ok, bnd_er, m_vr, m_stuck, m_seq, bS_nx, bS_bk, bS_ct, bS_rt, bS_er, m_if, m_ite, bI_t, bI_f, bI_er, m_and, m_or, m_not, m_bool, evB_b, m_opt, m_optn, m_tru, tru_b, tru_i, tru_n, tru_l, tru_t, m_var, var_d, var_own, var_io, var_lk, var_rd, m_c, st_d, st_o, st_l, oc_l, oc_m, rd_d, rd_o, rd_l, rdR_own, rdR_io, rdR_lk, m_bin, m_un, m_call, m_rdn, m_rdc, m_cons, m_conss, m_tup, m_lst, dts_n, dts_c, o_map, o_bind, add_i, sub_i, mul_i, mod_i, fdiv_i, pow_i, neg_i, iadd_i, abs_i, int_i, int_b, len_l, len_t, add_l, add_t, lt_i, le_i, gt_i, ge_i, eq_i, ne_i, eqF_i, neF_i, tuple_l, tuple_t, list_l, list_t, ix_l, ix_t, m_ret, m_drop, m_nx, m_asg, m_nox, nx_ok, set_d, set_o, setD_, wr_un, wr_d, wr_o, wr_rd, m_aug, m_asgD, evD_d, evD_o, m_frzn, m_frzc, m_frz1, fz_d, fz_un, fz_io, fz_lk, fz_rd, fz_o, m_sub, m_augS, m_app, ap_o, ap_io, m_ct, ct_o, ct_io, m_isl, is_o, is_io, m_mut, m_mutB, m_mut0, intD_i, m_sl, m_pn, m_ps, rs_d, rs_l, rsR_rd, rsR_o, rsR_io, sl_l, sl_t, arg_n, arg_c, arg_d, arg_l, ar_o, ar_io, ar_lk, ar_rd, put_n, put_d, put_io, m_put, pt_o, pt_io, i_seq, src_l, src_t, src_o, src_n, sr_o, sr_io, sr_lk, i_rng, i_enum, i_zip, i_rev, unl_n, unl_c, unl_1, ul_lk, ob_t, ob_f, wp_n, wp_c, rt_n, rt_c, fl_un, fl_d, m_unpT, tupD_t, unp_n, unp_c, range_1, range_2, ext_l, ext_t, app_1, m_pc, m_par, rl_n, rl_d, rl_o, rl_l, rlR_o, sr_n, sto_d, sto_o, List.getElem?_cons_zero, List.getElem?_cons_succ, List.set_cons_zero, List.set_cons_succ, Option.map_some, Option.bind_some, if_true, and_self, m_callF, e1', e2']
theorem asg_tuple {f : VM EV} {S S' : VS} {xs : List Da} {k : Nat} (h : f S = .ok (.own (.l xs), S')) (hw : wrOk S'[k]? = true) : vAsg (vCall tupleD (vCons f (vr []))) (vSet k) S = .ok (.nx, S'.set k (.d (.tuple xs))) := by
  rw [m_asg, m_call, m_cons, h]
  simp only [bnd_ok, m_vb, m_vr, st_o, m_rdc, rd_d, m_rdn, oc_l, tuple_l, m_opt, set_d, m_nox, hw, if_true, nx_ok, m_nx]
theorem turn_ok {ns : List Int} {n : Nat} {s : VS} (h : Fr ns (n + 10) s) : ∃ s', r14 s = .ok (.nx, s') ∧ Fr ns n s' := by
  obtain ⟨bag, x2, x3, x4, x5, x6, x7, x8, x9, x10, x11, x12, x13, rfl, hb, hw, h3, h4, h5, h6, h7, h8, h9, h10, h11, h12, h13⟩ := h
  obtain ⟨y, p, bag1, hd, y3, yb, p3, hb1⟩ := draws_ok (a0 := .rd (ns.map PyData.int)) (x2 := x2) hb
  obtain ⟨ts, bag2, ht, hsub, hb2⟩ := turns_lc (n := n) (p := p) (a0 := .rd (ns.map PyData.int)) (x2 := x2) (y := .d (tupI y)) (hb1.mono (by omega)) (by omega)
  have htl := hsub.length_le
  rw [List.length_range] at htl
  have I : Inp y p ts := ⟨y3, yb, p3, fun one ho => by have := List.mem_range.mp (hsub.subset ho); omega, hsub.nodup List.nodup_range, by omega⟩
  obtain ⟨z8, z9, z11, z12, hr, g8, g9, g11, g12⟩ := r12_ok (a0 := .rd (ns.map PyData.int)) (a1 := .own (.l bag2)) (a2 := x2) I
  refine ⟨_, ?_, bag2, x2, .d (tupI y), .d (.int p), .d (.tuple (ts.map intN)), .own (.l ((csA y.length p ts).map comD)), .own (.l ((plA y.length p ts).map tupI)), z8, z9, .own (.l ((slP y ts p).map slotD)), z11, z12, .d (.tuple ((slP y ts p).map slotD)), rfl, hb2, hw, rfl, rfl, rfl, rfl, rfl, un1_fok g8, un1_fok g9, rfl, un1_fok g11, un1_fok g12, rfl⟩
  unfold r14 vFgt
  rw [fgt_all h3 h4 h5 h6 h7 h8 h9 h10 h11 h12 h13]
  refine seq_then hd ?_
  unfold r13
  refine seq_then (s1 := [.rd (ns.map PyData.int), .own (.l bag2), x2, .d (tupI y), .d (.int p), .d (.tuple (ts.map intN)), .un, .un, .un, .un, .un, .un, .un, .un]) ?_ hr
  exact asg_tuple ht rfl
theorem set2 {s : VS} {ns : List Int} {n : Nat} {x : Da} (h : Fr ns n s) : ∃ s', vSetD 2 x s = .ok ((), s') ∧ Fr ns n s' := by
  obtain ⟨bag, x2, x3, x4, x5, x6, x7, x8, x9, x10, x11, x12, x13, rfl, hb, hw, h⟩ := h
  exact ⟨_, by simp only [m_vb, bnd_ok, bnd_er, m_vr, m_stuck, m_seq, bS_nx, bS_bk, bS_ct, bS_rt, bS_er, m_if, m_ite, bI_t, bI_f, bI_er, m_and, m_or, m_not, m_bool, evB_b, m_opt, m_optn, m_tru, tru_b, tru_i, tru_n, tru_l, tru_t, m_var, var_d, var_own, var_io, var_lk, var_rd, m_c, st_d, st_o, st_l, oc_l, oc_m, rd_d, rd_o, rd_l, rdR_own, rdR_io, rdR_lk, m_bin, m_un, m_call, m_rdn, m_rdc, m_cons, m_conss, m_tup, m_lst, dts_n, dts_c, o_map, o_bind, add_i, sub_i, mul_i, mod_i, fdiv_i, pow_i, neg_i, iadd_i, abs_i, int_i, int_b, len_l, len_t, add_l, add_t, lt_i, le_i, gt_i, ge_i, eq_i, ne_i, eqF_i, neF_i, tuple_l, tuple_t, list_l, list_t, ix_l, ix_t, m_ret, m_drop, m_nx, m_asg, m_nox, nx_ok, set_d, set_o, setD_, wr_un, wr_d, wr_o, wr_rd, m_aug, m_asgD, evD_d, evD_o, m_frzn, m_frzc, m_frz1, fz_d, fz_un, fz_io, fz_lk, fz_rd, fz_o, m_sub, m_augS, m_app, ap_o, ap_io, m_ct, ct_o, ct_io, m_isl, is_o, is_io, m_mut, m_mutB, m_mut0, intD_i, m_sl, m_pn, m_ps, rs_d, rs_l, rsR_rd, rsR_o, rsR_io, sl_l, sl_t, arg_n, arg_c, arg_d, arg_l, ar_o, ar_io, ar_lk, ar_rd, put_n, put_d, put_io, m_put, pt_o, pt_io, i_seq, src_l, src_t, src_o, src_n, sr_o, sr_io, sr_lk, i_rng, i_enum, i_zip, i_rev, unl_n, unl_c, unl_1, ul_lk, ob_t, ob_f, wp_n, wp_c, rt_n, rt_c, fl_un, fl_d, m_unpT, tupD_t, unp_n, unp_c, range_1, range_2, ext_l, ext_t, app_1, m_pc, m_par, rl_n, rl_d, rl_o, rl_l, rlR_o, sr_n, sto_d, sto_o, List.getElem?_cons_zero, List.getElem?_cons_succ, List.set_cons_zero, List.set_cons_succ, Option.map_some, Option.bind_some, if_true, and_self, hw], bag, .d x, x3, x4, x5, x6, x7, x8, x9, x10, x11, x12, x13, rfl, hb, rfl, h⟩
theorem plain (ns : List Int) (hn : ns.length ≤ 63) : ∃ st', F_law [.rd (ns.map PyData.int)] = .ok (.d (.bool true), st') := by
  obtain ⟨cs, hbag, hc, hl⟩ := bag_ok ns
  have ca : callF F__law_bag [.loan 0] [.rd (ns.map PyData.int), .un, .un, .un, .un, .un, .un, .un, .un, .un, .un, .un, .un, .un] = .ok (.own (.l (bagL 0 1234567891 0 cs)), [.rd (ns.map PyData.int), .un, .un, .un, .un, .un, .un, .un, .un, .un, .un, .un, .un, .un]) := by
    rw [callF_ok (by simp [loans]) (by rfl) hbag (fun i => by intro z; cases z)]
    rfl
  obtain ⟨s', hs, hF⟩ := for_inv (L := []) (fi := (vItRng ((vCons (vC (.int 6)) (vr []))))) (gt := vSetD 2) (g := r14) (xs := rngD 0 6 1)
    (s := [.rd (ns.map PyData.int), .own (.l (bagL 0 1234567891 0 cs)), .un, .un, .un, .un, .un, .un, .un, .un, .un, .un, .un, .un])
    (s1 := [.rd (ns.map PyData.int), .own (.l (bagL 0 1234567891 0 cs)), .un, .un, .un, .un, .un, .un, .un, .un, .un, .un, .un, .un])
    (fun xs s => Fr ns (10 * xs.length) s)
    (fun x xs s hR => by
      rw [List.length_cons, Nat.mul_add] at hR
      obtain ⟨s1, h1, hF⟩ := set2 (x := x) hR
      obtain ⟨s2, h2, hF2⟩ := turn_ok hF
      exact ⟨s1, .nx, s2, h1, h2, .inl rfl, hF2⟩)
    (by rfl) ⟨_, _, _, _, _, _, _, _, _, _, _, _, _, rfl, ⟨0, 1234567891, 0, cs, rfl, by decide, by decide, by decide, by decide, by rw [rngD_len]; decide, hc, by omega⟩, rfl, rfl, rfl, rfl, rfl, rfl, rfl, rfl, rfl, rfl, rfl, rfl⟩
  obtain ⟨bag, x2, x3, x4, x5, x6, x7, x8, x9, x10, x11, x12, x13, rfl, _⟩ := hF
  refine ⟨[.rd (ns.map PyData.int)], run_ok (c := .rt (.d (.bool true))) (s := [.rd (ns.map PyData.int), .own (.l bag), x2, x3, x4, x5, x6, x7, x8, x9, x10, x11, x12, x13]) ?_ rfl⟩
  show g_law [.rd (ns.map PyData.int), .un, .un, .un, .un, .un, .un, .un, .un, .un, .un, .un, .un, .un] = _
  unfold g_law
  refine seq_then (s1 := [.rd (ns.map PyData.int), .own (.l (bagL 0 1234567891 0 cs)), .un, .un, .un, .un, .un, .un, .un, .un, .un, .un, .un, .un]) ?_ ?_
  · simp only [m_vb, bnd_ok, bnd_er, m_vr, m_stuck, m_seq, bS_nx, bS_bk, bS_ct, bS_rt, bS_er, m_if, m_ite, bI_t, bI_f, bI_er, m_and, m_or, m_not, m_bool, evB_b, m_opt, m_optn, m_tru, tru_b, tru_i, tru_n, tru_l, tru_t, m_var, var_d, var_own, var_io, var_lk, var_rd, m_c, st_d, st_o, st_l, oc_l, oc_m, rd_d, rd_o, rd_l, rdR_own, rdR_io, rdR_lk, m_bin, m_un, m_call, m_rdn, m_rdc, m_cons, m_conss, m_tup, m_lst, dts_n, dts_c, o_map, o_bind, add_i, sub_i, mul_i, mod_i, fdiv_i, pow_i, neg_i, iadd_i, abs_i, int_i, int_b, len_l, len_t, add_l, add_t, lt_i, le_i, gt_i, ge_i, eq_i, ne_i, eqF_i, neF_i, tuple_l, tuple_t, list_l, list_t, ix_l, ix_t, m_ret, m_drop, m_nx, m_asg, m_nox, nx_ok, set_d, set_o, setD_, wr_un, wr_d, wr_o, wr_rd, m_aug, m_asgD, evD_d, evD_o, m_frzn, m_frzc, m_frz1, fz_d, fz_un, fz_io, fz_lk, fz_rd, fz_o, m_sub, m_augS, m_app, ap_o, ap_io, m_ct, ct_o, ct_io, m_isl, is_o, is_io, m_mut, m_mutB, m_mut0, intD_i, m_sl, m_pn, m_ps, rs_d, rs_l, rsR_rd, rsR_o, rsR_io, sl_l, sl_t, arg_n, arg_c, arg_d, arg_l, ar_o, ar_io, ar_lk, ar_rd, put_n, put_d, put_io, m_put, pt_o, pt_io, i_seq, src_l, src_t, src_o, src_n, sr_o, sr_io, sr_lk, i_rng, i_enum, i_zip, i_rev, unl_n, unl_c, unl_1, ul_lk, ob_t, ob_f, wp_n, wp_c, rt_n, rt_c, fl_un, fl_d, m_unpT, tupD_t, unp_n, unp_c, range_1, range_2, ext_l, ext_t, app_1, m_pc, m_par, rl_n, rl_d, rl_o, rl_l, rlR_o, sr_n, sto_d, sto_o, List.getElem?_cons_zero, List.getElem?_cons_succ, List.set_cons_zero, List.set_cons_succ, Option.map_some, Option.bind_some, if_true, and_self, m_callF, ca]
  · unfold r15 law_s6
    exact seq_then hs rfl
end Yk39
open PySem PySem.W PySem.Calls PyProof.Rows
theorem PySem.Challenge.cw_yardpasses_k39_slots_of_late_wagons_holds : PySem.Challenge.rw_yardpasses_k39_slots_of_late_wagons.Holds := by
  w_on; o_law
  refine HandSHeadRun.head_any (r := OpenLaw.row PySem.Challenge.rw_yardpasses_k39_slots_of_late_wagons) (q := view (OpenLaw.row PySem.Challenge.rw_yardpasses_k39_slots_of_late_wagons).prog [19]) (H := Yk39.hk) (ob := Yk39.ob) (M := 4000) (loose := ["_wall", "YardError", "TooMany", "STUB", "MOST_SLOTS", "by_track", "slots_many", "slots", "_law_bag", "_law_take", "_law_alike", "_law_rolled", "_law_pass", "_law_codes", "_law_yard", "_law_late_order"]) (d := HandSHeadRun.topDef (OpenLaw.row PySem.Challenge.rw_yardpasses_k39_slots_of_late_wagons).prog 19) (kwd := []) Yk39.ob_eq
    (by kernel_rfl) (fun s => by kernel_rfl) Yk39.run (by kernel_rfl) (by kernel_rfl) (by kernel_rfl) (by rfl) (by first | assumption | decide +kernel) (by decide +kernel) ⟨rfl, rfl, rfl, rfl, rfl, by decide +kernel⟩ ?hw ?hc
  case hw => w_witness2
  case hc =>
    refine VL.walk_v (l := PySem.Challenge.rw_yardpasses_k39_slots_of_late_wagons) (n := 63) (k := 4) (x := "script") (m := Yk39.F_law) rfl (by decide) (by kernel_rfl) ⟨rfl, by decide, by decide⟩ ?F Yk39.plain
    intro w mg fa h Y G hmg0
    obtain ⟨K, KX, c⟩ := Y
    have hmg : mg ("law" : PySem.Str) = some (.ref fa) := by
      have e : (HandSHeadRun.topDef (OpenLaw.row PySem.Challenge.rw_yardpasses_k39_slots_of_late_wagons).prog 19).name = ("law" : PySem.Str) := by kernel_rfl
      rw [← e]
      exact hmg0
    obtain ⟨fd, hb, hF⟩ := Yk39.facts (P := (PySem.Challenge.rw_yardpasses_k39_slots_of_late_wagons).prog) (w := w) KX G hmg c
    exact ⟨K, fd, KX, hb, hF⟩
