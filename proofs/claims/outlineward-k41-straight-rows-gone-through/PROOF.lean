import PyProof.Rows.All
import Wide.All
import OpenK.AllK
import Wide.FinOn
import HandS.ForMost
import HandS.TupAny
import HandS.WideBits
import HandS.TryOnly
import HandS.Walk
import HandS.IsInst
import HandS.SortRule
import HandS.SortInts
import HandS.More
import HandS.Conv
import HandS.ListItems
import HandS.EndBits
import HandS.DictComp
import HandS.TupLe
import HandS.Set
import HandS.SetFor
import HandS.Strs
import HandS.Deep
import HandS.Style
import HandS.TupSets
import HandS.Finally
import KE.KEqNest
import PySem.Challenge.RW_outlineward_k41_straight_rows_gone_throu
set_option Elab.async false
set_option linter.all false
set_option maxRecDepth 100000
set_option maxHeartbeats 1000000
namespace DL
open PySem PySem.Spec PyProof.Rows L2

/-! ### data, and the values that stand for it -/
def kD : Key → PyData
  | .inl i => .int i
  | .inr x => .str x
mutual
inductive Rep (K : PySem.W.Frag) (G : Hp) : V → PyData → Prop
  | non : Rep K G .non .none
  | bl (b : Bool) : Rep K G (.bl b) (.bool b)
  | int (i : Int) : Rep K G (.int i) (.int i)
  | str (x : Str) : Rep K G (.str x) (.str x)
  | lst {a : Addr} {xs : List V} {ds : List PyData} : SqL K G a xs → Reps K G xs ds → Rep K G (.ref a) (.list ds)
  | tup {a : Addr} {xs : List V} {ds : List PyData} : SqT K G a xs → Reps K G xs ds → Rep K G (.ref a) (.tuple ds)
  | dct {a : Addr} {kvs : List (Key × V)} {es : List (PyData × PyData)} : G a = some (.dK kvs) → RepD K G kvs es → Rep K G (.ref a) (.dict es)
inductive Reps (K : PySem.W.Frag) (G : Hp) : List V → List PyData → Prop
  | nil : Reps K G [] []
  | cons {v : V} {vs : List V} {d : PyData} {ds : List PyData} : Rep K G v d → Reps K G vs ds → Reps K G (v :: vs) (d :: ds)
inductive RepD (K : PySem.W.Frag) (G : Hp) : List (Key × V) → List (PyData × PyData) → Prop
  | nil : RepD K G [] []
  | cons {k : Key} {v : V} {vs : List (Key × V)} {d : PyData} {ds : List (PyData × PyData)} : Rep K G v d → RepD K G vs ds → RepD K G ((k, v) :: vs) ((kD k, d) :: ds)
end
theorem Same.seqT {K : PySem.W.Frag} {H H' : Hp} {a : Addr} {xs : List V} (e : Same H H') (h : SqT K H a xs) : SqT K H' a xs := by
  rcases h with (h | ⟨o, h⟩) | h
  · exact .inl (.inl (e _ _ h))
  · exact .inl (.inr ⟨o, e _ _ h⟩)
  · exact .inr h
section
variable {K : PySem.W.Frag} {G G' : Hp}
mutual
theorem Rep.mono (s : Same G G') : ∀ {v : V} {d : PyData}, Rep K G v d → Rep K G' v d
  | _, _, .non => .non
  | _, _, .bl b => .bl b
  | _, _, .int i => .int i
  | _, _, .str x => .str x
  | _, _, .lst h r => .lst (s.seq h) (Reps.mono s r)
  | _, _, .tup h r => .tup (Same.seqT s h) (Reps.mono s r)
  | _, _, .dct h r => .dct (s _ _ h) (RepD.mono s r)
theorem Reps.mono (s : Same G G') : ∀ {v : List V} {d : List PyData}, Reps K G v d → Reps K G' v d
  | _, _, .nil => .nil
  | _, _, .cons h r => .cons (Rep.mono s h) (Reps.mono s r)
theorem RepD.mono (s : Same G G') : ∀ {v : List (Key × V)} {d : List (PyData × PyData)}, RepD K G v d → RepD K G' v d
  | _, _, .nil => .nil
  | _, _, .cons h r => .cons (Rep.mono s h) (RepD.mono s r)
end
theorem Reps.length : ∀ {vs : List V} {ds : List PyData}, Reps K G vs ds → vs.length = ds.length
  | _, _, .nil => rfl
  | _, _, .cons _ r => congrArg (· + 1) r.length
theorem Reps.get : ∀ {vs : List V} {ds : List PyData} {i : Nat} {d : PyData}, Reps K G vs ds → ds[i]? = some d → ∃ v, vs[i]? = some v ∧ Rep K G v d
  | _, _, _, _, .nil, e => by simp at e
  | _, _, 0, _, .cons r _, e => by simp at e; subst e; exact ⟨_, rfl, r⟩
  | _, _, i + 1, d, .cons _ t, e => by
    obtain ⟨v, h1, h2⟩ := Reps.get (i := i) (d := d) t (by simpa using e)
    exact ⟨v, by simpa using h1, h2⟩
theorem Reps.getV : ∀ {vs : List V} {ds : List PyData} {i : Nat} {v : V}, Reps K G vs ds → vs[i]? = some v → ∃ d, ds[i]? = some d ∧ Rep K G v d
  | _, _, _, _, .nil, e => by simp at e
  | _, _, 0, _, .cons r _, e => by simp at e; subst e; exact ⟨_, rfl, r⟩
  | _, _, i + 1, v, .cons _ t, e => by
    obtain ⟨d, h1, h2⟩ := Reps.getV (i := i) (v := v) t (by simpa using e)
    exact ⟨d, by simpa using h1, h2⟩
theorem Reps.append : ∀ {xs ys : List V} {us ws : List PyData}, Reps K G xs us → Reps K G ys ws → Reps K G (xs ++ ys) (us ++ ws)
  | _, _, _, _, .nil, s => s
  | _, _, _, _, .cons r t, s => .cons r (Reps.append t s)
theorem Reps.take : ∀ {xs : List V} {us : List PyData} (n : Nat), Reps K G xs us → Reps K G (xs.take n) (us.take n)
  | _, _, 0, _ => .nil
  | _, _, _ + 1, .nil => .nil
  | _, _, n + 1, .cons r t => .cons r (Reps.take n t)
theorem Reps.drop : ∀ {xs : List V} {us : List PyData} (n : Nat), Reps K G xs us → Reps K G (xs.drop n) (us.drop n)
  | _, _, 0, r => r
  | _, _, _ + 1, .nil => .nil
  | _, _, n + 1, .cons _ t => Reps.drop n t
theorem Reps.reverse : ∀ {xs : List V} {us : List PyData}, Reps K G xs us → Reps K G xs.reverse us.reverse
  | _, _, .nil => .nil
  | _, _, .cons r t => by
    rw [List.reverse_cons, List.reverse_cons]
    exact t.reverse.append (.cons r .nil)
theorem Reps.ints : ∀ {vs : List V} {ns : List Int}, Reps K G vs (ns.map PyData.int) → vs = ns.map V.int
  | _, [], h => by cases h; rfl
  | _, n :: r, h => by
    cases h with
    | cons a b =>
      cases a
      rw [Reps.ints b]
      rfl
theorem Reps.ofInts : ∀ (ns : List Int), Reps K G (ns.map V.int) (ns.map PyData.int)
  | [] => .nil
  | n :: r => .cons (.int n) (Reps.ofInts r)
theorem Reps.strs : ∀ {vs : List V} {ns : List Str}, Reps K G vs (ns.map PyData.str) → vs = ns.map V.str
  | _, [], h => by cases h; rfl
  | _, n :: r, h => by
    cases h with
    | cons a b =>
      cases a
      rw [Reps.strs b]
      rfl
theorem Reps.ofStrs : ∀ (ns : List Str), Reps K G (ns.map V.str) (ns.map PyData.str)
  | [] => .nil
  | n :: r => .cons (.str n) (Reps.ofStrs r)
theorem Reps.bools : ∀ {vs : List V} {ns : List Bool}, Reps K G vs (ns.map PyData.bool) → vs = ns.map V.bl
  | _, [], h => by cases h; rfl
  | _, n :: r, h => by
    cases h with
    | cons a b =>
      cases a
      rw [Reps.bools b]
      rfl
end

/-! ### cells: what may change -/
inductive SV where
  | val (d : PyData)
  | cell (k : Nat)
inductive CC where
  | lst (xs : List SV)
  | dct (kvs : List (Key × SV))
  | ins (C : Addr) (fs : List (Str × SV))
  | dead
  | frz (od : Obj) (us : List (Key × V)) (kvs : List (Key × SV))
  | tup (xs : List SV)
abbrev Sl := List (Option SV)
abbrev Cs := List CC
def RepV (K : PySem.W.Frag) (G : Hp) (ps : List Addr) (v : V) : SV → Prop
  | .val d => Rep K G v d
  | .cell k => ∃ p, ps[k]? = some p ∧ v = .ref p
abbrev RepVs (K : PySem.W.Frag) (G : Hp) (ps : List Addr) : List V → List SV → Prop := Paired (RepV K G ps)
abbrev RepKs {κ : Type} (K : PySem.W.Frag) (G : Hp) (ps : List Addr) : List (κ × V) → List (κ × SV) → Prop := Paired fun a b => a.1 = b.1 ∧ RepV K G ps a.2 b.2
def RepC (K : PySem.W.Frag) (G : Hp) (ps : List Addr) (H : Hp) (p : Addr) : CC → Prop
  | .lst xs => ∃ vs, H p = some (.lst vs) ∧ RepVs K G ps vs xs
  | .dct kvs => ∃ us, H p = some (.dK us) ∧ RepKs K G ps us kvs
  | .ins C fs => ∃ dx us, H p = some (.ins C dx us) ∧ RepKs K G ps us fs
  | .dead => H p ≠ none
  | .frz od us kvs => H p = some (.frz od (.dK us)) ∧ RepKs K G ps us kvs
  | .tup xs => ∃ vs, H p = some (.tup vs) ∧ RepVs K G ps vs xs
structure Bs where
  G0 : Hp
  H0 : Hp
  As : List Addr
structure Core (K : PySem.W.Frag) (B : Bs) (G : Hp) (ps : List Addr) (cs : Cs) (H : Hp) : Prop where
  g0 : Same B.G0 G
  h0 : ∀ b o, B.H0 b = some o → b ∉ B.As → H b = some o
  gh : Same G H
  nw : ∀ b, G b ≠ none → B.G0 b ≠ none ∨ B.H0 b = none
  len : ps.length = cs.length
  pre : B.As <+: ps
  nd : ps.Nodup
  cell : ∀ (k : Nat) (p : Addr) (c : CC), ps[k]? = some p → cs[k]? = some c → RepC K G ps H p c ∧ (B.H0 p = none ∨ p ∈ B.As) ∧ (c = .dead ∨ G p = none)
def SlotR (K : PySem.W.Frag) (G : Hp) (ps : List Addr) : Option V → Option SV → Prop
  | _, none => True
  | some v, some s => RepV K G ps v s
  | none, some _ => False
def Has (K : PySem.W.Frag) (B : Bs) (sl : Sl) (cs : Cs) (σ : L2.St) (H : Hp) : Prop := ∃ G ps, Core K B G ps cs H ∧ Paired (SlotR K G ps) σ sl
def HasV (K : PySem.W.Frag) (B : Bs) (sl : Sl) (cs : Cs) (σ : L2.St) (H : Hp) (v : V) (s : SV) : Prop := ∃ G ps, Core K B G ps cs H ∧ Paired (SlotR K G ps) σ sl ∧ RepV K G ps v s
def HasA (K : PySem.W.Frag) (B : Bs) (sl : Sl) (cs : Cs) (σ : L2.St) (H : Hp) (vs : List V) (ss : List SV) : Prop := ∃ G ps, Core K B G ps cs H ∧ Paired (SlotR K G ps) σ sl ∧ RepVs K G ps vs ss
def Ret (K : PySem.W.Frag) (B : Bs) (cs : Cs) (H : Hp) (v : V) (s : SV) : Prop := ∃ G ps, Core K B G ps cs H ∧ RepV K G ps v s


theorem pd_get {α β : Type} {F : α → β → Prop} : ∀ {l : List α} {m : List β} {i : Nat} {b : β}, Paired F l m → m[i]? = some b → ∃ a, l[i]? = some a ∧ F a b
  | _, _, _, _, .nil, e => by simp at e
  | _, _, 0, _, .cons r _, e => by simp at e; subst e; exact ⟨_, rfl, r⟩
  | _, _, i + 1, b, .cons _ t, e => by
    obtain ⟨v, h1, h2⟩ := pd_get (i := i) (b := b) t (by simpa using e)
    exact ⟨v, by simpa using h1, h2⟩
theorem pd_getL {α β : Type} {F : α → β → Prop} : ∀ {l : List α} {m : List β} {i : Nat} {a : α}, Paired F l m → l[i]? = some a → ∃ b, m[i]? = some b ∧ F a b
  | _, _, _, _, .nil, e => by simp at e
  | _, _, 0, _, .cons r _, e => by simp at e; subst e; exact ⟨_, rfl, r⟩
  | _, _, i + 1, b, .cons _ t, e => by
    obtain ⟨v, h1, h2⟩ := pd_getL (i := i) (a := b) t (by simpa using e)
    exact ⟨v, by simpa using h1, h2⟩
theorem pd_set {α β : Type} {F : α → β → Prop} {a : α} {b : β} (h : F a b) : ∀ {l : List α} {m : List β} (i : Nat), Paired F l m → Paired F (l.set i a) (m.set i b)
  | _, _, _, .nil => .nil
  | _, _, 0, .cons _ t => .cons h t
  | _, _, i + 1, .cons q t => .cons q (pd_set h i t)
theorem pd_app {α β : Type} {F : α → β → Prop} : ∀ {l l' : List α} {m m' : List β}, Paired F l m → Paired F l' m' → Paired F (l ++ l') (m ++ m')
  | _, _, _, _, .nil, s => s
  | _, _, _, _, .cons r t, s => .cons r (pd_app t s)
theorem pd_take {α β : Type} {F : α → β → Prop} : ∀ {l : List α} {m : List β} (n : Nat), Paired F l m → Paired F (l.take n) (m.take n)
  | _, _, 0, _ => .nil
  | _, _, _ + 1, .nil => .nil
  | _, _, n + 1, .cons r t => .cons r (pd_take n t)
theorem pd_drop {α β : Type} {F : α → β → Prop} : ∀ {l : List α} {m : List β} (n : Nat), Paired F l m → Paired F (l.drop n) (m.drop n)
  | _, _, 0, t => t
  | _, _, _ + 1, .nil => .nil
  | _, _, n + 1, .cons _ t => pd_drop n t
theorem pd_rev {α β : Type} {F : α → β → Prop} : ∀ {l : List α} {m : List β}, Paired F l m → Paired F l.reverse m.reverse
  | _, _, .nil => .nil
  | _, _, .cons r t => by
    rw [List.reverse_cons, List.reverse_cons]
    exact pd_app (pd_rev t) (.cons r .nil)

/-! ### how knowledge grows -/
structure Up (G : Hp) (ps : List Addr) (G' : Hp) (ps' : List Addr) : Prop where
  s : Same G G'
  p : ps <+: ps'
theorem Up.refl (G : Hp) (ps : List Addr) : Up G ps G ps := ⟨Same.refl G, List.prefix_refl ps⟩
theorem Up.trans {G G1 G2 : Hp} {ps ps1 ps2 : List Addr} (a : Up G ps G1 ps1) (b : Up G1 ps1 G2 ps2) : Up G ps G2 ps2 := ⟨a.s.trans b.s, a.p.trans b.p⟩
theorem pre_get {α : Type} {l l' : List α} {i : Nat} {a : α} (h : l <+: l') (e : l[i]? = some a) : l'[i]? = some a := by
  obtain ⟨t, rfl⟩ := h
  rw [List.getElem?_append_left (List.getElem?_eq_some_iff.mp e).1]
  exact e
section
variable {K : PySem.W.Frag} {G G' : Hp} {ps ps' : List Addr} {H : Hp} {B : Bs} {cs : Cs}
theorem RepV.mono (u : Up G ps G' ps') {v : V} : ∀ {s : SV}, RepV K G ps v s → RepV K G' ps' v s
  | .val _, h => Rep.mono u.s h
  | .cell _, ⟨p, e, hv⟩ => ⟨p, pre_get u.p e, hv⟩
theorem RepVs.mono (u : Up G ps G' ps') {vs : List V} {ss : List SV} (h : RepVs K G ps vs ss) : RepVs K G' ps' vs ss := Paired.mono (fun _ _ q => RepV.mono u q) h
theorem RepKs.mono {κ : Type} (u : Up G ps G' ps') {vs : List (κ × V)} {ss : List (κ × SV)} (h : RepKs K G ps vs ss) : RepKs K G' ps' vs ss := Paired.mono (fun _ _ q => ⟨q.1, RepV.mono u q.2⟩) h
abbrev Slots (K : PySem.W.Frag) (G : Hp) (ps : List Addr) : L2.St → Sl → Prop := Paired (SlotR K G ps)
theorem SlotR.mono (u : Up G ps G' ps') : ∀ {v : Option V} {s : Option SV}, SlotR K G ps v s → SlotR K G' ps' v s
  | _, none, _ => trivial
  | some _, some _, h => RepV.mono u h
  | none, some _, h => h.elim
theorem Slots.mono (u : Up G ps G' ps') {σ : L2.St} {sl : Sl} (h : Slots K G ps σ sl) : Slots K G' ps' σ sl := Paired.mono (fun _ _ q => SlotR.mono u q) h
theorem RepC.mono {H' : Hp} {p : Addr} (u : Up G ps G' ps') (e : H' p = H p) : ∀ {c : CC}, RepC K G ps H p c → RepC K G' ps' H' p c
  | .lst _, ⟨vs, h, r⟩ => ⟨vs, e.trans h, RepVs.mono u r⟩
  | .dct _, ⟨vs, h, r⟩ => ⟨vs, e.trans h, RepKs.mono u r⟩
  | .ins _ _, ⟨dx, vs, h, r⟩ => ⟨dx, vs, e.trans h, RepKs.mono u r⟩
  | .dead, h => fun z => h (e.symm.trans z)
  | .frz _ _ _, ⟨h, r⟩ => ⟨e.trans h, RepKs.mono u r⟩
  | .tup _, ⟨vs, h, r⟩ => ⟨vs, e.trans h, RepVs.mono u r⟩
theorem RepC.there {p : Addr} {c : CC} (h : RepC K G ps H p c) : H p ≠ none := by
  cases c with
  | lst _ => obtain ⟨_, e, _⟩ := h; rw [e]; exact Option.some_ne_none _
  | dct _ => obtain ⟨_, e, _⟩ := h; rw [e]; exact Option.some_ne_none _
  | ins _ _ => obtain ⟨_, _, e, _⟩ := h; rw [e]; exact Option.some_ne_none _
  | dead => exact h
  | frz _ _ _ => rw [h.1]; exact Option.some_ne_none _
  | tup _ => obtain ⟨_, e, _⟩ := h; rw [e]; exact Option.some_ne_none _
theorem Same.new {H : Hp} {p : Addr} {o : HO} (h : H p = none) : Same H (upd H p o) := fun b u q => by rw [upd_ne (ne_of_none q h)]; exact q
theorem Same.both {G H : Hp} {p : Addr} {o : HO} (s : Same G H) : Same (upd G p o) (upd H p o) := fun b u q => by
  by_cases e : b = p
  · subst e
    rw [upd_same] at q ⊢
    exact q
  · rw [upd_ne e] at q ⊢
    exact s _ _ q
/-- what stands at the cells' places -/
theorem Core.at (C : Core K B G ps cs H) {k : Nat} {p : Addr} (e : ps[k]? = some p) : ∃ c, cs[k]? = some c := by
  have hk : k < cs.length := by rw [← C.len]; exact (List.getElem?_eq_some_iff.mp e).1
  exact ⟨_, List.getElem?_eq_getElem hk⟩
theorem Core.live (C : Core K B G ps cs H) {p : Addr} (e : p ∈ ps) : H p ≠ none := by
  obtain ⟨k, e⟩ := List.getElem?_of_mem e
  obtain ⟨c, hc⟩ := C.at e
  exact (C.cell k p c e hc).1.there
theorem Core.addr (C : Core K B G ps cs H) {k : Nat} {c : CC} (e : cs[k]? = some c) : ∃ p, ps[k]? = some p := by
  have hk : k < ps.length := by rw [C.len]; exact (List.getElem?_eq_some_iff.mp e).1
  exact ⟨_, List.getElem?_eq_getElem hk⟩
theorem Core.free0 (C : Core K B G ps cs H) {p : Addr} (h : H p = none) : B.H0 p = none := by
  cases q : B.H0 p with
  | none => rfl
  | some o =>
    by_cases m : p ∈ B.As
    · exact (C.live (C.pre.subset m) h).elim
    · rw [C.h0 p o q m] at h
      cases h
theorem Core.freeG (C : Core K B G ps cs H) {p : Addr} (h : H p = none) : G p = none := by
  cases q : G p with
  | none => rfl
  | some o =>
    rw [C.gh p o q] at h
    cases h
theorem nd_at {α : Type} {l : List α} (hN : l.Nodup) {i j : Nat} {x : α} (a : l[i]? = some x) (b : l[j]? = some x) : i = j := by
  obtain ⟨h1, e1⟩ := List.getElem?_eq_some_iff.mp a
  obtain ⟨h2, e2⟩ := List.getElem?_eq_some_iff.mp b
  exact (List.getElem_inj hN).mp (e1.trans e2.symm)
theorem nd_snoc {α : Type} {l : List α} {x : α} (hN : l.Nodup) (h : x ∉ l) : (l ++ [x]).Nodup :=
  List.nodup_append.mpr ⟨hN, List.Pairwise.cons (fun _ h => nomatch h) List.Pairwise.nil, fun a ha b hb z => h (by rw [List.mem_singleton] at hb; rw [← hb, ← z]; exact ha)⟩
/-- a new thing that never changes -/
theorem Core.alloc (C : Core K B G ps cs H) {p : Addr} (o : HO) (h : H p = none) : Core K B (upd G p o) ps cs (upd H p o) where
  g0 := C.g0.trans (Same.new (C.freeG h))
  h0 b u e m := by
    have q := C.h0 b u e m
    rw [upd_ne (ne_of_none q h)]
    exact q
  gh := Same.both C.gh
  nw b e := by
    by_cases z : b = p
    · subst z
      exact .inr (C.free0 h)
    · rw [upd_ne z] at e
      exact C.nw b e
  len := C.len
  pre := C.pre
  nd := C.nd
  cell k q c e hc := by
    have z : q ≠ p := fun z => C.live (List.mem_of_getElem? e) (z ▸ h)
    obtain ⟨h1, hb, h2⟩ := C.cell k q c e hc
    refine ⟨RepC.mono ⟨Same.new (C.freeG h), List.prefix_refl _⟩ (upd_ne z) h1, hb, ?_⟩
    rw [upd_ne z]
    exact h2
/-- a thing that is neither data nor a cell becomes a cell -/
theorem Core.adoptCell (C : Core K B G ps cs H) {p : Addr} {c : CC} (hp : p ∉ ps) (hG : G p = none) (hB : B.H0 p = none) (r : RepC K G (ps ++ [p]) H p c) : Core K B G (ps ++ [p]) (cs ++ [c]) H where
  g0 := C.g0
  h0 := C.h0
  gh := C.gh
  nw := C.nw
  len := by rw [List.length_append, List.length_append, C.len]; rfl
  pre := C.pre.trans (List.prefix_append _ _)
  nd := nd_snoc C.nd hp
  cell k q d e hd := by
    by_cases hk : k < ps.length
    · rw [List.getElem?_append_left hk] at e
      rw [List.getElem?_append_left (by rw [← C.len]; exact hk)] at hd
      obtain ⟨h1, hb, h2⟩ := C.cell k q d e hd
      exact ⟨RepC.mono ⟨Same.refl _, List.prefix_append _ _⟩ rfl h1, hb, h2⟩
    · have hk2 : k = ps.length := by
        have := (List.getElem?_eq_some_iff.mp e).1
        rw [List.length_append, List.length_singleton] at this
        omega
      subst hk2
      rw [List.getElem?_append_right (Nat.le_refl _), Nat.sub_self] at e
      rw [C.len, List.getElem?_append_right (Nat.le_refl _), Nat.sub_self] at hd
      cases e
      cases hd
      exact ⟨r, .inl hB, .inr hG⟩
/-- such a thing may change -/
theorem Core.outside (C : Core K B G ps cs H) {p : Addr} {o : HO} (hp : p ∉ ps) (hG : G p = none) (hB : B.H0 p = none) : Core K B G ps cs (upd H p o) where
  g0 := C.g0
  h0 b u e m := by
    have z : b ≠ p := fun z => by rw [z, hB] at e; cases e
    rw [upd_ne z]
    exact C.h0 b u e m
  gh b u e := by
    have z : b ≠ p := fun z => by rw [z, hG] at e; cases e
    rw [upd_ne z]
    exact C.gh b u e
  nw := C.nw
  len := C.len
  pre := C.pre
  nd := C.nd
  cell k q c e hc := by
    have z : q ≠ p := fun z => hp (z ▸ List.mem_of_getElem? e)
    obtain ⟨h1, h2, h3⟩ := C.cell k q c e hc
    exact ⟨RepC.mono (Up.refl _ _) (upd_ne z) h1, h2, h3⟩
theorem Core.notMem (C : Core K B G ps cs H) {p : Addr} (h : H p = none) : p ∉ ps := fun m => C.live m h
/-- a new cell -/
theorem Core.cellNew (C : Core K B G ps cs H) {p : Addr} {o : HO} {c : CC} (h : H p = none) (r : RepC K G (ps ++ [p]) (upd H p o) p c) : Core K B G (ps ++ [p]) (cs ++ [c]) (upd H p o) :=
  (C.outside (C.notMem h) (C.freeG h) (C.free0 h)).adoptCell (C.notMem h) (C.freeG h) (C.free0 h) r
/-- a cell changes -/
theorem Core.put (C : Core K B G ps cs H) {k : Nat} {p : Addr} {c c' : CC} {o : HO} (e : ps[k]? = some p) (hc : cs[k]? = some c) (hd : c ≠ .dead) (r : RepC K G ps (upd H p o) p c') : Core K B G ps (cs.set k c') (upd H p o) := by
  obtain ⟨_, hB, h2⟩ := C.cell k p c e hc
  have hG : G p = none := h2.elim (fun z => (hd z).elim) id
  have hk : k < cs.length := (List.getElem?_eq_some_iff.mp hc).1
  refine ⟨C.g0, fun b u eb m => ?_, fun b u eb => ?_, C.nw, by rw [List.length_set]; exact C.len, C.pre, C.nd, fun j q d ej hj => ?_⟩
  · have q := C.h0 b u eb m
    have z : b ≠ p := fun z => by
      subst z
      rcases hB with hB | hB
      · rw [hB] at eb; cases eb
      · exact m hB
    rw [upd_ne z]
    exact q
  · have z : b ≠ p := fun z => by
      subst z
      rw [hG] at eb
      cases eb
    rw [upd_ne z]
    exact C.gh b u eb
  · by_cases hjk : j = k
    · subst hjk
      rw [List.getElem?_set_self hk] at hj
      cases hj
      rw [e] at ej
      cases ej
      exact ⟨r, hB, .inr hG⟩
    · rw [List.getElem?_set_ne (Ne.symm hjk)] at hj
      obtain ⟨h1, hb, h2⟩ := C.cell j q d ej hj
      have hq : q ≠ p := fun hq => hjk (nd_at C.nd ej (by rw [hq]; exact e))
      exact ⟨RepC.mono (Up.refl _ _) (upd_ne hq) h1, hb, h2⟩
end
end DL
namespace DL
open PySem PySem.Spec PyProof.Rows L2

/-! ### readings, told by data -/
/-- an expression's reading gives s, the cells are cs' then -/
def DE (K : PySem.W.Frag) (na : Nat) (te : TE) (sl : Sl) (cs : Cs) (s : SV) (cs' : Cs) : Prop := ∀ B G ps σ H, B.As.length = na → Core K B G ps cs H → Slots K G ps σ sl → ∀ Q : VK,
  (∀ v G' ps' H', Core K B G' ps' cs' H' → Up G ps G' ps' → RepV K G' ps' v s → Q v H') → te σ H Q
def DA (K : PySem.W.Frag) (na : Nat) (ta : TA) (sl : Sl) (cs : Cs) (ss : List SV) (cs' : Cs) : Prop := ∀ B G ps σ H, B.As.length = na → Core K B G ps cs H → Slots K G ps σ sl → ∀ Q : List V → Hp → Prop,
  (∀ vs G' ps' H', Core K B G' ps' cs' H' → Up G ps G' ps' → RepVs K G' ps' vs ss → Q vs H') → ta σ H Q
def DT (K : PySem.W.Frag) (na : Nat) (tt : TT) (sl : Sl) (cs : Cs) (b : Bool) (cs' : Cs) : Prop := ∀ B G ps σ H, B.As.length = na → Core K B G ps cs H → Slots K G ps σ sl → ∀ Q : Bool → Hp → Prop,
  (∀ G' ps' H', Core K B G' ps' cs' H' → Up G ps G' ps' → Q b H') → tt σ H Q
structure DEnds where
  nx : Sl → Cs → Prop
  rt : SV → Cs → Prop
  bk : Sl → Cs → Prop := fun _ _ => False
  ct : Sl → Cs → Prop := fun _ _ => False
structure DLe (K : PySem.W.Frag) (B : Bs) (G : Hp) (ps : List Addr) (E : DEnds) (D : Ends) : Prop where
  nx : ∀ sl cs G' ps' σ H, Core K B G' ps' cs H → Up G ps G' ps' → Slots K G' ps' σ sl → E.nx sl cs → D.nx σ H
  rt : ∀ s cs G' ps' v H, Core K B G' ps' cs H → Up G ps G' ps' → RepV K G' ps' v s → E.rt s cs → D.rt v H
  bk : ∀ sl cs G' ps' σ H, Core K B G' ps' cs H → Up G ps G' ps' → Slots K G' ps' σ sl → E.bk sl cs → D.bk σ H
  ct : ∀ sl cs G' ps' σ H, Core K B G' ps' cs H → Up G ps G' ps' → Slots K G' ps' σ sl → E.ct sl cs → D.ct σ H
def DX (K : PySem.W.Frag) (na : Nat) (ts : TS) (sl : Sl) (cs : Cs) (E : DEnds) : Prop := ∀ B G ps σ H, B.As.length = na → Core K B G ps cs H → Slots K G ps σ sl → ∀ D : Ends, DLe K B G ps E D → ts D σ H
theorem DLe.up {K : PySem.W.Frag} {B : Bs} {G G1 : Hp} {ps ps1 : List Addr} {E : DEnds} {D : Ends} (L : DLe K B G ps E D) (u : Up G ps G1 ps1) : DLe K B G1 ps1 E D :=
  ⟨fun sl cs G' ps' σ H c v => L.nx sl cs G' ps' σ H c (u.trans v), fun s cs G' ps' w H c v => L.rt s cs G' ps' w H c (u.trans v), fun sl cs G' ps' σ H c v => L.bk sl cs G' ps' σ H c (u.trans v), fun sl cs G' ps' σ H c v => L.ct sl cs G' ps' σ H c (u.trans v)⟩

/-! ### a part of the text and what it does -/
def anyE (X : Cx) (e : Expr) : TE := fun σ H Q => ∃ te, PE X e te ∧ te σ H Q
def anyA (X : Cx) (es : List Expr) : TA := fun σ H Q => ∃ te, PA X es te ∧ te σ H Q
def anyT (X : Cx) (e : Expr) : TT := fun σ H Q => ∃ te, PT X e te ∧ te σ H Q
def anyW (X : Cx) (e : Expr) : TT := fun σ H Q => ∃ te, PW X e te ∧ te σ H Q
def anyS (X : Cx) (st : Stmt) : TS := fun D σ H => ∃ te, PS X st te ∧ te D σ H
def anySs (X : Cx) (sts : List Stmt) : TS := fun D σ H => ∃ te, PSs X sts te ∧ te D σ H
theorem pe_any {X : Cx} {e : Expr} : PE X e (anyE X e) := ⟨fun pins s σ H Q I ⟨_, p, h⟩ => p.run pins s σ H Q I h⟩
theorem pa_any {X : Cx} {es : List Expr} : PA X es (anyA X es) := ⟨fun pos pins s σ H Q I ⟨_, p, h⟩ => p.run pos pins s σ H Q I h⟩
theorem pt_any {X : Cx} {e : Expr} : PT X e (anyT X e) := ⟨fun pins s σ H Q I ⟨_, p, h⟩ => p.run pins s σ H Q I h⟩
theorem pw_any {X : Cx} {e : Expr} : PW X e (anyW X e) := ⟨fun whole pins s σ H Q I ⟨_, p, h⟩ => p.run whole pins s σ H Q I h⟩
theorem ps_any {X : Cx} {st : Stmt} : PS X st (anyS X st) := ⟨fun pins s σ H D I ⟨_, p, h⟩ => p.run pins s σ H D I h⟩
theorem pss_any {X : Cx} {sts : List Stmt} : PSs X sts (anySs X sts) := ⟨fun pins s σ H D I ⟨_, p, h⟩ => p.run pins s σ H D I h⟩
def EV (X : Cx) (na : Nat) (e : Expr) (sl : Sl) (cs : Cs) (s : SV) (cs' : Cs) : Prop := DE X.K na (anyE X e) sl cs s cs'
def AV (X : Cx) (na : Nat) (es : List Expr) (sl : Sl) (cs : Cs) (ss : List SV) (cs' : Cs) : Prop := DA X.K na (anyA X es) sl cs ss cs'
def TV (X : Cx) (na : Nat) (e : Expr) (sl : Sl) (cs : Cs) (b : Bool) (cs' : Cs) : Prop := DT X.K na (anyT X e) sl cs b cs'
def WV (X : Cx) (na : Nat) (e : Expr) (sl : Sl) (cs : Cs) (b : Bool) (cs' : Cs) : Prop := DT X.K na (anyW X e) sl cs b cs'
def S1 (X : Cx) (na : Nat) (st : Stmt) (sl : Sl) (cs : Cs) (E : DEnds) : Prop := DX X.K na (anyS X st) sl cs E
def SX (X : Cx) (na : Nat) (sts : List Stmt) (sl : Sl) (cs : Cs) (E : DEnds) : Prop := DX X.K na (anySs X sts) sl cs E
section
variable {X : Cx} {na : Nat} {sl : Sl} {cs cs' : Cs} {s : SV}
theorem ev_of {e : Expr} {te : TE} (p : PE X e te) (d : DE X.K na te sl cs s cs') : EV X na e sl cs s cs' := fun B G ps σ H hn C S Q q => ⟨te, p, d B G ps σ H hn C S Q q⟩
theorem av_of {es : List Expr} {te : TA} {ss : List SV} (p : PA X es te) (d : DA X.K na te sl cs ss cs') : AV X na es sl cs ss cs' := fun B G ps σ H hn C S Q q => ⟨te, p, d B G ps σ H hn C S Q q⟩
theorem tv_of {e : Expr} {te : TT} {b : Bool} (p : PT X e te) (d : DT X.K na te sl cs b cs') : TV X na e sl cs b cs' := fun B G ps σ H hn C S Q q => ⟨te, p, d B G ps σ H hn C S Q q⟩
theorem wv_of {e : Expr} {te : TT} {b : Bool} (p : PW X e te) (d : DT X.K na te sl cs b cs') : WV X na e sl cs b cs' := fun B G ps σ H hn C S Q q => ⟨te, p, d B G ps σ H hn C S Q q⟩
theorem s1_of {st : Stmt} {ts : TS} {E : DEnds} (p : PS X st ts) (d : DX X.K na ts sl cs E) : S1 X na st sl cs E := fun B G ps σ H hn C S D L => ⟨ts, p, d B G ps σ H hn C S D L⟩
theorem sx_of {st : List Stmt} {ts : TS} {E : DEnds} (p : PSs X st ts) (d : DX X.K na ts sl cs E) : SX X na st sl cs E := fun B G ps σ H hn C S D L => ⟨ts, p, d B G ps σ H hn C S D L⟩
end

/-! ### names -/
/-- the slots of the names -/
structure Tab (X : Cx) (m : Nat) : Prop where
  nd : X.N.Nodup
  vis : ∀ x ∈ X.N.take m, Vis X.env.scope x ∧ (x == ("__debug__" : Str)) = false ∧ (x == ("__classdict__" : Str)) = false
inductive Lk : List Str → Sl → Str → Nat → SV → Prop
  | here {x : Str} {N : List Str} {s : SV} {sl : Sl} : Lk (x :: N) (some s :: sl) x 0 s
  | there {x y : Str} {N : List Str} {o : Option SV} {s : SV} {sl : Sl} {i : Nat} : Lk N sl x i s → Lk (y :: N) (o :: sl) x (i + 1) s
inductive Put : List Str → Sl → Str → Nat → SV → Sl → Prop
  | here {x : Str} {N : List Str} {s : SV} {o : Option SV} {sl : Sl} : Put (x :: N) (o :: sl) x 0 s (some s :: sl)
  | there {x y : Str} {N : List Str} {o : Option SV} {s : SV} {sl sl' : Sl} {i : Nat} : Put N sl x i s sl' → Put (y :: N) (o :: sl) x (i + 1) s (o :: sl')
theorem Lk.at : ∀ {N : List Str} {sl : Sl} {x : Str} {i : Nat} {s : SV}, Lk N sl x i s → N[i]? = some x ∧ sl[i]? = some (some s)
  | _, _, _, _, _, .here => ⟨rfl, rfl⟩
  | _, _, _, _, _, .there h => by
    obtain ⟨a, b⟩ := h.at
    exact ⟨by simpa using a, by simpa using b⟩
theorem Put.at : ∀ {N : List Str} {sl sl' : Sl} {x : Str} {i : Nat} {s : SV}, Put N sl x i s sl' → N[i]? = some x ∧ sl' = sl.set i (some s)
  | _, _, _, _, _, _, .here => ⟨rfl, rfl⟩
  | _, _, _, _, _, _, .there h => by
    obtain ⟨a, b⟩ := h.at
    exact ⟨by simpa using a, by rw [b]; rfl⟩
section
variable {X : Cx} {na : Nat} {sl sl' : Sl} {cs cs1 cs2 cs3 : Cs} {s t u : SV} {pos : Pos} {x : Str}
theorem mem_take {α : Type} {l : List α} {i m : Nat} {a : α} (h : l[i]? = some a) (hi : Nat.blt i m = true) : a ∈ l.take m := by
  have h' : i < m := by simpa [Nat.blt_eq] using hi
  exact List.mem_of_getElem? (i := i) (by rw [List.getElem?_take_of_lt h']; exact h)
theorem ev_name {N : List Str} {i m : Nat} (T : Tab X m) (hN : X.N = N) (l : Lk N sl x i s) (hi : Nat.blt i m = true) : EV X na (.Name x pos) sl cs s cs := by
  subst hN
  obtain ⟨h1, h2⟩ := l.at
  obtain ⟨a, b, c⟩ := T.vis x (mem_take h1 hi)
  refine ev_of (pe_var h1 a b c) fun B G ps σ H hn C S Q q => ?_
  obtain ⟨o, ho, hr⟩ := pd_get S h2
  cases o with
  | none => exact hr.elim
  | some v => exact ⟨v, ho, q v G ps H C (Up.refl _ _) hr⟩
theorem de_c {K : PySem.W.Frag} {v : V} {d : PyData} (h : ∀ G, Rep K G v d) : DE K na (tC v) sl cs (.val d) cs := fun B G ps σ H hn C S Q q => q v G ps H C (Up.refl _ _) (h G)
theorem ev_int {i : Int} {j : Nat} : EV X na (.Constant (.int i) j pos) sl cs (.val (.int i)) cs := ev_of pe_int (de_c fun _ => .int i)
theorem ev_bool {b : Bool} {j : Nat} : EV X na (.Constant (.bool b) j pos) sl cs (.val (.bool b)) cs := ev_of pe_bl (de_c fun _ => .bl b)
theorem ev_none {j : Nat} : EV X na (.Constant .none j pos) sl cs (.val .none) cs := ev_of pe_non (de_c fun _ => .non)
theorem ev_str {y : Str} {j : Nat} : EV X na (.Constant (.str y) j pos) sl cs (.val (.str y)) cs := ev_of pe_str (de_c fun _ => .str y)

/-! ### operations by values -/
def RV (K : PySem.W.Frag) (na : Nat) (r : R2) (s t : SV) (cs : Cs) (u : SV) (cs' : Cs) : Prop := ∀ B G ps H v w, B.As.length = na → Core K B G ps cs H → RepV K G ps v s → RepV K G ps w t → ∀ Q : VK,
  (∀ z G' ps' H', Core K B G' ps' cs' H' → Up G ps G' ps' → RepV K G' ps' z u → Q z H') → r v w H Q
def RU (K : PySem.W.Frag) (na : Nat) (r : V → Hp → VK → Prop) (s : SV) (cs : Cs) (u : SV) (cs' : Cs) : Prop := ∀ B G ps H v, B.As.length = na → Core K B G ps cs H → RepV K G ps v s → ∀ Q : VK,
  (∀ z G' ps' H', Core K B G' ps' cs' H' → Up G ps G' ps' → RepV K G' ps' z u → Q z H') → r v H Q
def RC (K : PySem.W.Frag) (na : Nat) (r : List V → Hp → VK → Prop) (ss : List SV) (cs : Cs) (u : SV) (cs' : Cs) : Prop := ∀ B G ps H vs, B.As.length = na → Core K B G ps cs H → RepVs K G ps vs ss → ∀ Q : VK,
  (∀ z G' ps' H', Core K B G' ps' cs' H' → Up G ps G' ps' → RepV K G' ps' z u → Q z H') → r vs H Q
def RM (K : PySem.W.Frag) (na : Nat) (r : V → List V → Hp → VK → Prop) (s : SV) (ss : List SV) (cs : Cs) (u : SV) (cs' : Cs) : Prop := ∀ B G ps H v vs, B.As.length = na → Core K B G ps cs H → RepV K G ps v s → RepVs K G ps vs ss → ∀ Q : VK,
  (∀ z G' ps' H', Core K B G' ps' cs' H' → Up G ps G' ps' → RepV K G' ps' z u → Q z H') → r v vs H Q
section
variable {K : PySem.W.Frag} {ta tb : TE} {r : R2}
theorem de_op (ha : DE K na ta sl cs s cs1) (hb : DE K na tb sl cs1 t cs2) (hr : RV K na r s t cs2 u cs3) : DE K na (tOp r ta tb) sl cs u cs3 := fun B G ps σ H hn C S Q q =>
  ha B G ps σ H hn C S _ fun v G1 ps1 H1 C1 u1 r1 => hb B G1 ps1 σ H1 hn C1 (Slots.mono u1 S) _ fun w G2 ps2 H2 C2 u2 r2 =>
    hr B G2 ps2 H2 v w hn C2 (RepV.mono u2 r1) r2 Q fun z G3 ps3 H3 C3 u3 r3 => q z G3 ps3 H3 C3 ((u1.trans u2).trans u3) r3
theorem de_un {r : V → Hp → VK → Prop} (ha : DE K na ta sl cs s cs1) (hr : RU K na r s cs1 u cs2) : DE K na (tUn r ta) sl cs u cs2 := fun B G ps σ H hn C S Q q =>
  ha B G ps σ H hn C S _ fun v G1 ps1 H1 C1 u1 r1 => hr B G1 ps1 H1 v hn C1 r1 Q fun z G3 ps3 H3 C3 u3 r3 => q z G3 ps3 H3 C3 (u1.trans u3) r3
theorem da_nil : DA K na tNil sl cs [] cs := fun B G ps σ H hn C S Q q => q [] G ps H C (Up.refl _ _) .nil
theorem da_cons {ss : List SV} {tr : TA} (ha : DE K na ta sl cs s cs1) (hr : DA K na tr sl cs1 ss cs2) : DA K na (tCons ta tr) sl cs (s :: ss) cs2 := fun B G ps σ H hn C S Q q =>
  ha B G ps σ H hn C S _ fun v G1 ps1 H1 C1 u1 r1 => hr B G1 ps1 σ H1 hn C1 (Slots.mono u1 S) _ fun vs G2 ps2 H2 C2 u2 r2 => q (v :: vs) G2 ps2 H2 C2 (u1.trans u2) (.cons (RepV.mono u2 r1) r2)
theorem de_cb {r : List V → Hp → VK → Prop} {ta : TA} {ss : List SV} (ha : DA K na ta sl cs ss cs1) (hr : RC K na r ss cs1 u cs2) : DE K na (tCB r ta) sl cs u cs2 := fun B G ps σ H hn C S Q q =>
  ha B G ps σ H hn C S _ fun vs G1 ps1 H1 C1 u1 r1 => hr B G1 ps1 H1 vs hn C1 r1 Q fun z G3 ps3 H3 C3 u3 r3 => q z G3 ps3 H3 C3 (u1.trans u3) r3
end
theorem av_nil : AV X na [] sl cs [] cs := av_of pa_nil da_nil
theorem av_cons {e : Expr} {es : List Expr} {ss : List SV} (ha : EV X na e sl cs s cs1) (hr : AV X na es sl cs1 ss cs2) (hs : starEach (e :: es) X.env = (false, eval e X.env) :: starEach es X.env := by rfl) : AV X na (e :: es) sl cs (s :: ss) cs2 :=
  av_of (pa_cons pe_any pa_any hs) (da_cons ha hr)
theorem ev_op {a b : Expr} {op : Operator} {r : R2} (ho : OpR X (binaryOp op) r) (ha : EV X na a sl cs s cs1) (hb : EV X na b sl cs1 t cs2) (hr : RV X.K na r s t cs2 u cs3) : EV X na (.BinOp a op b pos) sl cs u cs3 :=
  ev_of (pe_op ho pe_any pe_any) (de_op ha hb hr)
theorem ev_cmp {a b : Expr} {op : CmpOp} {r : R2} (ho : OpR X (compareOp op) r) (hm : behindInMarks op b = false) (ha : EV X na a sl cs s cs1) (hb : EV X na b sl cs1 t cs2) (hr : RV X.K na r s t cs2 u cs3) : EV X na (.Compare a [op] [b] pos) sl cs u cs3 :=
  ev_of (pe_cmpR ho pe_any pe_any hm) (de_op ha hb hr)
theorem tv_cmp {a b : Expr} {op : CmpOp} {r : R2} {k : Bool} (ho : OpR X (compareOp op) r) (hm : behindInMarks op b = false) (ha : EV X na a sl cs s cs1) (hb : EV X na b sl cs1 t cs2) (hr : RV X.K na r s t cs2 (.val (.bool k)) cs3) : TV X na (.Compare a [op] [b] pos) sl cs k cs3 := by
  refine tv_of (pt_cmpR ho pe_any pe_any hm) fun B G ps σ H hn C S Q q => de_op ha hb hr B G ps σ H hn C S _ fun v G1 ps1 H1 C1 u1 r1 => ?_
  cases (r1 : Rep _ _ _ _)
  exact ⟨k, rfl, q G1 ps1 H1 C1 u1⟩
theorem ev_un {a : Expr} {op : UnaryOp} {r : V → Hp → VK → Prop} (ho : UnR X (unaryOp op) r) (ha : EV X na a sl cs s cs1) (hr : RU X.K na r s cs1 u cs2) : EV X na (.UnaryOp op a pos) sl cs u cs2 :=
  ev_of (pe_un ho pe_any) (de_un ha hr)
theorem tv_val {e : Expr} {b : Bool} (h : EV X na e sl cs (.val (.bool b)) cs1) (he : ∀ whole, isTrue e X.env whole = (do let v ← whole; standAt e.pos; holding [v] (truthy v)) := by intro _; rfl) : TV X na e sl cs b cs1 := by
  refine tv_of (pt_val pe_any he) fun B G ps σ H hn C S Q q => h B G ps σ H hn C S _ fun v G1 ps1 H1 C1 u1 r1 => ?_
  cases (r1 : Rep _ _ _ _)
  exact ⟨b, rfl, q G1 ps1 H1 C1 u1⟩
theorem tv_w {e : Expr} {b : Bool} (h : WV X na e sl cs b cs1) : TV X na e sl cs b cs1 := tv_of (PW.pt pw_any) h
theorem dt_and {K : PySem.W.Frag} {ta tb : TT} {a b : Bool} (ha : DT K na ta sl cs a cs1) (hb : a = true → DT K na tb sl cs1 b cs1) : DT K na (L2.tAnd ta tb) sl cs (a && b) cs1 := fun B G ps σ H hn C S Q q =>
  ha B G ps σ H hn C S _ fun G1 ps1 H1 C1 u1 => by
    cases a with
    | true => exact hb rfl B G1 ps1 σ H1 hn C1 (Slots.mono u1 S) Q fun G2 ps2 H2 C2 u2 => q G2 ps2 H2 C2 (u1.trans u2)
    | false => exact q G1 ps1 H1 C1 u1
theorem dt_or {K : PySem.W.Frag} {ta tb : TT} {a b : Bool} (ha : DT K na ta sl cs a cs1) (hb : a = false → DT K na tb sl cs1 b cs1) : DT K na (L2.tOr ta tb) sl cs (a || b) cs1 := fun B G ps σ H hn C S Q q =>
  ha B G ps σ H hn C S _ fun G1 ps1 H1 C1 u1 => by
    cases a with
    | true => exact q G1 ps1 H1 C1 u1
    | false => exact hb rfl B G1 ps1 σ H1 hn C1 (Slots.mono u1 S) Q fun G2 ps2 H2 C2 u2 => q G2 ps2 H2 C2 (u1.trans u2)
theorem dt_not {K : PySem.W.Frag} {ta : TT} {a : Bool} (ha : DT K na ta sl cs a cs1) : DT K na (L2.tNot ta) sl cs (!a) cs1 := fun B G ps σ H hn C S Q q => ha B G ps σ H hn C S _ q
theorem wv_and1 {a : Expr} {b : Bool} (h : TV X na a sl cs b cs1) : WV X na (.BoolOp .And [a] pos) sl cs b cs1 := wv_of (pw_and1 pt_any) h
theorem wv_or1 {a : Expr} {b : Bool} (h : TV X na a sl cs b cs1) : WV X na (.BoolOp .Or [a] pos) sl cs b cs1 := wv_of (pw_or1 pt_any) h
theorem wv_and {a b : Expr} {rest : List Expr} {k l : Bool} (ha : TV X na a sl cs k cs1) (hb : k = true → WV X na (.BoolOp .And (b :: rest) pos) sl cs1 l cs1) : WV X na (.BoolOp .And (a :: b :: rest) pos) sl cs (k && l) cs1 := wv_of (pw_and pt_any pw_any) (dt_and ha hb)
theorem wv_or {a b : Expr} {rest : List Expr} {k l : Bool} (ha : TV X na a sl cs k cs1) (hb : k = false → WV X na (.BoolOp .Or (b :: rest) pos) sl cs1 l cs1) : WV X na (.BoolOp .Or (a :: b :: rest) pos) sl cs (k || l) cs1 := wv_of (pw_or pt_any pw_any) (dt_or ha hb)
theorem tv_not {a : Expr} {k : Bool} (ha : TV X na a sl cs k cs1) : TV X na (.UnaryOp .Not a pos) sl cs (!k) cs1 := tv_of (pt_not pt_any) (dt_not ha)
theorem ev_not {a : Expr} {k : Bool} (ha : EV X na a sl cs (.val (.bool k)) cs1) : EV X na (.UnaryOp .Not a pos) sl cs (.val (.bool (!k))) cs1 :=
  ev_of (L2.pe_not pe_any) fun B G ps σ H hn C S Q q => ha B G ps σ H hn C S _ fun v G1 ps1 H1 C1 u1 r1 => by
    cases (r1 : Rep _ _ _ _)
    exact ⟨k, rfl, q _ G1 ps1 H1 C1 u1 (Rep.bl _)⟩
theorem ev_and1 {op : BoolOp} {a : Expr} (h : EV X na a sl cs s cs1) : EV X na (.BoolOp op [a] pos) sl cs s cs1 := ev_of (pe_one pe_any) h
theorem ev_and {a b : Expr} {rest : List Expr} {k l : Bool} (ha : EV X na a sl cs (.val (.bool k)) cs1) (hb : k = true → EV X na (.BoolOp .And (b :: rest) pos) sl cs1 (.val (.bool l)) cs1) : EV X na (.BoolOp .And (a :: b :: rest) pos) sl cs (.val (.bool (k && l))) cs1 :=
  ev_of (pe_and pe_any pe_any) fun B G ps σ H hn C S Q q => ha B G ps σ H hn C S _ fun v G1 ps1 H1 C1 u1 r1 => by
    cases (r1 : Rep _ _ _ _)
    refine ⟨k, rfl, ?_⟩
    cases k with
    | true => exact hb rfl B G1 ps1 σ H1 hn C1 (Slots.mono u1 S) Q fun v G2 ps2 H2 C2 u2 => q v G2 ps2 H2 C2 (u1.trans u2)
    | false => exact q _ G1 ps1 H1 C1 u1 (Rep.bl _)
theorem ev_or {a b : Expr} {rest : List Expr} {k l : Bool} (ha : EV X na a sl cs (.val (.bool k)) cs1) (hb : k = false → EV X na (.BoolOp .Or (b :: rest) pos) sl cs1 (.val (.bool l)) cs1) : EV X na (.BoolOp .Or (a :: b :: rest) pos) sl cs (.val (.bool (k || l))) cs1 :=
  ev_of (pe_or pe_any pe_any) fun B G ps σ H hn C S Q q => ha B G ps σ H hn C S _ fun v G1 ps1 H1 C1 u1 r1 => by
    cases (r1 : Rep _ _ _ _)
    refine ⟨k, rfl, ?_⟩
    cases k with
    | true => exact q _ G1 ps1 H1 C1 u1 (Rep.bl _)
    | false => exact hb rfl B G1 ps1 σ H1 hn C1 (Slots.mono u1 S) Q fun v G2 ps2 H2 C2 u2 => q v G2 ps2 H2 C2 (u1.trans u2)
theorem ev_ifExp {c a b : Expr} {k : Bool} (hc : TV X na c sl cs k cs1) (ha : k = true → EV X na a sl cs1 s cs2) (hb : k = false → EV X na b sl cs1 s cs2) : EV X na (.IfExp c a b pos) sl cs s cs2 :=
  ev_of (pe_ifExp pt_any pe_any pe_any) fun B G ps σ H hn C S Q q => hc B G ps σ H hn C S _ fun G1 ps1 H1 C1 u1 => by
    cases k with
    | true => exact ha rfl B G1 ps1 σ H1 hn C1 (Slots.mono u1 S) Q fun v G2 ps2 H2 C2 u2 => q v G2 ps2 H2 C2 (u1.trans u2)
    | false => exact hb rfl B G1 ps1 σ H1 hn C1 (Slots.mono u1 S) Q fun v G2 ps2 H2 C2 u2 => q v G2 ps2 H2 C2 (u1.trans u2)

/-! ### operators -/
section
variable {K : PySem.W.Frag} {i j : Int}
theorem Rep.intI {G : Hp} {v : V} (h : Rep K G v (.int i)) : v = .int i := by cases h; rfl
theorem Rep.strI {G : Hp} {v : V} {x : Str} (h : Rep K G v (.str x)) : v = .str x := by cases h; rfl
theorem Rep.boolI {G : Hp} {v : V} {b : Bool} (h : Rep K G v (.bool b)) : v = .bl b := by cases h; rfl
theorem Rep.noneI {G : Hp} {v : V} (h : Rep K G v .none) : v = .non := by cases h; rfl
theorem rv_int {g : Int → Int → Int} : RV K na (rI0 fun i j => .int (g i j)) (.val (.int i)) (.val (.int j)) cs (.val (.int (g i j))) cs := fun B G ps H v w hn C h1 h2 Q q =>
  ⟨i, j, Rep.intI h1, Rep.intI h2, q _ G ps H C (Up.refl _ _) (Rep.int _)⟩
theorem rv_intC {c : Int → Int → Prop} {g : Int → Int → Int} (hc : c i j) : RV K na (rI c fun i j => .int (g i j)) (.val (.int i)) (.val (.int j)) cs (.val (.int (g i j))) cs := fun B G ps H v w hn C h1 h2 Q q =>
  ⟨i, j, Rep.intI h1, Rep.intI h2, hc, q _ G ps H C (Up.refl _ _) (Rep.int _)⟩
theorem rv_bool {g : Int → Int → Bool} : RV K na (rI0 fun i j => .bl (g i j)) (.val (.int i)) (.val (.int j)) cs (.val (.bool (g i j))) cs := fun B G ps H v w hn C h1 h2 Q q =>
  ⟨i, j, Rep.intI h1, Rep.intI h2, q _ G ps H C (Up.refl _ _) (Rep.bl _)⟩
end
theorem ev_add {a b : Expr} {i j : Int} (ha : EV X na a sl cs (.val (.int i)) cs1) (hb : EV X na b sl cs1 (.val (.int j)) cs2) : EV X na (.BinOp a .Add b pos) sl cs (.val (.int (i + j))) cs2 := ev_op op_add ha hb rv_int
theorem ev_sub {a b : Expr} {i j : Int} (ha : EV X na a sl cs (.val (.int i)) cs1) (hb : EV X na b sl cs1 (.val (.int j)) cs2) : EV X na (.BinOp a .Sub b pos) sl cs (.val (.int (i - j))) cs2 := ev_op op_sub ha hb rv_int
theorem ev_mul {a b : Expr} {i j : Int} (ha : EV X na a sl cs (.val (.int i)) cs1) (hb : EV X na b sl cs1 (.val (.int j)) cs2) (hc : CMulX i j) : EV X na (.BinOp a .Mult b pos) sl cs (.val (.int (i * j))) cs2 := ev_op op_mulX ha hb (rv_intC hc)
theorem ev_div {a b : Expr} {i j : Int} (ha : EV X na a sl cs (.val (.int i)) cs1) (hb : EV X na b sl cs1 (.val (.int j)) cs2) (hc : CDivW i j) : EV X na (.BinOp a .FloorDiv b pos) sl cs (.val (.int (i / j))) cs2 := ev_op op_fdivW ha hb (rv_intC hc)
theorem ev_mod {a b : Expr} {i j : Int} (ha : EV X na a sl cs (.val (.int i)) cs1) (hb : EV X na b sl cs1 (.val (.int j)) cs2) (hc : 0 < j) : EV X na (.BinOp a .Mod b pos) sl cs (.val (.int (i % j))) cs2 := ev_op op_mod ha hb (rv_intC (c := fun _ j => 0 < j) hc)
theorem ev_pow {a b : Expr} {i j : Int} (ha : EV X na a sl cs (.val (.int i)) cs1) (hb : EV X na b sl cs1 (.val (.int j)) cs2) (hc : CPow i j) : EV X na (.BinOp a .Pow b pos) sl cs (.val (.int (i ^ j.toNat))) cs2 := ev_op op_pow ha hb (rv_intC hc)
theorem ev_neg {a : Expr} {i : Int} (ha : EV X na a sl cs (.val (.int i)) cs1) : EV X na (.UnaryOp .USub a pos) sl cs (.val (.int (-i))) cs1 :=
  ev_un un_neg ha fun B G ps H v hn C h Q q => ⟨i, Rep.intI h, q _ G ps H C (Up.refl _ _) (Rep.int _)⟩
theorem ev_lt {a b : Expr} {i j : Int} (ha : EV X na a sl cs (.val (.int i)) cs1) (hb : EV X na b sl cs1 (.val (.int j)) cs2) : EV X na (.Compare a [.Lt] [b] pos) sl cs (.val (.bool (decide (i < j)))) cs2 := ev_cmp op_lt (nomark _) ha hb rv_bool
theorem ev_le {a b : Expr} {i j : Int} (ha : EV X na a sl cs (.val (.int i)) cs1) (hb : EV X na b sl cs1 (.val (.int j)) cs2) : EV X na (.Compare a [.LtE] [b] pos) sl cs (.val (.bool (decide (i ≤ j)))) cs2 := ev_cmp op_le (nomark _) ha hb rv_bool
theorem ev_gt {a b : Expr} {i j : Int} (ha : EV X na a sl cs (.val (.int i)) cs1) (hb : EV X na b sl cs1 (.val (.int j)) cs2) : EV X na (.Compare a [.Gt] [b] pos) sl cs (.val (.bool (decide (j < i)))) cs2 := ev_cmp op_gt (nomark _) ha hb rv_bool
theorem ev_ge {a b : Expr} {i j : Int} (ha : EV X na a sl cs (.val (.int i)) cs1) (hb : EV X na b sl cs1 (.val (.int j)) cs2) : EV X na (.Compare a [.GtE] [b] pos) sl cs (.val (.bool (decide (j ≤ i)))) cs2 := ev_cmp op_ge (nomark _) ha hb rv_bool
theorem tv_lt {a b : Expr} {i j : Int} (ha : EV X na a sl cs (.val (.int i)) cs1) (hb : EV X na b sl cs1 (.val (.int j)) cs2) : TV X na (.Compare a [.Lt] [b] pos) sl cs (decide (i < j)) cs2 := tv_cmp op_lt (nomark _) ha hb rv_bool
theorem tv_le {a b : Expr} {i j : Int} (ha : EV X na a sl cs (.val (.int i)) cs1) (hb : EV X na b sl cs1 (.val (.int j)) cs2) : TV X na (.Compare a [.LtE] [b] pos) sl cs (decide (i ≤ j)) cs2 := tv_cmp op_le (nomark _) ha hb rv_bool
theorem tv_gt {a b : Expr} {i j : Int} (ha : EV X na a sl cs (.val (.int i)) cs1) (hb : EV X na b sl cs1 (.val (.int j)) cs2) : TV X na (.Compare a [.Gt] [b] pos) sl cs (decide (j < i)) cs2 := tv_cmp op_gt (nomark _) ha hb rv_bool
theorem tv_ge {a b : Expr} {i j : Int} (ha : EV X na a sl cs (.val (.int i)) cs1) (hb : EV X na b sl cs1 (.val (.int j)) cs2) : TV X na (.Compare a [.GtE] [b] pos) sl cs (decide (j ≤ i)) cs2 := tv_cmp op_ge (nomark _) ha hb rv_bool
end
end DL
namespace DL
open PySem PySem.Spec PyProof.Rows L2
section
variable {K : PySem.W.Frag} {G G' : Hp} {ps ps' : List Addr} {H H' : Hp} {B : Bs} {cs cs' : Cs}

/-! ### another base, and back -/
theorem Core.sub (C : Core K B G ps cs H) : Core K ⟨G, H, ps⟩ G ps cs H :=
  ⟨Same.refl _, fun _ _ e _ => e, C.gh, fun _ e => .inl e, C.len, List.prefix_refl _, C.nd, fun k p c e hc => by
    obtain ⟨h1, _, h2⟩ := C.cell k p c e hc
    exact ⟨h1, .inr (List.mem_of_getElem? e), h2⟩⟩
theorem Core.own (C : Core K B G ps cs H) {p : Addr} (h : p ∈ ps) : B.H0 p = none ∨ p ∈ B.As := by
  obtain ⟨k, ek⟩ := List.getElem?_of_mem h
  obtain ⟨c, hc⟩ := C.at ek
  exact (C.cell k p c ek hc).2.1
/-- from a base that lies between -/
theorem Core.back (C : Core K B G ps cs H) (C' : Core K ⟨G, H, ps⟩ G' ps' cs' H') : Core K B G' ps' cs' H' where
  g0 := C.g0.trans C'.g0
  h0 b o e m := C'.h0 b o (C.h0 b o e m) fun z => by
    rcases C.own z with h | h
    · rw [h] at e; cases e
    · exact m h
  gh := C'.gh
  nw b e := (C'.nw b e).elim (C.nw b) fun h => .inr (C.free0 h)
  len := C'.len
  pre := C.pre.trans C'.pre
  nd := C'.nd
  cell k p c e hc := by
    obtain ⟨h1, h2, h3⟩ := C'.cell k p c e hc
    exact ⟨h1, h2.elim (fun h => .inl (C.free0 h)) C.own, h3⟩
theorem Core.backUp (C' : Core K ⟨G, H, ps⟩ G' ps' cs' H') : Up G ps G' ps' := ⟨C'.g0, C'.pre⟩
/-- a thing that is neither data nor a cell becomes data -/
theorem Core.adopt (C : Core K B G ps cs H) {p : Addr} {o : HO} (hp : p ∉ ps) (hG : G p = none) (hB : B.H0 p = none) (hH : H p = some o) : Core K B (upd G p o) ps cs H where
  g0 := C.g0.trans (Same.new hG)
  h0 := C.h0
  gh b u e := by
    by_cases z : b = p
    · subst z
      rw [upd_same] at e
      rw [hH]
      exact e
    · rw [upd_ne z] at e
      exact C.gh b u e
  nw b e := by
    by_cases z : b = p
    · subst z
      exact .inr hB
    · rw [upd_ne z] at e
      exact C.nw b e
  len := C.len
  pre := C.pre
  nd := C.nd
  cell k q c e hc := by
    have z : q ≠ p := fun z => hp (z ▸ List.mem_of_getElem? e)
    obtain ⟨h1, h2, h3⟩ := C.cell k q c e hc
    refine ⟨RepC.mono ⟨Same.new hG, List.prefix_refl _⟩ rfl h1, h2, ?_⟩
    rw [upd_ne z]
    exact h3
/-! ### cells as data -/
def SV.data : SV → Option PyData
  | .val d => some d
  | .cell _ => none
def svData : List SV → Option (List PyData)
  | [] => some []
  | .val d :: r => (svData r).map (d :: ·)
  | .cell _ :: _ => none
def kvData : List (Key × SV) → Option (List (PyData × PyData))
  | [] => some []
  | (k, .val d) :: r => (kvData r).map ((kD k, d) :: ·)
  | (_, .cell _) :: _ => none
def CC.data : CC → Option PyData
  | .lst xs => (svData xs).map .list
  | .dct kvs => (kvData kvs).map .dict
  | _ => none
theorem svData_map (ds : List PyData) : svData (ds.map SV.val) = some ds := by
  induction ds with
  | nil => rfl
  | cons d r ih => simp [svData, ih]
theorem kvData_map (ds : List (Key × PyData)) : kvData (ds.map fun kv => (kv.1, SV.val kv.2)) = some (ds.map fun kv => (kD kv.1, kv.2)) := by
  induction ds with
  | nil => rfl
  | cons d r ih => simp [kvData, ih]
theorem RepVs.data : ∀ {vs : List V} {xs : List SV} {ds : List PyData}, RepVs K G ps vs xs → svData xs = some ds → Reps K G vs ds
  | _, _, _, .nil, e => by cases e; exact .nil
  | _, .val d :: r, ds, .cons h t, e => by
    cases q : svData r with
    | none => simp [svData, q] at e
    | some es =>
      simp [svData, q] at e
      subst e
      exact .cons h (RepVs.data t q)
  | _, .cell _ :: _, _, .cons _ _, e => by simp [svData] at e
theorem RepKs.data : ∀ {vs : List (Key × V)} {xs : List (Key × SV)} {ds : List (PyData × PyData)}, RepKs K G ps vs xs → kvData xs = some ds → RepD K G vs ds
  | _, _, _, .nil, e => by cases e; exact .nil
  | (k, v) :: _, (k', .val d) :: r, ds, .cons h t, e => by
    cases q : kvData r with
    | none => simp [kvData, q] at e
    | some es =>
      simp [kvData, q] at e
      subst e
      obtain ⟨h1, h2⟩ := h
      cases (show k = k' from h1)
      exact .cons h2 (RepKs.data t q)
  | _, (_, .cell _) :: _, _, .cons _ _, e => by simp [kvData] at e
/-- the object at a cell that is all data -/
theorem RepC.data {p : Addr} {c : CC} {d : PyData} (h : RepC K G ps H p c) (e : c.data = some d) : ∃ o, H p = some o ∧ ∀ G' : Hp, Same G G' → G' p = some o → Rep K G' (.ref p) d := by
  cases c with
  | lst xs =>
    obtain ⟨vs, h1, h2⟩ := h
    cases q : svData xs with
    | none => simp [CC.data, q] at e
    | some ds =>
      simp [CC.data, q] at e
      subst e
      exact ⟨_, h1, fun G' s g => .lst (.inl (.inl g)) (Reps.mono s (RepVs.data h2 q))⟩
  | dct xs =>
    obtain ⟨vs, h1, h2⟩ := h
    cases q : kvData xs with
    | none => simp [CC.data, q] at e
    | some ds =>
      simp [CC.data, q] at e
      subst e
      exact ⟨_, h1, fun G' s g => .dct g (RepD.mono s (RepKs.data h2 q))⟩
  | ins _ _ => simp [CC.data] at e
  | dead => simp [CC.data] at e
  | frz _ _ _ => simp [CC.data] at e
  | tup _ => simp [CC.data] at e
/-- a cell of one's own becomes data for good -/
theorem Core.freeze (C : Core K B G ps cs H) {k : Nat} {p : Addr} {c : CC} {o : HO} (hk : B.As.length ≤ k) (e : ps[k]? = some p) (hc : cs[k]? = some c) (hd : c ≠ .dead) (hH : H p = some o) :
    Core K B (upd G p o) ps (cs.set k .dead) H := by
  obtain ⟨_, hB, h2⟩ := C.cell k p c e hc
  have hG : G p = none := h2.elim (fun z => (hd z).elim) id
  have hB' : B.H0 p = none := hB.elim id fun h => by
    obtain ⟨j, ej⟩ := List.getElem?_of_mem h
    have h1 := nd_at C.nd (pre_get C.pre ej) e
    have h2 := (List.getElem?_eq_some_iff.mp ej).1
    omega
  have hkl : k < cs.length := (List.getElem?_eq_some_iff.mp hc).1
  refine ⟨C.g0.trans (Same.new hG), C.h0, fun b u eb => ?_, fun b eb => ?_, by rw [List.length_set]; exact C.len, C.pre, C.nd, fun j q d ej hj => ?_⟩
  · by_cases z : b = p
    · subst z
      rw [upd_same] at eb
      rw [hH]
      exact eb
    · rw [upd_ne z] at eb
      exact C.gh b u eb
  · by_cases z : b = p
    · subst z
      exact .inr hB'
    · rw [upd_ne z] at eb
      exact C.nw b eb
  · by_cases hjk : j = k
    · subst hjk
      rw [List.getElem?_set_self hkl] at hj
      cases hj
      rw [e] at ej
      cases ej
      exact ⟨by show H p ≠ none; rw [hH]; exact Option.some_ne_none _, hB, .inl rfl⟩
    · rw [List.getElem?_set_ne (Ne.symm hjk)] at hj
      obtain ⟨h1, hb, h2⟩ := C.cell j q d ej hj
      have hq : q ≠ p := fun hq => hjk (nd_at C.nd ej (by rw [hq]; exact e))
      refine ⟨RepC.mono ⟨Same.new hG, List.prefix_refl _⟩ rfl h1, hb, ?_⟩
      rw [upd_ne hq]
      exact h2
/-! ### fewer cells -/
def SV.lt (n : Nat) : SV → Bool
  | .val _ => true
  | .cell k => decide (k < n)
def CC.lt (n : Nat) : CC → Bool
  | .lst xs => xs.all (SV.lt n)
  | .dct kvs => kvs.all fun kv => SV.lt n kv.2
  | .ins _ fs => fs.all fun kv => SV.lt n kv.2
  | .dead => true
  | .frz _ _ kvs => kvs.all fun kv => SV.lt n kv.2
  | .tup xs => xs.all (SV.lt n)
theorem RepV.take {n : Nat} {v : V} : ∀ {s : SV}, RepV K G ps v s → SV.lt n s = true → RepV K G (ps.take n) v s
  | .val _, h, _ => h
  | .cell k, ⟨p, e, hv⟩, l => ⟨p, by rw [List.getElem?_take_of_lt (of_decide_eq_true l)]; exact e, hv⟩
theorem RepVs.take {n : Nat} : ∀ {vs : List V} {ss : List SV}, RepVs K G ps vs ss → ss.all (SV.lt n) = true → RepVs K G (ps.take n) vs ss
  | _, _, .nil, _ => .nil
  | _, _, .cons h t, l => by
    rw [List.all_cons, Bool.and_eq_true] at l
    exact .cons (RepV.take h l.1) (RepVs.take t l.2)
theorem RepKs.take {κ : Type} {n : Nat} : ∀ {vs : List (κ × V)} {ss : List (κ × SV)}, RepKs K G ps vs ss → (ss.all fun kv => SV.lt n kv.2) = true → RepKs K G (ps.take n) vs ss
  | _, _, .nil, _ => .nil
  | _, _, .cons h t, l => by
    rw [List.all_cons, Bool.and_eq_true] at l
    exact .cons ⟨h.1, RepV.take h.2 l.1⟩ (RepKs.take t l.2)
theorem RepC.take {n : Nat} {p : Addr} {c : CC} (h : RepC K G ps H p c) (l : c.lt n = true) : RepC K G (ps.take n) H p c := by
  cases c with
  | lst xs => obtain ⟨vs, e, r⟩ := h; exact ⟨vs, e, RepVs.take r l⟩
  | dct xs => obtain ⟨vs, e, r⟩ := h; exact ⟨vs, e, RepKs.take r l⟩
  | ins _ _ => obtain ⟨dx, vs, e, r⟩ := h; exact ⟨dx, vs, e, RepKs.take r l⟩
  | dead => exact h
  | frz _ _ _ => exact ⟨h.1, RepKs.take h.2 l⟩
  | tup xs => obtain ⟨vs, e, r⟩ := h; exact ⟨vs, e, RepVs.take r l⟩
theorem Core.take (C : Core K B G ps cs H) {n : Nat} (hn : B.As.length ≤ n) (l : (cs.take n).all (CC.lt n) = true) : Core K B G (ps.take n) (cs.take n) H where
  g0 := C.g0
  h0 := C.h0
  gh := C.gh
  nw := C.nw
  len := by rw [List.length_take, List.length_take, C.len]
  pre := by
    obtain ⟨t, e⟩ := C.pre
    rw [← e, List.take_append, List.take_of_length_le hn]
    exact List.prefix_append _ _
  nd := C.nd.sublist (List.take_sublist _ _)
  cell k p c e hc := by
    have hk : k < n := by
      have := (List.getElem?_eq_some_iff.mp e).1
      rw [List.length_take] at this
      omega
    have hl : c.lt n = true := List.all_eq_true.mp l c (List.mem_of_getElem? hc)
    rw [List.getElem?_take_of_lt hk] at e hc
    obtain ⟨h1, h2, h3⟩ := C.cell k p c e hc
    exact ⟨RepC.take h1 hl, h2, h3⟩
end
end DL
namespace DL
open PySem PySem.Spec PyProof.Rows L2

/-! ### statements -/
section
variable {X : Cx} {na : Nat} {sl sl' : Sl} {cs cs1 cs2 cs3 : Cs} {s t u : SV} {pos : Pos} {x : Str} {E : DEnds} {N : List Str}
theorem dle_nx {K : PySem.W.Frag} {B : Bs} {G : Hp} {ps : List Addr} {D : Ends} {R : Sl → Cs → Prop} {T : L2.St → Hp → Prop} (L : DLe K B G ps E D)
    (h : ∀ sl cs G' ps' σ H, Core K B G' ps' cs H → Up G ps G' ps' → Slots K G' ps' σ sl → R sl cs → T σ H) : DLe K B G ps { E with nx := R } { D with nx := T } :=
  ⟨h, L.rt, L.bk, L.ct⟩
theorem sx_nil (h : E.nx sl cs) : SX X na [] sl cs E := sx_of pss_nil fun B G ps σ H hn C S D L => L.nx sl cs G ps σ H C (Up.refl _ _) S h
theorem sx_cons {st : Stmt} {rest : List Stmt} (h : S1 X na st sl cs { E with nx := fun sl' cs' => SX X na rest sl' cs' E }) : SX X na (st :: rest) sl cs E :=
  sx_of (pss_cons ps_any pss_any) fun B G ps σ H hn C S D L => h B G ps σ H hn C S _ (dle_nx L fun sl' cs' G' ps' σ' H' C' u S' r => r B G' ps' σ' H' hn C' S' D (L.up u))
theorem sx_one {st : Stmt} (h : S1 X na st sl cs E) : SX X na [st] sl cs E := sx_of (pss_one ps_any) h
theorem s1_pass (h : E.nx sl cs) : S1 X na (.Pass pos) sl cs E := s1_of ps_pass fun B G ps σ H hn C S D L => L.nx sl cs G ps σ H C (Up.refl _ _) S h
theorem s1_break (h : E.bk sl cs) : S1 X na (.Break pos) sl cs E := s1_of ps_break fun B G ps σ H hn C S D L => L.bk sl cs G ps σ H C (Up.refl _ _) S h
theorem s1_continue (h : E.ct sl cs) : S1 X na (.Continue pos) sl cs E := s1_of ps_continue fun B G ps σ H hn C S D L => L.ct sl cs G ps σ H C (Up.refl _ _) S h
theorem s1_ret {e : Expr} (h : EV X na e sl cs s cs1) (q : E.rt s cs1) : S1 X na (.Return (some e) pos) sl cs E :=
  s1_of (ps_ret pe_any) fun B G ps σ H hn C S D L => h B G ps σ H hn C S _ fun v G1 ps1 H1 C1 u1 r1 => L.rt s cs1 G1 ps1 v H1 C1 u1 r1 q
theorem s1_retN (q : E.rt (.val .none) cs) : S1 X na (.Return none pos) sl cs E :=
  s1_of ps_retN fun B G ps σ H hn C S D L => L.rt (.val .none) cs G ps .non H C (Up.refl _ _) Rep.non q
theorem s1_expr {e : Expr} (h : EV X na e sl cs s cs1) (q : E.nx sl cs1) (hs : swapsWith e none pos.line X.env = pure false := by rfl) : S1 X na (.Expr e pos) sl cs E :=
  s1_of (ps_expr pe_any hs) fun B G ps σ H hn C S D L => h B G ps σ H hn C S _ fun v G1 ps1 H1 C1 u1 r1 => L.nx sl cs1 G1 ps1 σ H1 C1 u1 (Slots.mono u1 S) q
theorem s1_if {c : Expr} {a b : List Stmt} {k : Bool} (h : TV X na c sl cs k cs1) (h1 : k = true → SX X na a sl cs1 E) (h2 : k = false → SX X na b sl cs1 E) : S1 X na (.If c a b pos) sl cs E :=
  s1_of (ps_if pt_any pss_any pss_any) fun B G ps σ H hn C S D L => h B G ps σ H hn C S _ fun G1 ps1 H1 C1 u1 => by
    cases k with
    | true => exact h1 rfl B G1 ps1 σ H1 hn C1 (Slots.mono u1 S) D (L.up u1)
    | false => exact h2 rfl B G1 ps1 σ H1 hn C1 (Slots.mono u1 S) D (L.up u1)
/-- names that may be stored -/
structure TabL (X : Cx) (m : Nat) : Prop where
  nd : X.N.Nodup
  loc : ∀ x ∈ X.N.take m, Loc X.env.scope x
  fn : ∀ x, X.fn x = true
theorem Slots.set {K : PySem.W.Frag} {G : Hp} {ps : List Addr} {σ : L2.St} {v : V} (S : Slots K G ps σ sl) (r : RepV K G ps v s) (i : Nat) : Slots K G ps (σ.set i (some v)) (sl.set i (some s)) := pd_set (show SlotR K G ps (some v) (some s) from r) i S
theorem s1_set {e : Expr} {pos' : Pos} {i m : Nat} (T : TabL X m) (hN : X.N = N) (h : EV X na e sl cs s cs1) (p : Put N sl x i s sl') (q : E.nx sl' cs1) (hi : Nat.blt i m = true) (hs : swapsWith e (some (.Name x pos')) pos.line X.env = pure false := by rfl) :
    S1 X na (.Assign [.Name x pos'] e pos) sl cs E := by
  subst hN
  obtain ⟨h1, h2⟩ := p.at
  subst h2
  exact s1_of (ps_set T.nd h1 (T.loc x (mem_take h1 hi)) pe_any hs (.inl (T.fn x))) fun B G ps σ H hn C S D L => h B G ps σ H hn C S _ fun v G1 ps1 H1 C1 u1 r1 =>
    L.nx _ cs1 G1 ps1 _ H1 C1 u1 (Slots.set (Slots.mono u1 S) r1 i) q
theorem s1_aug {e : Expr} {pos' : Pos} {op : Operator} {f : Int → Int → Int} {i m : Nat} {a b : Int} (T : TabL X m) (hN : X.N = N) (ho : PIp X op (ipI f)) (l : Lk N sl x i (.val (.int a))) (h : EV X na e sl cs (.val (.int b)) cs1) (p : Put N sl x i (.val (.int (f a b))) sl') (q : E.nx sl' cs1) (hi : Nat.blt i m = true) :
    S1 X na (.AugAssign (.Name x pos') op e pos) sl cs E := by
  subst hN
  obtain ⟨h1, h2⟩ := p.at
  subst h2
  obtain ⟨_, h3⟩ := l.at
  refine s1_of (ps_aug T.nd h1 (T.loc x (mem_take h1 hi)) pe_any ho (.inl (T.fn x))) fun B G ps σ H hn C S D L => ?_
  obtain ⟨o, hso, hr⟩ := pd_get S h3
  cases o with
  | none => exact hr.elim
  | some w =>
    refine ⟨w, hso, h B G ps σ H hn C S _ fun v G1 ps1 H1 C1 u1 r1 => ⟨a, b, Rep.intI hr, Rep.intI r1, ?_⟩⟩
    exact L.nx _ cs1 G1 ps1 _ H1 C1 u1 (Slots.set (Slots.mono u1 S) (show RepV X.K G1 ps1 (.int (f a b)) (.val (.int (f a b))) from Rep.int _) i) q

/-! ### targets -/
def DG (K : PySem.W.Frag) (na : Nat) (tg : TG) (s : SV) (sl : Sl) (cs : Cs) (R : Sl → Cs → Prop) : Prop := ∀ B G ps σ H v, B.As.length = na → Core K B G ps cs H → Slots K G ps σ sl → RepV K G ps v s → ∀ Q : L2.St → Hp → Prop,
  (∀ sl' cs' G' ps' σ' H', Core K B G' ps' cs' H' → Up G ps G' ps' → Slots K G' ps' σ' sl' → R sl' cs' → Q σ' H') → tg v σ H Q
def DGs (K : PySem.W.Frag) (na : Nat) (tg : TGs) (ss : List SV) (sl : Sl) (cs : Cs) (R : Sl → Cs → Prop) : Prop := ∀ B G ps σ H vs, B.As.length = na → Core K B G ps cs H → Slots K G ps σ sl → RepVs K G ps vs ss → ∀ Q : L2.St → Hp → Prop,
  (∀ sl' cs' G' ps' σ' H', Core K B G' ps' cs' H' → Up G ps G' ps' → Slots K G' ps' σ' sl' → R sl' cs' → Q σ' H') → tg vs σ H Q
def anyG (X : Cx) (e : Expr) : TG := fun v σ H Q => ∃ t, PG X e t ∧ t v σ H Q
def anyGs (X : Cx) (es : List Expr) : TGs := fun v σ H Q => ∃ t, PGs X es t ∧ t v σ H Q
theorem pg_any {e : Expr} : PG X e (anyG X e) := ⟨fun pins s σ H v u Q I r ⟨_, p, h⟩ => p.run pins s σ H v u Q I r h⟩
theorem pgs_any {es : List Expr} : PGs X es (anyGs X es) := ⟨fun pins s σ H vs us Q I r ⟨_, p, h⟩ => p.run pins s σ H vs us Q I r h⟩
def GX (X : Cx) (na : Nat) (e : Expr) (s : SV) (sl : Sl) (cs : Cs) (R : Sl → Cs → Prop) : Prop := DG X.K na (anyG X e) s sl cs R
def GXs (X : Cx) (na : Nat) (es : List Expr) (ss : List SV) (sl : Sl) (cs : Cs) (R : Sl → Cs → Prop) : Prop := DGs X.K na (anyGs X es) ss sl cs R
variable {R : Sl → Cs → Prop}
theorem gx_of {e : Expr} {t : TG} (p : PG X e t) (d : DG X.K na t s sl cs R) : GX X na e s sl cs R := fun B G ps σ H v hn C S r Q q => ⟨t, p, d B G ps σ H v hn C S r Q q⟩
theorem gxs_of {e : List Expr} {t : TGs} {ss : List SV} (p : PGs X e t) (d : DGs X.K na t ss sl cs R) : GXs X na e ss sl cs R := fun B G ps σ H v hn C S r Q q => ⟨t, p, d B G ps σ H v hn C S r Q q⟩
theorem gx_name {i m : Nat} (T : TabL X m) (hN : X.N = N) (p : Put N sl x i s sl') (q : R sl' cs) (hi : Nat.blt i m = true) : GX X na (.Name x pos) s sl cs R := by
  subst hN
  obtain ⟨h1, h2⟩ := p.at
  subst h2
  exact gx_of (pg_name T.nd h1 (T.loc x (mem_take h1 hi)) (.inl (T.fn x))) fun B G ps σ H v hn C S r Q k => k _ cs G ps _ H C (Up.refl _ _) (Slots.set S r i) q
theorem gxs_nil (q : R sl cs) : GXs X na [] [] sl cs R := gxs_of pgs_nil fun B G ps σ H vs hn C S r Q k => by
  cases r
  exact ⟨rfl, k sl cs G ps σ H C (Up.refl _ _) S q⟩
theorem gxs_cons {e : Expr} {es : List Expr} {ss : List SV} (h : GX X na e s sl cs fun sl' cs' => GXs X na es ss sl' cs' R)
    (hs : (assignEach (e :: es) X.env).map (·.2) = assign e X.env :: (assignEach es X.env).map (·.2) := by rfl) : GXs X na (e :: es) (s :: ss) sl cs R :=
  gxs_of (pgs_cons pg_any pgs_any hs) fun B G ps σ H vs hn C S r Q k => by
    cases r with
    | cons r1 rr =>
      exact ⟨_, _, rfl, h B G ps σ H _ hn C S r1 _ fun sl' cs' G1 ps1 σ1 H1 C1 u1 S1 q => q B G1 ps1 σ1 H1 _ hn C1 S1 (RepVs.mono u1 rr) _ fun sl2 cs2 G2 ps2 σ2 H2 C2 u2 => k sl2 cs2 G2 ps2 σ2 H2 C2 (u1.trans u2)⟩
theorem Reps.vs {K : PySem.W.Frag} {G : Hp} {ps : List Addr} : ∀ {vs : List V} {ds : List PyData}, Reps K G vs ds → RepVs K G ps vs (ds.map SV.val)
  | _, _, .nil => .nil
  | _, _, .cons h t => .cons h (Reps.vs t)
theorem Reps.ofVs {K : PySem.W.Frag} {G : Hp} {ps : List Addr} : ∀ {vs : List V} {ds : List PyData}, RepVs K G ps vs (ds.map SV.val) → Reps K G vs ds
  | _, [], h => by cases h; exact .nil
  | _, d :: r, h => by
    cases h with
    | cons a b => exact .cons a (Reps.ofVs b)
theorem gx_tup {es : List Expr} {k : Nat} {ds : List PyData} {n : Nat} (hc : X.calm = true) (h : GXs X na es (ds.map SV.val) sl cs R) (hl : ds.length = n)
    (hn : (assignEach es X.env).length = n := by rfl) (hst : (assignEach es X.env).findIdx? (·.1) = none := by rfl) : GX X na (.Tuple es k pos) (.val (.tuple ds)) sl cs R :=
  gx_of (pg_tup hc pgs_any hn hst) fun B G ps σ H v hn C S r Q q => by
    cases (r : Rep _ _ _ _) with
    | tup h1 h2 => exact ⟨_, _, rfl, Same.seqT C.gh h1, h2.length.trans hl, h B G ps σ H _ hn C S (Reps.vs h2) Q q⟩
theorem s1_asg {tg e : Expr} (h : EV X na e sl cs s cs1) (g : GX X na tg s sl cs1 E.nx) (hs : swapsWithSole [tg] e pos.line X.env = pure false := by rfl) (hw : swappedStores [tg] e X.env = pure none := by rfl)
    (h1 : (assignEach [tg] X.env).map (·.2) = [assign tg X.env] := by rfl) : S1 X na (.Assign [tg] e pos) sl cs E :=
  s1_of (ps_asg pe_any pg_any hs hw h1) fun B G ps σ H hn C S D L => h B G ps σ H hn C S _ fun v G1 ps1 H1 C1 u1 r1 =>
    g B G1 ps1 σ H1 v hn C1 (Slots.mono u1 S) r1 _ fun sl' cs' G2 ps2 σ2 H2 C2 u2 S2 q => L.nx sl' cs' G2 ps2 σ2 H2 C2 (u1.trans u2) S2 q
end
end DL
namespace DL
open PySem PySem.Spec PyProof.Rows L2

/-! ### cells, by place -/
inductive PutC : Cs → Nat → CC → Cs → Prop
  | here {c c' : CC} {cs : Cs} : PutC (c :: cs) 0 c' (c' :: cs)
  | there {c c' : CC} {cs cs' : Cs} {k : Nat} : PutC cs k c' cs' → PutC (c :: cs) (k + 1) c' (c :: cs')
inductive AppC : Cs → CC → Nat → Cs → Prop
  | nil {c : CC} : AppC [] c 0 [c]
  | cons {c c' : CC} {cs cs' : Cs} {n : Nat} : AppC cs c n cs' → AppC (c' :: cs) c (n + 1) (c' :: cs')
theorem PutC.at : ∀ {cs cs' : Cs} {k : Nat} {c : CC}, PutC cs k c cs' → cs' = cs.set k c
  | _, _, _, _, .here => rfl
  | _, _, _, _, .there h => by rw [h.at]; rfl
theorem PutC.of {cs : Cs} {k : Nat} {c : CC} (h : k < cs.length) : PutC cs k c (cs.set k c) := by
  induction cs generalizing k with
  | nil => exact absurd h (Nat.not_lt_zero _)
  | cons d r ih =>
    cases k with
    | zero => exact .here
    | succ k => exact .there (ih (Nat.lt_of_succ_lt_succ h))
theorem AppC.at : ∀ {cs cs' : Cs} {n : Nat} {c : CC}, AppC cs c n cs' → n = cs.length ∧ cs' = cs ++ [c]
  | _, _, _, _, .nil => ⟨rfl, rfl⟩
  | _, _, _, _, .cons h => by
    obtain ⟨a, b⟩ := h.at
    exact ⟨congrArg (· + 1) a, by rw [b]; rfl⟩
theorem AppC.of (cs : Cs) (c : CC) : AppC cs c cs.length (cs ++ [c]) := by
  induction cs with
  | nil => exact .nil
  | cons d r ih => exact .cons ih

/-! ### what is read as a list -/
inductive IsL (cs : Cs) : SV → List SV → Prop
  | val {ds : List PyData} : IsL cs (.val (.list ds)) (ds.map SV.val)
  | cell {k : Nat} {xs : List SV} : cs[k]? = some (.lst xs) → IsL cs (.cell k) xs
section
variable {K : PySem.W.Frag} {B : Bs} {G : Hp} {ps : List Addr} {cs cs' : Cs} {H : Hp} {v : V} {s : SV} {xs : List SV}
theorem Core.cellAt (C : Core K B G ps cs H) {k : Nat} {c : CC} (r : RepV K G ps v (.cell k)) (h : cs[k]? = some c) : ∃ p, v = .ref p ∧ ps[k]? = some p ∧ RepC K G ps H p c := by
  obtain ⟨p, e, hv⟩ := r
  exact ⟨p, hv, e, (C.cell k p c e h).1⟩
theorem IsL.sq (C : Core K B G ps cs H) (r : RepV K G ps v s) (h : IsL cs s xs) : ∃ a vs, v = .ref a ∧ SqL K H a vs ∧ RepVs K G ps vs xs := by
  cases h with
  | val =>
    cases (r : Rep _ _ _ _) with
    | lst h1 h2 => exact ⟨_, _, rfl, C.gh.seq h1, Reps.vs h2⟩
  | cell h =>
    obtain ⟨p, hv, _, vs, h1, h2⟩ := C.cellAt r h
    exact ⟨p, vs, hv, SqL.of h1, h2⟩
theorem Rep.tupI {ds : List PyData} (r : Rep K G v (.tuple ds)) : ∃ a vs, v = .ref a ∧ SqT K G a vs ∧ Reps K G vs ds := by
  cases r with
  | tup h1 h2 => exact ⟨_, _, rfl, h1, h2⟩
theorem Rep.lstI {ds : List PyData} (r : Rep K G v (.list ds)) : ∃ a vs, v = .ref a ∧ SqL K G a vs ∧ Reps K G vs ds := by
  cases r with
  | lst h1 h2 => exact ⟨_, _, rfl, h1, h2⟩
theorem Core.newTup (C : Core K B G ps cs H) {vs : List V} {ds : List PyData} (r : Reps K G vs ds) {Q : VK} (q : ∀ v G' ps' H', Core K B G' ps' cs H' → Up G ps G' ps' → RepV K G' ps' v (.val (.tuple ds)) → Q v H') : ∀ p, H p = none → Q (.ref p) (upd H p (.tup vs)) := fun p hp =>
  q _ _ ps _ (C.alloc (.tup vs) hp) ⟨Same.new (C.freeG hp), List.prefix_refl _⟩ (Rep.tup (SqT.of upd_same) (Reps.mono (Same.new (C.freeG hp)) r))
theorem Core.newLst (C : Core K B G ps cs H) {vs : List V} {ds : List PyData} (r : Reps K G vs ds) {Q : VK} (q : ∀ v G' ps' H', Core K B G' ps' cs H' → Up G ps G' ps' → RepV K G' ps' v (.val (.list ds)) → Q v H') : ∀ p, H p = none → Q (.ref p) (upd H p (.lst vs)) := fun p hp =>
  q _ _ ps _ (C.alloc (.lst vs) hp) ⟨Same.new (C.freeG hp), List.prefix_refl _⟩ (Rep.lst (SqL.of upd_same) (Reps.mono (Same.new (C.freeG hp)) r))
theorem pre_snoc_get (ps : List Addr) (p : Addr) : (ps ++ [p])[ps.length]? = some p := by
  rw [List.getElem?_append_right (Nat.le_refl _), Nat.sub_self]
  rfl
theorem Core.newCell (C : Core K B G ps cs H) {o : HO} {c : CC} {n : Nat} (a : AppC cs c n cs') (r : ∀ p, H p = none → RepC K G (ps ++ [p]) (upd H p o) p c) {Q : VK} (q : ∀ v G' ps' H', Core K B G' ps' cs' H' → Up G ps G' ps' → RepV K G' ps' v (.cell n) → Q v H') : ∀ p, H p = none → Q (.ref p) (upd H p o) := fun p hp => by
  obtain ⟨rfl, rfl⟩ := a.at
  exact q _ _ _ _ (C.cellNew hp (r p hp)) ⟨Same.refl _, List.prefix_append _ _⟩ ⟨p, by rw [← C.len]; exact pre_snoc_get ps p, rfl⟩
end
theorem sz {n : Nat} (h : n ≤ 1000000) : n ≤ sizeLine := Nat.le_trans h (by rw [sizeLine_eq]; decide)
theorem szl {n : Nat} (h : n ≤ 1000000) : n < sizeLine := Nat.lt_of_le_of_lt h (by rw [sizeLine_eq]; decide)

section
variable {X : Cx} {na : Nat} {sl sl' : Sl} {cs cs1 cs2 cs3 : Cs} {s t u : SV} {pos : Pos} {x : Str} {E : DEnds} {N : List Str}
/-! ### displays -/
def AD (X : Cx) (na : Nat) (es : List Expr) (sl : Sl) (cs : Cs) (ds : List PyData) (cs' : Cs) : Prop := AV X na es sl cs (ds.map SV.val) cs'
theorem ad_nil : AD X na [] sl cs [] cs := av_nil
theorem ad_cons {e : Expr} {es : List Expr} {d : PyData} {ds : List PyData} (ha : EV X na e sl cs (.val d) cs1) (hr : AD X na es sl cs1 ds cs2) (hs : starEach (e :: es) X.env = (false, eval e X.env) :: starEach es X.env := by rfl) : AD X na (e :: es) sl cs (d :: ds) cs2 := av_cons ha hr hs
theorem ev_tup {es : List Expr} {k : Nat} {ds : List PyData} (h : AD X na es sl cs ds cs1) (hz : Nat.ble ds.length 1000000 = true) : EV X na (.Tuple es k pos) sl cs (.val (.tuple ds)) cs1 :=
  ev_of (pe_tup pa_any) fun B G ps σ H hn C S Q q => h B G ps σ H hn C S _ fun vs G1 ps1 H1 C1 u1 r1 => by
    have r := Reps.ofVs r1
    exact ⟨sz (by rw [r.length]; exact Nat.le_of_ble_eq_true hz), C1.newTup r fun v G2 ps2 H2 C2 u2 => q v G2 ps2 H2 C2 (u1.trans u2)⟩
theorem ev_lstV {es : List Expr} {ds : List PyData} (h : AD X na es sl cs ds cs1) (hz : Nat.ble ds.length 1000000 = true) : EV X na (.List es pos) sl cs (.val (.list ds)) cs1 :=
  ev_of (pe_lst pa_any) fun B G ps σ H hn C S Q q => h B G ps σ H hn C S _ fun vs G1 ps1 H1 C1 u1 r1 => by
    have r := Reps.ofVs r1
    exact ⟨sz (by rw [r.length]; exact Nat.le_of_ble_eq_true hz), C1.newLst r fun v G2 ps2 H2 C2 u2 => q v G2 ps2 H2 C2 (u1.trans u2)⟩
theorem ev_lstC {es : List Expr} {ss : List SV} {n : Nat} (h : AV X na es sl cs ss cs1) (a : AppC cs1 (.lst ss) n cs2) (hz : Nat.ble ss.length 1000000 = true) : EV X na (.List es pos) sl cs (.cell n) cs2 :=
  ev_of (pe_lst pa_any) fun B G ps σ H hn C S Q q => h B G ps σ H hn C S _ fun vs G1 ps1 H1 C1 u1 r1 =>
    ⟨sz (by rw [Paired.length r1]; exact Nat.le_of_ble_eq_true hz), C1.newCell a (fun p hp => ⟨vs, upd_same, RepVs.mono ⟨Same.refl _, List.prefix_append _ _⟩ r1⟩) fun v G2 ps2 H2 C2 u2 => q v G2 ps2 H2 C2 (u1.trans u2)⟩
theorem ev_dict0 {n : Nat} (a : AppC cs (.dct []) n cs1) : EV X na (.Dict [] [] pos) sl cs (.cell n) cs1 :=
  ev_of pe_dnewK fun B G ps σ H hn C S Q q => C.newCell a (fun p hp => ⟨[], upd_same, .nil⟩) q

/-! ### items -/
theorem ev_ixT {a b : Expr} {ds : List PyData} {i : Int} {d : PyData} (ha : EV X na a sl cs (.val (.tuple ds)) cs1) (hb : EV X na b sl cs1 (.val (.int i)) cs2) (h : atI ds i = some d) (hs : PlainIx b := by exact fun _ _ => rfl) : EV X na (.Subscript a b pos) sl cs (.val d) cs2 :=
  ev_of (pe_ix ix_tup pe_any pe_any hs) (de_op ha hb fun B G ps H v w hn C r1 r2 Q q => by
    obtain ⟨p, vs, rfl, h1, h2⟩ := Rep.tupI r1
    obtain ⟨j, e1, e2, e3, e4, e5⟩ := atI_get h
    have e6 : ixN ds.length i = some j ∧ ds[j]? = some d := by
      unfold atI at h
      cases q : ixN ds.length i with
      | none => rw [q] at h; cases h
      | some j' =>
        rw [q] at h
        have := (ixN_seq q).1
        rw [this] at e1
        cases e1
        exact ⟨rfl, h⟩
    obtain ⟨z, hz, rz⟩ := h2.get e6.2
    refine ⟨p, vs, i, z, rfl, Rep.intI r2, Same.seqT C.gh h1, ?_, q z G ps H C (Up.refl _ _) rz⟩
    unfold atI
    rw [h2.length, e6.1]
    exact hz)
theorem ev_ixL {a b : Expr} {xs : List SV} {i : Int} (ha : EV X na a sl cs s cs1) (hb : EV X na b sl cs1 (.val (.int i)) cs2) (hl : IsL cs2 s xs) (h : atI xs i = some t) (hs : PlainIx b := by exact fun _ _ => rfl) : EV X na (.Subscript a b pos) sl cs t cs2 :=
  ev_of (pe_ix ix_list pe_any pe_any hs) (de_op ha hb fun B G ps H v w hn C r1 r2 Q q => by
    obtain ⟨p, vs, rfl, h1, h2⟩ := hl.sq C r1
    cases q' : ixN xs.length i with
    | none => unfold atI at h; rw [q'] at h; cases h
    | some j =>
      have h' : xs[j]? = some t := by unfold atI at h; rw [q'] at h; exact h
      obtain ⟨z, hz, rz⟩ := pd_get h2 h'
      refine ⟨p, vs, i, z, rfl, Rep.intI r2, h1, ?_, q z G ps H C (Up.refl _ _) rz⟩
      unfold atI
      rw [Paired.length h2, q']
      exact hz)
theorem atI_map {ds : List PyData} {i : Int} {d : PyData} (h : atI ds i = some d) : atI (ds.map SV.val) i = some (.val d) := by
  unfold atI at h ⊢
  rw [List.length_map]
  cases q : ixN ds.length i with
  | none => rw [q] at h; cases h
  | some j =>
    rw [q] at h
    show (ds.map SV.val)[j]? = _
    rw [List.getElem?_map, show ds[j]? = some d from h]
    rfl
theorem ev_ixLv {a b : Expr} {ds : List PyData} {i : Int} {d : PyData} (ha : EV X na a sl cs (.val (.list ds)) cs1) (hb : EV X na b sl cs1 (.val (.int i)) cs2) (h : atI ds i = some d) (hs : PlainIx b := by exact fun _ _ => rfl) : EV X na (.Subscript a b pos) sl cs (.val d) cs2 :=
  ev_ixL ha hb .val (atI_map h) hs
/-! ### built-ins by name -/
theorem ev_callB {e : Expr} {es : List Expr} {p : Pos} {id : String} {r : List V → Hp → VK → Prop} {ss : List SV} (hc : CallR X (.builtin id) r) (hv : bootBuiltins x = some (.builtin id)) (hg : Gl X x) (hm : X.mg x = none) (ha : AV X na (e :: es) sl cs ss cs1) (hr : RC X.K na r ss cs1 u cs2)
    (hn : x ≠ "__name__" := by decide) (hdb : (x == ("__debug__" : Str)) = false := by decide) (he : starEach (e :: es) X.env = (false, eval e X.env) :: starEach es X.env := by rfl) (hpl : (backTo pos (starEach es X.env)).any (·.1) = false := by rfl) : EV X na (.Call (.Name x p) (e :: es) [] pos) sl cs u cs2 :=
  ev_of (pe_callB hc hg hm hv pa_any hn hdb he hpl) (de_cb ha hr)
theorem ev_callTy {e : Expr} {es : List Expr} {p : Pos} {T : String} {r : List V → Hp → VK → Prop} {ss : List SV} (hc : CallR X (.type T) r) (hv : bootBuiltins x = some (.type T)) (hg : Gl X x) (hm : X.mg x = none) (ha : AV X na (e :: es) sl cs ss cs1) (hr : RC X.K na r ss cs1 u cs2)
    (hn : x ≠ "__name__" := by decide) (hdb : (x == ("__debug__" : Str)) = false := by decide) (he : starEach (e :: es) X.env = (false, eval e X.env) :: starEach es X.env := by rfl) (hpl : (backTo pos (starEach es X.env)).any (·.1) = false := by rfl) : EV X na (.Call (.Name x p) (e :: es) [] pos) sl cs u cs2 :=
  ev_of (pe_callTy hc hg hm hv pa_any hn hdb he hpl) (de_cb ha hr)
section
variable {a : Expr} {p : Pos}
theorem rc1 {K : PySem.W.Frag} {r : List V → Hp → VK → Prop} (h : ∀ B G ps H v, B.As.length = na → Core K B G ps cs H → RepV K G ps v s → ∀ Q : VK, (∀ z G' ps' H', Core K B G' ps' cs1 H' → Up G ps G' ps' → RepV K G' ps' z u → Q z H') → r [v] H Q) : RC K na r [s] cs u cs1 := fun B G ps H vs hn C rr Q q => by
  cases rr with
  | cons r1 r2 =>
    cases r2
    exact h B G ps H _ hn C r1 Q q
theorem rc_lenL {xs : List SV} (hl : IsL cs s xs) : RC X.K na (fun xs H Q => ∃ p ys, xs = [.ref p] ∧ (SqL X.K H p ys ∨ SqT X.K H p ys) ∧ Q (.int ys.length) H) [s] cs (.val (.int (xs.length : Int))) cs := rc1 fun B G ps H v hn C r1 Q q => by
  obtain ⟨p, ws, rfl, h1, h2⟩ := hl.sq C r1
  exact ⟨p, ws, rfl, .inl h1, q _ G ps H C (Up.refl _ _) (by rw [Paired.length h2]; exact Rep.int _)⟩
theorem rc_lenLv {ds : List PyData} : RC X.K na (fun xs H Q => ∃ p ys, xs = [.ref p] ∧ (SqL X.K H p ys ∨ SqT X.K H p ys) ∧ Q (.int ys.length) H) [.val (.list ds)] cs (.val (.int (ds.length : Int))) cs := by
  have h := rc_lenL (X := X) (na := na) (IsL.val (cs := cs) (ds := ds))
  rw [List.length_map] at h
  exact h
theorem rc_lenT {ds : List PyData} : RC X.K na (fun xs H Q => ∃ p ys, xs = [.ref p] ∧ (SqL X.K H p ys ∨ SqT X.K H p ys) ∧ Q (.int ys.length) H) [.val (.tuple ds)] cs (.val (.int (ds.length : Int))) cs := rc1 fun B G ps H v hn C r1 Q q => by
  obtain ⟨p, ws, rfl, h1, h2⟩ := Rep.tupI r1
  exact ⟨p, ws, rfl, .inr (Same.seqT C.gh h1), q _ G ps H C (Up.refl _ _) (by rw [h2.length]; exact Rep.int _)⟩
theorem ev_len (hm : X.mg "len" = none) (hg : Gl X "len") (ha : EV X na a sl cs s cs1) (hr : RC X.K na (fun xs H Q => ∃ p ys, xs = [.ref p] ∧ (SqL X.K H p ys ∨ SqT X.K H p ys) ∧ Q (.int ys.length) H) [s] cs1 u cs1)
    (hs : starEach [a] X.env = (false, eval a X.env) :: starEach [] X.env := by rfl) : EV X na (.Call (.Name "len" p) [a] [] pos) sl cs u cs1 :=
  ev_callB call_len_seq boot_len hg hm (av_cons ha av_nil hs) hr (by decide) (by decide) hs
/-- tuple(x) of a list, of a tuple -/
theorem ev_tupleL {ds : List PyData} (hm : X.mg "tuple" = none) (hg : Gl X "tuple") (ha : EV X na a sl cs s cs1) (hl : IsL cs1 s (ds.map SV.val)) (hs : starEach [a] X.env = (false, eval a X.env) :: starEach [] X.env := by rfl) : EV X na (.Call (.Name "tuple" p) [a] [] pos) sl cs (.val (.tuple ds)) cs1 :=
  ev_callTy call_tuple_of (by decide +kernel) hg hm (av_cons ha av_nil hs) (rc1 fun B G ps H v hn C r1 Q q => by
    obtain ⟨p, ws, rfl, h1, h2⟩ := hl.sq C r1
    exact ⟨p, ws, rfl, .inl ⟨h1, C.newTup (Reps.ofVs h2) q⟩⟩) (by decide) (by decide) hs
theorem ev_tupleT {ds : List PyData} (hm : X.mg "tuple" = none) (hg : Gl X "tuple") (ha : EV X na a sl cs (.val (.tuple ds)) cs1) (hs : starEach [a] X.env = (false, eval a X.env) :: starEach [] X.env := by rfl) : EV X na (.Call (.Name "tuple" p) [a] [] pos) sl cs (.val (.tuple ds)) cs1 :=
  ev_callTy call_tuple_of (by decide +kernel) hg hm (av_cons ha av_nil hs) (rc1 fun B G ps H v hn C r1 Q q => by
    have r0 := r1
    obtain ⟨p, ws, rfl, h1, h2⟩ := Rep.tupI r1
    exact ⟨p, ws, rfl, .inr ⟨Same.seqT C.gh h1, q _ G ps H C (Up.refl _ _) r0⟩⟩) (by decide) (by decide) hs
/-- list(x): of a list or a tuple -/
inductive IsQ (cs : Cs) : SV → List SV → Prop
  | l {s : SV} {xs : List SV} : IsL cs s xs → IsQ cs s xs
  | t {ds : List PyData} : IsQ cs (.val (.tuple ds)) (ds.map SV.val)
theorem IsQ.sq {K : PySem.W.Frag} {B : Bs} {G : Hp} {ps : List Addr} {H : Hp} {v : V} {xs : List SV} (C : Core K B G ps cs H) (r : RepV K G ps v s) (h : IsQ cs s xs) : ∃ a vs, v = .ref a ∧ (SqL K H a vs ∨ SqT K H a vs) ∧ RepVs K G ps vs xs := by
  cases h with
  | l h =>
    obtain ⟨a, vs, e, h1, h2⟩ := h.sq C r
    exact ⟨a, vs, e, .inl h1, h2⟩
  | t =>
    obtain ⟨a, vs, e, h1, h2⟩ := Rep.tupI r
    exact ⟨a, vs, e, .inr (Same.seqT C.gh h1), Reps.vs h2⟩
theorem ev_listC {xs : List SV} {n : Nat} (hm : X.mg "list" = none) (hg : Gl X "list") (ha : EV X na a sl cs s cs1) (hl : IsQ cs1 s xs) (ac : AppC cs1 (.lst xs) n cs2) (hs : starEach [a] X.env = (false, eval a X.env) :: starEach [] X.env := by rfl) : EV X na (.Call (.Name "list" p) [a] [] pos) sl cs (.cell n) cs2 :=
  ev_callTy call_list_of (by decide +kernel) hg hm (av_cons ha av_nil hs) (rc1 fun B G ps H v hn C r1 Q q => by
    obtain ⟨p, ws, rfl, h1, h2⟩ := hl.sq C r1
    exact ⟨p, ws, rfl, h1, C.newCell ac (fun p hp => ⟨ws, upd_same, RepVs.mono ⟨Same.refl _, List.prefix_append _ _⟩ h2⟩) q⟩) (by decide) (by decide) hs
theorem ev_listV {ds : List PyData} (hm : X.mg "list" = none) (hg : Gl X "list") (ha : EV X na a sl cs s cs1) (hl : IsQ cs1 s (ds.map SV.val)) (hs : starEach [a] X.env = (false, eval a X.env) :: starEach [] X.env := by rfl) : EV X na (.Call (.Name "list" p) [a] [] pos) sl cs (.val (.list ds)) cs1 :=
  ev_callTy call_list_of (by decide +kernel) hg hm (av_cons ha av_nil hs) (rc1 fun B G ps H v hn C r1 Q q => by
    obtain ⟨p, ws, rfl, h1, h2⟩ := hl.sq C r1
    exact ⟨p, ws, rfl, h1, C.newLst (Reps.ofVs h2) q⟩) (by decide) (by decide) hs
theorem rc_ints2 {K : PySem.W.Frag} {i j : Int} {f : Int → Int → Int} : RC K na (fun xs H Q => ∃ i j, xs = [.int i, .int j] ∧ Q (.int (f i j)) H) [.val (.int i), .val (.int j)] cs (.val (.int (f i j))) cs := fun B G ps H vs hn C r Q q => by
  cases r with
  | cons r1 r2 =>
    cases r2 with
    | cons r2 r3 =>
      cases r3
      exact ⟨i, j, by rw [Rep.intI r1, Rep.intI r2], q _ G ps H C (Up.refl _ _) (Rep.int _)⟩
theorem ev_max2 {b : Expr} {i j : Int} (hc : X.calm = true) (hm : X.mg "max" = none) (hg : Gl X "max") (ha : EV X na a sl cs (.val (.int i)) cs1) (hb : EV X na b sl cs1 (.val (.int j)) cs2) (hs : starEach [a, b] X.env = (false, eval a X.env) :: starEach [b] X.env := by rfl)
    (hs2 : starEach [b] X.env = (false, eval b X.env) :: starEach [] X.env := by rfl) (hpl : (backTo pos (starEach [b] X.env)).any (·.1) = false := by rfl) : EV X na (.Call (.Name "max" p) [a, b] [] pos) sl cs (.val (.int (if j > i then j else i))) cs2 :=
  ev_callB (call_max2 hc) (by decide +kernel) hg hm (av_cons ha (av_cons hb av_nil hs2) hs) (rc_ints2 (f := fun i j => if j > i then j else i)) (by decide) (by decide) hs hpl
theorem ev_min2 {b : Expr} {i j : Int} (hc : X.calm = true) (hm : X.mg "min" = none) (hg : Gl X "min") (ha : EV X na a sl cs (.val (.int i)) cs1) (hb : EV X na b sl cs1 (.val (.int j)) cs2) (hs : starEach [a, b] X.env = (false, eval a X.env) :: starEach [b] X.env := by rfl)
    (hs2 : starEach [b] X.env = (false, eval b X.env) :: starEach [] X.env := by rfl) (hpl : (backTo pos (starEach [b] X.env)).any (·.1) = false := by rfl) : EV X na (.Call (.Name "min" p) [a, b] [] pos) sl cs (.val (.int (if j < i then j else i))) cs2 :=
  ev_callB (call_min2 hc) (by decide +kernel) hg hm (av_cons ha (av_cons hb av_nil hs2) hs) (rc_ints2 (f := fun i j => if j < i then j else i)) (by decide) (by decide) hs hpl
/-- int(x) of a truth, of an int -/
theorem ev_intB {k : Bool} (hm : X.mg "int" = none) (hg : Gl X "int") (ha : EV X na a sl cs (.val (.bool k)) cs1) (hs : starEach [a] X.env = (false, eval a X.env) :: starEach [] X.env := by rfl) : EV X na (.Call (.Name "int" p) [a] [] pos) sl cs (.val (.int (if k then 1 else 0))) cs1 :=
  ev_callTy call_int1 (by decide +kernel) hg hm (av_cons ha av_nil hs) (rc1 fun B G ps H v hn C r1 Q q => .inr ⟨k, by rw [Rep.boolI r1], q _ G ps H C (Up.refl _ _) (Rep.int _)⟩) (by decide) (by decide) hs
end
/-! ### methods of a list, stores -/
theorem ev_append {o e : Expr} {apos : Pos} {k : Nat} {xs ys : List SV} (ho : EV X na o sl cs (.cell k) cs1) (he : EV X na e sl cs1 s cs2) (hc1 : cs1[k]? = some (.lst ys)) (hc : cs2[k]? = some (.lst xs)) (p : PutC cs2 k (.lst (xs ++ [s])) cs3) (hz : xs.length ≤ 1000000)
    (hs : starEach [e] X.env = (false, eval e X.env) :: starEach [] X.env := by rfl)
    (hbase : attributeBase o "append" X.env (eval o X.env) = eval o X.env := by rfl) (hfew : ((backTo pos (starEach (e :: []) X.env)).all (fun x => !x.1) && (backToKw pos (keywordEach [] X.env)).all (fun x => x.1.isSome)
      && decide ((e :: []).length + ([] : List Keyword).length + (if ([] : List Keyword).isEmpty then 0 else 1) < 30)) = true := by rfl)
    (hline : (apos.endLine == pos.line) = true := by rfl) (hplain : (backTo pos (starEach [] X.env)).any (·.1) = false := by rfl) :
    EV X na (.Call (.Attribute o "append" apos) [e] [] pos) sl cs (.val .none) cs3 :=
  ev_of (pe_bm PySem.F.plainAttrs_list PySem.F.slot_list_append PySem.F.type_list_append mt_append pe_any pa_any hbase hfew hline hs hplain) fun B G ps σ H hn C S Q q => ho B G ps σ H hn C S _ fun v G1 ps1 H1 C1 u1 r1 => by
    obtain ⟨a, ea, rfl⟩ := r1
    obtain ⟨ws, hw, _⟩ := (C1.cell k a _ ea hc1).1
    refine ⟨.inl ⟨rfl, ws, SqL.of hw⟩, av_cons he av_nil hs B G1 ps1 σ H1 hn C1 (Slots.mono u1 S) _ fun vs G2 ps2 H2 C2 u2 r2 => ?_⟩
    cases r2 with
    | cons r2 r3 =>
      cases r3
      have ea2 := pre_get u2.p ea
      obtain ⟨zs, hz2, rz⟩ := (C2.cell k a _ ea2 hc).1
      rw [p.at] at q
      exact ⟨a, zs, _, rfl, rfl, hz2, szl (by rw [Paired.length rz]; exact hz), q _ G2 ps2 _ (C2.put ea2 hc (by intro z; cases z) ⟨_, upd_same, pd_app rz (.cons r2 .nil)⟩) (u1.trans u2) Rep.non⟩
/-- xs[i] = v -/
theorem s1_lput {o i v : Expr} {p2 : Pos} {k j : Nat} {xs : List SV} {z : Int} (hv : EV X na v sl cs s cs1) (ho : EV X na o sl cs1 (.cell k) cs2) (hi : EV X na i sl cs2 (.val (.int z)) cs2) (hc : cs2[k]? = some (.lst xs)) (hj : ixN xs.length z = some j) (p : PutC cs2 k (.lst (xs.set j s)) cs3) (q : E.nx sl cs3)
    (hs : swapsWithSole [.Subscript o i p2] v pos.line X.env = pure false := by rfl) (hw : swappedStores [.Subscript o i p2] v X.env = pure none := by rfl)
    (h1 : (assignEach [.Subscript o i p2] X.env).map (·.2) = [assign (.Subscript o i p2) X.env] := by rfl)
    (ha : ∀ v, assign (.Subscript o i p2) X.env v = (do
      let ov ← holding [v] (eval o X.env)
      let iv ← holding [v, ov] (eval i X.env)
      standAt p2
      holding [v, ov, iv] (setItem ov iv v)
      release [v, ov, iv] []) := by intro _; rfl) : S1 X na (.Assign [.Subscript o i p2] v pos) sl cs E :=
  s1_of (ps_asg pe_any (pg_sub pe_any pe_any set_list ha) hs hw h1) fun B G ps σ H hn C S D L => hv B G ps σ H hn C S _ fun w G1 ps1 H1 C1 u1 r1 =>
    ho B G1 ps1 σ H1 hn C1 (Slots.mono u1 S) _ fun w2 G2 ps2 H2 C2 u2 r2 => hi B G2 ps2 σ H2 hn C2 (Slots.mono (u1.trans u2) S) _ fun w3 G3 ps3 H3 C3 u3 r3 => by
      have r2' := RepV.mono u3 r2
      obtain ⟨a, rfl, ea, ws, hws, rws⟩ := C3.cellAt r2' hc
      refine ⟨a, ws, z, j, rfl, Rep.intI r3, hws, by rw [Paired.length rws]; exact hj, ?_⟩
      rw [p.at] at q
      exact L.nx sl _ G3 ps3 σ _ (C3.put (c' := .lst (xs.set j s)) ea hc (by intro z; cases z) ⟨_, upd_same, pd_set (RepV.mono (u2.trans u3) r1) j rws⟩) ((u1.trans u2).trans u3) (Slots.mono ((u1.trans u2).trans u3) S) q
end
end DL
namespace DL
open PySem PySem.Spec PyProof.Rows L2

/-! ### cells that hold data alone -/
def SV.isVal : SV → Bool
  | .val _ => true
  | .cell _ => false
def CC.flat : CC → Bool
  | .lst xs => xs.all SV.isVal
  | .dct kvs => kvs.all fun kv => SV.isVal kv.2
  | .ins _ fs => fs.all fun kv => SV.isVal kv.2
  | .dead => true
  | .frz _ _ kvs => kvs.all fun kv => SV.isVal kv.2
  | .tup xs => xs.all SV.isVal
section
variable {K : PySem.W.Frag} {G G' : Hp} {ps ps' : List Addr} {H H' : Hp} {B : Bs} {cs cs' : Cs}
theorem RepV.flat {v : V} : ∀ {s : SV}, RepV K G ps v s → s.isVal = true → RepV K G ps' v s
  | .val _, h, _ => h
  | .cell _, _, l => by cases l
theorem RepVs.flat : ∀ {vs : List V} {ss : List SV}, RepVs K G ps vs ss → ss.all SV.isVal = true → RepVs K G ps' vs ss
  | _, _, .nil, _ => .nil
  | _, _, .cons h t, l => by
    rw [List.all_cons, Bool.and_eq_true] at l
    exact .cons (RepV.flat h l.1) (RepVs.flat t l.2)
theorem RepKs.flat {κ : Type} : ∀ {vs : List (κ × V)} {ss : List (κ × SV)}, RepKs K G ps vs ss → (ss.all fun kv => SV.isVal kv.2) = true → RepKs K G ps' vs ss
  | _, _, .nil, _ => .nil
  | _, _, .cons h t, l => by
    rw [List.all_cons, Bool.and_eq_true] at l
    exact .cons ⟨h.1, RepV.flat h.2 l.1⟩ (RepKs.flat t l.2)
theorem RepC.flat {p : Addr} {c : CC} (h : RepC K G ps H p c) (l : c.flat = true) : RepC K G ps' H p c := by
  cases c with
  | lst xs => obtain ⟨vs, e, r⟩ := h; exact ⟨vs, e, RepVs.flat r l⟩
  | dct xs => obtain ⟨vs, e, r⟩ := h; exact ⟨vs, e, RepKs.flat r l⟩
  | ins _ _ => obtain ⟨dx, vs, e, r⟩ := h; exact ⟨dx, vs, e, RepKs.flat r l⟩
  | dead => exact h
  | frz _ _ _ => exact ⟨h.1, RepKs.flat h.2 l⟩
  | tup xs => obtain ⟨vs, e, r⟩ := h; exact ⟨vs, e, RepVs.flat r l⟩
end
def pick (ps : List Addr) (κ : List Nat) : List Addr := κ.map fun k => ps.getD k 0
/-! ### cells within cells: numbers exchanged -/
def SV.ren (f : Nat → Nat) : SV → SV
  | .val d => .val d
  | .cell k => .cell (f k)
def CC.ren (f : Nat → Nat) : CC → CC
  | .lst xs => .lst (xs.map (SV.ren f))
  | .dct kvs => .dct (kvs.map fun kv => (kv.1, SV.ren f kv.2))
  | .ins C fs => .ins C (fs.map fun kv => (kv.1, SV.ren f kv.2))
  | .dead => .dead
  | .frz od us kvs => .frz od us (kvs.map fun kv => (kv.1, SV.ren f kv.2))
  | .tup xs => .tup (xs.map (SV.ren f))
/-- all cells within are among these -/
def SV.amid (P : Nat → Bool) : SV → Bool
  | .val _ => true
  | .cell k => P k
def CC.amid (P : Nat → Bool) : CC → Bool
  | .lst xs => xs.all (SV.amid P)
  | .dct kvs => kvs.all fun kv => SV.amid P kv.2
  | .ins _ fs => fs.all fun kv => SV.amid P kv.2
  | .dead => true
  | .frz _ _ kvs => kvs.all fun kv => SV.amid P kv.2
  | .tup xs => xs.all (SV.amid P)
section
variable {K : PySem.W.Frag} {G G' : Hp} {ps ps' : List Addr} {H H' : Hp} {B : Bs} {cs cs' : Cs} {f : Nat → Nat} {P : Nat → Bool}
theorem RepV.ren (hf : ∀ k p, P k = true → ps[k]? = some p → ps'[f k]? = some p) {v : V} : ∀ {s : SV}, RepV K G ps v s → s.amid P = true → RepV K G ps' v (s.ren f)
  | .val _, h, _ => h
  | .cell k, ⟨p, e, hv⟩, l => ⟨p, hf k p l e, hv⟩
theorem RepVs.ren (hf : ∀ k p, P k = true → ps[k]? = some p → ps'[f k]? = some p) : ∀ {vs : List V} {ss : List SV}, RepVs K G ps vs ss → ss.all (SV.amid P) = true → RepVs K G ps' vs (ss.map (SV.ren f))
  | _, _, .nil, _ => .nil
  | _, _, .cons h t, l => by
    rw [List.all_cons, Bool.and_eq_true] at l
    exact .cons (RepV.ren hf h l.1) (RepVs.ren hf t l.2)
theorem RepKs.ren {κ : Type} (hf : ∀ k p, P k = true → ps[k]? = some p → ps'[f k]? = some p) : ∀ {vs : List (κ × V)} {ss : List (κ × SV)}, RepKs K G ps vs ss → (ss.all fun kv => SV.amid P kv.2) = true → RepKs K G ps' vs (ss.map fun kv => (kv.1, SV.ren f kv.2))
  | _, _, .nil, _ => .nil
  | _, _, .cons h t, l => by
    rw [List.all_cons, Bool.and_eq_true] at l
    exact .cons ⟨h.1, RepV.ren hf h.2 l.1⟩ (RepKs.ren hf t l.2)
theorem RepC.ren (hf : ∀ k p, P k = true → ps[k]? = some p → ps'[f k]? = some p) {p : Addr} {c : CC} (h : RepC K G ps H p c) (l : c.amid P = true) : RepC K G ps' H p (c.ren f) := by
  cases c with
  | lst xs => obtain ⟨vs, e, r⟩ := h; exact ⟨vs, e, RepVs.ren hf r l⟩
  | dct xs => obtain ⟨vs, e, r⟩ := h; exact ⟨vs, e, RepKs.ren hf r l⟩
  | ins _ _ => obtain ⟨dx, vs, e, r⟩ := h; exact ⟨dx, vs, e, RepKs.ren hf r l⟩
  | dead => exact h
  | frz _ _ _ => exact ⟨h.1, RepKs.ren hf h.2 l⟩
  | tup xs => obtain ⟨vs, e, r⟩ := h; exact ⟨vs, e, RepVs.ren hf r l⟩
theorem ren_flat {c : CC} (h : c.flat = true) : c.ren f = c ∧ c.amid P = true := by
  have s1 : ∀ s : SV, s.isVal = true → s.ren f = s ∧ s.amid P = true := fun s h => by
    cases s with
    | val _ => exact ⟨rfl, rfl⟩
    | cell _ => cases h
  have l1 : ∀ xs : List SV, xs.all SV.isVal = true → xs.map (SV.ren f) = xs ∧ xs.all (SV.amid P) = true := fun xs h => by
    rw [List.all_eq_true] at h
    refine ⟨?_, List.all_eq_true.mpr fun x hx => (s1 x (h x hx)).2⟩
    rw [List.map_congr_left (g := id) fun x hx => (s1 x (h x hx)).1, List.map_id]
  have k1 : ∀ {κ : Type} (xs : List (κ × SV)), (xs.all fun kv => SV.isVal kv.2) = true → (xs.map fun kv => (kv.1, SV.ren f kv.2)) = xs ∧ (xs.all fun kv => SV.amid P kv.2) = true := fun xs h => by
    rw [List.all_eq_true] at h
    refine ⟨?_, List.all_eq_true.mpr fun x hx => (s1 x.2 (h x hx)).2⟩
    rw [List.map_congr_left (g := id) fun x hx => by rw [(s1 x.2 (h x hx)).1]; rfl, List.map_id]
  cases c with
  | lst xs => exact ⟨congrArg CC.lst (l1 xs h).1, (l1 xs h).2⟩
  | dct xs => exact ⟨congrArg CC.dct (k1 xs h).1, (k1 xs h).2⟩
  | ins C xs => exact ⟨congrArg (CC.ins C) (k1 xs h).1, (k1 xs h).2⟩
  | dead => exact ⟨rfl, rfl⟩
  | frz a b xs => exact ⟨congrArg (CC.frz a b) (k1 xs h).1, (k1 xs h).2⟩
  | tup xs => exact ⟨congrArg CC.tup (l1 xs h).1, (l1 xs h).2⟩
/-- c is told as c' when cells are numbered by f; only those of P stand within -/
inductive RenC (P : Nat → Bool) (f : Nat → Nat) : CC → CC → Prop
  | flat {c : CC} : c.flat = true → RenC P f c c
  | ren {c c' : CC} : c.amid P = true → c.ren f = c' → RenC P f c c'
theorem RenC.rep (hf : ∀ k p, P k = true → ps[k]? = some p → ps'[f k]? = some p) {p : Addr} {c c' : CC} (r : RenC P f c c') (h : RepC K G ps H p c) : RepC K G ps' H p c' := by
  cases r with
  | flat l => exact RepC.flat h l
  | ren l e => subst e; exact RepC.ren hf h l
theorem RenC.dead {c c' : CC} (r : RenC P f c c') : c = .dead ↔ c' = .dead := by
  cases r with
  | flat l => exact Iff.rfl
  | ren l e =>
    subst e
    cases c <;> simp [CC.ren]
end

/-- some cells alone, numbered anew -/
inductive SelR (cs : Cs) (κ0 : List Nat) : List Nat → Cs → Prop
  | nil : SelR cs κ0 [] []
  | cons {k : Nat} {c c' : CC} {κ : List Nat} {d : Cs} : cs[k]? = some c → RenC (fun k => κ0.contains k) (fun k => κ0.idxOf k) c c' → SelR cs κ0 κ d → SelR cs κ0 (k :: κ) (c' :: d)
section
variable {K : PySem.W.Frag} {G G' : Hp} {ps ps' : List Addr} {H H' : Hp} {B : Bs} {cs cs' : Cs}
theorem SelR.length {κ0 : List Nat} : ∀ {κ : List Nat} {d : Cs}, SelR cs κ0 κ d → κ.length = d.length
  | _, _, .nil => rfl
  | _, _, .cons _ _ t => congrArg (· + 1) t.length
theorem SelR.get {κ0 : List Nat} : ∀ {κ : List Nat} {d : Cs}, SelR cs κ0 κ d → ∀ {j k : Nat}, κ[j]? = some k → ∃ c c', d[j]? = some c' ∧ cs[k]? = some c ∧ RenC (fun k => κ0.contains k) (fun k => κ0.idxOf k) c c'
  | _, _, .nil, j, k, h => by simp at h
  | _, _, .cons a b t, 0, k, h => by
    simp at h
    subst h
    exact ⟨_, _, rfl, a, b⟩
  | _, _, .cons a b t, j + 1, k, h => by
    obtain ⟨c, c', h1, h2⟩ := t.get (j := j) (k := k) (by simpa using h)
    exact ⟨c, c', by simpa using h1, h2⟩
theorem pick_at (C : Core K B G ps cs H) {κ0 κ : List Nat} {d : Cs} (S : SelR cs κ0 κ d) {j : Nat} {p : Addr} (h : (pick ps κ)[j]? = some p) : ∃ k c c', κ[j]? = some k ∧ ps[k]? = some p ∧ d[j]? = some c' ∧ cs[k]? = some c ∧ RenC (fun k => κ0.contains k) (fun k => κ0.idxOf k) c c' := by
  unfold pick at h
  rw [List.getElem?_map] at h
  cases hk : κ[j]? with
  | none => rw [hk] at h; cases h
  | some k =>
    rw [hk] at h
    obtain ⟨c, c', h1, h2, h3⟩ := S.get hk
    obtain ⟨q, hq⟩ := C.addr h2
    have e : ps.getD k 0 = q := by simp [List.getD, hq]
    have h' : some (ps.getD k 0) = some p := h
    rw [e] at h'
    cases h'
    exact ⟨k, c, c', rfl, hq, h1, h2, h3⟩
theorem pickR_nd (C : Core K B G ps cs H) {κ0 : List Nat} : ∀ {κ : List Nat} {d : Cs}, SelR cs κ0 κ d → κ.Nodup → (pick ps κ).Nodup
  | _, _, .nil, _ => List.Pairwise.nil
  | k :: κ, _ :: d, .cons a b t, nd => by
    obtain ⟨n1, n2⟩ := List.nodup_cons.mp nd
    refine List.nodup_cons.mpr ⟨fun m => ?_, pickR_nd C t n2⟩
    obtain ⟨j, hj⟩ := List.getElem?_of_mem m
    obtain ⟨k', c', _, h1, h2, _⟩ := pick_at C t hj
    obtain ⟨q, hq⟩ := C.addr a
    have e : ps.getD k 0 = q := by simp [List.getD, hq]
    have h2' : ps[k']? = some (ps.getD k 0) := h2
    rw [e] at h2'
    have := nd_at C.nd hq h2'
    subst this
    exact n1 (List.mem_of_getElem? h1)
theorem pick_idx {κ : List Nat} {k : Nat} {p : Addr} (hk : κ.contains k = true) (e : ps[k]? = some p) : (pick ps κ)[κ.idxOf k]? = some p := by
  have hm : k ∈ κ := by simpa using hk
  have hl := List.idxOf_lt_length_iff.mpr hm
  unfold pick
  rw [List.getElem?_map, List.getElem?_eq_getElem hl, List.getElem_idxOf hl]
  show some (ps.getD k 0) = some p
  simp [List.getD, e]
theorem Core.subG (C : Core K B G ps cs H) {κ : List Nat} {d : Cs} (S : SelR cs κ κ d) (nd : κ.Nodup) (pre : B.As <+: pick ps κ) : Core K B G (pick ps κ) d H where
  g0 := C.g0
  h0 := C.h0
  gh := C.gh
  nw := C.nw
  len := by rw [← S.length]; exact List.length_map _
  pre := pre
  nd := pickR_nd C S nd
  cell j p c e hc := by
    obtain ⟨k, c0, c', h1, h2, h3, h4, h5⟩ := pick_at C S e
    rw [hc] at h3
    cases h3
    obtain ⟨g1, g2, g3⟩ := C.cell k p c0 h2 h4
    exact ⟨RenC.rep (fun k p hk e => pick_idx hk e) h5 g1, g2, g3.imp h5.dead.mp id⟩
end
/-! ### what is walked -/
/-- the items xs come one after another, while the cells are as GC says -/
def DI (K : PySem.W.Frag) (na : Nat) (wi : TI) (sl : Sl) (cs : Cs) (xs : List SV) (GC : Cs → Prop) (cs1 : Cs) : Prop := ∀ B G ps σ H, B.As.length = na → Core K B G ps cs H → Slots K G ps σ sl → ∀ R : It → Hp → Prop,
  (∀ (J : It) (HG : Hp → Prop) (Y : Nat → Hp → V → Hp → Prop) G1 ps1 H1, Core K B G1 ps1 cs1 H1 → Up G ps G1 ps1 → Walk J xs.length HG Y →
    (∀ G' ps' cs' H', Core K B G' ps' cs' H' → Up G1 ps1 G' ps' → GC cs' → HG H') →
    (∀ i H' x H'' G' ps' cs', Y i H' x H'' → Core K B G' ps' cs' H' → Up G1 ps1 G' ps' → GC cs' → ∃ s G'', xs[i]? = some s ∧ Core K B G'' ps' cs' H'' ∧ Up G' ps' G'' ps' ∧ RepV K G'' ps' x s ∧ Same H' H'' ∧ ∀ b, G'' b ≠ none → G' b ≠ none ∨ H' b = none) → R J H1) → wi σ H R
def anyI (X : Cx) (tg iter : Expr) : TI := fun σ H R => ∃ wi, PI X tg iter wi ∧ wi σ H R
theorem pi_any {X : Cx} {tg iter : Expr} : PI X tg iter (anyI X tg iter) := ⟨fun pins s σ H R I ⟨_, p, h⟩ => p.run pins s σ H R I h⟩
def IV (X : Cx) (na : Nat) (tg iter : Expr) (sl : Sl) (cs : Cs) (xs : List SV) (GC : Cs → Prop) (cs1 : Cs) : Prop := DI X.K na (anyI X tg iter) sl cs xs GC cs1
section
variable {X : Cx} {na : Nat} {sl sl' : Sl} {cs cs1 cs2 cs3 : Cs} {s t u : SV} {pos : Pos} {x : Str} {E : DEnds} {N : List Str} {tg iter : Expr} {xs : List SV} {GC : Cs → Prop}
theorem iv_of {wi : TI} (p : PI X tg iter wi) (d : DI X.K na wi sl cs xs GC cs1) : IV X na tg iter sl cs xs GC cs1 := fun B G ps σ H hn C S R r => ⟨wi, p, d B G ps σ H hn C S R r⟩
/-! ### less is known -/
inductive Le : Sl → Sl → Prop
  | nil : Le [] []
  | same {o : Option SV} {a b : Sl} : Le a b → Le (o :: a) (o :: b)
  | lose {o : Option SV} {a b : Sl} : Le a b → Le (none :: a) (o :: b)
theorem Le.refl : ∀ a : Sl, Le a a
  | [] => .nil
  | _ :: r => .same (Le.refl r)
theorem Le.slots {K : PySem.W.Frag} {G : Hp} {ps : List Addr} : ∀ {a b : Sl} {σ : L2.St}, Le a b → Slots K G ps σ b → Slots K G ps σ a
  | _, _, _, .nil, h => h
  | _, _, _, .same l, .cons h t => .cons h (Le.slots l t)
  | _, _, _, .lose l, .cons _ t => .cons (by rename_i a _; cases a <;> trivial) (Le.slots l t)
theorem sx_weak {st : List Stmt} (l : Le sl' sl) (h : SX X na st sl' cs E) : SX X na st sl cs E := fun B G ps σ H hn C S D L => h B G ps σ H hn C (l.slots S) D L
theorem s1_weak {st : Stmt} (l : Le sl' sl) (h : S1 X na st sl' cs E) : S1 X na st sl cs E := fun B G ps σ H hn C S D L => h B G ps σ H hn C (l.slots S) D L
def okS (n : Nat) : Option SV → Bool
  | some s => SV.lt n s
  | none => true
def okA (κ : List Nat) : Option SV → Bool
  | some s => s.amid fun k => κ.contains k
  | none => true
/-- what holds of the slots and of the first n cells -/
inductive At (n : Nat) (a : Sl) (c : Cs) : Sl → Cs → Prop
  | same {b : Sl} : Le a b → At n a c b c
  | drop {b : Sl} {d : Cs} : Le a b → a.all (okS n) = true → c.all (CC.lt n) = true → d.take n = c → At n a c b d
  | gen {a' b : Sl} {d : Cs} (κs κ : List Nat) : Le a' b → List.range n ++ κs = κ → κ.Nodup → SelR d κ κ c → a'.all (okA κ) = true → a'.map (Option.map (SV.ren fun k => κ.idxOf k)) = a → At n a c b d
theorem Slots.ren {K : PySem.W.Frag} {G : Hp} {ps : List Addr} {κ : List Nat} : ∀ {σ : L2.St} {a : Sl}, Slots K G ps σ a → a.all (okA κ) = true → Slots K G (pick ps κ) σ (a.map (Option.map (SV.ren fun k => κ.idxOf k)))
  | _, _, .nil, _ => .nil
  | _, o :: _, .cons h t, l => by
    rw [List.all_cons, Bool.and_eq_true] at l
    refine .cons ?_ (Slots.ren t l.2)
    rename_i v _
    cases o with
    | none => cases v <;> trivial
    | some s =>
      cases v with
      | none => exact h
      | some v => exact RepV.ren (fun k p hk e => pick_idx hk e) h l.1
theorem pick_range {ps1 ps : List Addr} (h : ps1 <+: ps) : pick ps (List.range ps1.length) = ps1 := by
  obtain ⟨t, ht⟩ := h
  apply List.ext_getElem?
  intro i
  unfold pick
  rw [List.getElem?_map]
  by_cases hi : i < ps1.length
  · rw [List.getElem?_range hi, ← ht]
    show some ((ps1 ++ t).getD i 0) = _
    rw [List.getD_eq_getElem?_getD, List.getElem?_append_left hi, List.getElem?_eq_getElem hi]
    rfl
  · rw [List.getElem?_eq_none (by rw [List.length_range]; omega), List.getElem?_eq_none (by omega)]
    rfl
theorem Slots.take {K : PySem.W.Frag} {G : Hp} {ps : List Addr} {n : Nat} : ∀ {σ : L2.St} {a : Sl}, Slots K G ps σ a → a.all (okS n) = true → Slots K G (ps.take n) σ a
  | _, _, .nil, _ => .nil
  | _, o :: _, .cons h t, l => by
    rw [List.all_cons, Bool.and_eq_true] at l
    refine .cons ?_ (Slots.take t l.2)
    rename_i v _
    cases o with
    | none => cases v <;> trivial
    | some s =>
      cases v with
      | none => exact h
      | some v => exact RepV.take h l.1
theorem At.go {K : PySem.W.Frag} {B : Bs} {G1 G : Hp} {ps1 ps : List Addr} {n : Nat} {a b : Sl} {c d : Cs} {σ : L2.St} {H : Hp} (h : At n a c b d) (hn : ps1.length = n) (C : Core K B G ps d H) (hA : B.As.length ≤ n) (u : Up G1 ps1 G ps) (S : Slots K G ps σ b) :
    ∃ G' ps', Core K B G' ps' c H ∧ Up G1 ps1 G' ps' ∧ Slots K G' ps' σ a := by
  cases h with
  | same l => exact ⟨G, ps, C, u, l.slots S⟩
  | drop l h1 h2 h3 =>
    subst h3
    refine ⟨G, ps.take n, C.take hA h2, ⟨u.s, ?_⟩, Slots.take (l.slots S) h1⟩
    obtain ⟨t, e⟩ := u.p
    rw [← e, List.take_append, List.take_of_length_le (Nat.le_of_eq hn)]
    exact List.prefix_append _ _
  | gen κs κ l e nd S0 am e2 =>
    subst e
    subst e2
    subst hn
    have hp := pick_range u.p
    have pre2 : ps1 <+: pick ps (List.range ps1.length ++ κs) := by
      refine ⟨κs.map fun k => ps.getD k 0, ?_⟩
      conv => lhs; rw [← hp]
      unfold pick
      rw [List.map_append]
    have preB : B.As <+: ps1 := List.prefix_of_prefix_length_le C.pre u.p hA
    exact ⟨G, _, C.subG S0 nd (preB.trans pre2), ⟨u.s, pre2⟩, Slots.ren (l.slots S) am⟩
/-- a for; at a turn's end what was made within it is forgotten -/
theorem s1_for {body : List Stmt} (hp : PassesOwn (model X.prog X.w) X.A X.env X.xe) (hc : X.calm = true) (h : IV X na tg iter sl cs xs GC cs1) (I : Nat → Sl → Cs → Prop) (h0 : I 0 sl cs1) (hG : ∀ i sl' cs', I i sl' cs' → GC cs')
    (hs : ∀ i s sl' cs', xs[i]? = some s → I i sl' cs' → GX X na tg s sl' cs' fun sl2 cs2 => SX X na body sl2 cs2 { E with nx := fun sl3 cs3 => ∃ a c, I (i + 1) a c ∧ At cs1.length a c sl3 cs3, ct := fun sl3 cs3 => ∃ a c, I (i + 1) a c ∧ At cs1.length a c sl3 cs3, bk := E.nx })
    (hd : ∀ sl' cs', I xs.length sl' cs' → E.nx sl' cs')
    (hf : ∀ x, foldedSetIterable iter X.env x = pure x := by intro _; rfl) : S1 X na (.For tg iter body [] pos) sl cs E :=
  s1_of (ps_for hp hc pi_any pg_any pss_any hf) fun B G ps σ H hn C S D L => h B G ps σ H hn C S _ fun J HG Y G1 ps1 H1 C1 u1 W hHG hY =>
    have hA : B.As.length ≤ cs1.length := by
      rw [← C1.len]
      exact C1.pre.length_le
    for_it W (fun i σ' H' => ∃ G' ps' sl' cs', Core X.K B G' ps' cs' H' ∧ Up G1 ps1 G' ps' ∧ Slots X.K G' ps' σ' sl' ∧ I i sl' cs')
      ⟨G1, ps1, sl, cs1, C1, Up.refl _ _, Slots.mono u1 S, h0⟩
      (fun i σ' H' hi ⟨G', ps', sl', cs', C', u', S', q⟩ => hHG G' ps' cs' H' C' u' (hG i sl' cs' q))
      (fun i w σ' H' H'' hi ⟨G', ps', sl', cs', C', u', S', q⟩ y => by
        obtain ⟨s, G2, e, C2, u2, r2, _, _⟩ := hY i H' w H'' G' ps' cs' y C' u' (hG i sl' cs' q)
        refine hs i s sl' cs' e q B G2 ps' σ' H'' w hn C2 (Slots.mono u2 S') r2 _ fun sl3 cs3 G3 ps3 σ3 H3 C3 u3 S3 q3 => q3 B G3 ps3 σ3 H3 hn C3 S3 _ ?_
        have u13 : Up G1 ps1 G3 ps3 := (u'.trans u2).trans u3
        have nxt : ∀ sl4 cs4 G4 ps4 σ4 H4, Core X.K B G4 ps4 cs4 H4 → Up G3 ps3 G4 ps4 → Slots X.K G4 ps4 σ4 sl4 → (∃ a c, I (i + 1) a c ∧ At cs1.length a c sl4 cs4) → ∃ G' ps' sl' cs', Core X.K B G' ps' cs' H4 ∧ Up G1 ps1 G' ps' ∧ Slots X.K G' ps' σ4 sl' ∧ I (i + 1) sl' cs' := fun sl4 cs4 G4 ps4 σ4 H4 C4 u4 S4 ⟨a, c, qi, qa⟩ => by
          obtain ⟨G', ps', C', u', S'⟩ := qa.go C1.len C4 hA (u13.trans u4) S4
          exact ⟨G', ps', a, c, C', u', S', qi⟩
        exact ⟨nxt, fun s4 cs4 G4 ps4 v4 H4 C4 u4 r4 q4 => L.rt s4 cs4 G4 ps4 v4 H4 C4 ((u1.trans u13).trans u4) r4 q4,
          fun sl4 cs4 G4 ps4 σ4 H4 C4 u4 S4 q4 => L.nx sl4 cs4 G4 ps4 σ4 H4 C4 ((u1.trans u13).trans u4) S4 q4, nxt⟩)
      (fun σ' H' ⟨G', ps', sl', cs', C', u', S', q⟩ => L.nx sl' cs' G' ps' σ' H' C' (u1.trans u') S' (hd sl' cs' q))
/-- .. the state told by the turn -/
theorem s1_forF {body : List Stmt} (hp : PassesOwn (model X.prog X.w) X.A X.env X.xe) (hc : X.calm = true) (h : IV X na tg iter sl cs xs GC cs1) (a : Nat → Sl) (c : Nat → Cs) (h0 : Le (a 0) sl) (h1 : c 0 = cs1) (hG : ∀ i, i ≤ xs.length → GC (c i))
    (hs : ∀ i s, xs[i]? = some s → GX X na tg s (a i) (c i) fun sl2 cs2 => SX X na body sl2 cs2 { E with nx := At cs1.length (a (i + 1)) (c (i + 1)), ct := At cs1.length (a (i + 1)) (c (i + 1)), bk := E.nx })
    (hd : ∀ sl', Le (a xs.length) sl' → E.nx sl' (c xs.length))
    (hf : ∀ x, foldedSetIterable iter X.env x = pure x := by intro _; rfl) : S1 X na (.For tg iter body [] pos) sl cs E := by
  refine s1_for hp hc h (fun i sl' cs' => i ≤ xs.length ∧ Le (a i) sl' ∧ cs' = c i) ⟨Nat.zero_le _, h0, h1.symm⟩ (fun i sl' cs' ⟨hi, _, e⟩ => e ▸ hG i hi) (fun i s sl' cs' hx ⟨hi, l, e⟩ => ?_) (fun sl' cs' ⟨_, l, e⟩ => ?_) hf
  · subst e
    have hi1 : i + 1 ≤ xs.length := (List.getElem?_eq_some_iff.mp hx).1
    intro B G ps σ H v hn C S r Q q
    refine hs i s hx B G ps σ H v hn C (l.slots S) r Q fun sl3 cs3 G3 ps3 σ3 H3 C3 u3 S3 q3 => q sl3 cs3 G3 ps3 σ3 H3 C3 u3 S3 ?_
    intro B4 G4 ps4 σ4 H4 hn4 C4 S4 D4 L4
    exact q3 B4 G4 ps4 σ4 H4 hn4 C4 S4 D4 ⟨fun sl5 cs5 G5 ps5 σ5 H5 C5 u5 S5 q5 => L4.nx sl5 cs5 G5 ps5 σ5 H5 C5 u5 S5 ⟨_, _, ⟨hi1, Le.refl _, rfl⟩, q5⟩, L4.rt, L4.bk, fun sl5 cs5 G5 ps5 σ5 H5 C5 u5 S5 q5 => L4.ct sl5 cs5 G5 ps5 σ5 H5 C5 u5 S5 ⟨_, _, ⟨hi1, Le.refl _, rfl⟩, q5⟩⟩
  · subst e
    exact hd sl' l
/-- a list, a tuple -/
theorem iv_cell {k : Nat} (h : EV X na iter sl cs (.cell k) cs1) (hl : cs1[k]? = some (.lst xs)) : IV X na tg iter sl cs xs (fun cs' => cs'[k]? = some (.lst xs)) cs1 :=
  iv_of (pi_list pe_any) fun B G ps σ H hn C S R r => h B G ps σ H hn C S _ fun v G1 ps1 H1 C1 u1 r1 => by
    obtain ⟨a, rfl, ea, vs, h1, h2⟩ := C1.cellAt r1 hl
    refine ⟨a, rfl, ⟨vs, SqL.of h1⟩, r _ (fun H => ∃ vs, SqL X.K H a vs ∧ vs.length = xs.length) (fun i H x H' => H' = H ∧ ∀ vs, SqL X.K H a vs → vs[i]? = some x) G1 ps1 H1 C1 u1 ?_ ?_ ?_⟩
    · exact ⟨fun i H hi ⟨vs, q, l⟩ => ⟨vs, vs[i]'(by omega), q, by simp [show i < vs.length by omega]⟩, fun H ⟨vs, q, l⟩ => ⟨vs, q, Nat.le_of_eq l⟩, fun i H x H' hi q y => y⟩
    · intro G' ps' cs' H' C' u' g
      obtain ⟨vs', h1', h2'⟩ := (C'.cell k a _ (pre_get u'.p ea) g).1
      exact ⟨vs', SqL.of h1', Paired.length h2'⟩
    · intro i H' x H'' G' ps' cs' y C' u' g
      obtain ⟨rfl, e⟩ := y
      obtain ⟨vs', h1', h2'⟩ := (C'.cell k a _ (pre_get u'.p ea) g).1
      obtain ⟨s, es, rs⟩ := pd_getL h2' (e vs' (SqL.of h1'))
      exact ⟨s, G', es, C', Up.refl _ _, rs, Same.refl _, fun _ z => .inl z⟩
theorem iv_listV {ds : List PyData} (h : EV X na iter sl cs (.val (.list ds)) cs1) : IV X na tg iter sl cs (ds.map SV.val) (fun _ => True) cs1 :=
  iv_of (pi_list pe_any) fun B G ps σ H hn C S R r => h B G ps σ H hn C S _ fun v G1 ps1 H1 C1 u1 r1 => by
    obtain ⟨a, vs, rfl, h1, h2⟩ := Rep.lstI r1
    refine ⟨a, rfl, ⟨vs, C1.gh.seq h1⟩, r _ _ _ G1 ps1 H1 C1 u1 (by rw [List.length_map, ← h2.length]; exact walk_list) (fun G' ps' cs' H' C' u' g => C'.gh.seq (u'.s.seq h1)) ?_⟩
    intro i H' x H'' G' ps' cs' y C' u' g
    obtain ⟨rfl, e⟩ := y
    obtain ⟨d, ed, rd⟩ := h2.getV e
    exact ⟨.val d, G', by rw [List.getElem?_map, ed]; rfl, C', Up.refl _ _, Rep.mono u'.s rd, Same.refl _, fun _ z => .inl z⟩
theorem iv_tup {ds : List PyData} (h : EV X na iter sl cs (.val (.tuple ds)) cs1) : IV X na tg iter sl cs (ds.map SV.val) (fun _ => True) cs1 :=
  iv_of (pi_tup pe_any) fun B G ps σ H hn C S R r => h B G ps σ H hn C S _ fun v G1 ps1 H1 C1 u1 r1 => by
    obtain ⟨a, vs, rfl, h1, h2⟩ := Rep.tupI r1
    refine ⟨a, rfl, ⟨vs, Same.seqT C1.gh h1⟩, r _ _ _ G1 ps1 H1 C1 u1 (by rw [List.length_map, ← h2.length]; exact walk_tup) (fun G' ps' cs' H' C' u' g => Same.seqT C'.gh (Same.seqT u'.s h1)) ?_⟩
    intro i H' x H'' G' ps' cs' y C' u' g
    obtain ⟨rfl, e⟩ := y
    obtain ⟨d, ed, rd⟩ := h2.getV e
    exact ⟨.val d, G', by rw [List.getElem?_map, ed]; rfl, C', Up.refl _ _, Rep.mono u'.s rd, Same.refl _, fun _ z => .inl z⟩
theorem iv_range1 {a : Expr} {p : Pos} {n : Int} (hm : X.mg "range" = none) (hg : Gl X "range") (h : EV X na a sl cs (.val (.int n)) cs1) (h1 : -(2 ^ 62) ≤ n) (h2 : n < 2 ^ 62) (hs : starEach [a] X.env = [(false, eval a X.env)] := by rfl) :
    IV X na tg (.Call (.Name "range" p) [a] [] pos) sl cs ((List.range n.toNat).map fun i => SV.val (.int (i : Nat))) (fun _ => True) cs1 :=
  iv_of (pi_range1 hg hm pa_any hs) fun B G ps σ H hn C S R r => (av_cons h av_nil hs) B G ps σ H hn C S _ fun vs G1 ps1 H1 C1 u1 r1 => by
    cases r1 with
    | cons r1 r2 =>
      cases r2
      refine ⟨n, by rw [Rep.intI r1], h1, h2, r _ _ _ G1 ps1 H1 C1 u1 (by rw [List.length_map, List.length_range]; exact walk_range.mono (Y' := fun i H x H' => i < n.toNat ∧ YFn (fun i => V.int (0 + i)) i H x H') (fun _ _ => trivial) fun i H x H' hi _ y => ⟨hi, y⟩) (fun _ _ _ _ _ _ _ => trivial) ?_⟩
      intro i H' x H'' G' ps' cs' y C' u' g
      obtain ⟨hi, rfl, e⟩ := y
      exact ⟨.val (.int (i : Nat)), G', by rw [List.getElem?_map, List.getElem?_range hi]; rfl, C', Up.refl _ _, by rw [e]; show RepV X.K G' ps' (.int (0 + (i : Int))) _; rw [Int.zero_add]; exact Rep.int _, Same.refl _, fun _ z => .inl z⟩
theorem iv_range2 {a b : Expr} {p : Pos} {m n : Int} (hm : X.mg "range" = none) (hg : Gl X "range") (h : EV X na a sl cs (.val (.int m)) cs1) (h' : EV X na b sl cs1 (.val (.int n)) cs2) (h1 : -(2 ^ 62) ≤ m ∧ m < 2 ^ 62 ∧ -(2 ^ 62) ≤ n ∧ n < 2 ^ 62)
    (hs : starEach [a, b] X.env = [(false, eval a X.env), (false, eval b X.env)] := by rfl) (hs2 : starEach [b] X.env = [(false, eval b X.env)] := by rfl) :
    IV X na tg (.Call (.Name "range" p) [a, b] [] pos) sl cs ((List.range (n - m).toNat).map fun i => SV.val (.int (m + (i : Nat)))) (fun _ => True) cs2 :=
  iv_of (pi_range2 hg hm pa_any hs hs2) fun B G ps σ H hn C S R r => (av_cons h (av_cons h' av_nil hs2) (by rw [hs, hs2])) B G ps σ H hn C S _ fun vs G1 ps1 H1 C1 u1 r1 => by
    cases r1 with
    | cons r1 r2 =>
      cases r2 with
      | cons r2 r3 =>
      cases r3
      refine ⟨m, n, by rw [Rep.intI r1, Rep.intI r2], h1, r _ _ _ G1 ps1 H1 C1 u1 (by rw [List.length_map, List.length_range]; exact walk_range.mono (Y' := fun i H x H' => i < (n - m).toNat ∧ YFn (fun i => V.int (m + i)) i H x H') (fun _ _ => trivial) fun i H x H' hi _ y => ⟨hi, y⟩) (fun _ _ _ _ _ _ _ => trivial) ?_⟩
      intro i H' x H'' G' ps' cs' y C' u' g
      obtain ⟨hi, rfl, e⟩ := y
      exact ⟨.val (.int (m + (i : Nat))), G', by rw [List.getElem?_map, List.getElem?_range hi]; rfl, C', Up.refl _ _, by rw [e]; exact Rep.int _, Same.refl _, fun _ z => .inl z⟩
/-- while; at a turn's end what was made within it is forgotten -/
theorem s1_while {c : Expr} {body : List Stmt} (hp : PassesOwn (model X.prog X.w) X.A X.env X.xe) (I : Nat → Sl → Cs → Prop) (m0 : Nat) (h0 : I m0 sl cs)
    (hs : ∀ m sl' cs', I m sl' cs' → ∃ k cs2, TV X na c sl' cs' k cs2 ∧ (k = true → SX X na body sl' cs2 { E with nx := fun sl3 cs3 => ∃ m' a c, m' < m ∧ I m' a c ∧ At cs.length a c sl3 cs3, ct := fun sl3 cs3 => ∃ m' a c, m' < m ∧ I m' a c ∧ At cs.length a c sl3 cs3, bk := E.nx }) ∧ (k = false → E.nx sl' cs2)) :
    S1 X na (.While c body [] pos) sl cs E :=
  s1_of (ps_while hp pt_any pss_any) fun B G ps σ H hn C S D L =>
    have hA : B.As.length ≤ cs.length := by
      rw [← C.len]
      exact C.pre.length_le
    ⟨fun m σ' H' => ∃ G' ps' sl' cs', Core X.K B G' ps' cs' H' ∧ Up G ps G' ps' ∧ Slots X.K G' ps' σ' sl' ∧ I m sl' cs', ⟨m0, G, ps, sl, cs, C, Up.refl _ _, S, h0⟩, fun m σ' H' ⟨G', ps', sl', cs', C', u', S', q⟩ => by
      obtain ⟨k, cs2, ht, h1, h2⟩ := hs m sl' cs' q
      refine ht B G' ps' σ' H' hn C' S' _ fun G2 ps2 H2 C2 u2 => ?_
      cases k with
      | false => exact L.nx sl' cs2 G2 ps2 σ' H2 C2 (u'.trans u2) (Slots.mono u2 S') (h2 rfl)
      | true =>
        have u02 := u'.trans u2
        have nxt : ∀ sl4 cs4 G4 ps4 σ4 H4, Core X.K B G4 ps4 cs4 H4 → Up G2 ps2 G4 ps4 → Slots X.K G4 ps4 σ4 sl4 → (∃ m' a c, m' < m ∧ I m' a c ∧ At cs.length a c sl4 cs4) → ∃ m', m' < m ∧ ∃ G' ps' sl' cs', Core X.K B G' ps' cs' H4 ∧ Up G ps G' ps' ∧ Slots X.K G' ps' σ4 sl' ∧ I m' sl' cs' := fun sl4 cs4 G4 ps4 σ4 H4 C4 u4 S4 ⟨m', a, c, l, qi, qa⟩ => by
          obtain ⟨G', ps', C', u', S'⟩ := qa.go C.len C4 hA (u02.trans u4) S4
          exact ⟨m', l, G', ps', a, c, C', u', S', qi⟩
        refine ⟨fun σ3 H3 => ∃ m', m' < m ∧ ∃ G' ps' sl' cs', Core X.K B G' ps' cs' H3 ∧ Up G ps G' ps' ∧ Slots X.K G' ps' σ3 sl' ∧ I m' sl' cs', fun σ3 H3 h => h, h1 rfl B G2 ps2 σ' H2 hn C2 (Slots.mono u2 S') _ ?_⟩
        exact ⟨nxt, fun s4 cs4 G4 ps4 v4 H4 C4 u4 r4 q4 => L.rt s4 cs4 G4 ps4 v4 H4 C4 (u02.trans u4) r4 q4,
          fun sl4 cs4 G4 ps4 σ4 H4 C4 u4 S4 q4 => L.nx sl4 cs4 G4 ps4 σ4 H4 C4 (u02.trans u4) S4 q4, nxt⟩⟩
end
end DL
namespace DL
open PySem PySem.Spec PyProof.Rows L2

/-! ### what a def promises -/
/-- for arguments and cells as told the def gives s, the cells are cs' then -/
abbrev Spec := List SV → Cs → SV → Cs → Prop
def spM (K : PySem.W.Frag) (n : Nat) (spec : Spec) : Sp := fun vs H Q _ => ∃ G ps svs cs s cs', spec svs cs s cs' ∧ svs.length = n ∧ Core K ⟨G, H, ps⟩ G ps cs H ∧ RepVs K G ps vs svs ∧
  ∀ v G' ps' H', Core K ⟨G, H, ps⟩ G' ps' cs' H' → Up G ps G' ps' → RepV K G' ps' v s → Q v H'
structure Cal (P : Program) (w : World) (K : PySem.W.Frag) (mg : Str → Option Value) (base : Heap) (k : Nat) (x : Str) (n : Nat) (spec : Spec) : Prop where
  ex : ∃ (f : Addr) (fd : FuncData) (ps : List Str), FnOk P w K mg base CX0 k f fd ps (spM K n spec) ∧ mg x = some (.ref f) ∧ PySem.W.keepIn K (.ref f) = true ∧ Binds K fd ps []
theorem Cal.mono {P : Program} {w : World} {K : PySem.W.Frag} {mg : Str → Option Value} {base : Heap} {j k n : Nat} {x : Str} {spec : Spec} (c : Cal P w K mg base j x n spec) (h : j ≤ k) : Cal P w K mg base k x n spec := by
  obtain ⟨f, fd, ps, F, r⟩ := c.ex
  exact ⟨f, fd, ps, F.mono h, r⟩
theorem Cal.imp {P : Program} {w : World} {K : PySem.W.Frag} {mg : Str → Option Value} {base : Heap} {k n : Nat} {x : Str} {spec spec' : Spec} (c : Cal P w K mg base k x n spec) (h : ∀ a b s d, spec' a b s d → spec a b s d) : Cal P w K mg base k x n spec' := by
  obtain ⟨f, fd, ps, F, r⟩ := c.ex
  exact ⟨f, fd, ps, F.imp fun vs H Q E ⟨G, qs, svs, cs, s, cs', q, r⟩ => ⟨G, qs, svs, cs, s, cs', h _ _ _ _ q, r⟩, r⟩

section
variable {K : PySem.W.Frag} {G G' : Hp} {ps ps' : List Addr} {H H' : Hp} {B : Bs} {cs cs' : Cs}
/-! ### some of the cells are handed on -/
inductive Sel (cs : Cs) : List Nat → Cs → Prop
  | nil : Sel cs [] []
  | cons {k : Nat} {c : CC} {κ : List Nat} {d : Cs} : cs[k]? = some c → c.flat = true → c ≠ .dead → Sel cs κ d → Sel cs (k :: κ) (c :: d)
inductive SetA : Cs → List Nat → Cs → Cs → Prop
  | nil {cs : Cs} : SetA cs [] [] cs
  | cons {cs cs1 cs2 : Cs} {k : Nat} {c : CC} {κ : List Nat} {d : Cs} : PutC cs k c cs1 → SetA cs1 κ d cs2 → SetA cs (k :: κ) (c :: d) cs2
theorem SetA.get : ∀ {cs cs2 : Cs} {κ : List Nat} {d : Cs}, SetA cs κ d cs2 → κ.Nodup → ∀ {i : Nat} {c : CC}, cs2[i]? = some c → (∃ j : Nat, κ[j]? = some i ∧ d[j]? = some c) ∨ (i ∉ κ ∧ cs[i]? = some c)
  | _, _, _, _, .nil, _, i, c, h => .inr ⟨List.not_mem_nil, h⟩
  | _, _, k :: κ, _ :: d, .cons p t, nd, i, c, h => by
    obtain ⟨n1, n2⟩ := List.nodup_cons.mp nd
    rcases t.get n2 h with ⟨j, h1, h2⟩ | ⟨h1, h2⟩
    · exact .inl ⟨j + 1, by simpa using h1, by simpa using h2⟩
    · rw [p.at] at h2
      by_cases e : i = k
      · subst e
        have hl : i < _ := (List.getElem?_eq_some_iff.mp h2).1
        rw [List.length_set] at hl
        rw [List.getElem?_set_self hl] at h2
        exact .inl ⟨0, rfl, h2⟩
      · rw [List.getElem?_set_ne (Ne.symm e)] at h2
        exact .inr ⟨fun m => (List.mem_cons.mp m).elim e h1, h2⟩
theorem SetA.length : ∀ {cs cs2 : Cs} {κ : List Nat} {d : Cs}, SetA cs κ d cs2 → cs2.length = cs.length ∧ κ.length = d.length
  | _, _, _, _, .nil => ⟨rfl, rfl⟩
  | _, _, _, _, .cons p t => by
    obtain ⟨a, b⟩ := t.length
    rw [p.at, List.length_set] at a
    exact ⟨a, congrArg (· + 1) b⟩
theorem Sel.get : ∀ {κ : List Nat} {d : Cs}, Sel cs κ d → ∀ {j k : Nat}, κ[j]? = some k → ∃ c, d[j]? = some c ∧ cs[k]? = some c ∧ c.flat = true ∧ c ≠ .dead
  | _, _, .nil, j, k, h => by simp at h
  | _, _, .cons a b c t, 0, k, h => by
    simp at h
    subst h
    exact ⟨_, rfl, a, b, c⟩
  | _, _, .cons a b c t, j + 1, k, h => by
    obtain ⟨c, h1, h2⟩ := t.get (j := j) (k := k) (by simpa using h)
    exact ⟨c, by simpa using h1, h2⟩
theorem Sel.length : ∀ {κ : List Nat} {d : Cs}, Sel cs κ d → κ.length = d.length
  | _, _, .nil => rfl
  | _, _, .cons _ _ _ t => congrArg (· + 1) t.length
theorem pick_get (C : Core K B G ps cs H) {κ : List Nat} {d : Cs} (S : Sel cs κ d) {j : Nat} {p : Addr} (h : (pick ps κ)[j]? = some p) : ∃ k c, κ[j]? = some k ∧ ps[k]? = some p ∧ d[j]? = some c ∧ cs[k]? = some c ∧ c.flat = true ∧ c ≠ .dead := by
  unfold pick at h
  rw [List.getElem?_map] at h
  cases hk : κ[j]? with
  | none => rw [hk] at h; cases h
  | some k =>
    rw [hk] at h
    obtain ⟨c, h1, h2, h3, h4⟩ := S.get hk
    obtain ⟨q, hq⟩ := C.addr h2
    have e : ps.getD k 0 = q := by simp [List.getD, hq]
    have h' : some (ps.getD k 0) = some p := h
    rw [e] at h'
    cases h'
    exact ⟨k, c, rfl, hq, h1, h2, h3, h4⟩
theorem pick_nd (C : Core K B G ps cs H) : ∀ {κ : List Nat} {d : Cs}, Sel cs κ d → κ.Nodup → (pick ps κ).Nodup
  | _, _, .nil, _ => List.Pairwise.nil
  | k :: κ, _ :: d, .cons a b c t, nd => by
    obtain ⟨n1, n2⟩ := List.nodup_cons.mp nd
    refine List.nodup_cons.mpr ⟨fun m => ?_, pick_nd C t n2⟩
    obtain ⟨j, hj⟩ := List.getElem?_of_mem m
    obtain ⟨k', c', h1, h2, _⟩ := pick_get C t hj
    obtain ⟨q, hq⟩ := C.addr a
    have e : ps.getD k 0 = q := by simp [List.getD, hq]
    have h2' : ps[k']? = some (ps.getD k 0) := h2
    rw [e] at h2'
    have := nd_at C.nd hq h2'
    subst this
    exact n1 (List.mem_of_getElem? h1)
/-- the cells of a call -/
theorem Core.enter (C : Core K B G ps cs H) {κ : List Nat} {d : Cs} (S : Sel cs κ d) (nd : κ.Nodup) : Core K ⟨G, H, pick ps κ⟩ G (pick ps κ) d H where
  g0 := Same.refl _
  h0 _ _ e _ := e
  gh := C.gh
  nw _ e := .inl e
  len := by rw [← S.length]; exact List.length_map _
  pre := List.prefix_refl _
  nd := pick_nd C S nd
  cell j p c e hc := by
    obtain ⟨k, c', h1, h2, h3, h4, h5, h6⟩ := pick_get C S e
    rw [hc] at h3
    cases h3
    obtain ⟨g1, g2, g3⟩ := C.cell k p c h2 h4
    exact ⟨RepC.flat g1 h5, .inr (List.mem_of_getElem? e), .inr (g3.elim (fun z => (h6 z).elim) id)⟩
/-- .. and behind it -/
theorem Core.leave (C : Core K B G ps cs H) {κ : List Nat} {d d' : Cs} {cs2 : Cs} (S : Sel cs κ d) (nd : κ.Nodup) (C' : Core K ⟨G, H, pick ps κ⟩ G' ps' cs' H') (hp : d' <+: cs') (hf : d'.all CC.flat = true) (hs : SetA cs κ d' cs2) : Core K B G' ps cs2 H' := by
  have inPick : ∀ {k p}, k ∈ κ → ps[k]? = some p → p ∈ pick ps κ := fun {k p} hk hp => List.mem_map.mpr ⟨k, hk, by simp [List.getD, hp]⟩
  have ofPick : ∀ {p}, p ∈ pick ps κ → p ∈ ps := fun {p} m => by
    obtain ⟨j, hj⟩ := List.getElem?_of_mem m
    obtain ⟨k, _, _, h, _⟩ := pick_get C S hj
    exact List.mem_of_getElem? h
  refine ⟨C.g0.trans C'.g0, fun b o e m => C'.h0 b o (C.h0 b o e m) fun z => ?_, C'.gh, fun b e => (C'.nw b e).elim (C.nw b) fun h => .inr (C.free0 h), by rw [C.len, hs.length.1], C.pre, C.nd, fun i p c e hc => ?_⟩
  · rcases C.own (ofPick z) with h | h
    · rw [h] at e; cases e
    · exact m h
  · rcases hs.get nd hc with ⟨j, h1, h2⟩ | ⟨h1, h2⟩
    · obtain ⟨c0, g1, g2, g3, g4⟩ := S.get h1
      have hcs : cs'[j]? = some c := pre_get hp h2
      have hps : ps'[j]? = some p := by
        refine pre_get C'.pre ?_
        show (pick ps κ)[j]? = some p
        unfold pick
        rw [List.getElem?_map, h1]
        show some (ps.getD i 0) = some p
        simp [List.getD, e]
      obtain ⟨q1, q2, q3⟩ := C'.cell j p c hps hcs
      have hfl : c.flat = true := List.all_eq_true.mp hf c (List.mem_of_getElem? h2)
      exact ⟨RepC.flat q1 hfl, C.own (List.mem_of_getElem? e), q3⟩
    · obtain ⟨g1, g2, g3⟩ := C.cell i p c e h2
      have hnp : p ∉ pick ps κ := fun m => by
        obtain ⟨j, hj⟩ := List.getElem?_of_mem m
        obtain ⟨k, _, hk, hp2, _⟩ := pick_get C S hj
        have := nd_at C.nd e hp2
        subst this
        exact h1 (List.mem_of_getElem? hk)
      have hH : H' p = H p := by
        cases q : H p with
        | none => exact (C.live (List.mem_of_getElem? e) q).elim
        | some o => exact C'.h0 p o q hnp
      refine ⟨RepC.mono ⟨C'.g0, List.prefix_refl _⟩ hH g1, g2, g3.imp id fun hG => ?_⟩
      cases q : G' p with
      | none => rfl
      | some o =>
        rcases C'.nw p (by rw [q]; exact Option.some_ne_none _) with z | z
        · exact (z hG).elim
        · exact (C.live (List.mem_of_getElem? e) z).elim
end
section
variable {K : PySem.W.Frag} {G G' : Hp} {ps ps' : List Addr} {H H' : Hp} {B : Bs} {cs cs' : Cs}
theorem Core.enterG (C : Core K B G ps cs H) {κ : List Nat} {d : Cs} (S : SelR cs κ κ d) (nd : κ.Nodup) : Core K ⟨G, H, pick ps κ⟩ G (pick ps κ) d H where
  g0 := Same.refl _
  h0 _ _ e _ := e
  gh := C.gh
  nw _ e := .inl e
  len := by rw [← S.length]; exact List.length_map _
  pre := List.prefix_refl _
  nd := pickR_nd C S nd
  cell j p c e hc := by
    obtain ⟨k, c0, c', h1, h2, h3, h4, h5⟩ := pick_at C S e
    rw [hc] at h3
    cases h3
    obtain ⟨g1, g2, g3⟩ := C.cell k p c0 h2 h4
    exact ⟨RenC.rep (fun k p hk e => pick_idx hk e) h5 g1, .inr (List.mem_of_getElem? e), g3.imp h5.dead.mp id⟩
/-- the callee's numbers, as the caller's -/
def backOf (κ : List Nat) (n : Nat) (j : Nat) : Nat := if j < κ.length then κ.getD j 0 else n + (j - κ.length)
theorem Core.leaveG (C : Core K B G ps cs H) {κ : List Nat} {d da db : Cs} {csm : Cs} (S : SelR cs κ κ d) (nd : κ.Nodup) (C' : Core K ⟨G, H, pick ps κ⟩ G' ps' cs' H') (hq : Paired (RenC (fun _ => true) (backOf κ cs.length)) cs' (da ++ db)) (hda : da.length = κ.length) (hs : SetA cs κ da csm) :
    Core K B G' (ps ++ ps'.drop κ.length) (csm ++ db) H' ∧ ∀ j p, ps'[j]? = some p → (ps ++ ps'.drop κ.length)[backOf κ cs.length j]? = some p := by
  have hpl : (pick ps κ).length = κ.length := List.length_map _
  have hkl : κ.length ≤ ps'.length := by rw [← hpl]; exact C'.pre.length_le
  have inPick : ∀ {k p}, k ∈ κ → ps[k]? = some p → p ∈ pick ps κ := fun {k p} hk hp => List.mem_map.mpr ⟨k, hk, by simp [List.getD, hp]⟩
  have ofPick : ∀ {p}, p ∈ pick ps κ → p ∈ ps := fun {p} m => by
    obtain ⟨j, hj⟩ := List.getElem?_of_mem m
    obtain ⟨k, _, _, _, h, _⟩ := pick_at C S hj
    exact List.mem_of_getElem? h
  have newF : ∀ {j p}, κ.length ≤ j → ps'[j]? = some p → H p = none := fun {j p} hj e => by
    obtain ⟨c, hc⟩ := C'.at e
    refine (C'.cell j p c e hc).2.1.elim id fun m => ?_
    obtain ⟨i, hi⟩ := List.getElem?_of_mem (show p ∈ pick ps κ from m)
    have h1 := nd_at C'.nd (pre_get C'.pre hi) e
    have h2 := (List.getElem?_eq_some_iff.mp hi).1
    omega
  have back : ∀ j p, ps'[j]? = some p → (ps ++ ps'.drop κ.length)[backOf κ cs.length j]? = some p := fun j p e => by
    unfold backOf
    split
    · rename_i hj
      obtain ⟨t, ht⟩ := C'.pre
      have e2 : (pick ps κ)[j]? = some p := by
        rw [← ht, List.getElem?_append_left (by show j < (pick ps κ).length; omega)] at e
        exact e
      obtain ⟨k, _, _, h1, h2, _⟩ := pick_at C S e2
      have : κ.getD j 0 = k := by simp [List.getD, h1]
      rw [this, List.getElem?_append_left (List.getElem?_eq_some_iff.mp h2).1]
      exact h2
    · rw [← C.len, List.getElem?_append_right (by omega), List.getElem?_drop]
      rw [← e]
      congr 1
      omega
  refine ⟨⟨C.g0.trans C'.g0, fun b o e m => C'.h0 b o (C.h0 b o e m) fun z => ?_, C'.gh, fun b e => (C'.nw b e).elim (C.nw b) fun h => .inr (C.free0 h), ?_, C.pre.trans (List.prefix_append _ _), ?_, fun i p c e hc => ?_⟩, back⟩
  · rcases C.own (ofPick z) with h | h
    · rw [h] at e; cases e
    · exact m h
  · have h1 := Paired.length hq
    have h2 := C'.len
    have h3 := hs.length.1
    have h4 := C.len
    rw [List.length_append] at h1
    rw [List.length_append, List.length_append, List.length_drop]
    omega
  · refine List.nodup_append.mpr ⟨C.nd, C'.nd.sublist (List.drop_sublist _ _), fun a ha b hb e => ?_⟩
    subst e
    obtain ⟨i, hi⟩ := List.getElem?_of_mem hb
    rw [List.getElem?_drop] at hi
    exact C.live ha (newF (by omega) hi)
  · by_cases hi : i < ps.length
    · rw [List.getElem?_append_left hi] at e
      have hi2 : i < csm.length := by rw [hs.length.1, ← C.len]; exact hi
      rw [List.getElem?_append_left hi2] at hc
      rcases hs.get nd hc with ⟨j, h1, h2⟩ | ⟨h1, h2⟩
      · obtain ⟨c', h3, h4⟩ := pd_get hq (i := j) (b := c) (by rw [List.getElem?_append_left (List.getElem?_eq_some_iff.mp h2).1]; exact h2)
        have hps : ps'[j]? = some p := by
          refine pre_get C'.pre ?_
          show (pick ps κ)[j]? = some p
          unfold pick
          rw [List.getElem?_map, h1]
          show some (ps.getD i 0) = some p
          simp [List.getD, e]
        obtain ⟨q1, q2, q3⟩ := C'.cell j p c' hps h3
        exact ⟨RenC.rep (fun k p _ e => back k p e) h4 q1, C.own (List.mem_of_getElem? e), q3.imp h4.dead.mp id⟩
      · obtain ⟨g1, g2, g3⟩ := C.cell i p c e h2
        have hnp : p ∉ pick ps κ := fun m => by
          obtain ⟨j, hj⟩ := List.getElem?_of_mem m
          obtain ⟨k, _, _, hk, hp2, _⟩ := pick_at C S hj
          have := nd_at C.nd e hp2
          subst this
          exact h1 (List.mem_of_getElem? hk)
        have hH : H' p = H p := by
          cases q : H p with
          | none => exact (C.live (List.mem_of_getElem? e) q).elim
          | some o => exact C'.h0 p o q hnp
        refine ⟨RepC.mono ⟨C'.g0, List.prefix_append _ _⟩ hH g1, g2, g3.imp id fun hG => ?_⟩
        cases q : G' p with
        | none => rfl
        | some o =>
          rcases C'.nw p (by rw [q]; exact Option.some_ne_none _) with z | z
          · exact (z hG).elim
          · exact (C.live (List.mem_of_getElem? e) z).elim
    · have hge : ps.length ≤ i := by omega
      rw [List.getElem?_append_right hge, List.getElem?_drop] at e
      have hcl : csm.length = ps.length := by rw [hs.length.1, C.len]
      rw [List.getElem?_append_right (by omega), hcl] at hc
      obtain ⟨c', h3, h4⟩ := pd_get hq (i := κ.length + (i - ps.length)) (b := c) (by rw [List.getElem?_append_right (by omega), hda, Nat.add_sub_cancel_left]; exact hc)
      obtain ⟨q1, q2, q3⟩ := C'.cell _ p c' e h3
      exact ⟨RenC.rep (fun k p _ e => back k p e) h4 q1, .inl (C.free0 (newF (by omega) e)), q3.imp h4.dead.mp id⟩
end
/-- the arguments as the callee sees them -/
inductive RenA (κ : List Nat) : List SV → List SV → Prop
  | nil : RenA κ [] []
  | val {d : PyData} {a b : List SV} : RenA κ a b → RenA κ (.val d :: a) (.val d :: b)
  | cell {j k : Nat} {a b : List SV} : κ[j]? = some k → RenA κ a b → RenA κ (.cell j :: a) (.cell k :: b)
theorem RenA.reps {K : PySem.W.Frag} {B : Bs} {G : Hp} {ps : List Addr} {cs : Cs} {H : Hp} {κ : List Nat} {d : Cs} (C : Core K B G ps cs H) (S : Sel cs κ d) : ∀ {a b : List SV} {vs : List V}, RenA κ a b → RepVs K G ps vs b → RepVs K G (pick ps κ) vs a
  | _, _, _, .nil, h => by cases h; exact .nil
  | _, _, _, .val t, h => by
    cases h with
    | cons h r => exact .cons h (RenA.reps C S t r)
  | _, _, _, .cell (j := j) (k := k) e t, h => by
    cases h with
    | cons h r =>
      obtain ⟨p, hp, hv⟩ := h
      refine .cons ⟨p, ?_, hv⟩ (RenA.reps C S t r)
      unfold pick
      rw [List.getElem?_map, e]
      show some (ps.getD k 0) = some p
      simp [List.getD, hp]
theorem RenA.length {κ : List Nat} : ∀ {a b : List SV}, RenA κ a b → a.length = b.length
  | _, _, .nil => rfl
  | _, _, .val t => congrArg (· + 1) t.length
  | _, _, .cell _ t => congrArg (· + 1) t.length
section
variable {X : Cx} {na : Nat} {sl sl' : Sl} {cs cs1 cs2 cs3 : Cs} {s t u : SV} {pos : Pos} {x : Str} {E : DEnds} {N : List Str} {k j n : Nat} {spec : Spec} {e : Expr} {es : List Expr} {p : Pos}
theorem ev_callR (c : Cal X.prog X.w X.K X.mg X.base k x n spec) (hr : Room j X.A) (hk : k ≤ j) (hg : Gl X x)
    (h : DE X.K na (tCall (spM X.K n spec) [] E0 (anyA X (e :: es))) sl cs s cs1)
    (hdb : (x == ("__debug__" : Str)) = false := by decide) (he : starEach (e :: es) X.env = (false, eval e X.env) :: starEach es X.env := by rfl) (hpl : (backTo pos (starEach es X.env)).any (·.1) = false := by rfl) :
    EV X na (.Call (.Name x p) (e :: es) [] pos) sl cs s cs1 := by
  obtain ⟨f, fd, ps, F, hm, kp, b⟩ := c.ex
  exact ev_of (pe_call F (hr.mono hk) hg hm kp b .nil pass0 pa_any hdb he hpl) h
/-- a call; some cells are handed on, the answer is data -/
theorem ev_callM {ss svs : List SV} {κ : List Nat} {d d' d2 : Cs} {r : PyData} (c : Cal X.prog X.w X.K X.mg X.base k x n spec) (hr : Room j X.A) (hk : k ≤ j) (hg : Gl X x)
    (ha : AV X na (e :: es) sl cs ss cs1) (S : Sel cs1 κ d) (hren : RenA κ svs ss) (h : spec svs d (.val r) d2) (hs : SetA cs1 κ d' cs2) (hp : d' <+: d2) (hf : d'.all CC.flat = true) (nd : κ.Nodup) (hn : Nat.beq svs.length n = true)
    (hdb : (x == ("__debug__" : Str)) = false := by decide) (he : starEach (e :: es) X.env = (false, eval e X.env) :: starEach es X.env := by rfl) (hpl : (backTo pos (starEach es X.env)).any (·.1) = false := by rfl) :
    EV X na (.Call (.Name x p) (e :: es) [] pos) sl cs (.val r) cs2 :=
  ev_callR c hr hk hg (fun B G ps σ H hna C Sl Q q => ha B G ps σ H hna C Sl _ fun vs G1 ps1 H1 C1 u1 r1 => by
    show spM X.K n spec (vs ++ []) H1 Q E0
    rw [List.append_nil]
    refine ⟨G1, pick ps1 κ, svs, d, .val r, d2, h, Nat.eq_of_beq_eq_true hn, C1.enter S nd, RenA.reps C1 S hren r1, fun v G' ps' H' C' u' r' => ?_⟩
    exact q v G' ps1 H' (C1.leave S nd C' hp hf hs) (u1.trans ⟨u'.s, List.prefix_refl _⟩) r') hdb he hpl
end
end DL
namespace DL
open PySem PySem.Spec PyProof.Rows L2

/-! ### how a body ends -/
inductive RetOk (na : Nat) : SV → Cs → SV → Cs → Prop
  | val {d : PyData} {c c2 : Cs} : c <+: c2 → c.length = na → c.all (CC.lt na) = true → RetOk na (.val d) c (.val d) c2
  | frz {d : PyData} {k : Nat} {o : CC} {c c2 : Cs} : na ≤ k → c2[k]? = some o → o.data = some d → c <+: c2 → c.length = na → c.all (CC.lt na) = true → RetOk na (.val d) c (.cell k) c2
  | new {k : Nat} {o : CC} {c c2 : Cs} : na ≤ k → c2[k]? = some o → o.flat = true → o ≠ .dead → c <+: c2 → c.length = na → c.all (CC.lt na) = true → RetOk na (.cell na) (c ++ [o]) (.cell k) c2
  | gen {s s2 : SV} {κs : List Nat} {d c2 : Cs} : (List.range na ++ κs).Nodup → SelR c2 (List.range na ++ κs) (List.range na ++ κs) d → s2.amid (fun k => (List.range na ++ κs).contains k) = true → s2.ren (fun k => (List.range na ++ κs).idxOf k) = s → RetOk na s d s2 c2
section
variable {K : PySem.W.Frag} {G G' G1 : Hp} {ps ps' ps1 : List Addr} {H H' : Hp} {B : Bs} {cs cs' : Cs}
theorem take_pre {α : Type} {a b : List α} {n : Nat} (h : a <+: b) (hl : a.length = n) : b.take n = a := by
  obtain ⟨t, rfl⟩ := h
  rw [← hl, List.take_append, Nat.sub_self, List.take_zero, List.append_nil, List.take_of_length_le (Nat.le_refl _)]
theorem Core.atTake (C : Core K B G ps cs H) {n : Nat} {c : Cs} (hA : B.As.length = n) (hp : c <+: cs) (hl : c.length = n) (lt : c.all (CC.lt n) = true) : Core K B G (ps.take n) c H := by
  have e := take_pre hp hl
  have := C.take (n := n) (Nat.le_of_eq hA) (by rw [e]; exact lt)
  rw [e] at this
  exact this
theorem RetOk.go {na : Nat} {s s2 : SV} {c c2 : Cs} {v : V} (h : RetOk na s c s2 c2) (C : Core K B G ps c2 H) (hA : B.As.length = na) (u : Up G1 B.As G ps) (r : RepV K G ps v s2) : ∃ G' ps', Core K B G' ps' c H ∧ Up G1 B.As G' ps' ∧ RepV K G' ps' v s := by
  have pre : B.As <+: ps.take na := by
    obtain ⟨t, e⟩ := u.p
    rw [← e, ← hA, List.take_append, List.take_of_length_le (Nat.le_refl _)]
    exact List.prefix_append _ _
  cases h with
  | val hp hl lt => exact ⟨G, ps.take na, C.atTake hA hp hl lt, ⟨u.s, pre⟩, r⟩
  | frz hk ho hd hp hl lt =>
    rename_i d k o
    obtain ⟨p, rfl, ep, rc⟩ := C.cellAt r ho
    obtain ⟨ob, hH, hr⟩ := rc.data hd
    have hnd : o ≠ .dead := fun z => by subst z; cases hd
    have hG : G p = none := (C.cell k p o ep ho).2.2.elim (fun z => (hnd z).elim) id
    have C2 := C.freeze (by rw [hA]; exact hk) ep ho hnd hH
    have hp2 : c <+: c2.set k .dead := by
      obtain ⟨t, e⟩ := hp
      refine ⟨t.set (k - c.length) .dead, ?_⟩
      rw [← e, List.set_append_right _ _ (by omega)]
    exact ⟨_, ps.take na, C2.atTake hA hp2 hl lt, ⟨u.s.trans (Same.new hG), pre⟩, hr _ (Same.new hG) upd_same⟩
  | new hk ho hf hnd hp hl lt =>
    rename_i k o c
    obtain ⟨p, rfl, ep, rc⟩ := C.cellAt r ho
    have hG : G p = none := (C.cell k p o ep ho).2.2.elim (fun z => (hnd z).elim) id
    have hB : B.H0 p = none := (C.cell k p o ep ho).2.1.elim id fun m => by
      obtain ⟨j, ej⟩ := List.getElem?_of_mem m
      have h1 := nd_at C.nd (pre_get C.pre ej) ep
      have h2 := (List.getElem?_eq_some_iff.mp ej).1
      omega
    have C2 := C.atTake hA hp hl lt
    have hn : p ∉ ps.take na := fun m => by
      obtain ⟨j, ej⟩ := List.getElem?_of_mem m
      have hj := (List.getElem?_eq_some_iff.mp ej).1
      rw [List.length_take] at hj
      rw [List.getElem?_take_of_lt (by omega)] at ej
      have := nd_at C.nd ej ep
      omega
    refine ⟨G, ps.take na ++ [p], C2.adoptCell hn hG hB (RepC.flat rc hf), ⟨u.s, pre.trans (List.prefix_append _ _)⟩, p, ?_, rfl⟩
    have hl2 : (ps.take na).length = na := by
      rw [C2.len, hl]
    rw [List.getElem?_append_right (by omega), hl2, Nat.sub_self]
    rfl
  | gen nd S am e =>
    rename_i κs
    have hle : B.As.length ≤ ps.length := C.pre.length_le
    have hpk : pick ps (List.range na) = B.As := by
      obtain ⟨t, ht⟩ := C.pre
      apply List.ext_getElem?
      intro i
      unfold pick
      rw [List.getElem?_map]
      by_cases hi : i < na
      · rw [List.getElem?_range hi, ← ht]
        show some ((B.As ++ t).getD i 0) = _
        rw [List.getD_eq_getElem?_getD, List.getElem?_append_left (by omega), List.getElem?_eq_getElem (by omega)]
        rfl
      · rw [List.getElem?_eq_none (by rw [List.length_range]; omega), List.getElem?_eq_none (by omega)]
        rfl
    have pre2 : B.As <+: pick ps (List.range na ++ κs) := by
      unfold pick
      rw [List.map_append]
      exact ⟨_, by rw [← hpk]; rfl⟩
    subst e
    exact ⟨G, _, C.subG S nd pre2, ⟨u.s, pre2⟩, RepV.ren (fun k p hk e => pick_idx hk e) r am⟩
end
/-! ### THE RULE for a def -/
abbrev cxN (P : Program) (w : World) (K : PySem.W.Frag) (mg : Str → Option Value) (base : Heap) (N : List Str) (x : Str) (sc : Scope) (f : Addr) (cdv : Value) (A : Around) (outer : List Env) (s : Shared) (H : Hp) (E : XK) : Cx := (cxOf CX0 P w K mg base N x sc f cdv A outer s H E).nox
theorem slots_start {K : PySem.W.Frag} {G : Hp} {ps : List Addr} {vs : List V} {svs : List SV} {N : List Str} (r : RepVs K G ps vs svs) : Slots K G ps (L2.start N vs) (svs.map some ++ List.replicate (N.length - svs.length) none) := by
  unfold L2.start
  rw [Paired.length r]
  refine pd_app ?_ ?_
  · induction r with
    | nil => exact .nil
    | cons h _ ih => exact .cons h ih
  · generalize N.length - svs.length = n
    induction n with
    | zero => exact .nil
    | succ n ih => exact .cons trivial ih
theorem cal_mk {P : Program} {w : World} {K : PySem.W.Frag} {mg : Str → Option Value} {base : Heap} {x : Str} {st : Stmt} {f : Addr} {fd : FuncData} {N ps : List Str} {k : Nat} {spec : Spec} (F : Fun K x x st f fd) (hm : mg x = some (.ref f)) (b : Binds K fd ps []) (S : FnScope N ps (defScope st))
    (body : ∀ (cdv : Value) (A : Around) (outer : List Env) (s : Shared) (H : Hp) (E : XK), Room k (A.deeper (envOfC x (defScope st) s.heap.objs.size f cdv)) → ∀ svs cs sv cs', spec svs cs sv cs' → svs.length = ps.length →
      SX (cxN P w K mg base N x (defScope st) f cdv A outer s H E) cs.length (defBody st) (svs.map some ++ List.replicate (N.length - svs.length) none) cs { nx := fun _ cs2 => RetOk cs.length sv cs' (.val .none) cs2, rt := fun s2 cs2 => RetOk cs.length sv cs' s2 cs2 }) :
    Cal P w K mg base (k + 1) x ps.length spec := by
  refine ⟨f, fd, ps, F.ok S (fun vs H Q E ⟨G, qs, svs, cs, s, cs', h, hl, C, r, q⟩ => by rw [Paired.length r, hl]) (fun cdv A outer s H vs Q E hr ⟨G, qs, svs, cs, sv, cs', h, hl, C, r, q⟩ => ⟨_, pss_any, ?_⟩), hm, F.kp, b⟩
  have hb := body cdv A outer s H E hr svs cs sv cs' h hl
  refine hb ⟨G, H, qs⟩ G qs _ H C.len C (slots_start r) _ ⟨fun sl2 cs2 G' ps' σ' H' C' u' S' e => ?_, fun s2 cs2 G' ps' v H' C' u' r' e => ?_, fun _ _ _ _ _ _ _ _ _ e => e.elim, fun _ _ _ _ _ _ _ _ _ e => e.elim⟩
  · obtain ⟨G2, ps2, C2, u2, r2⟩ := e.go C' C.len u' (show RepV K G' ps' .non (.val .none) from Rep.non)
    exact q .non G2 ps2 H' C2 u2 r2
  · obtain ⟨G2, ps2, C2, u2, r2⟩ := e.go C' C.len u' r'
    exact q v G2 ps2 H' C2 u2 r2
/-- nothing is promised -/
theorem cal_none {P : Program} {w : World} {K : PySem.W.Frag} {mg : Str → Option Value} {base : Heap} {x : Str} {st : Stmt} {f : Addr} {fd : FuncData} {ps : List Str} {k n : Nat} {spec : Spec} (F : Fun K x x st f fd) (hm : mg x = some (.ref f)) (b : Binds K fd ps []) (no : ∀ a c s d, ¬ spec a c s d) : Cal P w K mg base k x n spec :=
  ⟨f, fd, ps, ⟨fun vs H Q E ⟨_, _, _, _, _, _, h, _⟩ => (no _ _ _ _ h).elim, fun A outer s H args us vs Q E _ _ _ _ ⟨_, _, _, _, _, _, h, _⟩ => (no _ _ _ _ h).elim⟩, hm, F.kp, b⟩
section
variable {X : Cx} {na : Nat} {sl sl' : Sl} {cs cs1 cs2 cs3 : Cs} {s t u : SV} {pos : Pos} {x : Str} {E : DEnds} {N : List Str} {k j n : Nat} {spec : Spec} {e : Expr} {es : List Expr} {p : Pos}
/-- a call that gives a new cell, some cells are handed on -/
theorem ev_callN {ss svs : List SV} {κ : List Nat} {d d' : Cs} {o : CC} {m i : Nat} (c : Cal X.prog X.w X.K X.mg X.base k x n spec) (hr : Room j X.A) (hk : k ≤ j) (hg : Gl X x)
    (ha : AV X na (e :: es) sl cs ss cs1) (S : Sel cs1 κ d) (hren : RenA κ svs ss) (h : spec svs d (.cell i) (d' ++ [o])) (hi : d'.length = i) (hs : SetA cs1 κ d' cs2) (ac : AppC cs2 o m cs3) (hf : d'.all CC.flat = true) (hfo : o.flat = true) (hod : o ≠ .dead) (nd : κ.Nodup) (hn : Nat.beq svs.length n = true)
    (hdb : (x == ("__debug__" : Str)) = false := by decide) (he : starEach (e :: es) X.env = (false, eval e X.env) :: starEach es X.env := by rfl) (hpl : (backTo pos (starEach es X.env)).any (·.1) = false := by rfl) :
    EV X na (.Call (.Name x p) (e :: es) [] pos) sl cs (.cell m) cs3 :=
  ev_callR c hr hk hg (fun B G ps σ H hna C Sl Q q => ha B G ps σ H hna C Sl _ fun vs G1 ps1 H1 C1 u1 r1 => by
    show spM X.K n spec (vs ++ []) H1 Q E0
    rw [List.append_nil]
    refine ⟨G1, pick ps1 κ, svs, d, _, _, h, Nat.eq_of_beq_eq_true hn, C1.enter S nd, RenA.reps C1 S hren r1, fun v G' ps' H' C' u' r' => ?_⟩
    have C2 := C1.leave S nd C' (List.prefix_append d' [o]) hf hs
    have lpick : (pick ps1 κ).length = i := by
      rw [show (pick ps1 κ).length = κ.length from List.length_map _, hs.length.2, hi]
    obtain ⟨q1, hq1, rfl⟩ := r'
    have ho : (d' ++ [o])[i]? = some o := by rw [List.getElem?_append_right (by omega), hi, Nat.sub_self]; rfl
    obtain ⟨g1, g2, g3⟩ := C'.cell i q1 o hq1 ho
    have hG : G' q1 = none := g3.elim (fun z => (hod z).elim) id
    have hH1 : H1 q1 = none := g2.elim id fun m => by
      obtain ⟨l, el⟩ := List.getElem?_of_mem (show q1 ∈ pick ps1 κ from m)
      have h1 := nd_at C'.nd (pre_get u'.p el) hq1
      have h2 := (List.getElem?_eq_some_iff.mp el).1
      omega
    have C3 := C2.adoptCell (c := o) (C1.notMem hH1) hG (C1.free0 hH1) (RepC.flat g1 hfo)
    obtain ⟨rfl, rfl⟩ := ac.at
    exact q (.ref q1) G' (ps1 ++ [q1]) H' C3 (u1.trans ⟨u'.s, List.prefix_append _ _⟩) ⟨q1, by rw [← C2.len]; exact pre_snoc_get ps1 q1, rfl⟩) hdb he hpl
/-- .. the new cell is taken as data -/
theorem ev_callNV {ss svs : List SV} {κ : List Nat} {d d' : Cs} {o : CC} {r : PyData} {i : Nat} (c : Cal X.prog X.w X.K X.mg X.base k x n spec) (hr : Room j X.A) (hk : k ≤ j) (hg : Gl X x)
    (ha : AV X na (e :: es) sl cs ss cs1) (S : Sel cs1 κ d) (hren : RenA κ svs ss) (h : spec svs d (.cell i) (d' ++ [o])) (hi : d'.length = i) (hs : SetA cs1 κ d' cs2) (ho' : o.data = some r) (hf : d'.all CC.flat = true) (nd : κ.Nodup) (hn : Nat.beq svs.length n = true)
    (hdb : (x == ("__debug__" : Str)) = false := by decide) (he : starEach (e :: es) X.env = (false, eval e X.env) :: starEach es X.env := by rfl) (hpl : (backTo pos (starEach es X.env)).any (·.1) = false := by rfl) :
    EV X na (.Call (.Name x p) (e :: es) [] pos) sl cs (.val r) cs2 :=
  ev_callR c hr hk hg (fun B G ps σ H hna C Sl Q q => ha B G ps σ H hna C Sl _ fun vs G1 ps1 H1 C1 u1 r1 => by
    show spM X.K n spec (vs ++ []) H1 Q E0
    rw [List.append_nil]
    refine ⟨G1, pick ps1 κ, svs, d, _, _, h, Nat.eq_of_beq_eq_true hn, C1.enter S nd, RenA.reps C1 S hren r1, fun v G' ps' H' C' u' r' => ?_⟩
    have C2 := C1.leave S nd C' (List.prefix_append d' [o]) hf hs
    have lpick : (pick ps1 κ).length = i := by
      rw [show (pick ps1 κ).length = κ.length from List.length_map _, hs.length.2, hi]
    obtain ⟨q1, hq1, rfl⟩ := r'
    have ho : (d' ++ [o])[i]? = some o := by rw [List.getElem?_append_right (by omega), hi, Nat.sub_self]; rfl
    obtain ⟨g1, g2, g3⟩ := C'.cell i q1 o hq1 ho
    have hod : o ≠ .dead := fun z => by subst z; cases ho'
    have hG : G' q1 = none := g3.elim (fun z => (hod z).elim) id
    have hH1 : H1 q1 = none := g2.elim id fun m => by
      obtain ⟨l, el⟩ := List.getElem?_of_mem (show q1 ∈ pick ps1 κ from m)
      have h1 := nd_at C'.nd (pre_get u'.p el) hq1
      have h2 := (List.getElem?_eq_some_iff.mp el).1
      omega
    obtain ⟨ob, hH, hrr⟩ := g1.data ho'
    exact q (.ref q1) _ ps1 H' (C2.adopt (o := ob) (C1.notMem hH1) hG (C1.free0 hH1) hH) (u1.trans ⟨u'.s.trans (Same.new hG), List.prefix_refl _⟩) (hrr _ (Same.new hG) upd_same)) hdb he hpl
/-! ### what the module's names hold -/
structure Glo (K : PySem.W.Frag) (mg : Str → Option Value) (x : Str) (d : PyData) : Prop where
  ex : ∃ u v, mg x = some u ∧ RelV v u ∧ ∀ G, Rep K G v d
theorem ev_glo {d : PyData} (h : Glo X.K X.mg x d) (hg : Gl X x) (hdb : (x == ("__debug__" : Str)) = false := by decide) : EV X na (.Name x pos) sl cs (.val d) cs := by
  obtain ⟨u, v, h1, h2, h3⟩ := h.ex
  exact ev_of (pe_glob hg h1 h2 hdb) (de_c h3)
/-! ### the slots' names, looked at once -/
def tabOk (N : List Str) (sc : Scope) : Bool := N.all fun x => (match sc.names.lookup x with
  | some .local => true
  | some .cell => true
  | _ => false) && !(x == ("__debug__" : Str)) && !(x == ("__classdict__" : Str))
theorem tab_of {sc : Scope} {m : Nat} (h : tabOk (N.take m) sc = true) (hN : X.N = N) (hs : X.env.scope = sc) (nd : N.Nodup) (hf : ∀ x, X.fn x = true) : Tab X m ∧ TabL X m := by
  subst hN hs
  have key : ∀ x ∈ X.N.take m, Loc X.env.scope x ∧ (x == ("__debug__" : Str)) = false ∧ (x == ("__classdict__" : Str)) = false := fun x hx => by
    have := List.all_eq_true.mp h x hx
    simp only [Bool.and_eq_true, Bool.not_eq_true'] at this
    refine ⟨?_, this.1.2, this.2⟩
    have q := this.1.1
    unfold L2.Loc
    revert q
    cases X.env.scope.names.lookup x with
    | none => intro q; cases q
    | some k => cases k <;> intro q <;> first | exact .inl rfl | exact .inr rfl | cases q
  exact ⟨⟨nd, fun x hx => ⟨(key x hx).1.elim .inl fun h => .inr (.inl h), (key x hx).2⟩⟩, ⟨nd, fun x hx => (key x hx).1, hf⟩⟩
/-- a def of the module's top, as it stands behind it -/
structure DefAt (K : PySem.W.Frag) (mg : Str → Option Value) (x : Str) (st : Stmt) (ps : List Str) : Prop where
  ex : ∃ (f : Addr) (fd : FuncData), Fun K x x st f fd ∧ mg x = some (.ref f) ∧ Binds K fd ps []
theorem cal_def {P : Program} {w : World} {K : PySem.W.Frag} {mg : Str → Option Value} {base : Heap} {x : Str} {st : Stmt} {N ps : List Str} {k m : Nat} {spec : Spec} (D : DefAt K mg x st ps) (S : FnScope N ps (defScope st)) (tb : tabOk (N.take m) (defScope st) = true)
    (body : ∀ (f : Addr) (cdv : Value) (A : Around) (outer : List Env) (s : Shared) (H : Hp) (E : XK), Room k (cxN P w K mg base N x (defScope st) f cdv A outer s H E).A → Tab (cxN P w K mg base N x (defScope st) f cdv A outer s H E) m → TabL (cxN P w K mg base N x (defScope st) f cdv A outer s H E) m →
      ∀ svs cs sv cs', spec svs cs sv cs' → svs.length = ps.length →
      SX (cxN P w K mg base N x (defScope st) f cdv A outer s H E) cs.length (defBody st) (svs.map some ++ List.replicate (N.length - svs.length) none) cs { nx := fun _ cs2 => RetOk cs.length sv cs' (.val .none) cs2, rt := fun s2 cs2 => RetOk cs.length sv cs' s2 cs2 }) :
    Cal P w K mg base (k + 1) x ps.length spec := by
  obtain ⟨f, fd, F, hm, b⟩ := D.ex
  refine cal_mk F hm b S fun cdv A outer s H E hr svs cs sv cs' h hl => ?_
  obtain ⟨T, TL⟩ := tab_of (X := cxN P w K mg base N x (defScope st) f cdv A outer s H E) tb rfl rfl S.nd (fun _ => rfl)
  exact body f cdv A outer s H E hr T TL svs cs sv cs' h hl
theorem cal_zero {P : Program} {w : World} {K : PySem.W.Frag} {mg : Str → Option Value} {base : Heap} {x : Str} {st : Stmt} {ps : List Str} {k n : Nat} {spec : Spec} (D : DefAt K mg x st ps) (no : ∀ a c s d, ¬ spec a c s d) : Cal P w K mg base k x n spec := by
  obtain ⟨f, fd, F, hm, b⟩ := D.ex
  exact cal_none F hm b no
end
end DL
namespace DL
open PySem PySem.Spec PyProof.Rows L2

/-! ### comprehensions -/
def wipeS (sl : Sl) : List Nat → Sl
  | [] => sl
  | v :: vs => (wipeS sl vs).set v none
theorem wipe_get (σ : L2.St) (i : Nat) : ∀ vs : List Nat, (wipe σ vs)[i]? = if i ∈ vs then (σ[i]?).map fun _ => none else σ[i]?
  | [] => by simp [wipe]
  | v :: vs => by
    have ih := wipe_get σ i vs
    unfold wipe
    by_cases h : i = v
    · subst h
      rw [if_pos List.mem_cons_self]
      by_cases hl : i < σ.length
      · rw [List.getElem?_set_self (by rw [wipe_length]; exact hl), List.getElem?_eq_getElem hl]
        rfl
      · rw [List.getElem?_eq_none (by rw [List.length_set, wipe_length]; omega), List.getElem?_eq_none (by omega)]
        rfl
    · rw [List.getElem?_set_ne (Ne.symm h), ih]
      by_cases m : i ∈ vs
      · rw [if_pos m, if_pos (List.mem_cons_of_mem _ m)]
      · rw [if_neg m, if_neg (fun z => (List.mem_cons.mp z).elim h m)]
theorem wipe_set {σ : L2.St} {i : Nat} {o : Option V} {vs : List Nat} (h : i ∈ vs) : wipe (σ.set i o) vs = wipe σ vs := by
  apply List.ext_getElem?
  intro j
  rw [wipe_get, wipe_get]
  by_cases e : j = i
  · subst e
    rw [if_pos h, if_pos h]
    by_cases hl : j < σ.length
    · rw [List.getElem?_set_self hl, List.getElem?_eq_getElem hl]
      rfl
    · rw [List.getElem?_eq_none (by rw [List.length_set]; omega), List.getElem?_eq_none (by omega)]
  · rw [List.getElem?_set_ne (Ne.symm e)]
theorem wipe_idem (σ : L2.St) (vs : List Nat) : wipe (wipe σ vs) vs = wipe σ vs := by
  apply List.ext_getElem?
  intro j
  rw [wipe_get, wipe_get]
  by_cases h : j ∈ vs
  · rw [if_pos h, if_pos h]
    cases σ[j]? <;> rfl
  · rw [if_neg h, if_neg h]
theorem pd_setNone {K : PySem.W.Frag} {G : Hp} {ps : List Addr} : ∀ {σ : L2.St} {sl : Sl} (i : Nat), Slots K G ps σ sl → Slots K G ps (σ.set i none) (sl.set i none)
  | _, _, _, .nil => .nil
  | _, _, 0, .cons _ t => .cons trivial t
  | _, _, i + 1, .cons q t => .cons q (pd_setNone i t)
theorem Slots.wipe {K : PySem.W.Frag} {G : Hp} {ps : List Addr} {σ : L2.St} {sl : Sl} (S : Slots K G ps σ sl) : ∀ vs : List Nat, Slots K G ps (L2.wipe σ vs) (wipeS sl vs)
  | [] => S
  | v :: vs => pd_setNone v (Slots.wipe S vs)
def DGW (K : PySem.W.Frag) (na : Nat) (tg : TG) (s : SV) (sl : Sl) (cs : Cs) (vs : List Nat) (R : Sl → Cs → Prop) : Prop := ∀ B G ps σ H v, B.As.length = na → Core K B G ps cs H → Slots K G ps σ sl → RepV K G ps v s → ∀ Q : L2.St → Hp → Prop,
  (∀ sl' cs' G' ps' σ' H', Core K B G' ps' cs' H' → Up G ps G' ps' → Slots K G' ps' σ' sl' → L2.wipe σ' vs = L2.wipe σ vs → R sl' cs' → Q σ' H') → tg v σ H Q
def DGWs (K : PySem.W.Frag) (na : Nat) (tg : TGs) (ss : List SV) (sl : Sl) (cs : Cs) (vs : List Nat) (R : Sl → Cs → Prop) : Prop := ∀ B G ps σ H ws, B.As.length = na → Core K B G ps cs H → Slots K G ps σ sl → RepVs K G ps ws ss → ∀ Q : L2.St → Hp → Prop,
  (∀ sl' cs' G' ps' σ' H', Core K B G' ps' cs' H' → Up G ps G' ps' → Slots K G' ps' σ' sl' → L2.wipe σ' vs = L2.wipe σ vs → R sl' cs' → Q σ' H') → tg ws σ H Q
/-- the block of a comprehension -/
abbrev blkOf (X : Cx) (scope : Scope) (st : Shared) (H : Hp) (C : Addr) (cl : List (Str × Addr)) (fp : List Addr) : Cx := X.blk st H scope (compEnvC scope cl C X.env) fp
section
variable {X : Cx} {na : Nat} {sl sl' : Sl} {cs cs1 cs2 cs3 : Cs} {s t u : SV} {pos : Pos} {x : Str} {E : DEnds} {N : List Str} {vs : List Nat} {R : Sl → Cs → Prop}
def GW (X : Cx) (na : Nat) (e : Expr) (s : SV) (sl : Sl) (cs : Cs) (vs : List Nat) (R : Sl → Cs → Prop) : Prop := DGW X.K na (anyG X e) s sl cs vs R
def GWs (X : Cx) (na : Nat) (es : List Expr) (ss : List SV) (sl : Sl) (cs : Cs) (vs : List Nat) (R : Sl → Cs → Prop) : Prop := DGWs X.K na (anyGs X es) ss sl cs vs R
theorem gw_name {i : Nat} (nd : X.N.Nodup) (hN : X.N = N) (p : Put N sl x i s sl') (hi : i ∈ vs) (q : R sl' cs) (hl : L2.Loc X.env.scope x := by first | exact Or.inl rfl | exact Or.inr rfl) (hf : X.fn x = true ∨ X.env.scope.names.lookup x = some .local := by first | exact .inl rfl | exact .inr rfl) : GW X na (.Name x pos) s sl cs vs R := by
  subst hN
  obtain ⟨h1, h2⟩ := p.at
  subst h2
  exact fun B G ps σ H v hn C S r Q k => ⟨_, pg_name nd h1 hl hf, k _ cs G ps _ H C (Up.refl _ _) (Slots.set S r i) (wipe_set hi) q⟩
theorem gws_nil (q : R sl cs) : GWs X na [] [] sl cs vs R := fun B G ps σ H ws hn C S r Q k => by
  cases r
  exact ⟨_, pgs_nil, rfl, k sl cs G ps σ H C (Up.refl _ _) S rfl q⟩
theorem gws_cons {e : Expr} {es : List Expr} {ss : List SV} (h : GW X na e s sl cs vs fun sl' cs' => GWs X na es ss sl' cs' vs R)
    (hs : (assignEach (e :: es) X.env).map (·.2) = assign e X.env :: (assignEach es X.env).map (·.2) := by rfl) : GWs X na (e :: es) (s :: ss) sl cs vs R := fun B G ps σ H ws hn C S r Q k => by
  cases r with
  | cons r1 rr =>
    exact ⟨_, pgs_cons pg_any pgs_any hs, _, _, rfl, h B G ps σ H _ hn C S r1 _ fun sl' cs' G1 ps1 σ1 H1 C1 u1 S1 w1 q => q B G1 ps1 σ1 H1 _ hn C1 S1 (RepVs.mono u1 rr) _ fun sl2 cs2 G2 ps2 σ2 H2 C2 u2 S2 w2 => k sl2 cs2 G2 ps2 σ2 H2 C2 (u1.trans u2) S2 (w2.trans w1)⟩
theorem gw_tup {es : List Expr} {k : Nat} {ds : List PyData} {n : Nat} (hc : X.calm = true) (h : GWs X na es (ds.map SV.val) sl cs vs R) (hl : ds.length = n)
    (hn : (assignEach es X.env).length = n := by rfl) (hst : (assignEach es X.env).findIdx? (·.1) = none := by rfl) : GW X na (.Tuple es k pos) (.val (.tuple ds)) sl cs vs R := fun B G ps σ H v hna C S r Q q => by
  cases (r : Rep _ _ _ _) with
  | tup h1 h2 => exact ⟨_, pg_tup hc pgs_any hn hst, _, _, rfl, Same.seqT C.gh h1, h2.length.trans hl, h B G ps σ H _ hna C S (Reps.vs h2) Q q⟩
def anyTs (X : Cx) (es : List Expr) : TT := fun σ H Q => ∃ te, PTs X es te ∧ te σ H Q
def TVs (X : Cx) (na : Nat) (es : List Expr) (sl : Sl) (cs : Cs) (b : Bool) (cs' : Cs) : Prop := DT X.K na (anyTs X es) sl cs b cs'
theorem tvs_nil : TVs X na [] sl cs true cs := fun B G ps σ H hn C S Q q => ⟨_, pts_nil, q G ps H C (Up.refl _ _)⟩
theorem tvs_one {e : Expr} {b : Bool} (h : TV X na e sl cs b cs1) : TVs X na [e] sl cs b cs1 := fun B G ps σ H hn C S Q q => ⟨_, pts_one pt_any, h B G ps σ H hn C S Q q⟩
/-- the first n cells as told -/
inductive AtC (n : Nat) (c : Cs) : Cs → Prop
  | same : AtC n c c
  | drop {d : Cs} : c.all (CC.lt n) = true → d.take n = c → AtC n c d
theorem AtC.go {K : PySem.W.Frag} {B : Bs} {G1 G : Hp} {ps1 ps : List Addr} {n : Nat} {c d : Cs} {H : Hp} (h : AtC n c d) (hn : ps1.length = n) (C : Core K B G ps d H) (hA : B.As.length ≤ n) (u : Up G1 ps1 G ps) : ∃ ps', Core K B G ps' c H ∧ Up G1 ps1 G ps' ∧ ∀ p, p ∈ ps' → p ∈ ps := by
  cases h with
  | same => exact ⟨ps, C, u, fun _ h => h⟩
  | drop h2 h3 =>
    subst h3
    refine ⟨ps.take n, C.take hA h2, ⟨u.s, ?_⟩, fun p h => (List.take_sublist n ps).subset h⟩
    obtain ⟨t, e⟩ := u.p
    rw [← e, List.take_append, List.take_of_length_le (Nat.le_of_eq hn)]
    exact List.prefix_append _ _
def famG (X : Cx) (scope : Scope) (e : Expr) : TG := fun v σ H Q => ∀ st H0 C cl fp, anyG (blkOf X scope st H0 C cl fp) e v σ H Q
def famT (X : Cx) (scope : Scope) (es : List Expr) : TT := fun σ H Q => ∀ st H0 C cl fp, anyTs (blkOf X scope st H0 C cl fp) es σ H Q
def famE (X : Cx) (scope : Scope) (e : Expr) : TE := fun σ H Q => ∀ st H0 C cl fp, anyE (blkOf X scope st H0 C cl fp) e σ H Q
/-- what a comprehension does: a new list of data -/
def LC (X : Cx) (na : Nat) (elt tg iter : Expr) (ifs : List Expr) (scope : Scope) (own : List (Str × Nat)) (sl : Sl) (cs : Cs) (ds : List PyData) (cs' : Cs) : Prop := ∀ B G ps σ H, B.As.length = na → Core X.K B G ps cs H → Slots X.K G ps σ sl → ∀ Q : VK,
      (∀ D vs G' ps' H', Core X.K B G' ps' cs' H' → Up G ps G' ps' → D ∉ ps' → G' D = none → B.H0 D = none → H' D = some (.lst vs) → Reps X.K G' vs ds → Q (.ref D) H') → tLc (anyI X tg iter) (famG X scope tg) (famT X scope ifs) (famE X scope elt) (own.map (·.2)) σ H Q
/-- [elt for tg in iter if ..]: a new list of data -/
theorem lc_gen {elt tg iter : Expr} {ifs : List Expr} {scope : Scope} {own : List (Str × Nat)} {xs : List SV} {GC : Cs → Prop} (h : IV X na tg iter sl cs xs GC cs1)
    (a : Nat → Sl) (c c2 : Nat → Cs) (b : Nat → Bool) (v : Nat → PyData) (out : Nat → List PyData) (c0 : c 0 = cs1) (o0 : out 0 = []) (hz : xs.length ≤ 100000) (hG : ∀ i, i ≤ xs.length → GC (c i))
    (hg : ∀ i s, xs[i]? = some s → ∀ st H C cl fp, GW (blkOf X scope st H C cl fp) (c i).length tg s (wipeS sl (own.map (·.2))) (c i) (own.map (·.2)) fun sl2 cs2 => sl2 = a i ∧ cs2 = c i)
    (ht : ∀ i s, xs[i]? = some s → ∀ st H C cl fp, TVs (blkOf X scope st H C cl fp) (c i).length ifs (a i) (c i) (b i) (c i))
    (he : ∀ i s, xs[i]? = some s → b i = true → (∀ st H C cl fp, EV (blkOf X scope st H C cl fp) (c i).length elt (a i) (c i) (.val (v i)) (c2 i)) ∧ AtC cs1.length (c (i + 1)) (c2 i) ∧ out (i + 1) = out i ++ [v i])
    (hn : ∀ i s, xs[i]? = some s → b i = false → c (i + 1) = c i ∧ out (i + 1) = out i)
    : LC X na elt tg iter ifs scope own sl cs (out xs.length) (c xs.length) := by
  intro B G ps σ H hna C S Q q
  refine h B G ps σ H hna C S _ fun J HG Y G1 ps1 H1 C1 u1 W hHG hY => fun D hD => ?_
  have hA : B.As.length ≤ cs1.length := by
    rw [← C1.len]
    exact C1.pre.length_le
  have hB : B.H0 D = none := C1.free0 hD
  refine lc_it W (g := famG X scope tg) (tt := famT X scope ifs) (te := famE X scope elt) (vs := own.map (·.2)) (σ := σ) (Qd := fun H => Q (.ref D) H) (fun i H' => ∃ G' ps' vs, Core X.K B G' ps' (c i) H' ∧ Up G1 ps1 G' ps' ∧ D ∉ ps' ∧ G' D = none ∧ H' D = some (.lst vs) ∧ Reps X.K G' vs (out i) ∧ (out i).length ≤ i)
    ⟨G1, ps1, [], by rw [c0]; exact C1.outside (C1.notMem hD) (C1.freeG hD) hB, Up.refl _ _, C1.notMem hD, C1.freeG hD, upd_same, by rw [o0]; exact .nil, by rw [o0]; exact Nat.le_refl _⟩ ?_ ?_ ?_
  · intro i H' hi ⟨G', ps', vs', C', u', d1, d2, d3, r, _⟩
    exact hHG G' ps' (c i) H' C' u' (hG i hi)
  · intro i w H' H'' hi ⟨G', ps', vs', C', u', d1, d2, d3, r, hlen⟩ y
    obtain ⟨s, G2, es, C2, u2, r2, sm, nw⟩ := hY i H' w H'' G' ps' (c i) y C' u' (hG i (Nat.le_of_lt hi))
    have e2 : H'' D = some (.lst vs') := sm _ _ d3
    have g2 : G2 D = none := by
      cases q0 : G2 D with
      | none => rfl
      | some o =>
        rcases nw D (by rw [q0]; exact Option.some_ne_none _) with z | z
        · exact (z d2).elim
        · rw [d3] at z; cases z
    -- the turn is run from where it stands
    have C2s := C2.sub
    have keep : ∀ {G3 ps3 cs3 H3}, Core X.K ⟨G2, H'', ps'⟩ G3 ps3 cs3 H3 → H3 D = some (.lst vs') ∧ G3 D = none ∧ D ∉ ps3 := fun {G3 ps3 cs3 H3} C3 => by
      refine ⟨C3.h0 D _ e2 d1, ?_, fun m => ?_⟩
      · cases q0 : G3 D with
        | none => rfl
        | some o =>
          rcases C3.nw D (by rw [q0]; exact Option.some_ne_none _) with z | z
          · exact (z g2).elim
          · have z' : H'' D = none := z
            rw [e2] at z'; cases z'
      · rcases C3.own m with z | z
        · have z' : H'' D = none := z
          rw [e2] at z'; cases z'
        · exact d1 z
    have Sw : Slots X.K G2 ps' (L2.wipe σ (own.map (·.2))) (wipeS sl (own.map (·.2))) := (Slots.mono ((u1.trans u').trans u2) S).wipe _
    intro st H0 Cc cl fp
    refine hg i s es st H0 Cc cl fp ⟨G2, H'', ps'⟩ G2 ps' _ H'' w C2.len C2s Sw r2 _ fun sl3 cs3 G3 ps3 σ3 H3 C3 u3 S3 w3 ⟨ea, ec⟩ => ?_
    subst ea ec
    refine ⟨w3.trans (wipe_idem _ _), fun st H0 Cc cl fp => ?_⟩
    refine ht i s es st H0 Cc cl fp ⟨G2, H'', ps'⟩ G3 ps3 σ3 H3 C2.len C3 S3 _ fun G4 ps4 H4 C4 u4 => ?_
    cases hb : b i with
    | false =>
      obtain ⟨k1, k2, k3⟩ := keep C4
      obtain ⟨n1, n2⟩ := hn i s es hb
      show ∃ _, _
      refine ⟨G4, ps4, vs', by rw [n1]; exact C2.back C4, ((u'.trans u2).trans u3).trans u4, k3, k2, k1, by rw [n2]; exact Reps.mono ((u2.trans u3).trans u4).s r, by rw [n2]; omega⟩
    | true =>
      obtain ⟨n1, n2, n3⟩ := he i s es hb
      show ∀ _, _
      intro st H0 Cc cl fp
      refine n1 st H0 Cc cl fp ⟨G2, H'', ps'⟩ G4 ps4 σ3 H4 C2.len C4 (Slots.mono u4 S3) _ fun z G5 ps5 H5 C5 u5 r5 => ?_
      obtain ⟨k1, k2, k3⟩ := keep C5
      have u05 : Up G1 ps1 G5 ps5 := (((u'.trans u2).trans u3).trans u4).trans u5
      obtain ⟨ps6, C6, u6, sub⟩ := n2.go C1.len (C2.back C5) hA u05
      have hv : (out i).length = vs'.length := r.length.symm
      refine ⟨vs', k1, szl (by omega), G5, ps6, vs' ++ [z], C6.outside (fun m => k3 (sub _ m)) k2 hB, u6, fun m => k3 (sub _ m), k2, upd_same, ?_, ?_⟩
      · rw [n3]
        exact (Reps.mono (((u2.trans u3).trans u4).trans u5).s r).append (.cons r5 .nil)
      · rw [n3, List.length_append]
        show (out i).length + 1 ≤ i + 1
        omega
  · intro H' ⟨G', ps', vs', C', u', d1, d2, d3, r, _⟩
    exact q D vs' G' ps' H' C' (u1.trans u') d1 d2 hB d3 r
theorem pe_LC {elt tg iter : Expr} {ifs : List Expr} {scope : Scope} {own : List (Str × Nat)} (hc : X.calm = true) (nd : X.N.Nodup) (ok : BlkOk X.N X.env.scope scope own) (hs : ∀ x, foldedSetIterable iter X.env x = pure x := by intro _; rfl) : PE X (.ListComp elt [⟨tg, iter, ifs, 0⟩] scope pos) (tLc (anyI X tg iter) (famG X scope tg) (famT X scope ifs) (famE X scope elt) (own.map (·.2))) :=
  pe_lc (wi := anyI X tg iter) (g := famG X scope tg) (tt := famT X scope ifs) (te := famE X scope elt) hc nd pi_any ok
    (fun st H0 C cl fp => ⟨fun pins s σ H v u Q I r h => pg_any.run pins s σ H v u Q I r (h st H0 C cl fp)⟩) (fun st H0 C cl fp => ⟨fun pins s σ H Q I h => by obtain ⟨te, p, h⟩ := h st H0 C cl fp; exact p.run pins s σ H Q I h⟩)
    (fun st H0 C cl fp => ⟨fun pins s σ H Q I h => pe_any.run pins s σ H Q I (h st H0 C cl fp)⟩) hs
/-- as data -/
theorem ev_LC {elt tg iter : Expr} {ifs : List Expr} {scope : Scope} {own : List (Str × Nat)} {ds : List PyData} (hc : X.calm = true) (nd : X.N.Nodup) (ok : BlkOk X.N X.env.scope scope own) (d : LC X na elt tg iter ifs scope own sl cs ds cs1) (hs : ∀ x, foldedSetIterable iter X.env x = pure x := by intro _; rfl) : EV X na (.ListComp elt [⟨tg, iter, ifs, 0⟩] scope pos) sl cs (.val (.list ds)) cs1 :=
  ev_of (pe_LC hc nd ok hs) fun B G ps σ H hna C S Q q => d B G ps σ H hna C S Q fun D vs G' ps' H' C' u' d1 d2 d3 d4 r =>
    q (.ref D) _ ps' H' (C'.adopt d1 d2 d3 d4) (u'.trans ⟨Same.new d2, List.prefix_refl _⟩) (Rep.lst (SqL.of upd_same) (Reps.mono (Same.new d2) r))
theorem ev_lc {elt tg iter : Expr} {ifs : List Expr} {scope : Scope} {own : List (Str × Nat)} {xs : List SV} {GC : Cs → Prop} (hc : X.calm = true) (nd : X.N.Nodup) (ok : BlkOk X.N X.env.scope scope own) (h : IV X na tg iter sl cs xs GC cs1)
    (a : Nat → Sl) (c c2 : Nat → Cs) (b : Nat → Bool) (v : Nat → PyData) (out : Nat → List PyData) (c0 : c 0 = cs1) (o0 : out 0 = []) (hz : xs.length ≤ 100000) (hG : ∀ i, i ≤ xs.length → GC (c i))
    (hg : ∀ i s, xs[i]? = some s → ∀ st H C cl fp, GW (blkOf X scope st H C cl fp) (c i).length tg s (wipeS sl (own.map (·.2))) (c i) (own.map (·.2)) fun sl2 cs2 => sl2 = a i ∧ cs2 = c i)
    (ht : ∀ i s, xs[i]? = some s → ∀ st H C cl fp, TVs (blkOf X scope st H C cl fp) (c i).length ifs (a i) (c i) (b i) (c i))
    (he : ∀ i s, xs[i]? = some s → b i = true → (∀ st H C cl fp, EV (blkOf X scope st H C cl fp) (c i).length elt (a i) (c i) (.val (v i)) (c2 i)) ∧ AtC cs1.length (c (i + 1)) (c2 i) ∧ out (i + 1) = out i ++ [v i])
    (hn : ∀ i s, xs[i]? = some s → b i = false → c (i + 1) = c i ∧ out (i + 1) = out i)
    (hs : ∀ x, foldedSetIterable iter X.env x = pure x := by intro _; rfl) : EV X na (.ListComp elt [⟨tg, iter, ifs, 0⟩] scope pos) sl cs (.val (.list (out xs.length))) (c xs.length) := by
  exact ev_LC hc nd ok (lc_gen h a c c2 b v out c0 o0 hz hG hg ht he hn) hs
end
end DL
namespace DL
open PySem PySem.Spec PyProof.Rows L2

/-! ### equal data -/
section
variable {K : PySem.W.Frag} {G H : Hp}
mutual
theorem Rep.dp (g : Same G H) : ∀ {v : V} {d : PyData}, Rep K G v d → d.canLay0 = true → Dp K H v d
  | _, _, .non, _ => .non
  | _, _, .bl b, _ => .bl b
  | _, _, .int i, _ => .int i
  | _, _, .str x, _ => .str x
  | _, _, .lst h r, l => .lst (g.seq h) (Reps.dp g r (by simpa only [PyData.canLay0] using l))
  | _, _, .tup h r, l => .tup (Same.seqT g h) (Reps.dp g r (by simpa only [PyData.canLay0] using l))
  | _, _, .dct _ _, l => by simp [PyData.canLay0] at l
theorem Reps.dp (g : Same G H) : ∀ {v : List V} {d : List PyData}, Reps K G v d → PyData.canLayAll0 d = true → DpAll K H v d
  | _, _, .nil, _ => .nil
  | _, _, .cons h r, l => by
    simp only [PyData.canLayAll0, Bool.and_eq_true] at l
    exact .cons (Rep.dp g h l.1) (Reps.dp g r l.2)
end
end
section
variable {X : Cx} {na : Nat} {sl sl' : Sl} {cs cs1 cs2 cs3 : Cs} {s t u : SV} {pos : Pos} {x : Str} {E : DEnds} {N : List Str} {a b : Expr}
/-- what is read as one datum: data, or a cell of data -/
inductive IsDat (cs : Cs) : SV → PyData → Prop
  | val {d : PyData} : IsDat cs (.val d) d
  | cell {k : Nat} {c : CC} {d : PyData} : cs[k]? = some c → c.data = some d → IsDat cs (.cell k) d
theorem IsDat.dp {K : PySem.W.Frag} {B : Bs} {G : Hp} {ps : List Addr} {H : Hp} {v : V} {d : PyData} (C : Core K B G ps cs H) (r : RepV K G ps v s) (h : IsDat cs s d) (l : d.canLay0 = true) : Dp K H v d := by
  cases h with
  | val => exact Rep.dp C.gh r l
  | @cell k c _ hc hd =>
    obtain ⟨p, rfl, _, rc⟩ := C.cellAt r hc
    cases c with
    | lst xs =>
      obtain ⟨ws, h1, h2⟩ := rc
      cases q : svData xs with
      | none => simp [CC.data, q] at hd
      | some ds =>
        simp [CC.data, q] at hd
        subst hd
        exact .lst (SqL.of h1) (Reps.dp C.gh (RepVs.data h2 q) (by simpa only [PyData.canLay0] using l))
    | dct kvs =>
      simp only [CC.data, Option.map_eq_some_iff] at hd
      obtain ⟨es, _, e⟩ := hd
      subst e
      simp [PyData.canLay0] at l
    | ins _ _ => simp [CC.data] at hd
    | dead => simp [CC.data] at hd
    | frz _ _ _ => simp [CC.data] at hd
    | tup _ => simp [CC.data] at hd
theorem rv_eqD {K : PySem.W.Frag} {d e : PyData} (hd : IsDat cs s d) (he : IsDat cs t e) (sd : SeqAt.shaped d = true) (se : SeqAt.shaped e = true) : RV K na (rEqD K) s t cs (.val (.bool (PyData.eqv d e))) cs := fun B G ps H v w hn C r1 r2 Q q =>
  ⟨d, e, hd.dp C r1 (SeqAt.canLay_of_shaped sd), he.dp C r2 (SeqAt.canLay_of_shaped se), sd, se, q _ G ps H C (Up.refl _ _) (Rep.bl _)⟩
theorem rv_neD {K : PySem.W.Frag} {d e : PyData} (hd : IsDat cs s d) (he : IsDat cs t e) (sd : SeqAt.shaped d = true) (se : SeqAt.shaped e = true) : RV K na (rNeD K) s t cs (.val (.bool (!PyData.eqv d e))) cs := fun B G ps H v w hn C r1 r2 Q q =>
  ⟨d, e, hd.dp C r1 (SeqAt.canLay_of_shaped sd), he.dp C r2 (SeqAt.canLay_of_shaped se), sd, se, q _ G ps H C (Up.refl _ _) (Rep.bl _)⟩
theorem ev_eqD {d e : PyData} {k : Nat} (hr : Room k X.A) (ha : EV X na a sl cs s cs1) (hb : EV X na b sl cs1 t cs2) (hd : IsDat cs2 s d) (he : IsDat cs2 t e) (sd : SeqAt.shaped d = true) (se : SeqAt.shaped e = true) : EV X na (.Compare a [.Eq] [b] pos) sl cs (.val (.bool (PyData.eqv d e))) cs2 :=
  ev_cmp (op_eqD (by have := hr.un; omega)) (nomark _) ha hb (rv_eqD hd he sd se)
theorem ev_neD {d e : PyData} {k : Nat} (hr : Room k X.A) (ha : EV X na a sl cs s cs1) (hb : EV X na b sl cs1 t cs2) (hd : IsDat cs2 s d) (he : IsDat cs2 t e) (sd : SeqAt.shaped d = true) (se : SeqAt.shaped e = true) : EV X na (.Compare a [.NotEq] [b] pos) sl cs (.val (.bool (!PyData.eqv d e))) cs2 :=
  ev_cmp (op_neD (by have := hr.un; omega)) (nomark _) ha hb (rv_neD hd he sd se)
theorem tv_eqD {d e : PyData} {k : Nat} (hr : Room k X.A) (ha : EV X na a sl cs s cs1) (hb : EV X na b sl cs1 t cs2) (hd : IsDat cs2 s d) (he : IsDat cs2 t e) (sd : SeqAt.shaped d = true) (se : SeqAt.shaped e = true) : TV X na (.Compare a [.Eq] [b] pos) sl cs (PyData.eqv d e) cs2 :=
  tv_cmp (op_eqD (by have := hr.un; omega)) (nomark _) ha hb (rv_eqD hd he sd se)
theorem tv_neD {d e : PyData} {k : Nat} (hr : Room k X.A) (ha : EV X na a sl cs s cs1) (hb : EV X na b sl cs1 t cs2) (hd : IsDat cs2 s d) (he : IsDat cs2 t e) (sd : SeqAt.shaped d = true) (se : SeqAt.shaped e = true) : TV X na (.Compare a [.NotEq] [b] pos) sl cs (!PyData.eqv d e) cs2 :=
  tv_cmp (op_neD (by have := hr.un; omega)) (nomark _) ha hb (rv_neD hd he sd se)
/-- flat ones -/
theorem rv_eqI {K : PySem.W.Frag} {i j : Int} : RV K na rEq (.val (.int i)) (.val (.int j)) cs (.val (.bool (decide (i = j)))) cs := fun B G ps H v w hn C r1 r2 Q q => by
  rw [Rep.intI r1, Rep.intI r2]
  refine ⟨rfl, ?_⟩
  have e : decide (V.int i = V.int j) = decide (i = j) := by simp
  rw [e]
  exact q _ G ps H C (Up.refl _ _) (Rep.bl _)
theorem rv_neI {K : PySem.W.Frag} {i j : Int} : RV K na rNe (.val (.int i)) (.val (.int j)) cs (.val (.bool (!decide (i = j)))) cs := fun B G ps H v w hn C r1 r2 Q q => by
  rw [Rep.intI r1, Rep.intI r2]
  refine ⟨rfl, ?_⟩
  have e : decide (V.int i = V.int j) = decide (i = j) := by simp
  rw [e]
  exact q _ G ps H C (Up.refl _ _) (Rep.bl _)
theorem rv_eqS {K : PySem.W.Frag} {i j : Str} : RV K na rEq (.val (.str i)) (.val (.str j)) cs (.val (.bool (decide (i = j)))) cs := fun B G ps H v w hn C r1 r2 Q q => by
  rw [Rep.strI r1, Rep.strI r2]
  refine ⟨rfl, ?_⟩
  have e : decide (V.str i = V.str j) = decide (i = j) := by simp
  rw [e]
  exact q _ G ps H C (Up.refl _ _) (Rep.bl _)
theorem rv_neS {K : PySem.W.Frag} {i j : Str} : RV K na rNe (.val (.str i)) (.val (.str j)) cs (.val (.bool (!decide (i = j)))) cs := fun B G ps H v w hn C r1 r2 Q q => by
  rw [Rep.strI r1, Rep.strI r2]
  refine ⟨rfl, ?_⟩
  have e : decide (V.str i = V.str j) = decide (i = j) := by simp
  rw [e]
  exact q _ G ps H C (Up.refl _ _) (Rep.bl _)
theorem ev_eqI {i j : Int} (ha : EV X na a sl cs (.val (.int i)) cs1) (hb : EV X na b sl cs1 (.val (.int j)) cs2) : EV X na (.Compare a [.Eq] [b] pos) sl cs (.val (.bool (decide (i = j)))) cs2 := ev_cmp op_eq (nomark _) ha hb rv_eqI
theorem ev_neI {i j : Int} (ha : EV X na a sl cs (.val (.int i)) cs1) (hb : EV X na b sl cs1 (.val (.int j)) cs2) : EV X na (.Compare a [.NotEq] [b] pos) sl cs (.val (.bool (!decide (i = j)))) cs2 := ev_cmp op_ne (nomark _) ha hb rv_neI
theorem ev_eqS {i j : Str} (ha : EV X na a sl cs (.val (.str i)) cs1) (hb : EV X na b sl cs1 (.val (.str j)) cs2) : EV X na (.Compare a [.Eq] [b] pos) sl cs (.val (.bool (decide (i = j)))) cs2 := ev_cmp op_eq (nomark _) ha hb rv_eqS
theorem ev_neS {i j : Str} (ha : EV X na a sl cs (.val (.str i)) cs1) (hb : EV X na b sl cs1 (.val (.str j)) cs2) : EV X na (.Compare a [.NotEq] [b] pos) sl cs (.val (.bool (!decide (i = j)))) cs2 := ev_cmp op_ne (nomark _) ha hb rv_neS
theorem tv_eqI {i j : Int} (ha : EV X na a sl cs (.val (.int i)) cs1) (hb : EV X na b sl cs1 (.val (.int j)) cs2) : TV X na (.Compare a [.Eq] [b] pos) sl cs (decide (i = j)) cs2 := tv_cmp op_eq (nomark _) ha hb rv_eqI
theorem tv_neI {i j : Int} (ha : EV X na a sl cs (.val (.int i)) cs1) (hb : EV X na b sl cs1 (.val (.int j)) cs2) : TV X na (.Compare a [.NotEq] [b] pos) sl cs (!decide (i = j)) cs2 := tv_cmp op_ne (nomark _) ha hb rv_neI
theorem tv_eqS {i j : Str} (ha : EV X na a sl cs (.val (.str i)) cs1) (hb : EV X na b sl cs1 (.val (.str j)) cs2) : TV X na (.Compare a [.Eq] [b] pos) sl cs (decide (i = j)) cs2 := tv_cmp op_eq (nomark _) ha hb rv_eqS
theorem tv_neS {i j : Str} (ha : EV X na a sl cs (.val (.str i)) cs1) (hb : EV X na b sl cs1 (.val (.str j)) cs2) : TV X na (.Compare a [.NotEq] [b] pos) sl cs (!decide (i = j)) cs2 := tv_cmp op_ne (nomark _) ha hb rv_neS
/-- is None -/
def PyData.isNone : PyData → Bool
  | .none => true
  | _ => false
theorem Rep.isNon {K : PySem.W.Frag} {G : Hp} {v : V} {d : PyData} (h : Rep K G v d) : decide (v = .non) = PyData.isNone d := by cases h <;> simp [PyData.isNone]
theorem rv_isN {K : PySem.W.Frag} {d : PyData} : RV K na (fun x y H Q => y = .non ∧ Q (.bl (decide (x = .non))) H) (.val d) (.val .none) cs (.val (.bool (PyData.isNone d))) cs := fun B G ps H v w hn C r1 r2 Q q =>
  ⟨Rep.noneI r2, by rw [Rep.isNon r1]; exact q _ G ps H C (Up.refl _ _) (Rep.bl _)⟩
theorem rv_notN {K : PySem.W.Frag} {d : PyData} : RV K na (fun x y H Q => y = .non ∧ Q (.bl (!decide (x = .non))) H) (.val d) (.val .none) cs (.val (.bool (!PyData.isNone d))) cs := fun B G ps H v w hn C r1 r2 Q q =>
  ⟨Rep.noneI r2, by rw [Rep.isNon r1]; exact q _ G ps H C (Up.refl _ _) (Rep.bl _)⟩
theorem ev_isN {d : PyData} (ha : EV X na a sl cs (.val d) cs1) (hb : EV X na b sl cs1 (.val .none) cs2) : EV X na (.Compare a [.Is] [b] pos) sl cs (.val (.bool (PyData.isNone d))) cs2 := ev_cmp op_isN (nomark _) ha hb rv_isN
theorem tv_isN {d : PyData} (ha : EV X na a sl cs (.val d) cs1) (hb : EV X na b sl cs1 (.val .none) cs2) : TV X na (.Compare a [.Is] [b] pos) sl cs (PyData.isNone d) cs2 := tv_cmp op_isN (nomark _) ha hb rv_isN
theorem ev_notN {d : PyData} (ha : EV X na a sl cs (.val d) cs1) (hb : EV X na b sl cs1 (.val .none) cs2) : EV X na (.Compare a [.IsNot] [b] pos) sl cs (.val (.bool (!PyData.isNone d))) cs2 := ev_cmp op_notN (nomark _) ha hb rv_notN
theorem tv_notN {d : PyData} (ha : EV X na a sl cs (.val d) cs1) (hb : EV X na b sl cs1 (.val .none) cs2) : TV X na (.Compare a [.IsNot] [b] pos) sl cs (!PyData.isNone d) cs2 := tv_cmp op_notN (nomark _) ha hb rv_notN

/-! ### dicts -/
inductive KeyOf : PyData → Key → Prop
  | int (i : Int) : KeyOf (.int i) (.inl i)
  | str (x : Str) : KeyOf (.str x) (.inr x)
def dD (kvs : List (Key × PyData)) : PyData := .dict (kvs.map fun kv => (kD kv.1, kv.2))
def svK (kvs : List (Key × PyData)) : List (Key × SV) := kvs.map fun kv => (kv.1, SV.val kv.2)
inductive IsD (cs : Cs) : SV → List (Key × SV) → Prop
  | val {kvs : List (Key × PyData)} : IsD cs (.val (dD kvs)) (svK kvs)
  | cell {k : Nat} {kvs : List (Key × SV)} : cs[k]? = some (.dct kvs) → IsD cs (.cell k) kvs
def lkK {α : Type} : List (Key × α) → Key → Option α
  | [], _ => none
  | (j, v) :: r, k => if j = k then some v else lkK r k
def putS : List (Key × SV) → Key → SV → List (Key × SV)
  | [], k, s => [(k, s)]
  | (j, v) :: r, k, s => if j = k then (j, s) :: r else (j, v) :: putS r k s
theorem RepD.ks {K : PySem.W.Frag} {G : Hp} {ps : List Addr} : ∀ {us : List (Key × V)} {kvs : List (Key × PyData)}, RepD K G us (kvs.map fun kv => (kD kv.1, kv.2)) → RepKs K G ps us (svK kvs)
  | us, [], h => by cases h; exact .nil
  | us, (k, d) :: r, h => by
    rw [List.map_cons] at h
    cases us with
    | nil => cases h
    | cons p us' =>
      obtain ⟨k', v⟩ := p
      generalize he : ((kD (k, d).1, (k, d).2) : PyData × PyData) = e at h
      cases h with
      | cons h1 h2 =>
        have e1 := (Prod.mk.inj he).1
        have e2 := (Prod.mk.inj he).2
        have ek : k = k' := by
          cases k <;> cases k' <;> simp [kD] at e1 <;> first | (subst e1; rfl) | cases e1
        subst ek
        refine .cons ⟨rfl, ?_⟩ (RepD.ks h2)
        have e3 : d = _ := e2
        show Rep K G v d
        rw [e3]
        exact h1
theorem IsD.at {K : PySem.W.Frag} {B : Bs} {G : Hp} {ps : List Addr} {H : Hp} {v : V} {kvs : List (Key × SV)} (C : Core K B G ps cs H) (r : RepV K G ps v s) (h : IsD cs s kvs) : ∃ a us, v = .ref a ∧ H a = some (.dK us) ∧ RepKs K G ps us kvs := by
  cases h with
  | val =>
    generalize hd : dD _ = d at r
    cases (r : Rep _ _ _ _) <;> try (unfold dD at hd; cases hd; done)
    rename_i a us es hg hr
    unfold dD at hd
    injection hd with hd
    subst hd
    exact ⟨a, us, rfl, C.gh _ _ hg, RepD.ks hr⟩
  | cell h =>
    obtain ⟨p, hv, _, us, h1, h2⟩ := C.cellAt r h
    exact ⟨p, us, hv, h1, h2⟩
theorem KeyOf.v {K : PySem.W.Frag} {G : Hp} {v : V} {d : PyData} {k : Key} (h : KeyOf d k) (r : Rep K G v d) : v = kV k := by
  cases h with
  | int i => exact Rep.intI r
  | str x => exact Rep.strI r
theorem lk_some {K : PySem.W.Frag} {G : Hp} {ps : List Addr} {k : Key} {s : SV} : ∀ {us : List (Key × V)} {kvs : List (Key × SV)}, RepKs K G ps us kvs → lkK kvs k = some s → ∃ v, valV us k = some v ∧ RepV K G ps v s
  | _, _, .nil, e => by cases e
  | (j', v) :: us, (j, w) :: r, .cons h t, e => by
    obtain ⟨h1, h2⟩ := h
    cases (show j' = j from h1)
    unfold lkK at e
    by_cases q : j' = k
    · rw [if_pos q] at e
      cases e
      exact ⟨v, valV_pos (p := (j', v)) q, h2⟩
    · rw [if_neg q] at e
      obtain ⟨z, e1, e2⟩ := lk_some t e
      exact ⟨z, (valV_neg (p := (j', v)) q).trans e1, e2⟩
theorem lk_none {K : PySem.W.Frag} {G : Hp} {ps : List Addr} {k : Key} : ∀ {us : List (Key × V)} {kvs : List (Key × SV)}, RepKs K G ps us kvs → lkK kvs k = none → valV us k = none
  | _, _, .nil, e => rfl
  | (j', v) :: us, (j, w) :: r, .cons h t, e => by
    obtain ⟨h1, h2⟩ := h
    cases (show j' = j from h1)
    unfold lkK at e
    by_cases q : j' = k
    · rw [if_pos q] at e
      cases e
    · rw [if_neg q] at e
      exact (valV_neg (p := (j', v)) q).trans (lk_none t e)
theorem put_ks {K : PySem.W.Frag} {G : Hp} {ps : List Addr} {k : Key} {v : V} {s : SV} (r : RepV K G ps v s) : ∀ {us : List (Key × V)} {kvs : List (Key × SV)}, RepKs K G ps us kvs → (us.map (·.1)).Nodup → RepKs K G ps (putK us k v) (putS kvs k s)
  | _, _, .nil, _ => .cons ⟨rfl, r⟩ .nil
  | (j', w) :: us, (j, z) :: kvs, .cons h t, nd => by
    obtain ⟨h1, h2⟩ := h
    cases (show j' = j from h1)
    obtain ⟨n1, n2⟩ := List.nodup_cons.mp nd
    have ih := put_ks (k := k) r t n2
    unfold putS putK
    by_cases q : j' = k
    · subst q
      rw [if_pos rfl, if_pos (by simp), List.map_cons, if_pos rfl]
      have e : us.map (fun kv => if kv.1 = j' then (kv.1, v) else kv) = us := by
        have : ∀ p ∈ us, (if p.1 = j' then (p.1, v) else p) = p := fun p hp => if_neg fun (e : p.1 = j') => n1 (List.mem_map.mpr ⟨p, hp, e⟩)
        rw [List.map_congr_left this, List.map_id']
      rw [e]
      exact .cons ⟨rfl, r⟩ t
    · rw [if_neg q]
      by_cases m : (us.any fun kv => decide (kv.1 = k)) = true
      · rw [if_pos (by rw [List.any_cons, m, Bool.or_true]), List.map_cons, if_neg q]
        unfold putK at ih
        rw [if_pos m] at ih
        exact .cons ⟨rfl, h2⟩ ih
      · rw [if_neg (by rw [List.any_cons, decide_eq_false (show ¬ (j', w).1 = k from q), Bool.false_or]; exact m), List.cons_append]
        unfold putK at ih
        rw [if_neg m] at ih
        exact .cons ⟨rfl, h2⟩ ih
theorem lk_keys {K : PySem.W.Frag} {G : Hp} {ps : List Addr} : ∀ {us : List (Key × V)} {kvs : List (Key × SV)}, RepKs K G ps us kvs → us.map (·.1) = kvs.map (·.1)
  | _, _, .nil => rfl
  | _, _, .cons h t => by rw [List.map_cons, List.map_cons, h.1, lk_keys t]
theorem dget_of {kvs : List (Key × V)} {H : Hp} {a : Addr} {y : V} {k : Key} {o : Option V} (e : H a = some (.dK kvs)) (hy : y = kV k) (ho : valV kvs k = o) : DGet H a y o := by
  subst hy ho
  exact DGet.k e
/-- d[k] -/
theorem ev_dget {kvs : List (Key × SV)} {kd : PyData} {k : Key} {m : Nat} (hr : Room m X.A) (ha : EV X na a sl cs s cs1) (hb : EV X na b sl cs1 (.val kd) cs2) (hd : IsD cs2 s kvs) (hk : KeyOf kd k) (hl : lkK kvs k = some t) (hs : NoSl b := by exact fun _ _ => rfl) : EV X na (.Subscript a b pos) sl cs t cs2 :=
  ev_of (pe_dget (by have := hr.un; omega) pe_any pe_any hs) fun B G ps σ H hn C S Q q => ha B G ps σ H hn C S _ fun v G1 ps1 H1 C1 u1 r1 => hb B G1 ps1 σ H1 hn C1 (Slots.mono u1 S) _ fun w G2 ps2 H2 C2 u2 r2 => by
    obtain ⟨p, us, rfl, h1, h2⟩ := hd.at C2 (RepV.mono u2 r1)
    obtain ⟨z, e1, e2⟩ := lk_some h2 hl
    exact ⟨p, z, rfl, dget_of h1 (hk.v r2) e1, q z G2 ps2 H2 C2 (u1.trans u2) e2⟩
/-- d.get(k, x) -/
theorem ev_dget2 {o e f : Expr} {apos : Pos} {kvs : List (Key × SV)} {kd : PyData} {k : Key} {m : Nat} (hr : Room m X.A) (hf : EV X na f sl cs2 t cs3) (ha : EV X na o sl cs s cs1) (hb : EV X na e sl cs1 (.val kd) cs2) (hd1 : ∃ kvs', IsD cs1 s kvs') (hd : IsD cs3 s kvs) (hk : KeyOf kd k) (hl : (lkK kvs k).getD t = u) (hm : M2 X o "get" apos e f pos := by exact ⟨rfl, rfl, rfl, rfl⟩) : EV X na (.Call (.Attribute o "get" apos) [e, f] [] pos) sl cs u cs3 :=
  ev_of (L2.pe_dget2 (by have := hr.un; omega) pe_any pe_any pe_any hm) fun B G ps σ H hn C S Q q => ha B G ps σ H hn C S _ fun v G1 ps1 H1 C1 u1 r1 => by
    obtain ⟨kvs', hd1⟩ := hd1
    obtain ⟨p, us, rfl, h1, h2⟩ := hd1.at C1 r1
    refine ⟨p, rfl, .inl ⟨us, .inl h1⟩, hb B G1 ps1 σ H1 hn C1 (Slots.mono u1 S) _ fun w G2 ps2 H2 C2 u2 r2 => hf B G2 ps2 σ H2 hn C2 (Slots.mono (u1.trans u2) S) _ fun z G3 ps3 H3 C3 u3 r3 => ?_⟩
    obtain ⟨p', us', e', h1', h2'⟩ := hd.at C3 (RepV.mono (u2.trans u3) r1)
    cases e'
    cases hq : lkK kvs k with
    | none =>
      rw [hq] at hl
      exact ⟨none, dget_of h1' (hk.v r2) (lk_none h2' hq), q z G3 ps3 H3 C3 ((u1.trans u2).trans u3) (by rw [← hl]; exact r3)⟩
    | some y =>
      rw [hq] at hl
      obtain ⟨y', e1, e2⟩ := lk_some h2' hq
      exact ⟨some y', dget_of h1' (hk.v r2) e1, q y' G3 ps3 H3 C3 ((u1.trans u2).trans u3) (by rw [← hl]; exact e2)⟩
/-- k in d, k not in d -/
theorem de_din {K : PySem.W.Frag} {ta tb : TE} {kvs : List (Key × SV)} {kd : PyData} {k : Key} (ha : DE K na ta sl cs (.val kd) cs1) (hb : DE K na tb sl cs1 s cs2) (hd : IsD cs2 s kvs) (hk : KeyOf kd k) : DE K na (tDIn ta tb) sl cs (.val (.bool (lkK kvs k).isSome)) cs2 := fun B G ps σ H hn C S Q q => ha B G ps σ H hn C S _ fun v G1 ps1 H1 C1 u1 r1 => hb B G1 ps1 σ H1 hn C1 (Slots.mono u1 S) _ fun w G2 ps2 H2 C2 u2 r2 => by
  obtain ⟨p, us, rfl, h1, h2⟩ := hd.at C2 r2
  cases hq : lkK kvs k with
  | none => exact ⟨p, none, rfl, dget_of h1 (hk.v (Rep.mono u2.s r1)) (lk_none h2 hq), q _ G2 ps2 H2 C2 (u1.trans u2) (by rw [hq]; exact Rep.bl _)⟩
  | some y =>
    obtain ⟨y', e1, e2⟩ := lk_some h2 hq
    exact ⟨p, some y', rfl, dget_of h1 (hk.v (Rep.mono u2.s r1)) e1, q _ G2 ps2 H2 C2 (u1.trans u2) (by rw [hq]; exact Rep.bl _)⟩
theorem de_dnin {K : PySem.W.Frag} {ta tb : TE} {kvs : List (Key × SV)} {kd : PyData} {k : Key} (ha : DE K na ta sl cs (.val kd) cs1) (hb : DE K na tb sl cs1 s cs2) (hd : IsD cs2 s kvs) (hk : KeyOf kd k) : DE K na (tDNotIn ta tb) sl cs (.val (.bool (!(lkK kvs k).isSome))) cs2 := fun B G ps σ H hn C S Q q => ha B G ps σ H hn C S _ fun v G1 ps1 H1 C1 u1 r1 => hb B G1 ps1 σ H1 hn C1 (Slots.mono u1 S) _ fun w G2 ps2 H2 C2 u2 r2 => by
  obtain ⟨p, us, rfl, h1, h2⟩ := hd.at C2 r2
  cases hq : lkK kvs k with
  | none => exact ⟨p, none, rfl, dget_of h1 (hk.v (Rep.mono u2.s r1)) (lk_none h2 hq), q _ G2 ps2 H2 C2 (u1.trans u2) (by rw [hq]; exact Rep.bl _)⟩
  | some y =>
    obtain ⟨y', e1, e2⟩ := lk_some h2 hq
    exact ⟨p, some y', rfl, dget_of h1 (hk.v (Rep.mono u2.s r1)) e1, q _ G2 ps2 H2 C2 (u1.trans u2) (by rw [hq]; exact Rep.bl _)⟩
theorem tv_din {kvs : List (Key × SV)} {kd : PyData} {k : Key} {m : Nat} (hr : Room m X.A) (ha : EV X na a sl cs (.val kd) cs1) (hb : EV X na b sl cs1 s cs2) (hd : IsD cs2 s kvs) (hk : KeyOf kd k) (hm : behindInMarks .In b = false := by rfl) : TV X na (.Compare a [.In] [b] pos) sl cs (lkK kvs k).isSome cs2 :=
  tv_of (pt_cmp (pc_din (by have := hr.un; omega) pe_any pe_any) hm) fun B G ps σ H hn C S Q q => de_din ha hb hd hk B G ps σ H hn C S _ fun v G1 ps1 H1 C1 u1 r1 => by
    cases (r1 : Rep _ _ _ _)
    exact ⟨_, rfl, q G1 ps1 H1 C1 u1⟩
theorem tv_dnin {kvs : List (Key × SV)} {kd : PyData} {k : Key} {m : Nat} (hr : Room m X.A) (ha : EV X na a sl cs (.val kd) cs1) (hb : EV X na b sl cs1 s cs2) (hd : IsD cs2 s kvs) (hk : KeyOf kd k) (hm : behindInMarks .NotIn b = false := by rfl) : TV X na (.Compare a [.NotIn] [b] pos) sl cs (!(lkK kvs k).isSome) cs2 :=
  tv_of (pt_cmp (pc_dnotin (by have := hr.un; omega) pe_any pe_any) hm) fun B G ps σ H hn C S Q q => de_dnin ha hb hd hk B G ps σ H hn C S _ fun v G1 ps1 H1 C1 u1 r1 => by
    cases (r1 : Rep _ _ _ _)
    exact ⟨_, rfl, q G1 ps1 H1 C1 u1⟩
/-- d[k] = v -/
theorem s1_dput {o i v : Expr} {p2 : Pos} {n : Nat} {kvs : List (Key × SV)} {kd : PyData} {k : Key} {m : Nat} (hr : Room m X.A) (hv : EV X na v sl cs s cs1) (ho : EV X na o sl cs1 (.cell n) cs1) (hi : EV X na i sl cs1 (.val kd) cs1) (hc : cs1[n]? = some (.dct kvs)) (hk : KeyOf kd k) (hz : kvs.length ≤ 1000000) (nd : (kvs.map (·.1)).Nodup) (p : PutC cs1 n (.dct (putS kvs k s)) cs2) (q : E.nx sl cs2)
    (hs : swapsWith v (some (.Subscript o i p2)) pos.line X.env = pure false := by rfl) : S1 X na (.Assign [.Subscript o i p2] v pos) sl cs E :=
  s1_of (ps_dput (by have := hr.un; omega) pe_any pe_any pe_any hs) fun B G ps σ H hn C S D L => hv B G ps σ H hn C S _ fun w G1 ps1 H1 C1 u1 r1 =>
    ho B G1 ps1 σ H1 hn C1 (Slots.mono u1 S) _ fun w2 G2 ps2 H2 C2 u2 r2 => hi B G2 ps2 σ H2 hn C2 (Slots.mono (u1.trans u2) S) _ fun w3 G3 ps3 H3 C3 u3 r3 => by
      obtain ⟨a, rfl, ea, us, hus, rus⟩ := C3.cellAt (RepV.mono u3 r2) hc
      rw [p.at] at q
      have hput : DPut H3 a w3 w (upd H3 a (.dK (putK us k w))) := by
        rw [hk.v r3]
        exact DPut.k hus (szl (by rw [Paired.length rus]; exact hz))
      exact ⟨a, _, rfl, hput, L.nx sl _ G3 ps3 σ _ (C3.put (c' := .dct (putS kvs k s)) ea hc (by intro z; cases z) ⟨_, upd_same, put_ks (RepV.mono (u2.trans u3) r1) rus (by rw [lk_keys rus]; exact nd)⟩) ((u1.trans u2).trans u3) (Slots.mono ((u1.trans u2).trans u3) S) q⟩
end
end DL
namespace DL
open PySem PySem.Spec PyProof.Rows L2

/-! ### one order, one list -/
theorem perm_sorted {α : Type} {le : α → α → Prop} (anti : ∀ a b, le a b → le b a → a = b) : ∀ {l m : List α}, l.Perm m → l.Pairwise le → m.Pairwise le → l = m
  | [], m, p, _, _ => (List.Perm.eq_nil p.symm).symm
  | a :: l, [], p, _, _ => by have := p.length_eq; simp at this
  | a :: l, b :: m, p, hl, hm => by
    obtain ⟨l1, l2⟩ := List.pairwise_cons.mp hl
    obtain ⟨m1, m2⟩ := List.pairwise_cons.mp hm
    have e : a = b := by
      have ha : a ∈ b :: m := p.subset List.mem_cons_self
      have hb : b ∈ a :: l := p.symm.subset List.mem_cons_self
      rcases List.mem_cons.mp ha with h | h
      · exact h
      · rcases List.mem_cons.mp hb with h' | h'
        · exact h'.symm
        · exact anti a b (l1 b h') (m1 a h)
    subst e
    rw [perm_sorted anti p.cons_inv l2 m2]
/-- pairs in order -/
def leP (p q : Int × Int) : Bool := !SrtO.lexB q p
def sortP (ps : List (Int × Int)) : List (Int × Int) := ps.mergeSort leP
theorem leP_iff {p q : Int × Int} : leP p q = true ↔ p.1 < q.1 ∨ (p.1 = q.1 ∧ p.2 ≤ q.2) := by
  unfold leP
  rw [Bool.not_eq_true', SrtO.lexB_no]
  omega
theorem sortP_perm (ps : List (Int × Int)) : (sortP ps).Perm ps := List.mergeSort_perm ps leP
theorem sortP_srt (ps : List (Int × Int)) : (sortP ps).Pairwise fun p q => leP p q = true :=
  List.pairwise_mergeSort (fun a b c h1 h2 => by rw [leP_iff] at *; omega) (fun a b => by
    rw [Bool.or_eq_true, leP_iff, leP_iff]
    omega) ps
theorem sortP_uniq {ps qs : List (Int × Int)} (p : qs.Perm ps) (h : qs.Pairwise fun p q => leP p q = true) : qs = sortP ps :=
  perm_sorted (fun a b h1 h2 => by
    rw [leP_iff] at h1 h2
    have e1 : a.1 = b.1 := by omega
    have e2 : a.2 = b.2 := by omega
    exact Prod.ext e1 e2) (p.trans (sortP_perm ps).symm) h (sortP_srt ps)
def sortI (ns : List Int) : List Int := ns.mergeSort fun a b => decide (a ≤ b)
theorem sortI_perm (ns : List Int) : (sortI ns).Perm ns := List.mergeSort_perm ns _
theorem sortI_srt (ns : List Int) : (sortI ns).Pairwise (· ≤ ·) := by
  have := List.pairwise_mergeSort (le := fun a b : Int => decide (a ≤ b)) (fun a b c h1 h2 => by simp at *; omega) (fun a b => by simp; omega) ns
  exact List.Pairwise.imp (fun h => of_decide_eq_true h) this
theorem sortI_uniq {ns ms : List Int} (p : ms.Perm ns) (h : ms.Pairwise (· ≤ ·)) : ms = sortI ns :=
  perm_sorted (fun a b h1 h2 => by omega) (p.trans (sortI_perm ns).symm) h (sortI_srt ns)

/-! ### sorted(pairs), the pairs read wherever they stand -/
def pD (p : Int × Int) : PyData := .tuple [.int p.1, .int p.2]
/-- what a heap tells of a pair -/
def pairAt (h : Heap) : Value → Int × Int
  | .ref t => match (h.get? t).map (·.data) with
    | some (Data.seq its _) => match its.toList with
      | [.int i _, .int j _] => (i, j)
      | _ => (0, 0)
    | _ => (0, 0)
  | _ => (0, 0)
def rSortQ (K : PySem.W.Frag) : List V → Hp → VK → Prop := fun vs H Q => ∃ (a : Addr) (xs : List V) (ks : List (Int × Int)) (R : V → Int × Int → Prop), vs = [V.ref a] ∧ SqL K H a xs ∧ (∀ x p, R x p → ∃ t, x = V.ref t ∧ SqT K H t [.int p.1, .int p.2]) ∧ Paired R xs ks ∧
  ∀ ys d, Paired R ys (sortP ks) → H d = none → Q (.ref d) (upd H d (.lst ys))
section
variable {X : Cx}
theorem pair_of {pins : List (Addr × Obj)} {σ : L2.St} {H : Hp} {s : Shared} {t : Addr} {p : Int × Int} (I : Inv X pins σ H s) (h : SqT X.K H t [.int p.1, .int p.2]) : Srt.IsPair s.heap (.ref t) p.1 p.2 ∧ pairAt s.heap (.ref t) = p := by
  obtain ⟨its, r, ⟨o, ho, hc, n, hd⟩, _⟩ := I.tuple h
  obtain ⟨u1, u2, rfl, ⟨k1, rfl⟩, ⟨k2, rfl⟩⟩ := vals2 r
  refine ⟨⟨t, o, k1, k2, n, rfl, ho, hc, hd⟩, ?_⟩
  show (match (s.heap.get? t).map (·.data) with
    | some (Data.seq its _) => match its.toList with
      | [.int i _, .int j _] => (i, j)
      | _ => (0, 0)
    | _ => (0, 0)) = p
  rw [ho]
  simp only [Option.map_some, hd]
theorem pairs_back {pins : List (Addr × Obj)} {σ : L2.St} {H : Hp} {s : Shared} {R : V → Int × Int → Prop} (I : Inv X pins σ H s) (hR : ∀ x p, R x p → ∃ t, x = V.ref t ∧ SqT X.K H t [.int p.1, .int p.2]) : ∀ {xs : List V} {ks : List (Int × Int)} {its : List Value}, Paired R xs ks → Vals xs its →
    its.map (pairAt s.heap) = ks ∧ ∀ v ∈ its, (∃ t, v = Value.ref t) ∧ R (backV v) (pairAt s.heap v) ∧ Srt.IsPair s.heap v (pairAt s.heap v).1 (pairAt s.heap v).2
  | _, _, _, .nil, .nil => ⟨rfl, fun _ h => nomatch h⟩
  | _, _, _, .cons h t, .cons r rr => by
    obtain ⟨a, rfl, hq⟩ := hR _ _ h
    cases r
    obtain ⟨e1, e2⟩ := pair_of I hq
    obtain ⟨q1, q3⟩ := pairs_back I hR t rr
    refine ⟨by rw [List.map_cons, e2, q1], fun v hv => ?_⟩
    rcases List.mem_cons.mp hv with rfl | hv
    · rw [e2]
      exact ⟨⟨a, rfl⟩, h, e1⟩
    · exact q3 v hv
theorem cr_sortQ : CallR X (.builtin "sorted") (rSortQ X.K) := by
  intro pins s σ H vs us Q I r h
  obtain ⟨a, xs, ks, R, rfl, hs, hR, hx, q⟩ := h
  obtain ⟨its, rv, hl, hz⟩ := I.list hs
  obtain ⟨w, rfl, rw'⟩ := vals1 r
  cases (show w = Value.ref a from rw')
  obtain ⟨e1, e3⟩ := pairs_back I hR hx rv
  refine SrtO.sorted_pairsO (k := pairAt s.heap) hl.isList (by rw [← rv.length]; exact hz) (fun v hv => (e3 v hv).2.2) fun h' d out o1 o2 o3 o4 o5 => ?_
  have mem : ∀ u ∈ out, u ∈ its := fun u hu => o2.perm.subset hu
  have es : out.map (pairAt s.heap) = sortP ks := by
    refine sortP_uniq ?_ ?_
    · rw [← e1]
      exact o2.perm.map _
    · rw [List.pairwise_map]
      refine List.Pairwise.imp (fun {x y} h => ?_) o1
      show (!SrtO.lexB (pairAt s.heap y) (pairAt s.heap x)) = true
      rw [show SrtO.lexB (pairAt s.heap y) (pairAt s.heap x) = false from h]
      rfl
  obtain ⟨n, hn⟩ := o5
  refine ⟨.ref d, upd H d (.lst (out.map backV)), I.laid (t' := s.toks) o3 o4 ⟨?_, out, n, vals_back fun u hu => (e3 u (mem u hu)).1, hn⟩, rfl, q _ d ?_ (I.hok.fresh o4)⟩
  · rw [List.length_map, o2.perm.length_eq, ← rv.length]
    exact hz
  · rw [← es]
    have key : ∀ l : List Value, (∀ u ∈ l, u ∈ its) → Paired R (l.map backV) (l.map (pairAt s.heap)) := fun l => by
      induction l with
      | nil => exact fun _ => .nil
      | cons u l ih => exact fun hm => .cons (e3 u (hm u List.mem_cons_self)).2.1 (ih fun v hv => hm v (List.mem_cons_of_mem _ hv))
    exact key out mem
variable {na : Nat} {sl sl' : Sl} {cs cs1 cs2 cs3 : Cs} {s t u : SV} {pos : Pos} {x : Str} {E : DEnds} {N : List Str} {a b : Expr} {p : Pos}
theorem reps_paired {α : Type} {K : PySem.W.Frag} {G : Hp} (f : α → PyData) : ∀ {vs : List V} {ps : List α}, Reps K G vs (ps.map f) → Paired (fun v p => Rep K G v (f p)) vs ps
  | _, [], h => by cases h; exact .nil
  | _, p :: r, h => by
    cases h with
    | cons h1 h2 => exact .cons h1 (reps_paired f h2)
theorem paired_reps {α : Type} {K : PySem.W.Frag} {G : Hp} (f : α → PyData) : ∀ {vs : List V} {ps : List α}, Paired (fun v p => Rep K G v (f p)) vs ps → Reps K G vs (ps.map f)
  | _, _, .nil => .nil
  | _, _, .cons h t => .cons h (paired_reps f t)
/-- sorted(pairs) -/
theorem ev_sortedP {ps : List (Int × Int)} (hm : X.mg "sorted" = none) (hg : Gl X "sorted") (ha : EV X na a sl cs s cs1) (hl : IsL cs1 s ((ps.map pD).map SV.val)) (hs : starEach [a] X.env = (false, eval a X.env) :: starEach [] X.env := by rfl) : EV X na (.Call (.Name "sorted" p) [a] [] pos) sl cs (.val (.list ((sortP ps).map pD))) cs1 :=
  ev_callB cr_sortQ (by decide +kernel) hg hm (av_cons ha av_nil hs) (rc1 fun B G ps' H v hn C r1 Q q => by
    obtain ⟨l, vs, rfl, h1, h2⟩ := hl.sq C r1
    refine ⟨l, vs, ps, fun v p => Rep X.K G v (pD p), rfl, h1, fun v p r => ?_, reps_paired pD (Reps.ofVs h2), fun ys d hy hd => C.newLst (paired_reps pD hy) q d hd⟩
    obtain ⟨t, ws, rfl, e1, e2⟩ := Rep.tupI r
    cases e2 with
    | cons q1 q2 =>
      cases q2 with
      | cons q2 q3 =>
        cases q3
        rw [Rep.intI q1, Rep.intI q2] at e1
        exact ⟨t, rfl, Same.seqT C.gh e1⟩) (by decide) (by decide) hs
/-- sorted(d), the keys ints -/
theorem ev_sortedDI {kvs : List (Key × SV)} {ks : List Int} (hc : X.calm = true) (hm : X.mg "sorted" = none) (hg : Gl X "sorted") (ha : EV X na a sl cs s cs1) (hd : IsD cs1 s kvs) (hk : kvs.map (·.1) = ks.map Sum.inl) (h64 : ks.length < 64) (hs : starEach [a] X.env = (false, eval a X.env) :: starEach [] X.env := by rfl) : EV X na (.Call (.Name "sorted" p) [a] [] pos) sl cs (.val (.list ((sortI ks).map .int))) cs1 :=
  ev_callB (call_sortedDI hc) (by decide +kernel) hg hm (av_cons ha av_nil hs) (rc1 fun B G ps' H v hn C r1 Q q => by
    obtain ⟨l, us, rfl, h1, h2⟩ := hd.at C r1
    refine ⟨l, us, ks, rfl, .inl h1, by rw [lk_keys h2]; exact hk, h64, fun ys d hp hs hd => ?_⟩
    rw [sortI_uniq hp hs]
    exact C.newLst (Reps.ofInts _) q d hd) (by decide) (by decide) hs
/-- all([..]), any([..]) -/
theorem ev_all {bs : List Bool} (hc : X.calm = true) (hm : X.mg "all" = none) (hg : Gl X "all") (ha : EV X na a sl cs (.val (.list (bs.map .bool))) cs1) (hs : starEach [a] X.env = (false, eval a X.env) :: starEach [] X.env := by rfl) : EV X na (.Call (.Name "all" p) [a] [] pos) sl cs (.val (.bool (bs.all id))) cs1 :=
  ev_callB (cr_all hc) (by decide +kernel) hg hm (av_cons ha av_nil hs) (rc1 fun B G ps' H v hn C r1 Q q => by
    obtain ⟨l, vs, rfl, h1, h2⟩ := Rep.lstI r1
    exact ⟨l, bs, rfl, by rw [← Reps.bools h2]; exact C.gh.seq h1, q _ G ps' H C (Up.refl _ _) (Rep.bl _)⟩) (by decide) (by decide) hs
theorem ev_any {bs : List Bool} (hc : X.calm = true) (hm : X.mg "any" = none) (hg : Gl X "any") (ha : EV X na a sl cs (.val (.list (bs.map .bool))) cs1) (hs : starEach [a] X.env = (false, eval a X.env) :: starEach [] X.env := by rfl) : EV X na (.Call (.Name "any" p) [a] [] pos) sl cs (.val (.bool (bs.any id))) cs1 :=
  ev_callB (cr_any hc) (by decide +kernel) hg hm (av_cons ha av_nil hs) (rc1 fun B G ps' H v hn C r1 Q q => by
    obtain ⟨l, vs, rfl, h1, h2⟩ := Rep.lstI r1
    exact ⟨l, bs, rfl, by rw [← Reps.bools h2]; exact C.gh.seq h1, q _ G ps' H C (Up.refl _ _) (Rep.bl _)⟩) (by decide) (by decide) hs
/-- sum(xs), ints -/
theorem ev_sum {ns : List Int} (hc : X.calm = true) (hm : X.mg "sum" = none) (hg : Gl X "sum") (ha : EV X na a sl cs (.val (.list (ns.map .int))) cs1) (hs : starEach [a] X.env = (false, eval a X.env) :: starEach [] X.env := by rfl) : EV X na (.Call (.Name "sum" p) [a] [] pos) sl cs (.val (.int ns.sum)) cs1 :=
  ev_callB (cr_sum hc) (by decide +kernel) hg hm (av_cons ha av_nil hs) (rc1 fun B G ps' H v hn C r1 Q q => by
    obtain ⟨l, vs, rfl, h1, h2⟩ := Rep.lstI r1
    exact ⟨l, ns, rfl, by rw [← Reps.ints h2]; exact C.gh.seq h1, q _ G ps' H C (Up.refl _ _) (Rep.int _)⟩) (by decide) (by decide) hs
/-! ### isinstance -/
def tyOf : PyData → String
  | .none => "NoneType"
  | .bool _ => "bool"
  | .int _ => "int"
  | .str _ => "str"
  | .list _ => "list"
  | .tuple _ => "tuple"
  | .dict _ => "dict"
theorem Rep.tyX {K : PySem.W.Frag} {G H : Hp} (g : Same G H) {v : V} {d : PyData} (r : Rep K G v d) : TyX K H v (.type (tyOf d)) := by
  cases r with
  | non => exact .base .non
  | bl b => exact .base (.bl b)
  | int i => exact .base (.int i)
  | str x => exact .base (.str x)
  | lst h _ =>
    rcases g.seq h with (h | ⟨o, h⟩) | ⟨o, _, _, h, c, _⟩
    · exact .base (.lst h)
    · exact .base (.frz h)
    · exact .kList h c
  | tup h _ =>
    rcases Same.seqT g h with (h | ⟨o, h⟩) | ⟨o, _, _, h, c, _⟩
    · exact .base (.tup h)
    · exact .fTuple h
    · exact .kTuple h c
  | dct h _ => exact .base (.dK (g _ _ h))
theorem ev_isi {d : PyData} {T : Str} {T' : String} {p2 : Pos} {k : Bool} (hm : X.mg "isinstance" = none) (hg : Gl X "isinstance") (ha : EV X na a sl cs (.val d) cs1) (hmT : X.mg T = none) (hgT : Gl X T) (hbT : bootBuiltins T = some (.type T')) (hk : PySem.W.kitOne X.K (.type (tyOf d)) (.type T') = some k) (hT : T ≠ "__name__" := by decide) (hT2 : (T == ("__debug__" : Str)) = false := by decide)
    (hs : starEach [a, .Name T p2] X.env = (false, eval a X.env) :: starEach [.Name T p2] X.env := by rfl) (hs2 : starEach [.Name T p2] X.env = (false, eval (.Name T p2) X.env) :: starEach [] X.env := by rfl) (hpl : (backTo pos (starEach [.Name T p2] X.env)).any (·.1) = false := by rfl) :
    EV X na (.Call (.Name "isinstance" p) [a, .Name T p2] [] pos) sl cs (.val (.bool k)) cs1 := by
  refine ev_of (pe_callB call_isi hg hm (by decide +kernel) (pa_cons pe_any (pa_cons (pe_bltn (v := .ty T') hgT hmT hbT rfl hT hT2) pa_nil hs2) hs) (by decide) (by decide) hs hpl) fun B G ps σ H hn C S Q q => ha B G ps σ H hn C S _ fun v G1 ps1 H1 C1 u1 r1 => ?_
  exact ⟨v, .ty T', _, _, k, rfl, .ty T', Rep.tyX C1.gh r1, hk, q _ G1 ps1 H1 C1 u1 (Rep.bl _)⟩
end
end DL
namespace DL
open PySem PySem.Spec PyProof.Rows L2
theorem Core.grow {K : PySem.W.Frag} {B : Bs} {G G' H H' : Hp} {ps : List Addr} {cs : Cs} (C : Core K B G ps cs H) (hs : Same H H') (g : Same G G') (gh : Same G' H') (nw : ∀ b, G' b ≠ none → G b ≠ none ∨ H b = none) : Core K B G' ps cs H' where
  g0 := C.g0.trans g
  h0 b o e m := hs _ _ (C.h0 b o e m)
  gh := gh
  nw b e := (nw b e).elim (C.nw b) fun h => .inr (C.free0 h)
  len := C.len
  pre := C.pre
  nd := C.nd
  cell k p c e hc := by
    obtain ⟨h1, h2, h3⟩ := C.cell k p c e hc
    have hl := C.live (List.mem_of_getElem? e)
    have hH : H' p = H p := by
      cases q : H p with
      | none => exact (hl q).elim
      | some o => exact hs _ _ q
    refine ⟨RepC.mono ⟨g, List.prefix_refl _⟩ hH h1, h2, h3.imp id fun hG => ?_⟩
    cases q : G' p with
    | none => rfl
    | some o =>
      rcases nw p (by rw [q]; exact Option.some_ne_none _) with z | z
      · exact (z hG).elim
      · exact (hl z).elim
theorem svK_inv {K : PySem.W.Frag} {G : Hp} {ps : List Addr} : ∀ {us : List (Key × V)} {kvs : List (Key × PyData)}, RepKs K G ps us (svK kvs) → Paired (fun (q : Key × V) (kv : Key × PyData) => q.1 = kv.1 ∧ Rep K G q.2 kv.2) us kvs
  | _, [], h => by cases h; exact .nil
  | _, (k, d) :: r, h => by
    cases h with
    | cons h1 h2 => exact .cons h1 (svK_inv h2)
theorem rep_key {K : PySem.W.Frag} {G : Hp} (k : Key) : Rep K G (kV k) (kD k) := by
  cases k with
  | inl i => exact .int i
  | inr x => exact .str x
section
variable {X : Cx} {na : Nat} {sl sl' : Sl} {cs cs1 cs2 cs3 : Cs} {s t u : SV} {pos : Pos} {x : Str} {E : DEnds} {N : List Str} {a b : Expr} {p p2 pos2 apos cpos : Pos}
/-! ### list(range(..)) -/
def rgD (a b : Int) : List PyData := (List.range (b - a).toNat).map fun i => PyData.int (a + (i : Nat))
theorem reps_rg {K : PySem.W.Frag} {G : Hp} (a b : Int) : Reps K G (rgV a b) (rgD a b) := by
  unfold rgV rgD
  generalize List.range (b - a).toNat = l
  induction l with
  | nil => exact .nil
  | cons i l ih => exact .cons (.int _) ih
theorem ev_listRg1 {n : Int} (hc : X.calm = true) (hm : X.mg "list" = none) (hg : Gl X "list") (hm2 : X.mg "range" = none) (hg2 : Gl X "range") (ha : EV X na a sl cs (.val (.int n)) cs1) (h0 : 0 ≤ n) (h1 : n ≤ 16777216)
    (hs : starEach [a] X.env = (false, eval a X.env) :: starEach [] X.env := by rfl) (hs2 : starEach [.Call (.Name "range" p2) [a] [] pos2] X.env = (false, eval (.Call (.Name "range" p2) [a] [] pos2) X.env) :: starEach [] X.env := by rfl) :
    EV X na (.Call (.Name "list" p) [.Call (.Name "range" p2) [a] [] pos2] [] pos) sl cs (.val (.list (rgD 0 n))) cs1 :=
  ev_of (pe_listRg hc hg hm (prg_1 hg2 hm2 pe_any hs) hs2) fun B G ps σ H hn C S Q q => ha B G ps σ H hn C S _ fun v G1 ps1 H1 C1 u1 r1 =>
    ⟨n, Rep.intI r1, RgOk.of_le (Int.le_refl 0) h1 (by omega) h0, C1.newLst (reps_rg 0 n) fun v G2 ps2 H2 C2 u2 => q v G2 ps2 H2 C2 (u1.trans u2)⟩
theorem ev_listRg2 {m n : Int} (hc : X.calm = true) (hm : X.mg "list" = none) (hg : Gl X "list") (hm2 : X.mg "range" = none) (hg2 : Gl X "range") (ha : EV X na a sl cs (.val (.int m)) cs1) (hb : EV X na b sl cs1 (.val (.int n)) cs2) (h0 : 0 ≤ m ∧ m ≤ 16777216) (h1 : 0 ≤ n ∧ n ≤ 16777216)
    (hs : starEach [a, b] X.env = (false, eval a X.env) :: starEach [b] X.env := by rfl) (hs1 : starEach [b] X.env = (false, eval b X.env) :: starEach [] X.env := by rfl) (hp : (backTo pos2 (starEach [b] X.env)).any (·.1) = false := by rfl) (hs2 : starEach [.Call (.Name "range" p2) [a, b] [] pos2] X.env = (false, eval (.Call (.Name "range" p2) [a, b] [] pos2) X.env) :: starEach [] X.env := by rfl) :
    EV X na (.Call (.Name "list" p) [.Call (.Name "range" p2) [a, b] [] pos2] [] pos) sl cs (.val (.list (rgD m n))) cs2 :=
  ev_of (pe_listRg hc hg hm (prg_2 hg2 hm2 pe_any pe_any hs hs1 hp) hs2) fun B G ps σ H hn C S Q q => ha B G ps σ H hn C S _ fun v G1 ps1 H1 C1 u1 r1 => hb B G1 ps1 σ H1 hn C1 (Slots.mono u1 S) _ fun w G2 ps2 H2 C2 u2 r2 =>
    ⟨m, n, Rep.intI r1, Rep.intI r2, RgOk.of_le h0.1 h1.2 h0.2 h1.1, C2.newLst (reps_rg m n) fun v G3 ps3 H3 C3 u3 => q v G3 ps3 H3 C3 ((u1.trans u2).trans u3)⟩
/-! ### list(d.items()), dict(pairs) -/
def kvD (kv : Key × PyData) : PyData := .tuple [kD kv.1, kv.2]
theorem ev_items {kvs : List (Key × PyData)} (hc : X.calm = true) (hm : X.mg "list" = none) (hg : Gl X "list") (ha : EV X na a sl cs s cs1) (hd : IsD cs1 s (svK kvs)) (hbase : attributeBase a "items" X.env (eval a X.env) = eval a X.env := by rfl) (hline : (apos.endLine == cpos.line) = true := by rfl)
    (hs : starEach [.Call (.Attribute a "items" apos) [] [] cpos] X.env = (false, eval (.Call (.Attribute a "items" apos) [] [] cpos) X.env) :: starEach [] X.env := by rfl) :
    EV X na (.Call (.Name "list" p) [.Call (.Attribute a "items" apos) [] [] cpos] [] pos) sl cs (.val (.list (kvs.map kvD))) cs1 :=
  ev_of (LiI.pe_listItems hc pe_any hg hm (by decide +kernel) hbase hline hs) fun B G ps σ H hn C S Q q => ha B G ps σ H hn C S _ fun v G1 ps1 H1 C1 u1 r1 => by
    obtain ⟨l, us, rfl, h1, h2⟩ := hd.at C1 r1
    refine ⟨l, us, rfl, h1, fun H' p' ts hsame hp hts hpts hl hpair => ?_⟩
    have hnew : ∀ b, (b = p' ∨ b ∈ ts) → H1 b = none := fun b hb => hb.elim (fun e => e ▸ hp) (hts b)
    have C2 : Core X.K B (fun b => if b = p' ∨ b ∈ ts then H' b else G1 b) ps1 cs1 H' := C1.grow hsame
      (fun b o e => by
        have hb : ¬ (b = p' ∨ b ∈ ts) := fun z => by have := C1.freeG (hnew b z); rw [e] at this; cases this
        show (if b = p' ∨ b ∈ ts then H' b else G1 b) = some o
        rw [if_neg hb]
        exact e)
      (fun b o e => by
        have e' : (if b = p' ∨ b ∈ ts then H' b else G1 b) = some o := e
        by_cases hb : b = p' ∨ b ∈ ts
        · rw [if_pos hb] at e'
          exact e'
        · rw [if_neg hb] at e'
          exact hsame _ _ (C1.gh _ _ e'))
      (fun b e => by
        have e' : (if b = p' ∨ b ∈ ts then H' b else G1 b) ≠ none := e
        by_cases hb : b = p' ∨ b ∈ ts
        · exact .inr (hnew b hb)
        · rw [if_neg hb] at e'
          exact .inl e')
    have sG : Same G1 (fun b => if b = p' ∨ b ∈ ts then H' b else G1 b) := fun b o e => by
      have hb : ¬ (b = p' ∨ b ∈ ts) := fun z => by have := C1.freeG (hnew b z); rw [e] at this; cases this
      show (if b = p' ∨ b ∈ ts then H' b else G1 b) = some o
      rw [if_neg hb]
      exact e
    refine q (.ref p') _ ps1 H' C2 (u1.trans ⟨sG, List.prefix_refl _⟩) ?_
    refine Rep.lst (xs := ts.map V.ref) (.inl (.inl ?_)) ?_
    · show (if p' = p' ∨ p' ∈ ts then H' p' else G1 p') = _
      rw [if_pos (.inl rfl)]
      exact hl
    · have key : ∀ {qs : List Addr} {us : List (Key × V)} {kvs : List (Key × PyData)}, (∀ t ∈ qs, t ∈ ts) → Paired (fun (t : Addr) (q : Key × V) => H' t = some (.tup [kV q.1, q.2])) qs us → Paired (fun (q : Key × V) (kv : Key × PyData) => q.1 = kv.1 ∧ Rep X.K G1 q.2 kv.2) us kvs → Reps X.K (fun b => if b = p' ∨ b ∈ ts then H' b else G1 b) (qs.map V.ref) (kvs.map kvD) := fun {qs us kvs} hm h g => by
        induction h generalizing kvs with
        | nil => cases g; exact .nil
        | @cons t q ls qs' e _ ih =>
          cases g with
          | cons g1 g2 =>
            refine .cons (.tup (xs := [kV q.1, q.2]) (.inl (.inl ?_)) (.cons ?_ (.cons (Rep.mono sG g1.2) .nil))) (ih (fun t ht => hm t (List.mem_cons_of_mem _ ht)) g2)
            · show (if t = p' ∨ t ∈ ts then H' t else G1 t) = _
              rw [if_pos (.inr (hm t List.mem_cons_self))]
              exact e
            · rw [g1.1]
              exact rep_key _
      exact key (fun _ h => h) hpair (svK_inv h2)
def mergeS (kvs : List (Key × PyData)) : List (Key × SV) → List (Key × SV) := fun acc => kvs.foldl (fun acc kv => putS acc kv.1 (.val kv.2)) acc
theorem putK_nd {us : List (Key × V)} {k : Key} {v : V} (h : (us.map (·.1)).Nodup) : ((putK us k v).map (·.1)).Nodup := by
  unfold putK
  by_cases m : (us.any fun kv => decide (kv.1 = k)) = true
  · rw [if_pos m, List.map_map]
    have e : ((fun x : Key × V => x.1) ∘ fun kv : Key × V => if kv.1 = k then (kv.1, v) else kv) = fun kv => kv.1 := funext fun kv => by
      show (if kv.1 = k then (kv.1, v) else kv).1 = kv.1
      split <;> rfl
    rw [e]
    exact h
  · rw [if_neg m, List.map_append]
    refine nd_snoc h fun hk => m ?_
    obtain ⟨p, hp, e⟩ := List.mem_map.mp hk
    exact List.any_eq_true.mpr ⟨p, hp, decide_eq_true e⟩
theorem merge_ks {K : PySem.W.Frag} {G : Hp} {ps : List Addr} : ∀ {us : List (Key × V)} {kvs : List (Key × PyData)} {acc : List (Key × V)} {acc' : List (Key × SV)}, Paired (fun (q : Key × V) (kv : Key × PyData) => q.1 = kv.1 ∧ Rep K G q.2 kv.2) us kvs → RepKs K G ps acc acc' → (acc.map (·.1)).Nodup → RepKs K G ps (mergeK acc us) (mergeS kvs acc')
  | _, _, _, _, .nil, r, _ => r
  | (k', v) :: us, (k, d) :: kvs, acc, acc', .cons h t, r, nd => by
    obtain ⟨h1, h2⟩ := h
    cases (show k' = k from h1)
    show RepKs K G ps (mergeK (putK acc k' v) us) (mergeS kvs (putS acc' k' (.val d)))
    exact merge_ks t (put_ks (show RepV K G ps v (.val d) from h2) r nd) (putK_nd nd)
/-- dict(pairs) -/
theorem ev_dictP {kvs : List (Key × PyData)} {n : Nat} (hc : X.calm = true) (hm : X.mg "dict" = none) (hg : Gl X "dict") (ha : EV X na a sl cs s cs1) (hl : IsL cs1 s ((kvs.map kvD).map SV.val)) (ac : AppC cs1 (.dct (mergeS kvs [])) n cs2) (hs : starEach [a] X.env = (false, eval a X.env) :: starEach [] X.env := by rfl) : EV X na (.Call (.Name "dict" p) [a] [] pos) sl cs (.cell n) cs2 :=
  ev_callTy (call_dictP hc) (by decide +kernel) hg hm (av_cons ha av_nil hs) (rc1 fun B G ps' H v hn C r1 Q q => by
    obtain ⟨l, vs, rfl, h1, h2⟩ := hl.sq C r1
    have h3 := Reps.ofVs h2
    have key : ∀ {vs : List V} {kvs : List (Key × PyData)}, Reps X.K G vs (kvs.map kvD) → ∃ (qs : List Addr) (us : List (Key × V)), vs = qs.map V.ref ∧ Paired (fun p kv => SqT X.K H p [kV kv.1, kv.2]) qs us ∧ Paired (fun (q : Key × V) (kv : Key × PyData) => q.1 = kv.1 ∧ Rep X.K G q.2 kv.2) us kvs := fun {vs kvs} h => by
      induction kvs generalizing vs with
      | nil => cases h; exact ⟨[], [], rfl, .nil, .nil⟩
      | cons kv r ih =>
        cases h with
        | cons h1 h2 =>
          obtain ⟨qs, us, rfl, e2, e3⟩ := ih h2
          obtain ⟨t, ws, rfl, g1, g2⟩ := Rep.tupI h1
          cases g2 with
          | cons k1 k2 =>
            cases k2 with
            | cons k2 k3 =>
              cases k3
              have e : _ = kV kv.1 := (show KeyOf (kD kv.1) kv.1 by cases kv.1 <;> constructor).v k1
              subst e
              exact ⟨t :: qs, (kv.1, _) :: us, rfl, .cons (Same.seqT C.gh g1) e2, .cons ⟨rfl, k2⟩ e3⟩
    obtain ⟨qs, us, rfl, e2, e3⟩ := key h3
    exact ⟨l, qs, us, rfl, h1, e2, C.newCell ac (fun p hp => ⟨_, upd_same, merge_ks e3 .nil List.Pairwise.nil⟩) q⟩) (by decide) (by decide) hs
theorem ev_reverse {k : Nat} {xs : List SV} (ha : EV X na a sl cs (.cell k) cs1) (hc : cs1[k]? = some (.lst xs)) (p : PutC cs1 k (.lst xs.reverse) cs2) (hbase : attributeBase a "reverse" X.env (eval a X.env) = eval a X.env := by rfl) (hline : (apos.endLine == pos.line) = true := by rfl) :
    EV X na (.Call (.Attribute a "reverse" apos) [] [] pos) sl cs (.val .none) cs2 :=
  ev_of (pe_bm0 PySem.F.plainAttrs_list PySem.F.slot_list_reverse PySem.F.type_list_reverse mt_reverse pe_any hbase hline) fun B G ps σ H hn C S Q q => ha B G ps σ H hn C S _ fun v G1 ps1 H1 C1 u1 r1 => by
    obtain ⟨l, rfl, e, ws, h1, h2⟩ := C1.cellAt r1 hc
    rw [p.at] at q
    exact ⟨.inl ⟨rfl, ws, SqL.of h1⟩, l, ws, rfl, rfl, h1, q _ G1 ps1 _ (C1.put (c' := .lst xs.reverse) e hc (by intro z; cases z) ⟨_, upd_same, pd_rev h2⟩) u1 Rep.non⟩
end
end DL
namespace DL
open PySem PySem.Spec PyProof.Rows L2
theorem ret_val {na : Nat} {d d' : PyData} {c c2 : Cs} (hd : d = d') (hc : c2.take na = c) (hl : c.length = na) (lt : c.all (CC.lt na) = true) : RetOk na (.val d') c (.val d) c2 := by
  subst hd
  refine .val ?_ hl lt
  rw [← hc]
  exact List.take_prefix _ _
theorem ret_new {na k : Nat} {o o' : CC} {c c2 : Cs} (hk : na ≤ k) (ho : c2[k]? = some o) (e : o = o') (hf : o'.flat = true) (hd : o' ≠ .dead) (hc : c2.take na = c) (hl : c.length = na) (lt : c.all (CC.lt na) = true) : RetOk na (.cell na) (c ++ [o']) (.cell k) c2 := by
  subst e
  refine .new hk ho hf hd ?_ hl lt
  rw [← hc]
  exact List.take_prefix _ _
theorem ret_frz {na k : Nat} {d d' : PyData} {o : CC} {c c2 : Cs} (hk : na ≤ k) (ho : c2[k]? = some o) (hd : o.data = some d) (e : d = d') (hc : c2.take na = c) (hl : c.length = na) (lt : c.all (CC.lt na) = true) : RetOk na (.val d') c (.cell k) c2 := by
  subst e
  refine .frz hk ho hd ?_ hl lt
  rw [← hc]
  exact List.take_prefix _ _
/-! ### items by a place that is not written -/
theorem at_if {α : Type} {x y : α} {b : Bool} : atI [x, y] (if b = true then 1 else 0) = some (if b = true then y else x) := by cases b <;> rfl
theorem at_in {α : Type} {xs : List α} {i : Int} {d : α} (h0 : 0 ≤ i) (h1 : i < xs.length) : atI xs i = some (xs.getD i.toNat d) := by
  have e : i = (i.toNat : Int) := by omega
  have h2 : i.toNat < xs.length := by omega
  rw [e]
  refine atI_nat ?_
  rw [Int.toNat_natCast, List.getElem?_eq_getElem h2, List.getD_eq_getElem?_getD, List.getElem?_eq_getElem h2]
  rfl
theorem at_map {α β : Type} {xs : List α} {f : α → β} {i : Int} {d : α} (h0 : 0 ≤ i) (h1 : i < xs.length) : atI (xs.map f) i = some (f (xs.getD i.toNat d)) := by
  rw [at_in (d := f d) h0 (by rw [List.length_map]; exact h1)]
  congr 1
  rw [List.getD_eq_getElem?_getD, List.getD_eq_getElem?_getD, List.getElem?_map]
  cases xs[i.toNat]? <;> rfl
/-! ### sizes of ints -/
def Bd (n : Int) : Prop := ∃ b : Nat, b ≤ 1100000 ∧ n.natAbs < 2 ^ b
theorem bd_lt {n : Int} (h : n.natAbs < 18446744073709551616) : Bd n := ⟨64, by omega, h⟩
theorem bd_mul_small {n m : Int} (h : Bd n) (hm : m.natAbs < 18446744073709551616) : CMulX n m := by
  obtain ⟨b, hb, h⟩ := h
  exact mulx_ok (b := 64) h hm (by omega)
theorem small_mul {n m : Int} (h : n.natAbs < 18446744073709551616) (hm : m.natAbs < 18446744073709551616) : CMulX n m := mulx_ok (a := 64) (b := 64) h hm (by omega)
theorem small_div {i j : Int} (h : 0 < j) (hj : j.natAbs < 18446744073709551616) : CDivW i j := wide_div (b := 64) h hj (by decide) (by decide)
theorem bd_div {n m : Int} (h : Bd n) : Bd (n / m) := by
  obtain ⟨b, hb, h⟩ := h
  exact ⟨b, hb, Nat.lt_of_le_of_lt (Int.natAbs_ediv_le_natAbs n m) h⟩
theorem bd_bits {n : Int} (h : Builtin.Int.intBits n ≤ 1048576) : Bd n := by
  refine ⟨1048577, by omega, ?_⟩
  unfold Builtin.Int.intBits at h
  by_cases z : n = 0
  · subst z
    exact Nat.two_pow_pos _
  · have h0 : n.natAbs ≠ 0 := by omega
    have : n.natAbs.log2 < 1048577 := by
      have h' := h
      rw [if_neg (by simpa using z)] at h'
      omega
    exact (Nat.log2_lt h0).mp this
/-! ### ways that meet again -/
theorem sx_cut {X : Cx} {na : Nat} {sl : Sl} {cs : Cs} {st : Stmt} {rest : List Stmt} {E : DEnds} (M : Sl → Cs → Prop) (h : S1 X na st sl cs { E with nx := M }) (k : ∀ sl' cs', M sl' cs' → SX X na rest sl' cs' E) : SX X na (st :: rest) sl cs E :=
  sx_cons fun B G ps σ H hn C S D L => h B G ps σ H hn C S D ⟨fun sl' cs' G' ps' σ' H' C' u' S' q => L.nx sl' cs' G' ps' σ' H' C' u' S' (k sl' cs' q), L.rt, L.bk, L.ct⟩
theorem sx_cutF {X : Cx} {na : Nat} {sl : Sl} {cs : Cs} {st : Stmt} {rest : List Stmt} {E : DEnds} (a : Sl) (c : Cs) (h : S1 X na st sl cs { E with nx := fun sl' cs' => Le a sl' ∧ cs' = c }) (k : SX X na rest a c E) : SX X na (st :: rest) sl cs E :=
  sx_cut _ h fun sl' cs' ⟨l, e⟩ => by
    subst e
    exact sx_weak l k
end DL
namespace DL
open PySem PySem.Spec PyProof.Rows L2
/-! ### isinstance, by classes -/
def isTup : PyData → Bool
  | .tuple _ => true
  | _ => false
def isInt : PyData → Bool
  | .int _ => true
  | .bool _ => true
  | _ => false
def isBool : PyData → Bool
  | .bool _ => true
  | _ => false
def isStr : PyData → Bool
  | .str _ => true
  | _ => false
def isLst : PyData → Bool
  | .list _ => true
  | _ => false
section
variable {K : PySem.W.Frag}
theorem kit_tup (d : PyData) : PySem.W.kitOne K (.type (tyOf d)) (.type "tuple") = some (isTup d) := by cases d <;> (dsimp only [tyOf, isTup, isInt, isBool, isStr, isLst]; exact kit_ty (by decide +kernel))
theorem kit_int (d : PyData) : PySem.W.kitOne K (.type (tyOf d)) (.type "int") = some (isInt d) := by cases d <;> (dsimp only [tyOf, isTup, isInt, isBool, isStr, isLst]; exact kit_ty (by decide +kernel))
theorem kit_bool (d : PyData) : PySem.W.kitOne K (.type (tyOf d)) (.type "bool") = some (isBool d) := by cases d <;> (dsimp only [tyOf, isTup, isInt, isBool, isStr, isLst]; exact kit_ty (by decide +kernel))
theorem kit_str (d : PyData) : PySem.W.kitOne K (.type (tyOf d)) (.type "str") = some (isStr d) := by cases d <;> (dsimp only [tyOf, isTup, isInt, isBool, isStr, isLst]; exact kit_ty (by decide +kernel))
theorem kit_lst (d : PyData) : PySem.W.kitOne K (.type (tyOf d)) (.type "list") = some (isLst d) := by cases d <;> (dsimp only [tyOf, isTup, isInt, isBool, isStr, isLst]; exact kit_ty (by decide +kernel))
end
section
variable {X : Cx} {na : Nat} {sl sl' : Sl} {cs cs1 cs2 cs3 : Cs} {s t u : SV} {pos : Pos} {x : Str} {E : DEnds} {N : List Str} {a b : Expr} {p p2 pos2 apos cpos : Pos} {d : PyData}
theorem ev_isTup (hm : X.mg "isinstance" = none) (hg : Gl X "isinstance") (ha : EV X na a sl cs (.val d) cs1) (hmT : X.mg "tuple" = none) (hgT : Gl X "tuple")
    (hs : starEach [a, .Name "tuple" p2] X.env = (false, eval a X.env) :: starEach [.Name "tuple" p2] X.env := by rfl) : EV X na (.Call (.Name "isinstance" p) [a, .Name "tuple" p2] [] pos) sl cs (.val (.bool (isTup d))) cs1 :=
  ev_isi hm hg ha hmT hgT (by decide +kernel) (kit_tup d) (by decide) (by decide) hs
theorem ev_isInt (hm : X.mg "isinstance" = none) (hg : Gl X "isinstance") (ha : EV X na a sl cs (.val d) cs1) (hmT : X.mg "int" = none) (hgT : Gl X "int")
    (hs : starEach [a, .Name "int" p2] X.env = (false, eval a X.env) :: starEach [.Name "int" p2] X.env := by rfl) : EV X na (.Call (.Name "isinstance" p) [a, .Name "int" p2] [] pos) sl cs (.val (.bool (isInt d))) cs1 :=
  ev_isi hm hg ha hmT hgT (by decide +kernel) (kit_int d) (by decide) (by decide) hs
theorem ev_isBool (hm : X.mg "isinstance" = none) (hg : Gl X "isinstance") (ha : EV X na a sl cs (.val d) cs1) (hmT : X.mg "bool" = none) (hgT : Gl X "bool")
    (hs : starEach [a, .Name "bool" p2] X.env = (false, eval a X.env) :: starEach [.Name "bool" p2] X.env := by rfl) : EV X na (.Call (.Name "isinstance" p) [a, .Name "bool" p2] [] pos) sl cs (.val (.bool (isBool d))) cs1 :=
  ev_isi hm hg ha hmT hgT (by decide +kernel) (kit_bool d) (by decide) (by decide) hs
theorem ev_isStr (hm : X.mg "isinstance" = none) (hg : Gl X "isinstance") (ha : EV X na a sl cs (.val d) cs1) (hmT : X.mg "str" = none) (hgT : Gl X "str")
    (hs : starEach [a, .Name "str" p2] X.env = (false, eval a X.env) :: starEach [.Name "str" p2] X.env := by rfl) : EV X na (.Call (.Name "isinstance" p) [a, .Name "str" p2] [] pos) sl cs (.val (.bool (isStr d))) cs1 :=
  ev_isi hm hg ha hmT hgT (by decide +kernel) (kit_str d) (by decide) (by decide) hs
theorem ev_isLst (hm : X.mg "isinstance" = none) (hg : Gl X "isinstance") (ha : EV X na a sl cs (.val d) cs1) (hmT : X.mg "list" = none) (hgT : Gl X "list")
    (hs : starEach [a, .Name "list" p2] X.env = (false, eval a X.env) :: starEach [.Name "list" p2] X.env := by rfl) : EV X na (.Call (.Name "isinstance" p) [a, .Name "list" p2] [] pos) sl cs (.val (.bool (isLst d))) cs1 :=
  ev_isi hm hg ha hmT hgT (by decide +kernel) (kit_lst d) (by decide) (by decide) hs
/-- [elt for tg in iter]: item by item, the cells as they were -/
theorem lc_M {elt tg iter : Expr} {scope : Scope} {own : List (Str × Nat)} {xs : List SV} {GC : Cs → Prop} (h : IV X na tg iter sl cs xs GC cs1)
    (ds : List PyData) (a : Nat → Sl) (c2 : Nat → Cs) (hl : ds.length = xs.length) (hz : xs.length ≤ 100000) (hG : GC cs1)
    (hg : ∀ i s, xs[i]? = some s → ∀ st H C cl fp, GW (blkOf X scope st H C cl fp) cs1.length tg s (wipeS sl (own.map (·.2))) cs1 (own.map (·.2)) fun sl2 cs2 => sl2 = a i ∧ cs2 = cs1)
    (he : ∀ i s d, xs[i]? = some s → ds[i]? = some d → (∀ st H C cl fp, EV (blkOf X scope st H C cl fp) cs1.length elt (a i) cs1 (.val d) (c2 i)) ∧ AtC cs1.length cs1 (c2 i))
    : LC X na elt tg iter [] scope own sl cs ds cs1 := by
  have := lc_gen (elt := elt) (ifs := []) (sl := sl) (scope := scope) (own := own) h a (fun _ => cs1) c2 (fun _ => true) (fun i => ds.getD i .none) (fun i => ds.take i) rfl rfl hz (fun _ _ => hG) hg (fun i s e st H C cl fp => tvs_nil)
    (fun i s e _ => by
      have hi : i < ds.length := by rw [hl]; exact (List.getElem?_eq_some_iff.mp e).1
      have e2 : ds[i]? = some (ds.getD i .none) := by rw [List.getD_eq_getElem?_getD, List.getElem?_eq_getElem hi]; rfl
      obtain ⟨h1, h2⟩ := he i s _ e e2
      refine ⟨h1, h2, ?_⟩
      rw [List.take_add_one, e2]
      rfl)
    (fun _ _ _ z => nomatch z)
  rw [← hl, List.take_of_length_le (Nat.le_refl _)] at this
  exact this
/-- .. of those that a test lets by -/
theorem lc_F {α : Type} {elt tg iter ift : Expr} {scope : Scope} {own : List (Str × Nat)} {GC : Cs → Prop} (es : List α) (f : α → SV) (h : IV X na tg iter sl cs (es.map f) GC cs1)
    (k : α → Bool) (v : α → PyData) (a : α → Sl) (c2 : α → Cs) (hz : es.length ≤ 100000) (hG : GC cs1)
    (hg : ∀ e ∈ es, ∀ st H C cl fp, GW (blkOf X scope st H C cl fp) cs1.length tg (f e) (wipeS sl (own.map (·.2))) cs1 (own.map (·.2)) fun sl2 cs2 => sl2 = a e ∧ cs2 = cs1)
    (ht : ∀ e ∈ es, ∀ st H C cl fp, TV (blkOf X scope st H C cl fp) cs1.length ift (a e) cs1 (k e) cs1)
    (he : ∀ e ∈ es, k e = true → (∀ st H C cl fp, EV (blkOf X scope st H C cl fp) cs1.length elt (a e) cs1 (.val (v e)) (c2 e)) ∧ AtC cs1.length cs1 (c2 e))
    : LC X na elt tg iter [ift] scope own sl cs ((es.filter k).map v) cs1 := by
  cases es with
  | nil =>
    exact lc_gen (elt := elt) (ifs := [ift]) (sl := sl) (scope := scope) (own := own) h (fun _ => sl) (fun _ => cs1) (fun _ => cs1) (fun _ => true) (fun _ => .none) (fun _ => []) rfl rfl (Nat.zero_le _) (fun _ _ => hG) (fun i s e => by simp at e) (fun i s e => by simp at e) (fun i s e => by simp at e) (fun i s e => by simp at e)
  | cons e0 er =>
    have get : ∀ {i : Nat} {s : SV}, ((e0 :: er).map f)[i]? = some s → ∃ e, (e0 :: er)[i]? = some e ∧ s = f e ∧ (e0 :: er).getD i e0 = e := fun {i s} e => by
      rw [List.getElem?_map] at e
      cases q : (e0 :: er)[i]? with
      | none => rw [q] at e; cases e
      | some z =>
        rw [q] at e
        cases e
        exact ⟨z, rfl, rfl, by rw [List.getD_eq_getElem?_getD, q]; rfl⟩
    have := lc_gen (elt := elt) (ifs := [ift]) (sl := sl) (scope := scope) (own := own) h (fun i => a ((e0 :: er).getD i e0)) (fun _ => cs1) (fun i => c2 ((e0 :: er).getD i e0)) (fun i => k ((e0 :: er).getD i e0)) (fun i => v ((e0 :: er).getD i e0)) (fun i => (((e0 :: er).take i).filter k).map v) rfl rfl (by rw [List.length_map]; exact hz) (fun _ _ => hG)
      (fun i s e st H C cl fp => by
        obtain ⟨z, h1, rfl, h3⟩ := get e
        rw [h3]
        exact hg z (List.mem_of_getElem? h1) st H C cl fp)
      (fun i s e st H C cl fp => by
        obtain ⟨z, h1, rfl, h3⟩ := get e
        rw [h3]
        exact tvs_one (ht z (List.mem_of_getElem? h1) st H C cl fp))
      (fun i s e hk => by
        obtain ⟨z, h1, rfl, h3⟩ := get e
        rw [h3] at hk
        obtain ⟨g1, g2⟩ := he z (List.mem_of_getElem? h1) hk
        refine ⟨by rw [h3]; exact g1, by rw [h3]; exact g2, ?_⟩
        rw [h3, List.take_add_one, h1, List.filter_append, List.map_append]
        simp [hk])
      (fun i s e hk => by
        obtain ⟨z, h1, rfl, h3⟩ := get e
        rw [h3] at hk
        refine ⟨rfl, ?_⟩
        rw [List.take_add_one, h1, List.filter_append, List.map_append]
        simp [hk])
    rw [List.length_map, List.take_of_length_le (Nat.le_refl _)] at this
    exact this
theorem ev_lcM {elt tg iter : Expr} {scope : Scope} {own : List (Str × Nat)} {xs : List SV} {GC : Cs → Prop} (hc : X.calm = true) (nd : X.N.Nodup) (ok : BlkOk X.N X.env.scope scope own) (h : IV X na tg iter sl cs xs GC cs1)
    (ds : List PyData) (a : Nat → Sl) (c2 : Nat → Cs) (hl : ds.length = xs.length) (hz : xs.length ≤ 100000) (hG : GC cs1)
    (hg : ∀ i s, xs[i]? = some s → ∀ st H C cl fp, GW (blkOf X scope st H C cl fp) cs1.length tg s (wipeS sl (own.map (·.2))) cs1 (own.map (·.2)) fun sl2 cs2 => sl2 = a i ∧ cs2 = cs1)
    (he : ∀ i s d, xs[i]? = some s → ds[i]? = some d → (∀ st H C cl fp, EV (blkOf X scope st H C cl fp) cs1.length elt (a i) cs1 (.val d) (c2 i)) ∧ AtC cs1.length cs1 (c2 i))
    (hs : ∀ x, foldedSetIterable iter X.env x = pure x := by intro _; rfl) : EV X na (.ListComp elt [⟨tg, iter, [], 0⟩] scope pos) sl cs (.val (.list ds)) cs1 :=
  ev_LC hc nd ok (lc_M h ds a c2 hl hz hG hg he) hs
theorem ev_lcF {α : Type} {elt tg iter ift : Expr} {scope : Scope} {own : List (Str × Nat)} {GC : Cs → Prop} (hc : X.calm = true) (nd : X.N.Nodup) (ok : BlkOk X.N X.env.scope scope own) (es : List α) (f : α → SV) (h : IV X na tg iter sl cs (es.map f) GC cs1)
    (k : α → Bool) (v : α → PyData) (a : α → Sl) (c2 : α → Cs) (hz : es.length ≤ 100000) (hG : GC cs1)
    (hg : ∀ e ∈ es, ∀ st H C cl fp, GW (blkOf X scope st H C cl fp) cs1.length tg (f e) (wipeS sl (own.map (·.2))) cs1 (own.map (·.2)) fun sl2 cs2 => sl2 = a e ∧ cs2 = cs1)
    (ht : ∀ e ∈ es, ∀ st H C cl fp, TV (blkOf X scope st H C cl fp) cs1.length ift (a e) cs1 (k e) cs1)
    (he : ∀ e ∈ es, k e = true → (∀ st H C cl fp, EV (blkOf X scope st H C cl fp) cs1.length elt (a e) cs1 (.val (v e)) (c2 e)) ∧ AtC cs1.length cs1 (c2 e))
    (hs : ∀ x, foldedSetIterable iter X.env x = pure x := by intro _; rfl) : EV X na (.ListComp elt [⟨tg, iter, [ift], 0⟩] scope pos) sl cs (.val (.list ((es.filter k).map v))) cs1 :=
  ev_LC hc nd ok (lc_F es f h k v a c2 hz hG hg ht he) hs
theorem ev_is {e : Expr} (h : EV X na e sl cs s cs1) (q : s = t) : EV X na e sl cs t cs1 := q ▸ h
theorem tv_is {e : Expr} {k l : Bool} (h : TV X na e sl cs k cs1) (q : k = l) : TV X na e sl cs l cs1 := q ▸ h
theorem ev_nameV {i : Nat} (nd : X.N.Nodup) (hN : X.N = N) (l : Lk N sl x i s) (hv : Vis X.env.scope x := by first | exact Or.inl rfl | exact Or.inr (Or.inl rfl) | exact Or.inr (Or.inr rfl)) (hd : (x == ("__debug__" : Str)) = false := by decide) (hcd : (x == ("__classdict__" : Str)) = false := by decide) : EV X na (.Name x pos) sl cs s cs := by
  subst hN
  obtain ⟨h1, h2⟩ := l.at
  refine ev_of (pe_var h1 hv hd hcd) fun B G ps σ H hn C S Q q => ?_
  obtain ⟨o, ho, hr⟩ := pd_get S h2
  cases o with
  | none => exact hr.elim
  | some v => exact ⟨v, ho, q v G ps H C (Up.refl _ _) hr⟩
end
end DL
namespace DL
open PySem PySem.Spec PyProof.Rows L2
theorem rg_at {α : Type} {n i : Nat} {f : Nat → α} {s : α} (h : ((List.range n).map f)[i]? = some s) : i < n ∧ s = f i := by
  rw [List.getElem?_map] at h
  by_cases hi : i < n
  · rw [List.getElem?_range hi] at h
    cases h
    exact ⟨hi, rfl⟩
  · rw [List.getElem?_eq_none (by rw [List.length_range]; omega)] at h
    cases h
section
variable {X : Cx} {N : List Str} {na : Nat} {sl sl' : Sl} {cs cs1 cs2 : Cs} {s t : SV} {x : Str} {E : DEnds} {pos p : Pos} {tg iter : Expr}
/-- for over the items of a written list of things; the state told by what has been gone through -/
theorem s1_forP {α : Type} {body : List Stmt} {GC : Cs → Prop} (es : List α) (f : α → SV) (hp : PassesOwn (model X.prog X.w) X.A X.env X.xe) (hc : X.calm = true) (h : IV X na tg iter sl cs (es.map f) GC cs1) (a : List α → Sl) (c : List α → Cs) (h0 : Le (a []) sl) (h1 : c [] = cs1) (hG : ∀ pre post, es = pre ++ post → GC (c pre))
    (hs : ∀ pre e post, es = pre ++ e :: post → GX X na tg (f e) (a pre) (c pre) fun sl2 cs2 => SX X na body sl2 cs2 { E with nx := At cs1.length (a (pre ++ [e])) (c (pre ++ [e])), ct := At cs1.length (a (pre ++ [e])) (c (pre ++ [e])), bk := E.nx })
    (hd : ∀ sl', Le (a es) sl' → E.nx sl' (c es))
    (hf : ∀ x, foldedSetIterable iter X.env x = pure x := by intro _; rfl) : S1 X na (.For tg iter body [] pos) sl cs E := by
  refine s1_forF hp hc h (fun i => a (es.take i)) (fun i => c (es.take i)) h0 h1 (fun i _ => hG _ (es.drop i) (List.take_append_drop i es).symm) (fun i s hs' => ?_) (fun sl' l => ?_) hf
  · rw [List.getElem?_map] at hs'
    cases he : es[i]? with
    | none => rw [he] at hs'; cases hs'
    | some e =>
      rw [he] at hs'
      cases hs'
      have e1 : es.take (i + 1) = es.take i ++ [e] := by rw [List.take_add_one, he]; rfl
      rw [e1]
      refine hs _ e (es.drop (i + 1)) ?_
      have hi := (List.getElem?_eq_some_iff.mp he).1
      have e2 : es.drop i = e :: es.drop (i + 1) := by
        rw [List.drop_eq_getElem_cons hi, (List.getElem?_eq_some_iff.mp he).2]
      rw [← e2, List.take_append_drop]
  · rw [List.length_map, List.take_of_length_le (Nat.le_refl _)] at l ⊢
    exact hd sl' l
end
end DL
namespace DL
open PySem PySem.Spec PyProof.Rows L2
/-! ### data that can be laid, of a known depth -/
def dkD : Nat → PyData → Bool
  | _, .int _ => true
  | _, .str x => PyData.strOk x
  | _, .bool _ => true
  | _, .none => true
  | n + 1, .tuple ds => ds.all (dkD n)
  | n + 1, .list ds => ds.all (dkD n)
  | _, _ => false
theorem dk_all : ∀ {n : Nat} {ds : List PyData}, (∀ d ∈ ds, d.canLay0 = true ∧ d.depth ≤ n) → PyData.canLayAll0 ds = true ∧ PyData.depthAll ds ≤ n
  | n, [], _ => ⟨by simp [PyData.canLayAll0], by simp [PyData.depthAll]⟩
  | n, d :: ds, h => by
    obtain ⟨h1, h2⟩ := h d List.mem_cons_self
    obtain ⟨k1, k2⟩ := dk_all (n := n) fun d hd => h d (List.mem_cons_of_mem _ hd)
    refine ⟨by simp [PyData.canLayAll0, h1, k1], ?_⟩
    simp only [PyData.depthAll]
    omega
theorem dk_of : ∀ {n : Nat} {d : PyData}, dkD n d = true → d.canLay0 = true ∧ d.depth ≤ n + 1
  | n, .int i, _ => ⟨by simp [PyData.canLay0], by simp [PyData.depth]⟩
  | n, .str i, h => ⟨by simp only [PyData.canLay0]; simpa [dkD] using h, by simp [PyData.depth]⟩
  | n, .bool i, _ => ⟨by simp [PyData.canLay0], by simp [PyData.depth]⟩
  | n, .none, _ => ⟨by simp [PyData.canLay0], by simp [PyData.depth]⟩
  | 0, .tuple _, h => by simp [dkD] at h
  | 0, .list _, h => by simp [dkD] at h
  | 0, .dict _, h => by simp [dkD] at h
  | n + 1, .dict _, h => by simp [dkD] at h
  | n + 1, .tuple ds, h => by
    rw [dkD, List.all_eq_true] at h
    obtain ⟨h1, h2⟩ := dk_all (n := n + 1) (ds := ds) fun d hd => dk_of (h d hd)
    refine ⟨by simp only [PyData.canLay0]; exact h1, ?_⟩
    simp only [PyData.depth]
    omega
  | n + 1, .list ds, h => by
    rw [dkD, List.all_eq_true] at h
    obtain ⟨h1, h2⟩ := dk_all (n := n + 1) (ds := ds) fun d hd => dk_of (h d hd)
    refine ⟨by simp only [PyData.canLay0]; exact h1, ?_⟩
    simp only [PyData.depth]
    omega
theorem dk_shaped {n : Nat} {d : PyData} (h : dkD n d = true) (hn : n ≤ 60) : SeqAt.shaped d = true := by
  obtain ⟨h1, h2⟩ := dk_of h
  show (d.canLay0 && decide (d.depth ≤ 64)) = true
  rw [Bool.and_eq_true]
  exact ⟨h1, decide_eq_true (by omega)⟩
theorem eqvAll_same : ∀ {ds : List PyData}, (∀ d ∈ ds, PyData.eqv d d = true) → PyData.eqvAll ds ds = true
  | [], _ => by simp [PyData.eqvAll]
  | d :: ds, h => by
    rw [PyData.eqvAll, h d List.mem_cons_self, eqvAll_same fun e he => h e (List.mem_cons_of_mem _ he)]
    rfl
theorem dk_refl : ∀ {n : Nat} {d : PyData}, dkD n d = true → PyData.eqv d d = true
  | _, .int i, _ => by simp [PyData.eqv]
  | _, .str i, _ => by simp [PyData.eqv]
  | _, .bool i, _ => by simp [PyData.eqv]
  | _, .none, _ => by simp [PyData.eqv]
  | 0, .tuple _, h => by simp [dkD] at h
  | 0, .list _, h => by simp [dkD] at h
  | 0, .dict _, h => by simp [dkD] at h
  | n + 1, .dict _, h => by simp [dkD] at h
  | n + 1, .tuple ds, h => by
    rw [dkD, List.all_eq_true] at h
    rw [PyData.eqv]
    exact eqvAll_same fun d hd => dk_refl (h d hd)
  | n + 1, .list ds, h => by
    rw [dkD, List.all_eq_true] at h
    rw [PyData.eqv]
    exact eqvAll_same fun d hd => dk_refl (h d hd)
theorem flat_map (ds : List PyData) : (CC.lst (ds.map SV.val)).flat = true := by
  show (ds.map SV.val).all SV.isVal = true
  rw [List.all_eq_true]
  intro s h
  obtain ⟨d, _, rfl⟩ := List.mem_map.mp h
  rfl
theorem all_flat1 {c : CC} (h : c.flat = true) : [c].all CC.flat = true := by simp [h]
end DL
namespace DL
open PySem PySem.Spec PyProof.Rows L2
/-! ### the law itself -/
theorem fn_def {P : Program} {w : World} {K : PySem.W.Frag} {mg : Str → Option Value} {base : Heap} {x : Str} {st : Stmt} {f : Addr} {fd : FuncData} {N ps : List Str} {k m : Nat} {spec : Spec} (F : Fun K x x st f fd) (S : FnScope N ps (defScope st)) (tb : tabOk (N.take m) (defScope st) = true)
    (body : ∀ (f : Addr) (cdv : Value) (A : Around) (outer : List Env) (s : Shared) (H : Hp) (E : XK), Room k (cxN P w K mg base N x (defScope st) f cdv A outer s H E).A → Tab (cxN P w K mg base N x (defScope st) f cdv A outer s H E) m → TabL (cxN P w K mg base N x (defScope st) f cdv A outer s H E) m →
      ∀ svs cs sv cs', spec svs cs sv cs' → svs.length = ps.length →
      SX (cxN P w K mg base N x (defScope st) f cdv A outer s H E) cs.length (defBody st) (svs.map some ++ List.replicate (N.length - svs.length) none) cs { nx := fun _ cs2 => RetOk cs.length sv cs' (.val .none) cs2, rt := fun s2 cs2 => RetOk cs.length sv cs' s2 cs2 }) :
    FnOk P w K mg base CX0 (k + 1) f fd ps (spM K ps.length spec) := by
  refine F.ok S (fun vs H Q E ⟨G, qs, svs, cs, s, cs', h, hl, C, r, q⟩ => by rw [Paired.length r, hl]) (fun cdv A outer s H vs Q E hr ⟨G, qs, svs, cs, sv, cs', h, hl, C, r, q⟩ => ⟨_, pss_any, ?_⟩)
  obtain ⟨T, TL⟩ := tab_of (X := cxN P w K mg base N x (defScope st) f cdv A outer s H E) tb rfl rfl S.nd (fun _ => rfl)
  have hb := body f cdv A outer s H E hr T TL svs cs sv cs' h hl
  refine hb ⟨G, H, qs⟩ G qs _ H C.len C (slots_start r) _ ⟨fun sl2 cs2 G' ps' σ' H' C' u' S' e => ?_, fun s2 cs2 G' ps' v H' C' u' r' e => ?_, fun _ _ _ _ _ _ _ _ _ e => e.elim, fun _ _ _ _ _ _ _ _ _ e => e.elim⟩
  · obtain ⟨G2, ps2, C2, u2, r2⟩ := e.go C' C.len u' (show RepV K G' ps' .non (.val .none) from Rep.non)
    exact q .non G2 ps2 H' C2 u2 r2
  · obtain ⟨G2, ps2, C2, u2, r2⟩ := e.go C' C.len u' r'
    exact q v G2 ps2 H' C2 u2 r2
theorem defAt_mk {K : PySem.W.Frag} {h : Heap} {mg : Str → Option Value} {x : Str} {st : Stmt} {ps : List Str} {f : Addr} {od an : Option Addr} {sl : Array (Option Value)} {oc kV dc pm cd ct : Value} (X : K.In h) (G : h.Ns mainGlobals mg)
    (a : PySem.W.nsIn K mainGlobals x = some (some (.ref f))) (l : K.lookup f = some ⟨oc, od, .func (PySem.W.fnOf x x (defArgs st) (defBody st) (defScope st) .none kV dc pm an cd ct), sl⟩) (c : PySem.W.codeIn K cd x = true) (k : PySem.W.keepIn K (.ref f) = true)
    (b : ∀ (kV doc pm : Value) (an : Option Addr) (cdv ct : Value) (us : List Value), us.length = ps.length → bindArgs (PySem.W.fnOf x x (defArgs st) (defBody st) (defScope st) .none kV doc pm an cdv ct) ⟨us, []⟩ = pure (ps.zip us)) : DefAt K mg x st ps :=
  ⟨f, _, fun_mk l c k, PySem.W.mg_of X G a, (fun_mk l c k).binds b⟩
theorem rep_ints {K : PySem.W.Frag} {H : Hp} {a : Addr} {ns : List Int} (h : SqL K H a (ns.map V.int)) : Rep K H (.ref a) (.list (ns.map .int)) := .lst h (Reps.ofInts ns)
/-- what the law is handed -/
theorem spM_law {K : PySem.W.Frag} {spec : Spec} {H : Hp} {a : Addr} {ns : List Int} (h : spec [.val (.list (ns.map .int))] [] (.val (.bool true)) []) (hS : SqL K H a (ns.map V.int)) : spM K 1 spec [.ref a] H (fun v _ => v = .bl true) fun _ _ _ => False :=
  ⟨H, [], _, [], _, [], h, rfl, ⟨Same.refl H, fun _ _ e _ => e, Same.refl H, fun _ e => .inl e, rfl, List.prefix_refl _, List.nodup_nil, fun _ _ _ e => by cases e⟩, .cons (rep_ints hS) .nil, fun v G' ps' H' _ _ r => Rep.boolI r⟩
end DL
namespace DL
open PySem PySem.Spec PyProof.Rows L2
theorem RepKs.repD {K : PySem.W.Frag} {G : Hp} {ps : List Addr} : ∀ {us : List (Key × V)} {kvs : List (Key × PyData)}, RepKs K G ps us (svK kvs) → RepD K G us (kvs.map fun kv => (kD kv.1, kv.2))
  | us, [], h => by cases h; exact .nil
  | us, (k, d) :: r, h => by
    cases h with
    | cons h1 h2 =>
      rename_i u us'
      obtain ⟨k', v⟩ := u
      obtain ⟨e, h1⟩ := h1
      have e : k' = k := e
      subst e
      exact RepD.cons (show Rep K G v d from h1) (RepKs.repD h2)
section
variable {K : PySem.W.Frag} {G G' : Hp} {ps ps' : List Addr} {H H' : Hp} {B : Bs} {cs cs' : Cs}
theorem Core.newDct (C : Core K B G ps cs H) {us : List (Key × V)} {kvs : List (Key × PyData)} (r : RepKs K G ps us (svK kvs)) {Q : VK} (q : ∀ v G' ps' H', Core K B G' ps' cs H' → Up G ps G' ps' → RepV K G' ps' v (.val (dD kvs)) → Q v H') : ∀ p, H p = none → Q (.ref p) (upd H p (.dK us)) := fun p hp =>
  q _ _ ps _ (C.alloc (.dK us) hp) ⟨Same.new (C.freeG hp), List.prefix_refl _⟩ (Rep.dct upd_same (RepD.mono (Same.new (C.freeG hp)) (RepKs.repD r)))
end
section
variable {X : Cx} {na : Nat} {sl sl' : Sl} {cs cs1 cs2 cs3 : Cs} {s t u : SV} {pos p : Pos} {x : Str} {E : DEnds} {N : List Str} {a b : Expr}
/-- {} that nothing writes at -/
theorem ev_dict0V : EV X na (.Dict [] [] pos) sl cs (.val (dD [])) cs :=
  ev_of pe_dnewK fun B G ps σ H hn C S Q q => C.newDct (kvs := []) .nil q
/-- dict(d), a copy that nothing writes at -/
theorem ev_dictDV {kvs : List (Key × PyData)} (hm : X.mg "dict" = none) (hg : Gl X "dict") (ha : EV X na a sl cs s cs1) (hl : IsD cs1 s (svK kvs)) (hs : starEach [a] X.env = (false, eval a X.env) :: starEach [] X.env := by rfl) : EV X na (.Call (.Name "dict" p) [a] [] pos) sl cs (.val (dD kvs)) cs1 :=
  ev_callTy call_dictD (by decide +kernel) hg hm (av_cons ha av_nil hs) (rc1 fun B G ps H v hn C r1 Q q => by
    obtain ⟨l, us, rfl, h1, h2⟩ := hl.at C r1
    exact ⟨l, us, rfl, .inl h1, C.newDct h2 q⟩) (by decide) (by decide) hs
/-- .. that is written at -/
theorem ev_dictDC {kvs : List (Key × PyData)} {n : Nat} (hm : X.mg "dict" = none) (hg : Gl X "dict") (ha : EV X na a sl cs s cs1) (hl : IsD cs1 s (svK kvs)) (ac : AppC cs1 (.dct (svK kvs)) n cs2) (hs : starEach [a] X.env = (false, eval a X.env) :: starEach [] X.env := by rfl) : EV X na (.Call (.Name "dict" p) [a] [] pos) sl cs (.cell n) cs2 :=
  ev_callTy call_dictD (by decide +kernel) hg hm (av_cons ha av_nil hs) (rc1 fun B G ps H v hn C r1 Q q => by
    obtain ⟨l, us, rfl, h1, h2⟩ := hl.at C r1
    exact ⟨l, us, rfl, .inl h1, C.newCell ac (fun p hp => ⟨us, upd_same, RepKs.mono ⟨Same.refl _, List.prefix_append _ _⟩ h2⟩) q⟩) (by decide) (by decide) hs
/-! ### dicts compared, of flat values -/
def flatD : PyData → Bool
  | .int _ => true
  | .str _ => true
  | .bool _ => true
  | .none => true
  | _ => false
theorem Rep.flat1 {K : PySem.W.Frag} {G : Hp} {v w : V} {d : PyData} (h : flatD d = true) (r : Rep K G v d) (r2 : Rep K G w d) : v = w ∧ flatB v = true := by
  cases d <;> first | (cases r; cases r2; exact ⟨rfl, rfl⟩) | (simp [flatD] at h; done)
theorem valV_mem : ∀ {us : List (Key × V)} {k : Key} {v : V}, (us.map (·.1)).Nodup → (k, v) ∈ us → valV us k = some v
  | [], _, _, _, h => nomatch h
  | (j, u) :: r, k, v, hn, h => by
    rw [List.map_cons, List.nodup_cons] at hn
    rcases List.mem_cons.mp h with h1 | h1
    · cases h1
      unfold valV
      rw [List.find?_cons_of_pos (by simp)]
      rfl
    · have hjk : ¬ j = k := fun z => hn.1 (z ▸ List.mem_map.mpr ⟨_, h1, rfl⟩)
      have := valV_mem hn.2 h1
      unfold valV at this ⊢
      rw [List.find?_cons_of_neg (by simpa using hjk)]
      exact this
theorem repKs_same {K : PySem.W.Frag} {G : Hp} {ps : List Addr} : ∀ {us ls : List (Key × V)} {kvs : List (Key × PyData)}, (∀ kv ∈ kvs, flatD kv.2 = true) → RepKs K G ps us (svK kvs) → RepKs K G ps ls (svK kvs) → us = ls ∧ (∀ p ∈ us, flatB p.2 = true) ∧ us.map (·.1) = kvs.map (·.1)
  | us, ls, [], _, h1, h2 => by cases h1; cases h2; exact ⟨rfl, fun _ h => (nomatch h), rfl⟩
  | us, ls, (k, d) :: r, hf, h1, h2 => by
    cases h1 with
    | cons g1 t1 =>
      cases h2 with
      | cons g2 t2 =>
        rename_i u us' l ls'
        obtain ⟨e1, f1⟩ := g1
        obtain ⟨e2, f2⟩ := g2
        obtain ⟨i1, i2, i3⟩ := repKs_same (fun kv h => hf kv (List.mem_cons_of_mem _ h)) t1 t2
        obtain ⟨j1, j2⟩ := Rep.flat1 (hf (k, d) List.mem_cons_self) f1 f2
        obtain ⟨ku, vu⟩ := u
        obtain ⟨kl, vl⟩ := l
        have e1 : ku = k := e1
        have e2 : kl = k := e2
        have j1 : vu = vl := j1
        subst e1 e2 j1 i1
        refine ⟨rfl, fun p h => ?_, ?_⟩
        · rcases List.mem_cons.mp h with h | h
          · rw [h]; exact j2
          · exact i2 p h
        · rw [List.map_cons, List.map_cons, i3]
theorem rv_eqDF {K : PySem.W.Frag} {kvs : List (Key × PyData)} (hd : IsD cs s (svK kvs)) (he : IsD cs t (svK kvs)) (hf : ∀ kv ∈ kvs, flatD kv.2 = true) (nd : (kvs.map (·.1)).Nodup) : RV K na rEqDA s t cs (.val (.bool true)) cs := fun B G ps H v w hn C r1 r2 Q q => by
  obtain ⟨a, us, rfl, h1, h2⟩ := hd.at C r1
  obtain ⟨b, ls, rfl, h3, h4⟩ := he.at C r2
  obtain ⟨rfl, h5, h6⟩ := repKs_same hf h2 h4
  exact ⟨a, b, us, us, rfl, rfl, h1, h3, rfl, fun p hp => ⟨valV_mem (by rw [h6]; exact nd) hp, h5 p hp⟩, q _ G ps H C (Up.refl _ _) (Rep.bl _)⟩
theorem rv_neDF {K : PySem.W.Frag} {kvs : List (Key × PyData)} (hd : IsD cs s (svK kvs)) (he : IsD cs t (svK kvs)) (hf : ∀ kv ∈ kvs, flatD kv.2 = true) (nd : (kvs.map (·.1)).Nodup) : RV K na rNeDA s t cs (.val (.bool false)) cs := fun B G ps H v w hn C r1 r2 Q q => by
  obtain ⟨a, us, rfl, h1, h2⟩ := hd.at C r1
  obtain ⟨b, ls, rfl, h3, h4⟩ := he.at C r2
  obtain ⟨rfl, h5, h6⟩ := repKs_same hf h2 h4
  exact ⟨a, b, us, us, rfl, rfl, h1, h3, rfl, fun p hp => ⟨valV_mem (by rw [h6]; exact nd) hp, h5 p hp⟩, q _ G ps H C (Up.refl _ _) (Rep.bl _)⟩
theorem tv_eqDF {kvs : List (Key × PyData)} {k : Nat} (hr : Room k X.A) (ha : EV X na a sl cs s cs1) (hb : EV X na b sl cs1 t cs2) (hd : IsD cs2 s (svK kvs)) (he : IsD cs2 t (svK kvs)) (hf : ∀ kv ∈ kvs, flatD kv.2 = true) (nd : (kvs.map (·.1)).Nodup) : TV X na (.Compare a [.Eq] [b] pos) sl cs true cs2 :=
  tv_cmp (op_eq_dictA (by have := hr.un; omega)) (nomark _) ha hb (rv_eqDF hd he hf nd)
theorem ev_eqDF {kvs : List (Key × PyData)} {k : Nat} (hr : Room k X.A) (ha : EV X na a sl cs s cs1) (hb : EV X na b sl cs1 t cs2) (hd : IsD cs2 s (svK kvs)) (he : IsD cs2 t (svK kvs)) (hf : ∀ kv ∈ kvs, flatD kv.2 = true) (nd : (kvs.map (·.1)).Nodup) : EV X na (.Compare a [.Eq] [b] pos) sl cs (.val (.bool true)) cs2 :=
  ev_cmp (op_eq_dictA (by have := hr.un; omega)) (nomark _) ha hb (rv_eqDF hd he hf nd)
theorem tv_neDF {kvs : List (Key × PyData)} {k : Nat} (hr : Room k X.A) (ha : EV X na a sl cs s cs1) (hb : EV X na b sl cs1 t cs2) (hd : IsD cs2 s (svK kvs)) (he : IsD cs2 t (svK kvs)) (hf : ∀ kv ∈ kvs, flatD kv.2 = true) (nd : (kvs.map (·.1)).Nodup) : TV X na (.Compare a [.NotEq] [b] pos) sl cs false cs2 :=
  tv_cmp (op_ne_dictA (by have := hr.un; omega)) (nomark _) ha hb (rv_neDF hd he hf nd)
end
end DL
namespace DL
open PySem PySem.Spec PyProof.Rows L2
section
variable {X : Cx} {na : Nat} {sl sl' : Sl} {cs cs1 cs2 cs3 : Cs} {s t u : SV} {pos p : Pos} {x : Str} {R : Sl → Cs → Prop}
/-- (a, b, ..) = a list -/
theorem gx_lst {es : List Expr} {k : Nat} {xs : List SV} {n : Nat} (hc : X.calm = true) (hl : IsL cs s xs) (h : GXs X na es xs sl cs R) (hn2 : xs.length = n)
    (hn : (assignEach es X.env).length = n := by rfl) (hst : (assignEach es X.env).findIdx? (·.1) = none := by rfl) : GX X na (.Tuple es k pos) s sl cs R :=
  gx_of (pg_lst hc pgs_any hn hst) fun B G ps σ H v hn C S r Q q => by
    obtain ⟨a, vs, rfl, h1, h2⟩ := hl.sq C r
    exact ⟨a, vs, rfl, h1, (Paired.length h2).trans hn2, h B G ps σ H _ hn C S h2 Q q⟩
end
theorem rev_ind {α : Type} {p : List α → Prop} (l : List α) (h0 : p []) (hs : ∀ l x, p l → p (l ++ [x])) : p l := by
  have : ∀ l : List α, p l.reverse := fun l => by
    induction l with
    | nil => exact h0
    | cons x r ih => rw [List.reverse_cons]; exact hs _ _ ih
  have h2 := this l.reverse
  rwa [List.reverse_reverse] at h2
/-! ### dicts with texts as keys -/
def lkS {α : Type} : List (Str × α) → Str → Option α
  | [], _ => none
  | (j, v) :: r, k => if j = k then some v else lkS r k
def putSt {α : Type} : List (Str × α) → Str → α → List (Str × α)
  | [], k, v => [(k, v)]
  | (j, u) :: r, k, v => if j = k then (j, v) :: r else (j, u) :: putSt r k v
def kvT {α : Type} (f : α → PyData) (ps : List (Str × α)) : List (Key × PyData) := ps.map fun p => (Sum.inr p.1, f p.2)
section
variable {α : Type} {f : α → PyData}
theorem putS_T (k : Str) (v : α) : ∀ ps : List (Str × α), putS (svK (kvT f ps)) (.inr k) (.val (f v)) = svK (kvT f (putSt ps k v))
  | [] => rfl
  | (j, u) :: r => by
    show (if (Sum.inr j : Key) = .inr k then _ else _) = svK (kvT f (if j = k then (j, v) :: r else (j, u) :: putSt r k v))
    by_cases h : j = k
    · rw [if_pos h, if_pos (by rw [h])]
      rfl
    · rw [if_neg h, if_neg (fun z => h (by cases z; rfl))]
      show (_ :: putS (svK (kvT f r)) (.inr k) (.val (f v))) = _
      rw [putS_T k v r]
      rfl
theorem lk_T (k : Str) : ∀ ps : List (Str × α), lkK (svK (kvT f ps)) (.inr k) = (lkS ps k).map fun a => .val (f a)
  | [] => rfl
  | (j, u) :: r => by
    show (if (Sum.inr j : Key) = .inr k then _ else lkK (svK (kvT f r)) (.inr k)) = (if j = k then some u else lkS r k).map fun a => .val (f a)
    by_cases h : j = k
    · rw [if_pos h, if_pos (by rw [h])]
      rfl
    · rw [if_neg h, if_neg (fun z => h (by cases z; rfl)), lk_T k r]
theorem putSt_len (k : Str) (v : α) : ∀ ps : List (Str × α), (putSt ps k v).length ≤ ps.length + 1
  | [] => Nat.le_refl _
  | (j, u) :: r => by
    show (if j = k then (j, v) :: r else (j, u) :: putSt r k v).length ≤ r.length + 1 + 1
    have := putSt_len k v r
    split
    · rw [List.length_cons]; omega
    · rw [List.length_cons]; omega
theorem putSt_fst (k : Str) (v : α) : ∀ ps : List (Str × α), ∀ i ∈ (putSt ps k v).map (·.1), i = k ∨ i ∈ ps.map (·.1)
  | [], i, h => by
    have : i ∈ [k] := h
    rw [List.mem_singleton] at this
    exact .inl this
  | (j, u) :: r, i, h => by
    have h : i ∈ (if j = k then (j, v) :: r else (j, u) :: putSt r k v).map (·.1) := h
    split at h
    · exact .inr h
    · rw [List.map_cons, List.mem_cons] at h
      rw [List.map_cons, List.mem_cons]
      rcases h with h | h
      · exact .inr (.inl h)
      · exact (putSt_fst k v r i h).imp id .inr
theorem putSt_nd (k : Str) (v : α) : ∀ ps : List (Str × α), (ps.map (·.1)).Nodup → ((putSt ps k v).map (·.1)).Nodup
  | [], _ => by show [k].Nodup; simp
  | (j, u) :: r, h => by
    show ((if j = k then (j, v) :: r else (j, u) :: putSt r k v).map (·.1)).Nodup
    rw [List.map_cons, List.nodup_cons] at h
    split
    · rw [List.map_cons, List.nodup_cons]; exact h
    · rename_i hj
      rw [List.map_cons, List.nodup_cons]
      refine ⟨fun z => ?_, putSt_nd k v r h.2⟩
      rcases putSt_fst k v r _ z with z | z
      · exact hj z
      · exact h.1 z
theorem kvT_len (ps : List (Str × α)) : (svK (kvT f ps)).length = ps.length := by unfold svK kvT; rw [List.length_map, List.length_map]
theorem kvT_nd {ps : List (Str × α)} (h : (ps.map (·.1)).Nodup) : ((kvT f ps).map (·.1)).Nodup := by
  have e : (kvT f ps).map (·.1) = (ps.map (·.1)).map Sum.inr := by
    unfold kvT
    rw [List.map_map, List.map_map]
    rfl
  rw [e]
  exact List.Pairwise.map _ (fun a b hab z => hab (by cases z; rfl)) h
theorem svT_nd {ps : List (Str × α)} (h : (ps.map (·.1)).Nodup) : ((svK (kvT f ps)).map (·.1)).Nodup := by
  have e : (svK (kvT f ps)).map (·.1) = (kvT f ps).map (·.1) := by
    unfold svK
    rw [List.map_map]
    rfl
  rw [e]
  exact kvT_nd h
end
theorem flat_svK (kvs : List (Key × PyData)) : (CC.dct (svK kvs)).flat = true := by
  show (svK kvs).all _ = true
  rw [List.all_eq_true]
  intro s h
  obtain ⟨d, _, rfl⟩ := List.mem_map.mp h
  rfl
theorem data_svK (kvs : List (Key × PyData)) : (CC.dct (svK kvs)).data = some (dD kvs) := by
  show (kvData (kvs.map fun kv => (kv.1, SV.val kv.2))).map _ = _
  rw [kvData_map]
  rfl
theorem lt_svK (n : Nat) (kvs : List (Key × PyData)) : (CC.dct (svK kvs)).lt n = true := by
  simp [CC.lt, SV.lt, svK]
theorem lt_map (n : Nat) (ds : List PyData) : (CC.lst (ds.map SV.val)).lt n = true := by
  simp [CC.lt, SV.lt]
/-- an item of a written list by a place that is not written -/
theorem at_pk {α β : Type} {xs : List α} {f : α → β} {d : α} {i n : Int} (h : 0 ≤ i ∧ i < n) (hn : (xs.length : Int) = n) : atI (xs.map f) i = some (f (xs.getD i.toNat d)) := at_map h.1 (by omega)
end DL
namespace DL
open PySem PySem.Spec PyProof.Rows L2
section
variable {X : Cx} {na : Nat} {sl sl' : Sl} {cs cs1 cs2 cs3 : Cs} {s t u : SV} {pos p : Pos} {x : Str} {R : Sl → Cs → Prop} {tg : Expr}
/-- the numbers from m up to n -/
def upTo (m n : Nat) : List Nat := (List.range (n - m)).map (m + ·)
theorem mem_upTo {m n k : Nat} (h : k ∈ upTo m n) : m ≤ k ∧ k < n := by
  obtain ⟨j, hj, rfl⟩ := List.mem_map.mp h
  rw [List.mem_range] at hj
  omega
theorem iv_upTo {a b : Expr} {p : Pos} {mi ni : Int} {m n : Nat} (hm : X.mg "range" = none) (hg : Gl X "range") (h : EV X na a sl cs (.val (.int mi)) cs1) (h' : EV X na b sl cs1 (.val (.int ni)) cs2) (em : mi = (m : Int)) (en : ni = (n : Int)) (hz : m < 1000000 ∧ n < 1000000)
    (hs : starEach [a, b] X.env = [(false, eval a X.env), (false, eval b X.env)] := by rfl) (hs2 : starEach [b] X.env = [(false, eval b X.env)] := by rfl) :
    IV X na tg (.Call (.Name "range" p) [a, b] [] pos) sl cs ((upTo m n).map fun k : Nat => SV.val (.int k)) (fun _ => True) cs2 := by
  subst em en
  have e : (upTo m n).map (fun k : Nat => SV.val (.int k)) = (List.range ((n : Int) - (m : Int)).toNat).map fun i => SV.val (.int ((m : Int) + (i : Nat))) := by
    unfold upTo
    rw [List.map_map, show ((n : Int) - (m : Int)).toNat = n - m by omega]
    exact List.map_congr_left fun i _ => by simp
  rw [e]
  exact iv_range2 hm hg h h' (by omega) hs hs2
theorem iv_upTo0 {a : Expr} {p : Pos} {ni : Int} {n : Nat} (hm : X.mg "range" = none) (hg : Gl X "range") (h : EV X na a sl cs (.val (.int ni)) cs1) (en : ni = (n : Int)) (hz : n < 1000000) (hs : starEach [a] X.env = [(false, eval a X.env)] := by rfl) :
    IV X na tg (.Call (.Name "range" p) [a] [] pos) sl cs ((List.range n).map fun k : Nat => SV.val (.int k)) (fun _ => True) cs1 := by
  subst en
  exact iv_range1 hm hg h (by omega) (by omega) hs
/-! ### and, or, where the first is known: what is made behind it stays -/
theorem wv_or0 {a b : Expr} {rest : List Expr} {l : Bool} (ha : TV X na a sl cs false cs1) (hb : WV X na (.BoolOp .Or (b :: rest) pos) sl cs1 l cs2) : WV X na (.BoolOp .Or (a :: b :: rest) pos) sl cs l cs2 := wv_of (pw_or pt_any pw_any) fun B G ps σ H hn C S Q q => ha B G ps σ H hn C S _ fun G1 ps1 H1 C1 u1 =>
  hb B G1 ps1 σ H1 hn C1 (Slots.mono u1 S) Q fun G2 ps2 H2 C2 u2 => q G2 ps2 H2 C2 (u1.trans u2)
theorem wv_and0 {a b : Expr} {rest : List Expr} {l : Bool} (ha : TV X na a sl cs true cs1) (hb : WV X na (.BoolOp .And (b :: rest) pos) sl cs1 l cs2) : WV X na (.BoolOp .And (a :: b :: rest) pos) sl cs l cs2 := wv_of (pw_and pt_any pw_any) fun B G ps σ H hn C S Q q => ha B G ps σ H hn C S _ fun G1 ps1 H1 C1 u1 =>
  hb B G1 ps1 σ H1 hn C1 (Slots.mono u1 S) Q fun G2 ps2 H2 C2 u2 => q G2 ps2 H2 C2 (u1.trans u2)
theorem ev_or0 {a b : Expr} {rest : List Expr} (ha : EV X na a sl cs (.val (.bool false)) cs1) (hb : EV X na (.BoolOp .Or (b :: rest) pos) sl cs1 s cs2) : EV X na (.BoolOp .Or (a :: b :: rest) pos) sl cs s cs2 :=
  ev_of (pe_or pe_any pe_any) fun B G ps σ H hn C S Q q => ha B G ps σ H hn C S _ fun v G1 ps1 H1 C1 u1 r1 => by
    cases (r1 : Rep _ _ _ _)
    exact ⟨false, rfl, hb B G1 ps1 σ H1 hn C1 (Slots.mono u1 S) Q fun v G2 ps2 H2 C2 u2 => q v G2 ps2 H2 C2 (u1.trans u2)⟩
theorem ev_and0 {a b : Expr} {rest : List Expr} (ha : EV X na a sl cs (.val (.bool true)) cs1) (hb : EV X na (.BoolOp .And (b :: rest) pos) sl cs1 s cs2) : EV X na (.BoolOp .And (a :: b :: rest) pos) sl cs s cs2 :=
  ev_of (pe_and pe_any pe_any) fun B G ps σ H hn C S Q q => ha B G ps σ H hn C S _ fun v G1 ps1 H1 C1 u1 r1 => by
    cases (r1 : Rep _ _ _ _)
    exact ⟨true, rfl, hb B G1 ps1 σ H1 hn C1 (Slots.mono u1 S) Q fun v G2 ps2 H2 C2 u2 => q v G2 ps2 H2 C2 (u1.trans u2)⟩
end
end DL
namespace DL
open PySem PySem.Spec PyProof.Rows L2
/-! ### list + list -/
def rCatL (K : PySem.W.Frag) : R2 := fun x y H Q => ∃ a b xs ys, x = .ref a ∧ y = .ref b ∧ SqL K H a xs ∧ SqL K H b ys ∧ xs.length + ys.length ≤ sizeLine ∧ ∀ p, H p = none → Q (.ref p) (upd H p (.lst (xs ++ ys)))
theorem op_catL {X : Cx} : OpR X (binaryOp .Add) (rCatL X.K) := by
  intro pins s σ H x y v u Q I rx ry h
  obtain ⟨a, b, xs, ys, rfl, rfl, ha, hb, hz, q⟩ := h
  cases rx
  cases ry
  obtain ⟨its, r1, p1, _⟩ := I.list ha
  obtain ⟨its2, r2, p2, _⟩ := I.list hb
  obtain ⟨⟨cls, dd, data, sl⟩, ho, hc, n, hd⟩ := p1.isList
  obtain ⟨⟨cls2, dd2, data2, sl2⟩, ho2, hc2, n2, hd2⟩ := p2.isList
  simp only at hc hd hc2 hd2
  subst hc hd hc2 hd2
  have e : its.toArray ++ its2.toArray = (its ++ its2).toArray := by simp
  have hl : its.toArray.size + its2.toArray.size ≤ sizeLine := by
    rw [List.size_toArray, List.size_toArray, ← r1.length, ← r2.length]
    exact hz
  refine concat_meets ⟨_, ho, rfl⟩ ⟨_, ho2, rfl⟩ noFill_list_add seq_list_add PySem.F.slot_list_add PySem.F.entry_list_add (PySem.F.args_list_add_2 _ _) (list_addW a b its.toArray its2.toArray n n2 dd dd2 sl sl2 hl) ⟨ho, ho2, ?_⟩
  rw [e]
  exact ⟨.ref _, _, I.lnew (t' := s.toks) (r1.append r2) (by rw [List.length_append]; exact hz), rfl, q _ I.fresh⟩
theorem RepVs.app {K : PySem.W.Frag} {G : Hp} {ps : List Addr} {vs ws : List V} {ss ts : List SV} (h : RepVs K G ps vs ss) (h2 : RepVs K G ps ws ts) : RepVs K G ps (vs ++ ws) (ss ++ ts) := by
  induction h with
  | nil => exact h2
  | cons a _ ih => exact .cons a ih
section
variable {X : Cx} {na : Nat} {sl sl' : Sl} {cs cs1 cs2 cs3 : Cs} {s t u : SV} {pos p : Pos} {x : Str} {E : DEnds} {N : List Str} {a b : Expr}
/-- as data -/
theorem ev_catL {ds es : List PyData} (ha : EV X na a sl cs s cs1) (hb : EV X na b sl cs1 t cs2) (hl : IsL cs2 s (ds.map SV.val)) (hl2 : IsL cs2 t (es.map SV.val)) (hz : ds.length + es.length ≤ 1000000) : EV X na (.BinOp a .Add b pos) sl cs (.val (.list (ds ++ es))) cs2 :=
  ev_op op_catL ha hb fun B G ps H v w hn C r1 r2 Q q => by
    obtain ⟨p, vs, rfl, h1, h2⟩ := hl.sq C r1
    obtain ⟨p2, ws, rfl, h3, h4⟩ := hl2.sq C r2
    have k1 := Reps.ofVs h2
    have k2 := Reps.ofVs h4
    have k3 : Reps X.K G (vs ++ ws) (ds ++ es) := Reps.ofVs (ps := ps) (by rw [List.map_append]; exact RepVs.app h2 h4)
    exact ⟨p, p2, vs, ws, rfl, rfl, h1, h3, sz (by rw [k1.length, k2.length]; exact hz), C.newLst k3 q⟩
/-- as a cell -/
theorem ev_catC {xs ys : List SV} {n : Nat} (ha : EV X na a sl cs s cs1) (hb : EV X na b sl cs1 t cs2) (hl : IsL cs2 s xs) (hl2 : IsL cs2 t ys) (hz : xs.length + ys.length ≤ 1000000) (ac : AppC cs2 (.lst (xs ++ ys)) n cs3) : EV X na (.BinOp a .Add b pos) sl cs (.cell n) cs3 :=
  ev_op op_catL ha hb fun B G ps H v w hn C r1 r2 Q q => by
    obtain ⟨p, vs, rfl, h1, h2⟩ := hl.sq C r1
    obtain ⟨p2, ws, rfl, h3, h4⟩ := hl2.sq C r2
    exact ⟨p, p2, vs, ws, rfl, rfl, h1, h3, sz (by rw [Paired.length h2, Paired.length h4]; exact hz), C.newCell ac (fun p hp => ⟨_, upd_same, RepVs.mono ⟨Same.refl _, List.prefix_append _ _⟩ (RepVs.app h2 h4)⟩) q⟩
/-- sorted(a list of ints), of any length -/
theorem ev_sortedI {ns : List Int} (hm : X.mg "sorted" = none) (hg : Gl X "sorted") (ha : EV X na a sl cs s cs1) (hl : IsL cs1 s ((ns.map PyData.int).map SV.val)) (hs : starEach [a] X.env = (false, eval a X.env) :: starEach [] X.env := by rfl) : EV X na (.Call (.Name "sorted" p) [a] [] pos) sl cs (.val (.list ((sortI ns).map .int))) cs1 :=
  ev_callB cr_sortedI (by decide +kernel) hg hm (av_cons ha av_nil hs) (rc1 fun B G ps' H v hn C r1 Q q => by
    obtain ⟨l, vs, rfl, h1, h2⟩ := hl.sq C r1
    have k := Reps.ints (Reps.ofVs h2)
    subst k
    refine ⟨l, ns, rfl, h1, fun ns' p hp hs' hn' => ?_⟩
    rw [sortI_uniq hp hs']
    exact C.newLst (Reps.ofInts _) q p hn') (by decide) (by decide) hs
end
/-! ### {k: v, ..} -/
def trsOf (X : Cx) : List (Option Expr) → List Expr → List (TE × TE)
  | some k :: ks, v :: vs => (anyE X k, anyE X v) :: trsOf X ks vs
  | _, _ => []
inductive APs (X : Cx) (na : Nat) (sl : Sl) : List (Option Expr) → List Expr → Cs → List (Key × SV) → Cs → Prop
  | nil {cs : Cs} : APs X na sl [] [] cs [] cs
  | cons {k v : Expr} {ks : List (Option Expr)} {vs : List Expr} {cs cs1 cs2 cs3 : Cs} {kd : PyData} {key : Key} {s : SV} {kvs : List (Key × SV)} : EV X na k sl cs (.val kd) cs1 → KeyOf kd key → EV X na v sl cs1 s cs2 → APs X na sl ks vs cs2 kvs cs3 → APs X na sl (some k :: ks) (v :: vs) cs ((key, s) :: kvs) cs3
section
variable {X : Cx} {na : Nat} {sl sl' : Sl} {cs cs0 cs1 cs2 cs3 : Cs} {pos : Pos} {ks : List (Option Expr)} {vs : List Expr} {kvs : List (Key × SV)}
theorem APs.pps (h : APs X na sl ks vs cs kvs cs1) : PPs X pos ks vs (trsOf X ks vs) := by
  induction h with
  | nil => exact pps_nil
  | cons _ _ _ _ ih => exact pps_cons pe_any pe_any ih
theorem APs.len (h : APs X na sl ks vs cs kvs cs1) : ks.length = vs.length ∧ ks.all (·.isSome) = true ∧ kvs.length = ks.length := by
  induction h with
  | nil => exact ⟨rfl, rfl, rfl⟩
  | cons _ _ _ _ ih => exact ⟨by rw [List.length_cons, List.length_cons, ih.1], by rw [List.all_cons, ih.2.1]; rfl, by rw [List.length_cons, List.length_cons, ih.2.2]⟩
theorem APs.go (h : APs X na sl ks vs cs kvs cs1) : ∀ (B : Bs) (G : Hp) (ps : List Addr) (σ : L2.St) (H : Hp), B.As.length = na → Core X.K B G ps cs H → Slots X.K G ps σ sl → ∀ Q : List (V × V) → Hp → Prop,
    (∀ us G' ps' H', Core X.K B G' ps' cs1 H' → Up G ps G' ps' → RepKs X.K G' ps' us kvs → Q (us.map fun kv => (kV kv.1, kv.2)) H') → tPairs (trsOf X ks vs) σ H Q := by
  induction h with
  | nil => exact fun B G ps σ H hn C S Q q => q [] G ps H C (Up.refl _ _) .nil
  | cons hk ho hv _ ih =>
    intro B G ps σ H hn C S Q q
    exact hk B G ps σ H hn C S _ fun x G1 ps1 H1 C1 u1 r1 => hv B G1 ps1 σ H1 hn C1 (Slots.mono u1 S) _ fun y G2 ps2 H2 C2 u2 r2 => ih B G2 ps2 σ H2 hn C2 (Slots.mono (u1.trans u2) S) _ fun us G3 ps3 H3 C3 u3 r3 => by
      have := q ((_, y) :: us) G3 ps3 H3 C3 ((u1.trans u2).trans u3) (.cons ⟨rfl, RepV.mono u3 r2⟩ r3)
      have e := ho.v r1
      subst e
      exact this
theorem mergeK_new : ∀ (us acc : List (Key × V)), ((acc ++ us).map (·.1)).Nodup → mergeK acc us = acc ++ us
  | [], acc, _ => by rw [List.append_nil]; rfl
  | (k, v) :: r, acc, h => by
    have hk : ¬ (acc.any fun kv => decide (kv.1 = k)) = true := by
      intro z
      obtain ⟨p, hp, e⟩ := List.any_eq_true.mp z
      rw [List.map_append, List.nodup_append] at h
      exact h.2.2 p.1 (List.mem_map.mpr ⟨p, hp, rfl⟩) k (by simp) (of_decide_eq_true e)
    have e : putK acc k v = acc ++ [(k, v)] := by
      unfold putK
      rw [if_neg hk]
    show mergeK (putK acc k v) r = _
    rw [e, mergeK_new r (acc ++ [(k, v)]) (by rw [List.append_assoc]; exact h), List.append_assoc]
    rfl
theorem RepKs.keys {K : PySem.W.Frag} {G : Hp} {ps : List Addr} : ∀ {us : List (Key × V)} {kvs : List (Key × SV)}, RepKs K G ps us kvs → us.map (·.1) = kvs.map (·.1)
  | _, _, .nil => rfl
  | _, _, .cons h t => by
    rw [List.map_cons, List.map_cons, RepKs.keys t, h.1]
theorem ev_dlC {n : Nat} (ac : AppC cs (.dct []) n cs0) (h : APs X na sl ks vs cs0 kvs cs1) (hc : cs1[n]? = some (.dct [])) (pc : PutC cs1 n (.dct kvs) cs2) (nd : (kvs.map (·.1)).Nodup) (h0 : ks ≠ []) (h15 : Nat.ble ks.length 15 = true) : EV X na (.Dict ks vs pos) sl cs (.cell n) cs2 :=
  ev_of (pe_disp h.pps h.len.2.1 h.len.1 h0 (Nat.le_of_ble_eq_true h15)) fun B G ps σ H hn C S Q q => by
    intro p hp
    obtain ⟨rfl, rfl⟩ := ac.at
    have C0 := C.cellNew (o := .dK []) (c := .dct []) hp ⟨[], upd_same, .nil⟩
    have u0 : Up G ps G (ps ++ [p]) := ⟨Same.refl _, List.prefix_append _ _⟩
    have e0 : (ps ++ [p])[cs.length]? = some p := by rw [← C.len]; exact pre_snoc_get ps p
    refine h.go B G (ps ++ [p]) σ _ hn C0 (Slots.mono u0 S) _ fun us G1 ps1 H1 C1 u1 r1 => ?_
    have e1 := pre_get u1.p e0
    obtain ⟨us0, k1, k2⟩ := (C1.cell _ p _ e1 hc).1
    cases k2
    have hl : us.length ≤ 15 := by
      have h1 : us.length = kvs.length := by have := congrArg List.length (RepKs.keys r1); rwa [List.length_map, List.length_map] at this
      have h2 := h.len.2.2
      have h3 := Nat.le_of_ble_eq_true h15
      omega
    refine ⟨k1, us, rfl, hl, ?_⟩
    rw [mergeK_new us [] (by rw [List.nil_append, RepKs.keys r1]; exact nd), List.nil_append]
    rw [pc.at] at q
    exact q (.ref p) G1 ps1 _ (C1.put (c' := .dct kvs) e1 hc (by intro z; cases z) ⟨us, upd_same, r1⟩) (u0.trans u1) ⟨p, e1, rfl⟩
/-- a display that nothing writes at -/
theorem ev_dlV {n : Nat} {kds : List (Key × PyData)} (hA : na ≤ cs.length) (ac : AppC cs (.dct []) n cs0) (h : APs X na sl ks vs cs0 kvs cs1) (hc : cs1[n]? = some (.dct [])) (e : kvs = svK kds) (pc : PutC cs1 n .dead cs2) (nd : (kvs.map (·.1)).Nodup) (h0 : ks ≠ []) (h15 : Nat.ble ks.length 15 = true) : EV X na (.Dict ks vs pos) sl cs (.val (dD kds)) cs2 := by
  subst e
  have hlen : n < cs1.length := (List.getElem?_eq_some_iff.mp hc).1
  have h1 : EV X na (.Dict ks vs pos) sl cs (.cell n) (cs1.set n (.dct (svK kds))) := by
    refine ev_dlC ac h hc ?_ nd h0 h15
    have gen : ∀ (cs : Cs) (n : Nat) (c : CC), n < cs.length → PutC cs n c (cs.set n c) := by
      intro cs
      induction cs with
      | nil => intro n c h; cases h
      | cons a r ih =>
        intro n c h
        cases n with
        | zero => exact .here
        | succ n => exact .there (ih n c (Nat.lt_of_succ_lt_succ h))
    exact gen cs1 n _ hlen
  have hn0 := ac.at.1
  rw [pc.at]
  intro B G ps σ H hn C S Q q
  refine h1 B G ps σ H hn C S Q fun v G1 ps1 H1 C1 u1 r1 => ?_
  have hget : (cs1.set n (.dct (svK kds)))[n]? = some (.dct (svK kds)) := by rw [List.getElem?_set_self hlen]
  obtain ⟨p, rfl, ep, us, k1, k2⟩ := C1.cellAt r1 hget
  have hG : G1 p = none := (C1.cell n p _ ep hget).2.2.elim (fun z => by cases z) id
  have C2 := C1.freeze (by omega) ep hget (by intro z; cases z) k1
  rw [List.set_set] at C2
  exact q (.ref p) _ ps1 H1 C2 ⟨u1.s.trans (Same.new hG), u1.p⟩ (Rep.dct upd_same (RepD.mono (Same.new hG) (RepKs.repD k2)))
end
end DL
namespace DL
open PySem PySem.Spec PyProof.Rows L2
/-! ### dicts compared, of any values -/
def rEqDD (K : PySem.W.Frag) (r : Bool) : R2 := fun x y H Q => ∃ a b ks ls, x = .ref a ∧ y = .ref b ∧ H a = some (.dK ks) ∧ H b = some (.dK ls) ∧ ks.length = ls.length ∧ (∀ p ∈ ks, ∃ y d, valV ls p.1 = some y ∧ Dp K H p.2 d ∧ Dp K H y d ∧ SeqAt.shaped d = true ∧ PyData.eqv d d = true) ∧ Q (.bl r) H
theorem hits_deep {X : Cx} {pins : List (Addr × Obj)} {σ : L2.St} {H : Hp} {s : Shared} (I : Inv X pins σ H s) {A : Around} (hu : A.in1.units + 64 < cLine) {ls : List (Key × V)} {vb : List (Key × Value)} (rb : KV ls vb) {ks : List (Key × V)} {va : List (Key × Value)} (ra : KV ks va) :
    (∀ p ∈ ks, ∃ y d, valV ls p.1 = some y ∧ Dp X.K H p.2 d ∧ Dp X.K H y d ∧ SeqAt.shaped d = true ∧ PyData.eqv d d = true) → PySem.W.KeqHits A.in1 s vb va true := by
  unfold KV at ra
  induction ra with
  | nil => intro _; exact .nil
  | @cons p q ps qs h t ih =>
    intro hp
    obtain ⟨h1, h2⟩ := h
    obtain ⟨y, d, e, d1, d2, sd, ed⟩ := hp p List.mem_cons_self
    have rr : RelO (some y) (valueAt vb p.1) := by rw [← e]; exact rb.val p.1
    obtain ⟨z, hz, rz⟩ := rr.some_of
    obtain ⟨k, v⟩ := q
    have h1' : p.1 = k := h1
    rw [h1'] at hz
    obtain ⟨as, r1⟩ := Dp.reads I d _ v d1 h2
    obtain ⟨bs, r2⟩ := Dp.reads I d _ z d2 rz
    have := PySem.W.keq_at (A := A) r1 r2 sd sd hu
    rw [ed] at this
    show PySem.W.KeqHits A.in1 s vb ((k, v) :: qs) (true && true)
    exact .hit hz this (ih fun p' hm => hp p' (List.mem_cons_of_mem _ hm))
theorem op_eqDD {X : Cx} (hu : X.A.units < cLine) (hu2 : X.A.in1.units + 64 < cLine) : OpR X (compareOp .Eq) (rEqDD X.K true) := by
  intro pins s σ H x y v u Q I rx ry h
  obtain ⟨a, b, ks, ls, rfl, rfl, ea, eb, hlen, hp, q⟩ := h
  obtain rfl : v = Value.ref a := rx
  obtain rfl : u = Value.ref b := ry
  obtain ⟨_, ya, va, ra, da⟩ := (show ObjOk X.prog X.w H s.heap a (.dK ks) from I.hok a _ ea)
  obtain ⟨_, yb, vb, rb, db⟩ := (show ObjOk X.prog X.w H s.heap b (.dK ls) from I.hok b _ eb)
  have hl : va.length = vb.length := by rw [← ra.length, ← rb.length]; exact hlen
  exact PySem.W.keq_eq (knd := mixKind X.prog X.w) (r := true) ya yb da db hu (fun _ => hits_deep I hu2 rb ra hp) (fin_bl I q (by simp [hl]))
theorem op_neDD {X : Cx} (hu : X.A.units < cLine) (hu2 : X.A.in1.units + 64 < cLine) : OpR X (compareOp .NotEq) (rEqDD X.K false) := by
  intro pins s σ H x y v u Q I rx ry h
  obtain ⟨a, b, ks, ls, rfl, rfl, ea, eb, hlen, hp, q⟩ := h
  obtain rfl : v = Value.ref a := rx
  obtain rfl : u = Value.ref b := ry
  obtain ⟨_, ya, va, ra, da⟩ := (show ObjOk X.prog X.w H s.heap a (.dK ks) from I.hok a _ ea)
  obtain ⟨_, yb, vb, rb, db⟩ := (show ObjOk X.prog X.w H s.heap b (.dK ls) from I.hok b _ eb)
  have hl : va.length = vb.length := by rw [← ra.length, ← rb.length]; exact hlen
  exact PySem.W.keq_ne (knd := mixKind X.prog X.w) (r := true) ya yb da db hu (fun _ => hits_deep I hu2 rb ra hp) (fin_bl I q (by simp [hl]))
theorem repKs_deep {K : PySem.W.Frag} {G H : Hp} {ps : List Addr} (g : Same G H) : ∀ {us ls : List (Key × V)} {kvs : List (Key × PyData)}, (∀ kv ∈ kvs, SeqAt.shaped kv.2 = true ∧ PyData.eqv kv.2 kv.2 = true) → RepKs K G ps us (svK kvs) → RepKs K G ps ls (svK kvs) → us.length = ls.length ∧ us.map (·.1) = kvs.map (·.1) ∧ ls.map (·.1) = kvs.map (·.1) ∧ ∀ p ∈ us, ∃ y d, (p.1, y) ∈ ls ∧ Dp K H p.2 d ∧ Dp K H y d ∧ SeqAt.shaped d = true ∧ PyData.eqv d d = true
  | us, ls, [], _, h1, h2 => by cases h1; cases h2; exact ⟨rfl, rfl, rfl, fun _ h => (nomatch h)⟩
  | us, ls, (k, d) :: r, hf, h1, h2 => by
    cases h1 with
    | cons g1 t1 =>
      cases h2 with
      | cons g2 t2 =>
        rename_i u us' l ls'
        obtain ⟨e1, f1⟩ := g1
        obtain ⟨e2, f2⟩ := g2
        obtain ⟨i1, i2, i3, i4⟩ := repKs_deep g (fun kv h => hf kv (List.mem_cons_of_mem _ h)) t1 t2
        obtain ⟨s1, s2⟩ := hf (k, d) List.mem_cons_self
        have e1 : u.1 = k := e1
        have e2 : l.1 = k := e2
        refine ⟨by rw [List.length_cons, List.length_cons, i1], by rw [List.map_cons, List.map_cons, i2, e1], by rw [List.map_cons, List.map_cons, i3, e2], fun p h => ?_⟩
        rcases List.mem_cons.mp h with h | h
        · subst h
          refine ⟨l.2, d, ?_, Rep.dp g f1 (SeqAt.canLay_of_shaped s1), Rep.dp g f2 (SeqAt.canLay_of_shaped s1), s1, s2⟩
          have : (p.1, l.2) = l := Prod.ext (by rw [e1, e2]) rfl
          rw [this]
          exact List.mem_cons_self
        · obtain ⟨y, d', j1, j2⟩ := i4 p h
          exact ⟨y, d', List.mem_cons_of_mem _ j1, j2⟩
section
variable {X : Cx} {na : Nat} {sl sl' : Sl} {cs cs1 cs2 cs3 : Cs} {s t u : SV} {pos p : Pos} {x : Str} {E : DEnds} {N : List Str} {a b : Expr}
theorem rv_eqDD {K : PySem.W.Frag} {r : Bool} {kvs : List (Key × PyData)} (hd : IsD cs s (svK kvs)) (he : IsD cs t (svK kvs)) (hf : ∀ kv ∈ kvs, SeqAt.shaped kv.2 = true ∧ PyData.eqv kv.2 kv.2 = true) (nd : (kvs.map (·.1)).Nodup) : RV K na (rEqDD K r) s t cs (.val (.bool r)) cs := fun B G ps H v w hn C r1 r2 Q q => by
  obtain ⟨a, us, rfl, h1, h2⟩ := hd.at C r1
  obtain ⟨b, ls, rfl, h3, h4⟩ := he.at C r2
  obtain ⟨h5, h6, h7, h8⟩ := repKs_deep C.gh hf h2 h4
  refine ⟨a, b, us, ls, rfl, rfl, h1, h3, h5, fun p hp => ?_, q _ G ps H C (Up.refl _ _) (Rep.bl _)⟩
  obtain ⟨y, d, k1, k2⟩ := h8 p hp
  exact ⟨y, d, valV_mem (by rw [h7]; exact nd) k1, k2⟩
theorem room_in1 {A : Around} {k : Nat} (hr : Room k A) : A.in1.units + 64 < cLine := by
  have := hr.un
  show A.units + 1 + 64 < _
  omega
theorem tv_eqDD {kvs : List (Key × PyData)} {k : Nat} (hr : Room k X.A) (ha : EV X na a sl cs s cs1) (hb : EV X na b sl cs1 t cs2) (hd : IsD cs2 s (svK kvs)) (he : IsD cs2 t (svK kvs)) (hf : ∀ kv ∈ kvs, SeqAt.shaped kv.2 = true ∧ PyData.eqv kv.2 kv.2 = true) (nd : (kvs.map (·.1)).Nodup) : TV X na (.Compare a [.Eq] [b] pos) sl cs true cs2 :=
  tv_cmp (op_eqDD (by have := hr.un; omega) (room_in1 hr)) (nomark _) ha hb (rv_eqDD hd he hf nd)
theorem ev_eqDD {kvs : List (Key × PyData)} {k : Nat} (hr : Room k X.A) (ha : EV X na a sl cs s cs1) (hb : EV X na b sl cs1 t cs2) (hd : IsD cs2 s (svK kvs)) (he : IsD cs2 t (svK kvs)) (hf : ∀ kv ∈ kvs, SeqAt.shaped kv.2 = true ∧ PyData.eqv kv.2 kv.2 = true) (nd : (kvs.map (·.1)).Nodup) : EV X na (.Compare a [.Eq] [b] pos) sl cs (.val (.bool true)) cs2 :=
  ev_cmp (op_eqDD (by have := hr.un; omega) (room_in1 hr)) (nomark _) ha hb (rv_eqDD hd he hf nd)
theorem tv_neDD {kvs : List (Key × PyData)} {k : Nat} (hr : Room k X.A) (ha : EV X na a sl cs s cs1) (hb : EV X na b sl cs1 t cs2) (hd : IsD cs2 s (svK kvs)) (he : IsD cs2 t (svK kvs)) (hf : ∀ kv ∈ kvs, SeqAt.shaped kv.2 = true ∧ PyData.eqv kv.2 kv.2 = true) (nd : (kvs.map (·.1)).Nodup) : TV X na (.Compare a [.NotEq] [b] pos) sl cs false cs2 :=
  tv_cmp (op_neDD (by have := hr.un; omega) (room_in1 hr)) (nomark _) ha hb (rv_eqDD hd he hf nd)
/-- for, with what is known of the things gone through -/
theorem s1_forJ {α : Type} {body : List Stmt} {tg iter : Expr} {GC : Cs → Prop} (es : List α) (f : α → SV) (J : List α → Prop) (hJ : J []) (hp : PassesOwn (model X.prog X.w) X.A X.env X.xe) (hc : X.calm = true) (h : IV X na tg iter sl cs (es.map f) GC cs1) (a : List α → Sl) (c : List α → Cs) (h0 : Le (a []) sl) (h1 : c [] = cs1) (hG : ∀ pre post, es = pre ++ post → GC (c pre))
    (hs : ∀ pre e post, es = pre ++ e :: post → J pre → GX X na tg (f e) (a pre) (c pre) fun sl2 cs2 => SX X na body sl2 cs2 { E with nx := fun sl3 cs3 => J (pre ++ [e]) ∧ At cs1.length (a (pre ++ [e])) (c (pre ++ [e])) sl3 cs3, ct := fun sl3 cs3 => J (pre ++ [e]) ∧ At cs1.length (a (pre ++ [e])) (c (pre ++ [e])) sl3 cs3, bk := E.nx })
    (hd : ∀ sl', J es → Le (a es) sl' → E.nx sl' (c es))
    (hf : ∀ x, foldedSetIterable iter X.env x = pure x := by intro _; rfl) : S1 X na (.For tg iter body [] pos) sl cs E := by
  refine s1_for hp hc h (fun i sl' cs' => J (es.take i) ∧ Le (a (es.take i)) sl' ∧ cs' = c (es.take i)) ⟨hJ, h0, h1.symm⟩ (fun i sl' cs' ⟨_, _, e⟩ => e ▸ hG _ (es.drop i) (List.take_append_drop i es).symm) (fun i s sl' cs' hx ⟨hj, l, e⟩ => ?_) (fun sl' cs' ⟨hj, l, e⟩ => ?_) hf
  · subst e
    rw [List.getElem?_map] at hx
    cases he : es[i]? with
    | none => rw [he] at hx; cases hx
    | some e =>
      rw [he] at hx
      cases hx
      have e1 : es.take (i + 1) = es.take i ++ [e] := by rw [List.take_add_one, he]; rfl
      have hi := (List.getElem?_eq_some_iff.mp he).1
      have e2 : es.drop i = e :: es.drop (i + 1) := by
        rw [List.drop_eq_getElem_cons hi, (List.getElem?_eq_some_iff.mp he).2]
      intro B G ps σ H v hn C S r Q q
      refine hs _ e (es.drop (i + 1)) (by rw [← e2, List.take_append_drop]) hj B G ps σ H v hn C (l.slots S) r Q fun sl3 cs3 G3 ps3 σ3 H3 C3 u3 S3 q3 => q sl3 cs3 G3 ps3 σ3 H3 C3 u3 S3 ?_
      intro B4 G4 ps4 σ4 H4 hn4 C4 S4 D4 L4
      exact q3 B4 G4 ps4 σ4 H4 hn4 C4 S4 D4 ⟨fun sl5 cs5 G5 ps5 σ5 H5 C5 u5 S5 q5 => L4.nx sl5 cs5 G5 ps5 σ5 H5 C5 u5 S5 ⟨_, _, ⟨by rw [e1]; exact q5.1, by rw [e1]; exact Le.refl _, by rw [e1]⟩, q5.2⟩, L4.rt, L4.bk, fun sl5 cs5 G5 ps5 σ5 H5 C5 u5 S5 q5 => L4.ct sl5 cs5 G5 ps5 σ5 H5 C5 u5 S5 ⟨_, _, ⟨by rw [e1]; exact q5.1, by rw [e1]; exact Le.refl _, by rw [e1]⟩, q5.2⟩⟩
  · subst e
    rw [List.length_map, List.take_of_length_le (Nat.le_refl _)] at hj l ⊢
    exact hd sl' hj l
/-- x is not y, of truths -/
theorem tv_isnotB {i j : Bool} (ha : EV X na a sl cs (.val (.bool i)) cs1) (hb : EV X na b sl cs1 (.val (.bool j)) cs2) (hm : behindInMarks .IsNot b = false := by rfl) : TV X na (.Compare a [.IsNot] [b] pos) sl cs (!decide (i = j)) cs2 :=
  tv_cmp op_isnot_bl hm ha hb fun B G ps H v w hn C r1 r2 Q q => by
    rw [Rep.boolI r1, Rep.boolI r2]
    exact ⟨i, j, rfl, rfl, q _ G ps H C (Up.refl _ _) (Rep.bl _)⟩
/-- xs[k:] -/
theorem ev_slFrom {ds : List PyData} {k : Nat} (ha : EV X na a sl cs s cs1) (hb : EV X na b sl cs1 (.val (.int (k : Nat))) cs2) (hl : IsL cs2 s (ds.map SV.val)) (p2 : Pos) : EV X na (.Subscript a (.Slice (some b) none none p2) pos) sl cs (.val (.list (ds.drop k))) cs2 :=
  ev_of (pe_slice sl_list pe_any (po_some pe_any) po_none) fun B G ps σ H hn C S Q q => ha B G ps σ H hn C S _ fun v G1 ps1 H1 C1 u1 r1 => hb B G1 ps1 σ H1 hn C1 (Slots.mono u1 S) _ fun w G2 ps2 H2 C2 u2 r2 => by
    obtain ⟨l, vs, rfl, h1, h2⟩ := hl.sq C2 (RepV.mono u2 r1)
    have k1 := Reps.ofVs h2
    have e : cutV vs (some (k : Int)) none = vs.drop k := by
      unfold cutV
      rw [HT.sIx_none, HT.sIx_nat]
      by_cases hk : k ≤ vs.length
      · rw [Nat.min_eq_left hk, List.take_of_length_le (by rw [List.length_drop]; omega)]
      · rw [Nat.min_eq_right (by omega), List.drop_of_length_le (Nat.le_refl _), List.drop_of_length_le (by omega), List.take_nil]
    refine ⟨(k : Int), Rep.intI r2, l, vs, rfl, h1, ?_⟩
    rw [e]
    exact C2.newLst (Reps.drop k k1) fun v G3 ps3 H3 C3 u3 => q v G3 ps3 H3 C3 ((u1.trans u2).trans u3)
end
/-! ### (0, ()) of the module's top -/
theorem glo_blank {K : PySem.W.Frag} {h : Heap} {mg : Str → Option Value} {x : Str} {f g : Addr} {od od2 : Option Addr} {sl sl2 : Array (Option Value)} {n n2 : Nat} {tk : Tok} (X : K.In h) (G : h.Ns mainGlobals mg)
    (a : PySem.W.nsIn K mainGlobals x = some (some (.ref f))) (l : K.lookup f = some ⟨.type "tuple", od, .seq #[.int 0 tk, .ref g] n, sl⟩) (l2 : K.lookup g = some ⟨.type "tuple", od2, .seq #[] n2, sl2⟩) : Glo K mg x (.tuple [.int 0, .tuple []]) :=
  ⟨.ref f, .ref f, PySem.W.mg_of X G a, rfl, fun G => .tup (xs := [.int 0, .ref g]) (.inr ⟨_, _, _, l, rfl, rfl, by rw [sizeLine_eq]; show (2 : Nat) ≤ _; decide, .cons ⟨tk, rfl⟩ (.cons rfl .nil)⟩) (.cons (.int 0) (.cons (.tup (xs := []) (.inr ⟨_, _, _, l2, rfl, rfl, by rw [sizeLine_eq]; show (0 : Nat) ≤ _; decide, .nil⟩) .nil) .nil))⟩
end DL
namespace DL
open PySem PySem.Spec PyProof.Rows L2
section
variable {X : Cx} {na : Nat} {sl sl' : Sl} {cs cs1 cs2 cs3 : Cs} {s t u : SV} {pos spos p : Pos} {x : Str} {E : DEnds} {N : List Str} {a b : Expr}
/-- a comprehension's list as a new cell -/
theorem ev_LCC {elt tg iter : Expr} {ifs : List Expr} {scope : Scope} {own : List (Str × Nat)} {ds : List PyData} {n : Nat} (hc : X.calm = true) (nd : X.N.Nodup) (ok : BlkOk X.N X.env.scope scope own) (d : LC X na elt tg iter ifs scope own sl cs ds cs1) (ac : AppC cs1 (.lst (ds.map SV.val)) n cs2) (hs : ∀ x, foldedSetIterable iter X.env x = pure x := by intro _; rfl) : EV X na (.ListComp elt [⟨tg, iter, ifs, 0⟩] scope pos) sl cs (.cell n) cs2 :=
  ev_of (pe_LC hc nd ok hs) fun B G ps σ H hna C S Q q => d B G ps σ H hna C S Q fun D vs G' ps' H' C' u' d1 d2 d3 d4 r => by
    obtain ⟨rfl, rfl⟩ := ac.at
    exact q (.ref D) G' (ps' ++ [D]) H' (C'.adoptCell (c := .lst (ds.map SV.val)) d1 d2 d3 ⟨vs, d4, Reps.vs r⟩) (u'.trans ⟨Same.refl _, List.prefix_append _ _⟩) ⟨D, by rw [← C'.len]; exact pre_snoc_get ps' D, rfl⟩
/-- name = [..], on one line -/
theorem s1_setLc {elt tg iter : Expr} {ifs : List Expr} {scope : Scope} {own : List (Str × Nat)} {ds : List PyData} {y : Str} {py : Pos} {i m : Nat} (T : TabL X m) (hN : X.N = N) (hc : X.calm = true) (ok : BlkOk X.N X.env.scope scope own) (d : LC X na elt tg iter ifs scope own sl cs ds cs1) (p : Put N sl y i (.val (.list ds)) sl') (q : E.nx sl' cs1) (hi : Nat.blt i m = true)
    (hyl : X.env.scope.names.lookup y = some .local := by rfl) (hk : X.env.scope.kind = .function := by rfl) (hl : (py.line == pos.line) = true := by rfl) (hq : (scope.names.any fun (n, k) => n == y && (k == .local || k == .cell)) = false := by rfl)
    (hs : ∀ x, foldedSetIterable iter X.env x = pure x := by intro _; rfl) : S1 X na (.Assign [.Name y py] (.ListComp elt [⟨tg, iter, ifs, 0⟩] scope pos) spos) sl cs E := by
  subst hN
  obtain ⟨h1, h2⟩ := p.at
  subst h2
  refine s1_of (ps_setLc (wi := anyI X tg iter) (g := famG X scope tg) (tt := famT X scope ifs) (te := famE X scope elt) hc T.nd h1 hyl (sw_true hk hyl hl hq) pi_any ok
    (fun st H0 C cl fp => ⟨fun pins s σ H v u Q I r h => pg_any.run pins s σ H v u Q I r (h st H0 C cl fp)⟩) (fun st H0 C cl fp => ⟨fun pins s σ H Q I h => by obtain ⟨te, p, h⟩ := h st H0 C cl fp; exact p.run pins s σ H Q I h⟩)
    (fun st H0 C cl fp => ⟨fun pins s σ H Q I h => pe_any.run pins s σ H Q I (h st H0 C cl fp)⟩) hs) fun B G ps σ H hna C S D L => ?_
  exact d B G ps σ H hna C S _ fun A vs G' ps' H' C' u' d1 d2 d3 d4 r => L.nx _ cs1 _ ps' _ H' (C'.adopt d1 d2 d3 d4) (u'.trans ⟨Same.new d2, List.prefix_refl _⟩) (Slots.set (Slots.mono (u'.trans ⟨Same.new d2, List.prefix_refl _⟩) S) (s := .val (.list ds)) (Rep.lst (SqL.of upd_same) (Reps.mono (Same.new d2) r)) i) q
theorem s1_setLcC {elt tg iter : Expr} {ifs : List Expr} {scope : Scope} {own : List (Str × Nat)} {ds : List PyData} {y : Str} {py : Pos} {i m n : Nat} (T : TabL X m) (hN : X.N = N) (hc : X.calm = true) (ok : BlkOk X.N X.env.scope scope own) (d : LC X na elt tg iter ifs scope own sl cs ds cs1) (ac : AppC cs1 (.lst (ds.map SV.val)) n cs2) (p : Put N sl y i (.cell n) sl') (q : E.nx sl' cs2) (hi : Nat.blt i m = true)
    (hyl : X.env.scope.names.lookup y = some .local := by rfl) (hk : X.env.scope.kind = .function := by rfl) (hl : (py.line == pos.line) = true := by rfl) (hq : (scope.names.any fun (n, k) => n == y && (k == .local || k == .cell)) = false := by rfl)
    (hs : ∀ x, foldedSetIterable iter X.env x = pure x := by intro _; rfl) : S1 X na (.Assign [.Name y py] (.ListComp elt [⟨tg, iter, ifs, 0⟩] scope pos) spos) sl cs E := by
  subst hN
  obtain ⟨h1, h2⟩ := p.at
  subst h2
  obtain ⟨rfl, rfl⟩ := ac.at
  refine s1_of (ps_setLc (wi := anyI X tg iter) (g := famG X scope tg) (tt := famT X scope ifs) (te := famE X scope elt) hc T.nd h1 hyl (sw_true hk hyl hl hq) pi_any ok
    (fun st H0 C cl fp => ⟨fun pins s σ H v u Q I r h => pg_any.run pins s σ H v u Q I r (h st H0 C cl fp)⟩) (fun st H0 C cl fp => ⟨fun pins s σ H Q I h => by obtain ⟨te, p, h⟩ := h st H0 C cl fp; exact p.run pins s σ H Q I h⟩)
    (fun st H0 C cl fp => ⟨fun pins s σ H Q I h => pe_any.run pins s σ H Q I (h st H0 C cl fp)⟩) hs) fun B G ps σ H hna C S D L => ?_
  exact d B G ps σ H hna C S _ fun A vs G' ps' H' C' u' d1 d2 d3 d4 r => L.nx _ _ G' (ps' ++ [A]) _ H' (C'.adoptCell (c := .lst (ds.map SV.val)) d1 d2 d3 ⟨vs, d4, Reps.vs r⟩) (u'.trans ⟨Same.refl _, List.prefix_append _ _⟩) (Slots.set (Slots.mono (u'.trans ⟨Same.refl _, List.prefix_append _ _⟩) S) (s := .cell cs1.length) ⟨A, by rw [← C'.len]; exact pre_snoc_get ps' A, rfl⟩ i) q
end
theorem at_zero {α : Type} {a : α} {l : List α} : atI (a :: l) 0 = some a := by
  have e : (0 : Int) = ((0 : Nat) : Int) := rfl
  rw [e]
  exact atI_nat rfl
theorem sortI_two (t u : Int) : sortI [t, u] = [if t ≤ u then t else u, if t ≤ u then u else t] := by
  refine (sortI_uniq ?_ ?_).symm
  · split
    · exact List.Perm.refl _
    · exact List.Perm.swap _ _ _
  · split
    · simp; omega
    · simp; omega
theorem data_map (ds : List PyData) : (CC.lst (ds.map SV.val)).data = some (.list ds) := by
  show (svData (ds.map SV.val)).map _ = _
  rw [svData_map]
  rfl
end DL
namespace DL
open PySem PySem.Spec PyProof.Rows L2
/-! ### mirrors: what a def computes, told by what comes behind -/
def letF {α β : Type} (a : α) (f : α → β) : β := f a
theorem letF_elim {α β : Type} {a : α} {f : α → β} {r : β} (h : letF a f = r) : ∃ x, a = x ∧ f x = r := ⟨a, rfl, h⟩
def joinF {α β ρ : Type} (J : α → β) (F : (α → β) → ρ) : ρ := F J
theorem joinF_elim {α ρ : Type} {J : α → ρ} {F : (α → ρ) → ρ} {r : ρ} (h : joinF J F = r) : ∃ j : α → ρ, (∀ x, j x = r → J x = r) ∧ F j = r := ⟨J, fun _ z => z, h⟩
def forL {α σ ρ : Type} (body : α → σ → (σ → ρ) → ρ) (k : σ → ρ) : List α → σ → ρ
  | [], s => k s
  | x :: xs, s => body x s (forL body k xs)
def whileL {σ ρ : Type} (body : σ → (σ → ρ) → ρ) : Nat → σ → ρ → ρ
  | 0, _, z => z
  | n + 1, s, z => body s fun t => whileL body n t z
def mapS {α β σ : Type} (g : α → σ → β × σ) : List α → σ → List β × σ
  | [], s => ([], s)
  | x :: xs, s => ((g x s).1 :: (mapS g xs (g x s).2).1, (mapS g xs (g x s).2).2)
theorem mapS_snoc {α β σ : Type} (g : α → σ → β × σ) (x : α) : ∀ (xs : List α) (s : σ), mapS g (xs ++ [x]) s = ((mapS g xs s).1 ++ [(g x (mapS g xs s).2).1], (g x (mapS g xs s).2).2)
  | [], s => rfl
  | y :: ys, s => by
    show ((g y s).1 :: (mapS g (ys ++ [x]) (g y s).2).1, (mapS g (ys ++ [x]) (g y s).2).2) = _
    rw [mapS_snoc g x ys]
    rfl
def ixD {α : Type} [Inhabited α] (xs : List α) (i : Int) : α := (L2.atI xs i).getD default
def inR (i : Int) (n : Nat) : Prop := 0 ≤ i ∧ i < n ∨ -(n : Int) ≤ i ∧ i < 0
theorem at_ixD {α β : Type} [Inhabited α] {xs : List α} {f : α → β} {i : Int} (h0 : 0 ≤ i) (h1 : i < xs.length) : L2.atI (xs.map f) i = some (f (ixD xs i)) := by
  have e1 := at_map (xs := xs) (f := f) (d := default) h0 h1
  have e2 := at_in (d := default) h0 h1
  rw [e1]
  unfold ixD
  rw [e2]
  rfl
theorem ixD_eq {α : Type} [Inhabited α] {xs : List α} {i : Int} (h0 : 0 ≤ i) (h1 : i < xs.length) : ixD xs i = xs.getD i.toNat default := by
  unfold ixD
  rw [at_in (d := default) h0 h1]
  rfl
section
variable {X : Cx} {na : Nat} {sl sl' : Sl} {cs cs1 cs2 cs3 : Cs} {s t u : SV} {pos spos p : Pos} {x : Str} {E : DEnds} {N : List Str} {a b : Expr}
theorem ev_as {e : Expr} (h : EV X na e sl cs s cs1) (q : s = t) (q2 : cs1 = cs2) : EV X na e sl cs t cs2 := by
  subst q
  subst q2
  exact h
theorem tv_as {e : Expr} {k l : Bool} (h : TV X na e sl cs k cs1) (q : k = l) (q2 : cs1 = cs2) : TV X na e sl cs l cs2 := by
  subst q
  subst q2
  exact h
/-- ways that meet again; what was made on them is forgotten -/
theorem sx_cutA {st : Stmt} {rest : List Stmt} (M : Sl → Cs → Prop) (h : S1 X na st sl cs { E with nx := fun sl' cs' => ∃ a c, M a c ∧ At cs.length a c sl' cs' }) (k : ∀ sl' cs', M sl' cs' → SX X na rest sl' cs' E) : SX X na (st :: rest) sl cs E := by
  refine sx_cons fun B G ps σ H hn C S D L => h B G ps σ H hn C S D ⟨?_, L.rt, L.bk, L.ct⟩
  intro sl1 cs1 G1 ps1 σ1 H1 C1 u1 S1 ⟨a, c, m, ha⟩
  have hA : B.As.length ≤ cs.length := by
    rw [← C.len]
    exact C.pre.length_le
  obtain ⟨G', ps', C', u', S'⟩ := ha.go C.len C1 hA u1 S1
  exact L.nx a c G' ps' σ1 H1 C' u' S' (k a c m)
theorem s1_forK {α σ ρ : Type} {tg iter : Expr} {body : List Stmt} {GC : Cs → Prop} (es : List α) (f : α → SV) (mb : α → σ → (σ → ρ) → ρ) (mk : σ → ρ) (R0 : ρ) (s0 : σ) (J : List α → σ → Prop) (h0 : forL mb mk es s0 = R0) (hp : PassesOwn (model X.prog X.w) X.A X.env X.xe) (hc : X.calm = true) (hi : IV X na tg iter sl cs (es.map f) GC cs1)
    (hj : J es s0) (a : σ → Sl) (c : σ → Cs) (hl : Le (a s0) sl) (hcs : c s0 = cs1) (hG : ∀ s, GC (c s))
    (hs : ∀ e rest s cont, (∃ pre, es = pre ++ e :: rest) → J (e :: rest) s → mb e s cont = R0 → GX X na tg (f e) (a s) (c s) fun sl2 cs2 => SX X na body sl2 cs2 { E with nx := fun sl3 cs3 => ∃ s', cont s' = R0 ∧ J rest s' ∧ At cs1.length (a s') (c s') sl3 cs3, ct := fun sl3 cs3 => ∃ s', cont s' = R0 ∧ J rest s' ∧ At cs1.length (a s') (c s') sl3 cs3, bk := E.nx })
    (hd : ∀ s, J [] s → mk s = R0 → ∀ sl', Le (a s) sl' → E.nx sl' (c s))
    (hf : ∀ x, foldedSetIterable iter X.env x = pure x := by intro _; rfl) : S1 X na (.For tg iter body [] pos) sl cs E := by
  refine s1_for hp hc hi (fun i sl' cs' => ∃ s, J (es.drop i) s ∧ forL mb mk (es.drop i) s = R0 ∧ Le (a s) sl' ∧ cs' = c s) ⟨s0, hj, h0, hl, hcs.symm⟩ (fun i sl' cs' ⟨s, _, _, _, e⟩ => e ▸ hG s) (fun i sv sl' cs' hx ⟨s, hJ, hF, l, e⟩ => ?_) (fun sl' cs' ⟨s, hJ, hF, l, e⟩ => ?_) hf
  · subst e
    rw [List.getElem?_map] at hx
    cases he : es[i]? with
    | none => rw [he] at hx; cases hx
    | some e =>
      rw [he] at hx
      cases hx
      obtain ⟨hlt, he2⟩ := List.getElem?_eq_some_iff.mp he
      have ed : es.drop i = e :: es.drop (i + 1) := by rw [List.drop_eq_getElem_cons hlt, he2]
      rw [ed] at hJ hF
      have := hs e (es.drop (i + 1)) s (forL mb mk (es.drop (i + 1))) ⟨es.take i, by rw [← ed, List.take_append_drop]⟩ hJ hF
      intro B G ps σ' H v hn C S r Q q
      refine this B G ps σ' H v hn C (l.slots S) r Q fun sl2 cs2 G2 ps2 σ2 H2 C2 u2 S2 q2 => q sl2 cs2 G2 ps2 σ2 H2 C2 u2 S2 ?_
      intro B' G' ps' σ'' H' hn' C' S' D L
      refine q2 B' G' ps' σ'' H' hn' C' S' D ⟨?_, L.rt, L.bk, ?_⟩
      · exact fun sl3 cs3 G3 ps3 σ3 H3 C3 u3 S3 ⟨s', e1, e2, e3⟩ => L.nx sl3 cs3 G3 ps3 σ3 H3 C3 u3 S3 ⟨a s', c s', ⟨s', e2, e1, Le.refl _, rfl⟩, e3⟩
      · exact fun sl3 cs3 G3 ps3 σ3 H3 C3 u3 S3 ⟨s', e1, e2, e3⟩ => L.ct sl3 cs3 G3 ps3 σ3 H3 C3 u3 S3 ⟨a s', c s', ⟨s', e2, e1, Le.refl _, rfl⟩, e3⟩
  · subst e
    rw [List.length_map, List.drop_length] at hJ hF
    exact hd s hJ hF sl' l
theorem s1_forKD {α σ ρ : Type} {tg iter : Expr} {body : List Stmt} {GC : Cs → Prop} (es : List α) (g : α → PyData) (mb : α → σ → (σ → ρ) → ρ) (mk : σ → ρ) (R0 : ρ) (s0 : σ) (J : List α → σ → Prop) (h0 : forL mb mk es s0 = R0) (hp : PassesOwn (model X.prog X.w) X.A X.env X.xe) (hc : X.calm = true) (hi : IV X na tg iter sl cs ((es.map g).map SV.val) GC cs1)
    (hj : J es s0) (a : σ → Sl) (c : σ → Cs) (hl : Le (a s0) sl) (hcs : c s0 = cs1) (hG : ∀ s, GC (c s))
    (hs : ∀ e rest s cont, (∃ pre, es = pre ++ e :: rest) → J (e :: rest) s → mb e s cont = R0 → GX X na tg (.val (g e)) (a s) (c s) fun sl2 cs2 => SX X na body sl2 cs2 { E with nx := fun sl3 cs3 => ∃ s', cont s' = R0 ∧ J rest s' ∧ At cs1.length (a s') (c s') sl3 cs3, ct := fun sl3 cs3 => ∃ s', cont s' = R0 ∧ J rest s' ∧ At cs1.length (a s') (c s') sl3 cs3, bk := E.nx })
    (hd : ∀ s, J [] s → mk s = R0 → ∀ sl', Le (a s) sl' → E.nx sl' (c s))
    (hf : ∀ x, foldedSetIterable iter X.env x = pure x := by intro _; rfl) : S1 X na (.For tg iter body [] pos) sl cs E :=
  s1_forK es (fun e => .val (g e)) mb mk R0 s0 J h0 hp hc (by rw [List.map_map] at hi; exact hi) hj a c hl hcs hG hs hd hf
/-- a while, by how many turns at most are left; z: what would be told if these were too few -/
theorem s1_whileK {σ ρ : Type} {c : Expr} {body : List Stmt} (mb : σ → (σ → ρ) → ρ) (z : ρ) (n0 : Nat) (R0 : ρ) (s0 : σ) (J : Nat → σ → Prop) (h0 : whileL mb n0 s0 z = R0) (hp : PassesOwn (model X.prog X.w) X.A X.env X.xe)
    (hj : J n0 s0) (a : σ → Sl) (d : σ → Cs) (hl : Le (a s0) sl) (hcs : d s0 = cs) (hpos : ∀ s, ¬ J 0 s)
    (hs : ∀ n s cont, J (n + 1) s → mb s cont = R0 → ∃ k cs2, TV X na c (a s) (d s) k cs2 ∧ (k = true → SX X na body (a s) cs2 { E with nx := fun sl3 cs3 => ∃ s', cont s' = R0 ∧ J n s' ∧ At cs.length (a s') (d s') sl3 cs3, ct := fun sl3 cs3 => ∃ s', cont s' = R0 ∧ J n s' ∧ At cs.length (a s') (d s') sl3 cs3, bk := E.nx }) ∧ (k = false → ∀ sl', Le (a s) sl' → E.nx sl' cs2)) : S1 X na (.While c body [] pos) sl cs E := by
  refine s1_while hp (fun m sl' cs' => ∃ s, J m s ∧ whileL mb m s z = R0 ∧ Le (a s) sl' ∧ cs' = d s) n0 ⟨s0, hj, h0, hl, hcs.symm⟩ fun m sl' cs' ⟨s, hJ, hF, l, e⟩ => ?_
  subst e
  cases m with
  | zero => exact (hpos s hJ).elim
  | succ n =>
    obtain ⟨k, cs2, ht, h1, h2⟩ := hs n s (fun t => whileL mb n t z) hJ hF
    refine ⟨k, cs2, fun B G ps σ' H hn C S Q q => ht B G ps σ' H hn C (l.slots S) Q q, fun hk => sx_weak l ?_, fun hk => h2 hk sl' l⟩
    intro B' G' ps' σ'' H' hn' C' S' D L
    refine h1 hk B' G' ps' σ'' H' hn' C' S' D ⟨?_, L.rt, L.bk, ?_⟩
    · exact fun sl3 cs3 G3 ps3 σ3 H3 C3 u3 S3 ⟨s', e1, e2, e3⟩ => L.nx sl3 cs3 G3 ps3 σ3 H3 C3 u3 S3 ⟨n, a s', d s', Nat.lt_succ_self n, ⟨s', e2, e1, Le.refl _, rfl⟩, e3⟩
    · exact fun sl3 cs3 G3 ps3 σ3 H3 C3 u3 S3 ⟨s', e1, e2, e3⟩ => L.ct sl3 cs3 G3 ps3 σ3 H3 C3 u3 S3 ⟨n, a s', d s', Nat.lt_succ_self n, ⟨s', e2, e1, Le.refl _, rfl⟩, e3⟩
/-! comprehensions -/
theorem lc_K {α : Type} {elt tg iter : Expr} {scope : Scope} {own : List (Str × Nat)} {GC : Cs → Prop} (es : List α) (f : α → SV) (h : IV X na tg iter sl cs (es.map f) GC cs1)
    (v : α → PyData) (a : α → Sl) (c2 : α → Cs) (hz : es.length ≤ 100000) (hG : GC cs1)
    (hg : ∀ e ∈ es, ∀ st H C cl fp, GW (blkOf X scope st H C cl fp) cs1.length tg (f e) (wipeS sl (own.map (·.2))) cs1 (own.map (·.2)) fun sl2 cs2 => sl2 = a e ∧ cs2 = cs1)
    (he : ∀ e ∈ es, (∀ st H C cl fp, EV (blkOf X scope st H C cl fp) cs1.length elt (a e) cs1 (.val (v e)) (c2 e)) ∧ AtC cs1.length cs1 (c2 e))
    : LC X na elt tg iter [] scope own sl cs (es.map v) cs1 := by
  cases es with
  | nil => exact lc_M h [] (fun _ => sl) (fun _ => cs1) rfl (Nat.zero_le _) hG (fun i s e => by simp at e) (fun i s d e => by simp at e)
  | cons e0 er =>
    have get : ∀ {i : Nat} {s : SV}, ((e0 :: er).map f)[i]? = some s → ∃ e, (e0 :: er)[i]? = some e ∧ s = f e ∧ (e0 :: er).getD i e0 = e := fun {i s} e => by
      rw [List.getElem?_map] at e
      cases q : (e0 :: er)[i]? with
      | none => rw [q] at e; cases e
      | some z =>
        rw [q] at e
        cases e
        exact ⟨z, rfl, rfl, by rw [List.getD_eq_getElem?_getD, q]; rfl⟩
    refine lc_M h ((e0 :: er).map v) (fun i => a ((e0 :: er).getD i e0)) (fun i => c2 ((e0 :: er).getD i e0)) (by rw [List.length_map, List.length_map]) (by rw [List.length_map]; exact hz) hG (fun i s e st H C cl fp => ?_) (fun i s d e hd => ?_)
    · obtain ⟨z, h1, rfl, h3⟩ := get e
      rw [h3]
      exact hg z (List.mem_of_getElem? h1) st H C cl fp
    · obtain ⟨z, h1, rfl, h3⟩ := get e
      rw [List.getElem?_map, h1] at hd
      cases hd
      rw [h3]
      exact he z (List.mem_of_getElem? h1)
/-- .. whose elements change cells -/
theorem lc_S {α β σ : Type} {elt tg iter : Expr} {scope : Scope} {own : List (Str × Nat)} {GC : Cs → Prop} (es : List α) (f : α → SV) (h : IV X na tg iter sl cs (es.map f) GC cs1)
    (g : α → σ → β × σ) (v : β → PyData) (s0 : σ) (c : σ → Cs) (hcs : c s0 = cs1) (a : α → Sl) (c2 : α → σ → Cs) (hz : es.length ≤ 100000) (hG : ∀ s, GC (c s)) (hlen : ∀ s, (c s).length = cs1.length)
    (hg : ∀ e ∈ es, ∀ s, ∀ st H C cl fp, GW (blkOf X scope st H C cl fp) cs1.length tg (f e) (wipeS sl (own.map (·.2))) (c s) (own.map (·.2)) fun sl2 cs2 => sl2 = a e ∧ cs2 = c s)
    (he : ∀ e ∈ es, ∀ s, (∀ st H C cl fp, EV (blkOf X scope st H C cl fp) cs1.length elt (a e) (c s) (.val (v (g e s).1)) (c2 e s)) ∧ AtC cs1.length (c (g e s).2) (c2 e s))
    : LC X na elt tg iter [] scope own sl cs ((mapS g es s0).1.map v) (c (mapS g es s0).2) := by
  cases es with
  | nil =>
    subst hcs
    exact lc_M h [] (fun _ => sl) (fun _ => c s0) rfl (Nat.zero_le _) (hG _) (fun i s e => by simp at e) (fun i s d e => by simp at e)
  | cons e0 er =>
    have get : ∀ {i : Nat} {s : SV}, ((e0 :: er).map f)[i]? = some s → ∃ e, (e0 :: er)[i]? = some e ∧ s = f e ∧ (e0 :: er).getD i e0 = e := fun {i s} e => by
      rw [List.getElem?_map] at e
      cases q : (e0 :: er)[i]? with
      | none => rw [q] at e; cases e
      | some z =>
        rw [q] at e
        cases e
        exact ⟨z, rfl, rfl, by rw [List.getD_eq_getElem?_getD, q]; rfl⟩
    have := lc_gen (elt := elt) (ifs := []) (sl := sl) (scope := scope) (own := own) h (fun i => a ((e0 :: er).getD i e0)) (fun i => c (mapS g ((e0 :: er).take i) s0).2) (fun i => c2 ((e0 :: er).getD i e0) (mapS g ((e0 :: er).take i) s0).2) (fun _ => true) (fun i => v (g ((e0 :: er).getD i e0) (mapS g ((e0 :: er).take i) s0).2).1) (fun i => (mapS g ((e0 :: er).take i) s0).1.map v) hcs rfl (by rw [List.length_map]; exact hz) (fun _ _ => hG _)
      (fun i s e st H C cl fp => by
        obtain ⟨z, h1, rfl, h3⟩ := get e
        rw [h3, hlen]
        exact hg z (List.mem_of_getElem? h1) _ st H C cl fp)
      (fun i s e st H C cl fp => tvs_nil)
      (fun i s e _ => by
        obtain ⟨z, h1, rfl, h3⟩ := get e
        obtain ⟨g1, g2⟩ := he z (List.mem_of_getElem? h1) (mapS g ((e0 :: er).take i) s0).2
        have e1 : (e0 :: er).take (i + 1) = (e0 :: er).take i ++ [z] := by rw [List.take_add_one, h1]; rfl
        refine ⟨fun st H C cl fp => ?_, ?_, ?_⟩
        · rw [h3, hlen]
          exact g1 st H C cl fp
        · rw [e1, mapS_snoc, h3]
          exact g2
        · rw [e1, mapS_snoc, h3, List.map_append]
          rfl)
      (fun i s e hk => by cases hk)
    rw [List.length_map, List.take_of_length_le (Nat.le_refl _)] at this
    exact this
/-! lists of one kind -/
theorem ev_appT {α : Type} {f : α → PyData} {l : List α} {y : α} {o e : Expr} {apos : Pos} {k : Nat} {ys : List SV} (ho : EV X na o sl cs (.cell k) cs1) (he : EV X na e sl cs1 (.val (f y)) cs2) (hc1 : cs1[k]? = some (.lst ys)) (hc : cs2[k]? = some (.lst ((l.map f).map SV.val))) (pc : PutC cs2 k (.lst (((l ++ [y]).map f).map SV.val)) cs3) (hz : l.length ≤ 1000000)
    (hs : starEach [e] X.env = (false, eval e X.env) :: starEach [] X.env := by rfl)
    (hbase : attributeBase o "append" X.env (eval o X.env) = eval o X.env := by rfl) (hfew : ((backTo pos (starEach (e :: []) X.env)).all (fun x => !x.1) && (backToKw pos (keywordEach [] X.env)).all (fun x => x.1.isSome)
      && decide ((e :: []).length + ([] : List Keyword).length + (if ([] : List Keyword).isEmpty then 0 else 1) < 30)) = true := by rfl)
    (hline : (apos.endLine == pos.line) = true := by rfl) (hplain : (backTo pos (starEach [] X.env)).any (·.1) = false := by rfl) : EV X na (.Call (.Attribute o "append" apos) [e] [] pos) sl cs (.val .none) cs3 := by
  refine ev_append ho he hc1 hc ?_ (by rw [List.length_map, List.length_map]; exact hz) hs hbase hfew hline hplain
  rw [List.map_append, List.map_append] at pc
  exact pc
end
end DL
namespace DL
open PySem PySem.Spec PyProof.Rows L2
theorem mem_mid {α : Type} {es rest : List α} {x : α} (h : ∃ pre, es = pre ++ x :: rest) : x ∈ es := by
  obtain ⟨pre, rfl⟩ := h
  simp
theorem at_ixN {α β : Type} [Inhabited α] {xs : List α} {f : α → β} {i : Int} (h0 : -(xs.length : Int) ≤ i) (h1 : i < 0) : L2.atI (xs.map f) i = some (f (ixD xs i)) := by
  have e1 : ∀ {γ : Type} (ys : List γ), ys.length = xs.length → L2.atI ys i = ys[(i + ys.length).toNat]? := fun ys hy => by
    unfold L2.atI L2.ixN
    rw [hy, if_neg (by omega), if_pos (by omega)]
    rfl
  have hlt : (i + xs.length).toNat < xs.length := by omega
  unfold ixD
  rw [e1 (xs.map f) (List.length_map ..), e1 xs rfl, List.getElem?_map, List.length_map, List.getElem?_eq_getElem hlt]
  rfl
theorem rgD_0 (n : Int) : SV.val (.list (rgD 0 n)) = SV.val (.list (((List.range n.toNat).map fun i : Nat => (i : Int)).map PyData.int)) := by
  unfold rgD
  rw [List.map_map, Int.sub_zero]
  congr 3
  funext i
  simp
theorem rgD_2 (m n : Int) : SV.val (.list (rgD m n)) = SV.val (.list (((List.range (n - m).toNat).map fun i : Nat => (m + (i : Int))).map PyData.int)) := by
  unfold rgD
  rw [List.map_map]
  rfl
theorem get_T {α : Type} {f : α → PyData} (xs : List (Str × α)) (k : Str) (d : α) : (lkK (svK (kvT f xs)) (.inr k)).getD (.val (f d)) = .val (f ((lkS xs k).getD d)) := by
  rw [lk_T]
  cases lkS xs k <;> rfl
section
variable {X : Cx} {na : Nat} {sl sl' : Sl} {cs cs1 cs2 cs3 : Cs} {s t u : SV} {pos spos p : Pos} {x : Str} {E : DEnds} {N : List Str} {a b : Expr} {tg iter : Expr}
theorem lc_as {elt : Expr} {ifs : List Expr} {scope : Scope} {own : List (Str × Nat)} {ds es : List PyData} (h : LC X na elt tg iter ifs scope own sl cs ds cs1) (q : SV.val (.list ds) = SV.val (.list es)) (q2 : cs1 = cs2) : LC X na elt tg iter ifs scope own sl cs es cs2 := by
  cases q
  subst q2
  exact h
theorem iv_mapC {α : Type} {g : α → PyData} {es : List α} {GC : Cs → Prop} (h : IV X na tg iter sl cs ((es.map g).map SV.val) GC cs1) : IV X na tg iter sl cs (es.map fun x => SV.val (g x)) GC cs1 := by
  rw [List.map_map] at h
  exact h
theorem ev_maxM {i j : Int} (hm : X.mg "max" = none) (ha : EV X na a sl cs (.val (.int i)) cs1) (hb : EV X na b sl cs1 (.val (.int j)) cs2) (hc : X.calm = true := by rfl) (hg : Gl X "max" := by rfl) (hs : starEach [a, b] X.env = (false, eval a X.env) :: starEach [b] X.env := by rfl)
    (hs2 : starEach [b] X.env = (false, eval b X.env) :: starEach [] X.env := by rfl) (hpl : (backTo pos (starEach [b] X.env)).any (·.1) = false := by rfl) : EV X na (.Call (.Name "max" p) [a, b] [] pos) sl cs (.val (.int (max i j))) cs2 := by
  have := ev_max2 (p := p) (pos := pos) hc hm hg ha hb hs hs2 hpl
  rwa [show (if j > i then j else i) = max i j by omega] at this
theorem ev_minM {i j : Int} (hm : X.mg "min" = none) (ha : EV X na a sl cs (.val (.int i)) cs1) (hb : EV X na b sl cs1 (.val (.int j)) cs2) (hc : X.calm = true := by rfl) (hg : Gl X "min" := by rfl) (hs : starEach [a, b] X.env = (false, eval a X.env) :: starEach [b] X.env := by rfl)
    (hs2 : starEach [b] X.env = (false, eval b X.env) :: starEach [] X.env := by rfl) (hpl : (backTo pos (starEach [b] X.env)).any (·.1) = false := by rfl) : EV X na (.Call (.Name "min" p) [a, b] [] pos) sl cs (.val (.int (min i j))) cs2 := by
  have := ev_min2 (p := p) (pos := pos) hc hm hg ha hb hs hs2 hpl
  rwa [show (if j < i then j else i) = min i j by omega] at this
end
end DL
namespace DL
open PySem PySem.Spec PyProof.Rows L2
def minL : List Int → Int
  | [] => 0
  | [a] => a
  | a :: b :: r => min a (minL (b :: r))
def maxL : List Int → Int
  | [] => 0
  | [a] => a
  | a :: b :: r => max a (maxL (b :: r))
theorem minL_is : ∀ {l : List Int}, l ≠ [] → minL l ∈ l ∧ ∀ y ∈ l, minL l ≤ y
  | [], h => (h rfl).elim
  | [a], _ => ⟨List.mem_cons_self, fun y hy => by rw [List.mem_singleton] at hy; rw [hy]; exact Int.le_refl a⟩
  | a :: b :: r, _ => by
    obtain ⟨h1, h2⟩ := minL_is (l := b :: r) (by simp)
    have e : minL (a :: b :: r) = min a (minL (b :: r)) := rfl
    rw [e]
    refine ⟨?_, fun y hy => ?_⟩
    · by_cases h : a ≤ minL (b :: r)
      · rw [show min a (minL (b :: r)) = a by omega]; exact List.mem_cons_self
      · rw [show min a (minL (b :: r)) = minL (b :: r) by omega]; exact List.mem_cons_of_mem _ h1
    · rcases List.mem_cons.mp hy with z | z
      · omega
      · have := h2 y z; omega
theorem maxL_is : ∀ {l : List Int}, l ≠ [] → maxL l ∈ l ∧ ∀ y ∈ l, y ≤ maxL l
  | [], h => (h rfl).elim
  | [a], _ => ⟨List.mem_cons_self, fun y hy => by rw [List.mem_singleton] at hy; rw [hy]; exact Int.le_refl a⟩
  | a :: b :: r, _ => by
    obtain ⟨h1, h2⟩ := maxL_is (l := b :: r) (by simp)
    have e : maxL (a :: b :: r) = max a (maxL (b :: r)) := rfl
    rw [e]
    refine ⟨?_, fun y hy => ?_⟩
    · by_cases h : maxL (b :: r) ≤ a
      · rw [show max a (maxL (b :: r)) = a by omega]; exact List.mem_cons_self
      · rw [show max a (maxL (b :: r)) = maxL (b :: r) by omega]; exact List.mem_cons_of_mem _ h1
    · rcases List.mem_cons.mp hy with z | z
      · omega
      · have := h2 y z; omega
theorem sortI_two2 (t u : Int) : SV.val (.list ((sortI [t, u]).map PyData.int)) = SV.val (.list [.int (min t u), .int (max t u)]) := by
  rw [sortI_two]
  by_cases h : t ≤ u
  · rw [if_pos h, if_pos h, show min t u = t by omega, show max t u = u by omega]; rfl
  · rw [if_neg h, if_neg h, show min t u = u by omega, show max t u = t by omega]; rfl
theorem ix2 {α : Type} [Inhabited α] {x y : α} {i : Int} (h : 0 ≤ i ∧ i < 2) : ixD [x, y] i = x ∨ ixD [x, y] i = y := by
  rcases (by omega : i = 0 ∨ i = 1) with z | z <;> subst z
  · exact .inl rfl
  · exact .inr rfl
theorem ix3 {α : Type} [Inhabited α] {x y z : α} {i : Int} (h : 0 ≤ i ∧ i < 3) : ixD [x, y, z] i = x ∨ ixD [x, y, z] i = y ∨ ixD [x, y, z] i = z := by
  rcases (by omega : i = 0 ∨ i = 1 ∨ i = 2) with z | z | z <;> subst z
  · exact .inl rfl
  · exact .inr (.inl rfl)
  · exact .inr (.inr rfl)
theorem ixD_mem {α : Type} [Inhabited α] {xs : List α} {i : Int} (h0 : 0 ≤ i) (h1 : i < xs.length) : ixD xs i ∈ xs := by
  rw [ixD_eq h0 h1, List.getD_eq_getElem?_getD, List.getElem?_eq_getElem (by omega)]
  exact List.getElem_mem _
theorem lk_at {α : Type} [Inhabited α] {f : α → PyData} {xs : List (Str × α)} {k : Str} (h : (lkS xs k).isSome = true) : lkK (svK (kvT f xs)) (.inr k) = some (.val (f ((lkS xs k).getD default))) := by
  rw [lk_T]
  cases q : lkS xs k with
  | none => rw [q] at h; cases h
  | some a => rfl
theorem dd_ok {α : Type} {f : α → PyData} {n : Nat} (hn : n ≤ 60) (h : ∀ x, dkD n (f x) = true) (xs : List (Str × α)) : ∀ kv ∈ kvT f xs, SeqAt.shaped kv.2 = true ∧ PyData.eqv kv.2 kv.2 = true := by
  intro kv hk
  unfold kvT at hk
  obtain ⟨p, _, rfl⟩ := List.mem_map.mp hk
  exact ⟨dk_shaped (h p.2) hn, dk_refl (h p.2)⟩
section
variable {X : Cx} {na : Nat} {sl sl' : Sl} {cs cs1 cs2 cs3 : Cs} {s t u : SV} {pos spos p : Pos} {x : Str} {E : DEnds} {N : List Str} {a b : Expr} {tg iter : Expr}
theorem ev_minL {ns : List Int} (hm : X.mg "min" = none) (ha : EV X na a sl cs s cs1) (hl : IsL cs1 s ((ns.map PyData.int).map SV.val)) (hn : ns ≠ []) (hc : X.calm = true := by rfl) (hg : Gl X "min" := by rfl) (hs : starEach [a] X.env = (false, eval a X.env) :: starEach [] X.env := by rfl) : EV X na (.Call (.Name "min" p) [a] [] pos) sl cs (.val (.int (minL ns))) cs1 :=
  ev_callB (cr_min hc) (by decide +kernel) hg hm (av_cons ha av_nil hs) (rc1 fun B G ps' H v hn2 C r1 Q q => by
    obtain ⟨l, vs, rfl, h1, h2⟩ := hl.sq C r1
    have e : vs = ns.map V.int := Reps.ints (Reps.ofVs h2)
    subst e
    refine ⟨l, ns, rfl, h1, List.length_pos_iff.mpr hn, fun m hm1 hm2 => ?_⟩
    obtain ⟨g1, g2⟩ := minL_is hn
    have : m = minL ns := Int.le_antisymm (hm2 _ g1) (g2 _ hm1)
    subst this
    exact q _ G ps' H C (Up.refl _ _) (Rep.int _)) (by decide) (by decide) hs
theorem ev_maxL {ns : List Int} (hm : X.mg "max" = none) (ha : EV X na a sl cs s cs1) (hl : IsL cs1 s ((ns.map PyData.int).map SV.val)) (hn : ns ≠ []) (hc : X.calm = true := by rfl) (hg : Gl X "max" := by rfl) (hs : starEach [a] X.env = (false, eval a X.env) :: starEach [] X.env := by rfl) : EV X na (.Call (.Name "max" p) [a] [] pos) sl cs (.val (.int (maxL ns))) cs1 :=
  ev_callB (cr_max hc) (by decide +kernel) hg hm (av_cons ha av_nil hs) (rc1 fun B G ps' H v hn2 C r1 Q q => by
    obtain ⟨l, vs, rfl, h1, h2⟩ := hl.sq C r1
    have e : vs = ns.map V.int := Reps.ints (Reps.ofVs h2)
    subst e
    refine ⟨l, ns, rfl, h1, List.length_pos_iff.mpr hn, fun m hm1 hm2 => ?_⟩
    obtain ⟨g1, g2⟩ := maxL_is hn
    have : m = maxL ns := Int.le_antisymm (g2 _ hm1) (hm2 _ g1)
    subst this
    exact q _ G ps' H C (Up.refl _ _) (Rep.int _)) (by decide) (by decide) hs
end
end DL
namespace DL
open PySem PySem.Spec PyProof.Rows L2
/-! ### texts -/
theorem ixD_bd {xs : List Int} {lo hi i : Int} (h : ∀ x ∈ xs, lo ≤ x ∧ x ≤ hi) (h0 : 0 ≤ i) (h1 : i < xs.length) : lo ≤ ixD xs i ∧ ixD xs i ≤ hi := h _ (ixD_mem h0 h1)
theorem ixD_bdS {xs : List Str} {lo hi : Nat} {i : Int} (h : ∀ x ∈ xs, lo ≤ x.length ∧ x.length ≤ hi) (h0 : 0 ≤ i) (h1 : i < xs.length) : lo ≤ (ixD xs i).length ∧ (ixD xs i).length ≤ hi := h _ (ixD_mem h0 h1)
/-- x n times -/
def strRep (x : Str) (n : Int) : Str := ⟨(List.replicate n.toNat x.cps).foldl (· ++ ·) #[]⟩
theorem fold_size (a : Array Nat) : ∀ (n : Nat) (acc : Array Nat), ((List.replicate n a).foldl (· ++ ·) acc).size = acc.size + n * a.size
  | 0, acc => by simp
  | n + 1, acc => by
    rw [List.replicate_succ, List.foldl_cons, fold_size a n, Array.size_append, Nat.add_mul]
    omega
theorem strRep_len (x : Str) (n : Int) : (strRep x n).length = n.toNat * x.length := by
  show ((List.replicate n.toNat x.cps).foldl (· ++ ·) #[]).size = n.toNat * x.cps.size
  rw [fold_size]
  simp
theorem op_mulS {X : Cx} : OpR X (binaryOp .Mult) (fun x y H Q => ∃ (z : Str) (k : Int), x = .str z ∧ y = .int k ∧ 2 ≤ k ∧ k ≤ 100 ∧ 0 < z.length ∧ z.length ≤ 1000 ∧ Q (.str (strRep z k)) H) := by
  intro pins s σ H x y v u Q I rx ry h
  obtain ⟨z, k, rfl, rfl, h1, h2, h3, h4, q⟩ := h
  obtain ⟨t, rfl⟩ := rx
  obtain ⟨t', rfl⟩ := ry
  have hk1 : ¬ k < 1 := by omega
  have hk2 : (k == 1 || z.length == 0) = false := by
    rw [Bool.or_eq_false_iff, beq_eq_false_iff_ne, beq_eq_false_iff_ne]
    omega
  refine PySem.P.mul_str (by rw [Bool.or_eq_false_iff, decide_eq_false_iff_not, decide_eq_false_iff_not]; omega) (fun _ _ => ?_) (fun _ _ => ?_) ?_
  · have : (2 ^ 63 - 1 : Int) / k ≥ (2 ^ 63 - 1) / 100 := Int.le_ediv_of_mul_le (by omega) (by
      have : (2 ^ 63 - 1 : Int) / 100 * k ≤ (2 ^ 63 - 1) / 100 * 100 := Int.mul_le_mul_of_nonneg_left h2 (by decide)
      omega)
    have e : (2 ^ 63 - 1 : Int) / 100 = 92233720368547758 := by decide
    omega
  · have : z.length * k.toNat ≤ 1000 * 100 := Nat.mul_le_mul h4 (by omega)
    exact decide_eq_false (by rw [sizeLine_eq]; omega)
  · rw [if_neg hk1, if_neg (by rw [hk2]; decide)]
    have hlen : (strRep z k).length ≤ sizeLine := by
      have : k.toNat * z.length ≤ 100 * 1000 := Nat.mul_le_mul (by omega) h4
      rw [strRep_len, sizeLine_eq]
      omega
    exact ⟨hlen, ⟨.str (strRep z k), H, I.tok _, ⟨_, rfl⟩, q⟩⟩
theorem lt_cps_asymm {a b : Str} (h1 : ltCps b.cps.toList a.cps.toList = false) (h2 : ltCps a.cps.toList b.cps.toList = false) : a = b := by
  rw [ltCps_eq, decide_eq_false_iff_not] at h1 h2
  have : a.cps.toList = b.cps.toList := List.le_antisymm (List.not_lt.mp h1) (List.not_lt.mp h2)
  cases a
  cases b
  congr 1
  exact Array.ext' this
def leS (a b : Str) : Bool := !ltCps b.cps.toList a.cps.toList
theorem leS_iff {a b : Str} : leS a b = true ↔ a.cps.toList ≤ b.cps.toList := by
  unfold leS
  rw [ltCps_eq, Bool.not_eq_true', decide_eq_false_iff_not]
  exact List.not_lt
theorem leS_trans {a b c : Str} (h1 : leS a b = true) (h2 : leS b c = true) : leS a c = true := leS_iff.mpr (List.le_trans (leS_iff.mp h1) (leS_iff.mp h2))
theorem leS_anti {a b : Str} (h1 : leS a b = true) (h2 : leS b a = true) : a = b := by
  have e := List.le_antisymm (leS_iff.mp h1) (leS_iff.mp h2)
  cases a
  cases b
  congr 1
  exact Array.ext' e
theorem leS_total (a b : Str) : (leS a b || leS b a) = true := by
  rw [Bool.or_eq_true, leS_iff, leS_iff]
  exact List.le_total _ _
def sortS (ks : List Str) : List Str := ks.mergeSort leS
theorem sortS_perm (ks : List Str) : (sortS ks).Perm ks := List.mergeSort_perm ks _
theorem sortS_srt (ks : List Str) : (sortS ks).Pairwise fun a b => leS a b = true := List.pairwise_mergeSort (le := leS) (fun _ _ _ => leS_trans) leS_total ks
theorem sortS_len (ks : List Str) : (sortS ks).length = ks.length := (sortS_perm ks).length_eq
theorem rising_pw : ∀ (p : Str) (l : List Str), risingS p l = true → (p :: l).Pairwise fun a b => leS a b = true
  | p, [], _ => List.pairwise_singleton _ _
  | p, x :: r, h => by
    have h' : (!ltCps x.cps.toList p.cps.toList && risingS x r) = true := h
    rw [Bool.and_eq_true] at h'
    have ih := rising_pw x r h'.2
    refine List.pairwise_cons.mpr ⟨fun y hy => ?_, ih⟩
    rcases List.mem_cons.mp hy with z | z
    · subst z
      exact h'.1
    · exact leS_trans h'.1 ((List.pairwise_cons.mp ih).1 y z)
theorem sortedS_pw : ∀ {l : List Str}, sortedS l = true → l.Pairwise fun a b => leS a b = true
  | [], _ => List.Pairwise.nil
  | x :: r, h => rising_pw x r h
theorem sortS_uniq {ks ys : List Str} (p : ys.Perm ks) (h : sortedS ys = true) : ys = sortS ks :=
  perm_sorted (le := fun a b => leS a b = true) (fun _ _ => leS_anti) (p.trans (sortS_perm ks).symm) (sortedS_pw h) (sortS_srt ks)
section
variable {X : Cx} {na : Nat} {sl sl' : Sl} {cs cs1 cs2 cs3 : Cs} {s t u : SV} {pos spos p : Pos} {x : Str} {E : DEnds} {N : List Str} {a b : Expr} {tg iter : Expr}
theorem ev_mulS {z : Str} {k : Int} (ha : EV X na a sl cs (.val (.str z)) cs1) (hb : EV X na b sl cs1 (.val (.int k)) cs2) (h : 2 ≤ k ∧ k ≤ 100) (hz : 0 < z.length ∧ z.length ≤ 1000) : EV X na (.BinOp a .Mult b pos) sl cs (.val (.str (strRep z k))) cs2 :=
  ev_op op_mulS ha hb fun B G ps H v w hn C h1 h2 Q q => ⟨z, k, Rep.strI h1, Rep.intI h2, h.1, h.2, hz.1, hz.2, q _ G ps H C (Up.refl _ _) (Rep.str _)⟩
theorem ev_addS {y z : Str} (ha : EV X na a sl cs (.val (.str y)) cs1) (hb : EV X na b sl cs1 (.val (.str z)) cs2) (h : y.length + z.length ≤ 1000000) : EV X na (.BinOp a .Add b pos) sl cs (.val (.str (y ++ z))) cs2 :=
  ev_op op_add_str ha hb fun B G ps H v w hn C h1 h2 Q q => ⟨y, z, Rep.strI h1, Rep.strI h2, by rw [sizeLine_eq]; omega, q _ G ps H C (Up.refl _ _) (Rep.str _)⟩
def chS (z : Str) (i : Int) : Str := ⟨#[(L2.atI z.cps.toList i).getD 0]⟩
theorem ev_ixS {z : Str} {i : Int} (ha : EV X na a sl cs (.val (.str z)) cs1) (hb : EV X na b sl cs1 (.val (.int i)) cs2) (h : 0 ≤ i ∧ i < z.length) (hz : z.length ≤ 1000000) (hs : PlainIx b := by exact fun _ _ => rfl) : EV X na (.Subscript a b pos) sl cs (.val (.str (chS z i))) cs2 :=
  ev_of (pe_ix ix_str pe_any pe_any hs) (de_op ha hb fun B G ps H v w hn C r1 r2 Q q => by
    have hl : z.cps.toList.length = z.length := Array.length_toList
    have e := at_in (xs := z.cps.toList) (i := i) (d := 0) h.1 (by rw [hl]; exact h.2)
    refine ⟨z, i, _, Rep.strI r1, Rep.intI r2, by rw [sizeLine_eq]; omega, e, ?_⟩
    have : chS z i = ⟨#[z.cps.toList.getD i.toNat 0]⟩ := by
      unfold chS
      rw [e]
      rfl
    rw [← this]
    exact q _ G ps H C (Up.refl _ _) (Rep.str _))
theorem ev_sortedDS {α : Type} {f : α → PyData} {kvs : List (Str × α)} (hm : X.mg "sorted" = none) (ha : EV X na a sl cs s cs1) (hd : IsD cs1 s (svK (kvT f kvs))) (h64 : kvs.length < 64) (hc : X.calm = true := by rfl) (hg : Gl X "sorted" := by rfl) (hs : starEach [a] X.env = (false, eval a X.env) :: starEach [] X.env := by rfl) : EV X na (.Call (.Name "sorted" p) [a] [] pos) sl cs (.val (.list ((sortS (kvs.map (·.1))).map PyData.str))) cs1 :=
  ev_callB (call_sortedD hc) (by decide +kernel) hg hm (av_cons ha av_nil hs) (rc1 fun B G ps' H v hn C r1 Q q => by
    obtain ⟨l, us, rfl, h1, h2⟩ := hd.at C r1
    refine ⟨l, us, kvs.map (·.1), rfl, .inl h1, ?_, by rw [List.length_map]; exact h64, fun ys d hp hs hd => ?_⟩
    · rw [lk_keys h2]
      unfold svK kvT
      rw [List.map_map, List.map_map, List.map_map]
      rfl
    · rw [sortS_uniq hp hs]
      exact C.newLst (Reps.ofStrs _) q d hd) (by decide) (by decide) hs
theorem s1_dputT {α : Type} {f : α → PyData} {o i v : Expr} {p2 : Pos} {n : Nat} {kvs : List (Str × α)} {k : Str} {y : α} {m : Nat} (hr : Room m X.A) (hv : EV X na v sl cs (.val (f y)) cs1) (ho : EV X na o sl cs1 (.cell n) cs1) (hi : EV X na i sl cs1 (.val (.str k)) cs1) (hc : cs1[n]? = some (.dct (svK (kvT f kvs)))) (hz : kvs.length ≤ 1000000) (nd : (kvs.map (·.1)).Nodup) (pc : PutC cs1 n (.dct (svK (kvT f (putSt kvs k y)))) cs2) (q : E.nx sl cs2)
    (hs : swapsWith v (some (.Subscript o i p2)) pos.line X.env = pure false := by rfl) : S1 X na (.Assign [.Subscript o i p2] v pos) sl cs E :=
  s1_dput hr hv ho hi hc (KeyOf.str k) (by rw [kvT_len]; exact hz) (svT_nd nd) (by rw [putS_T]; exact pc) q hs
end
theorem forL_elim {α σ ρ : Type} {mb : α → σ → (σ → ρ) → ρ} {mk : σ → ρ} {R : ρ} (J : List α → σ → Prop) (Z : Prop) : ∀ {es : List α} {s : σ}, forL mb mk es s = R → J es s →
    (∀ e rest s cont, e ∈ es → J (e :: rest) s → mb e s cont = R → (∃ s', cont s' = R ∧ J rest s') ∨ Z) → (∃ s, J [] s ∧ mk s = R) ∨ Z
  | [], s, h, hj, _ => .inl ⟨s, hj, h⟩
  | e :: es, s, h, hj, hs => by
    rcases hs e es s (forL mb mk es) List.mem_cons_self hj h with ⟨s', h', hj'⟩ | z
    · exact forL_elim J Z h' hj' fun e' rest s cont he => hs e' rest s cont (List.mem_cons_of_mem _ he)
    · exact .inr z
end DL
namespace DL
open PySem PySem.Spec PyProof.Rows L2
/-! ### dicts by ints -/
def lkI {α : Type} : List (Int × α) → Int → Option α
  | [], _ => none
  | (j, v) :: r, k => if j = k then some v else lkI r k
def putI {α : Type} : List (Int × α) → Int → α → List (Int × α)
  | [], k, v => [(k, v)]
  | (j, u) :: r, k, v => if j = k then (j, v) :: r else (j, u) :: putI r k v
def kvI {α : Type} (f : α → PyData) (ps : List (Int × α)) : List (Key × PyData) := ps.map fun p => (Sum.inl p.1, f p.2)
section
variable {α : Type} {f : α → PyData}
theorem putS_I (k : Int) (v : α) : ∀ ps : List (Int × α), putS (svK (kvI f ps)) (.inl k) (.val (f v)) = svK (kvI f (putI ps k v))
  | [] => rfl
  | (j, u) :: r => by
    show (if (Sum.inl j : Key) = .inl k then _ else _) = svK (kvI f (if j = k then (j, v) :: r else (j, u) :: putI r k v))
    by_cases h : j = k
    · rw [if_pos h, if_pos (by rw [h])]
      rfl
    · rw [if_neg h, if_neg (fun z => h (by cases z; rfl))]
      show (_ :: putS (svK (kvI f r)) (.inl k) (.val (f v))) = _
      rw [putS_I k v r]
      rfl
theorem lk_I (k : Int) : ∀ ps : List (Int × α), lkK (svK (kvI f ps)) (.inl k) = (lkI ps k).map fun a => .val (f a)
  | [] => rfl
  | (j, u) :: r => by
    show (if (Sum.inl j : Key) = .inl k then _ else lkK (svK (kvI f r)) (.inl k)) = (if j = k then some u else lkI r k).map fun a => .val (f a)
    by_cases h : j = k
    · rw [if_pos h, if_pos (by rw [h])]
      rfl
    · rw [if_neg h, if_neg (fun z => h (by cases z; rfl)), lk_I k r]
theorem putI_len (k : Int) (v : α) : ∀ ps : List (Int × α), (putI ps k v).length ≤ ps.length + 1
  | [] => Nat.le_refl _
  | (j, u) :: r => by
    show (if j = k then (j, v) :: r else (j, u) :: putI r k v).length ≤ r.length + 1 + 1
    have := putI_len k v r
    split
    · rw [List.length_cons]; omega
    · rw [List.length_cons]; omega
theorem putI_mem {k : Int} {v : α} : ∀ {ps : List (Int × α)} {q : Int × α}, q ∈ putI ps k v → q = (k, v) ∨ q ∈ ps
  | [], q, h => .inl (List.mem_singleton.mp h)
  | (j, u) :: r, q, h => by
    unfold putI at h
    by_cases e : j = k
    · rw [if_pos e] at h
      rcases List.mem_cons.mp h with z | z
      · exact .inl (by rw [z, e])
      · exact .inr (List.mem_cons_of_mem _ z)
    · rw [if_neg e] at h
      rcases List.mem_cons.mp h with z | z
      · exact .inr (by rw [z]; exact List.mem_cons_self)
      · exact (putI_mem z).imp id (List.mem_cons_of_mem _)
theorem putI_nd (k : Int) (v : α) : ∀ ps : List (Int × α), (ps.map (·.1)).Nodup → ((putI ps k v).map (·.1)).Nodup
  | [], _ => by show [k].Nodup; simp
  | (j, u) :: r, h => by
    show ((if j = k then (j, v) :: r else (j, u) :: putI r k v).map (·.1)).Nodup
    rw [List.map_cons, List.nodup_cons] at h
    split
    · rw [List.map_cons, List.nodup_cons]; exact h
    · rename_i hj
      rw [List.map_cons, List.nodup_cons]
      refine ⟨fun z => ?_, putI_nd k v r h.2⟩
      obtain ⟨q, hq, e⟩ := List.mem_map.mp z
      rcases putI_mem hq with rfl | hq
      · exact hj e.symm
      · exact h.1 (List.mem_map.mpr ⟨q, hq, e⟩)
theorem lkI_put (k : Int) (v : α) (j : Int) : ∀ ps : List (Int × α), lkI (putI ps k v) j = if k = j then some v else lkI ps j
  | [] => rfl
  | (i, u) :: r => by
    show lkI (if i = k then (i, v) :: r else (i, u) :: putI r k v) j = if k = j then some v else if i = j then some u else lkI r j
    by_cases h : i = k
    · subst h
      rw [if_pos rfl]
      show (if i = j then some v else lkI r j) = _
      by_cases e : i = j
      · rw [if_pos e, if_pos e]
      · rw [if_neg e, if_neg e, if_neg e]
    · rw [if_neg h]
      show (if i = j then some u else lkI (putI r k v) j) = _
      rw [lkI_put k v j r]
      by_cases e : i = j
      · subst e
        rw [if_pos rfl, if_neg (fun z => h z.symm), if_pos rfl]
      · rw [if_neg e, if_neg e]
theorem lkI_mem : ∀ {ps : List (Int × α)} {k : Int} {v : α}, lkI ps k = some v → (k, v) ∈ ps
  | [], _, _, h => by cases h
  | (i, u) :: r, k, v, h => by
    unfold lkI at h
    by_cases e : i = k
    · rw [if_pos e] at h
      cases h
      subst e
      exact List.mem_cons_self
    · rw [if_neg e] at h
      exact List.mem_cons_of_mem _ (lkI_mem h)
theorem lkI_some : ∀ {ps : List (Int × α)} {k : Int}, k ∈ ps.map (·.1) → (lkI ps k).isSome = true
  | [], _, h => nomatch h
  | (i, u) :: r, k, h => by
    unfold lkI
    by_cases e : i = k
    · rw [if_pos e]; rfl
    · rw [if_neg e]
      rw [List.map_cons, List.mem_cons] at h
      exact lkI_some (h.elim (fun z => (e z.symm).elim) id)
theorem kvI_len (ps : List (Int × α)) : (svK (kvI f ps)).length = ps.length := by unfold svK kvI; rw [List.length_map, List.length_map]
theorem svI_nd {ps : List (Int × α)} (h : (ps.map (·.1)).Nodup) : ((svK (kvI f ps)).map (·.1)).Nodup := by
  have e : (svK (kvI f ps)).map (·.1) = (ps.map (·.1)).map Sum.inl := by
    unfold svK kvI
    rw [List.map_map, List.map_map, List.map_map]
    rfl
  rw [e]
  exact List.Pairwise.map _ (fun a b hab z => hab (by cases z; rfl)) h
theorem lkI_at [Inhabited α] {xs : List (Int × α)} {k : Int} (h : (lkI xs k).isSome = true) : lkK (svK (kvI f xs)) (.inl k) = some (.val (f ((lkI xs k).getD default))) := by
  rw [lk_I]
  cases q : lkI xs k with
  | none => rw [q] at h; cases h
  | some a => rfl
end
section
variable {X : Cx} {na : Nat} {sl sl' : Sl} {cs cs1 cs2 cs3 : Cs} {s t u : SV} {pos spos p : Pos} {x : Str} {E : DEnds} {N : List Str} {a b : Expr} {tg iter : Expr}
theorem s1_dputI {α : Type} {f : α → PyData} {o i v : Expr} {p2 : Pos} {n : Nat} {kvs : List (Int × α)} {k : Int} {y : α} {m : Nat} (hr : Room m X.A) (hv : EV X na v sl cs (.val (f y)) cs1) (ho : EV X na o sl cs1 (.cell n) cs1) (hi : EV X na i sl cs1 (.val (.int k)) cs1) (hc : cs1[n]? = some (.dct (svK (kvI f kvs)))) (hz : kvs.length ≤ 1000000) (nd : (kvs.map (·.1)).Nodup) (pc : PutC cs1 n (.dct (svK (kvI f (putI kvs k y)))) cs2) (q : E.nx sl cs2)
    (hs : swapsWith v (some (.Subscript o i p2)) pos.line X.env = pure false := by rfl) : S1 X na (.Assign [.Subscript o i p2] v pos) sl cs E :=
  s1_dput hr hv ho hi hc (KeyOf.int k) (by rw [kvI_len]; exact hz) (svI_nd nd) (by rw [putS_I]; exact pc) q hs
/-! walking a dict's keys: it is locked as long -/
theorem iv_frz {k : Nat} {od : Obj} {us : List (Key × V)} {kvs : List (Key × SV)} (h : EV X na iter sl cs (.cell k) cs1) (hl : cs1[k]? = some (.frz od us kvs)) : IV X na tg iter sl cs (kvs.map fun kv => SV.val (kD kv.1)) (fun cs' => cs'[k]? = some (.frz od us kvs)) cs1 :=
  iv_of (pi_keys pe_any) fun B G ps σ H hn C S R r => h B G ps σ H hn C S _ fun v G1 ps1 H1 C1 u1 r1 => by
    obtain ⟨a, rfl, ea, h1, h2⟩ := C1.cellAt r1 hl
    have hlen : us.length = kvs.length := Paired.length h2
    refine ⟨a, od, rfl, .inl ⟨us, h1, r _ _ _ G1 ps1 H1 C1 u1 (by rw [List.length_map, ← hlen]; exact walk_keys) (fun G' ps' cs' H' C' u' g => (C'.cell k a _ (pre_get u'.p ea) g).1.1) ?_⟩⟩
    intro i H' x H'' G' ps' cs' y C' u' g
    obtain ⟨rfl, ky, w, e, rfl⟩ := y
    obtain ⟨⟨k2, s2⟩, es, ek, _⟩ := pd_getL h2 e
    have ek : ky = k2 := ek
    subst ek
    exact ⟨.val (kD ky), G', by rw [List.getElem?_map, es]; rfl, C', Up.refl _ _, rep_key ky, Same.refl _, fun _ z => .inl z⟩
theorem iv_frzI {α : Type} {f : α → PyData} {k : Nat} {od : Obj} {us : List (Key × V)} {ps : List (Int × α)} (h : EV X na iter sl cs (.cell k) cs1) (hl : cs1[k]? = some (.frz od us (svK (kvI f ps)))) : IV X na tg iter sl cs ((ps.map (·.1)).map fun i => SV.val (.int i)) (fun cs' => cs'[k]? = some (.frz od us (svK (kvI f ps)))) cs1 := by
  have := iv_frz (tg := tg) h hl
  unfold svK kvI at this ⊢
  rw [List.map_map, List.map_map] at this
  rw [List.map_map]
  exact this
theorem iv_frzT {α : Type} {f : α → PyData} {k : Nat} {od : Obj} {us : List (Key × V)} {ps : List (Str × α)} (h : EV X na iter sl cs (.cell k) cs1) (hl : cs1[k]? = some (.frz od us (svK (kvT f ps)))) : IV X na tg iter sl cs ((ps.map (·.1)).map fun i => SV.val (.str i)) (fun cs' => cs'[k]? = some (.frz od us (svK (kvT f ps)))) cs1 := by
  have := iv_frz (tg := tg) h hl
  unfold svK kvT at this ⊢
  rw [List.map_map, List.map_map] at this
  rw [List.map_map]
  exact this
theorem s1_lock {st : Stmt} {k : Nat} {kvs : List (Key × SV)} (hk : cs[k]? = some (.dct kvs))
    (h : ∀ (od : Obj) (us : List (Key × V)), S1 X na st sl (cs.set k (.frz od us kvs)) ⟨fun sl' cs' => cs'[k]? = some (.frz od us kvs) ∧ E.nx sl' (cs'.set k (.dct kvs)), fun s cs' => cs'[k]? = some (.frz od us kvs) ∧ E.rt s (cs'.set k (.dct kvs)), fun sl' cs' => cs'[k]? = some (.frz od us kvs) ∧ E.bk sl' (cs'.set k (.dct kvs)), fun sl' cs' => cs'[k]? = some (.frz od us kvs) ∧ E.ct sl' (cs'.set k (.dct kvs))⟩) : S1 X na st sl cs E :=
  s1_of (ps_lock ps_any) fun B G ps σ H hn C S D L => by
    obtain ⟨p, ep⟩ := C.addr hk
    obtain ⟨⟨us, hH, rus⟩, hB, hG⟩ := C.cell k p _ ep hk
    refine ⟨p, .dK us, hH, trivial, fun od => ?_⟩
    have C1 : Core X.K B G ps (cs.set k (.frz od us kvs)) (upd H p (.frz od (.dK us))) := C.put ep hk (by intro z; cases z) ⟨upd_same, rus⟩
    have back : ∀ {G' : Hp} {ps' : List Addr} {cs' : Cs} {H' : Hp}, Core X.K B G' ps' cs' H' → Up G ps G' ps' → cs'[k]? = some (.frz od us kvs) → H' p = some (.frz od (.dK us)) ∧ Core X.K B G' ps' (cs'.set k (.dct kvs)) (upd H' p (.dK us)) := fun {G' ps' cs' H'} C' u' g => by
      obtain ⟨h1, _, _⟩ := C'.cell k p _ (pre_get u'.p ep) g
      exact ⟨h1.1, C'.put (pre_get u'.p ep) g (by intro z; cases z) ⟨us, upd_same, h1.2⟩⟩
    refine h od us B G ps σ _ hn C1 S _ ⟨?_, ?_, ?_, ?_⟩
    · exact fun sl' cs' G' ps' σ' H' C' u' S' ⟨g, e⟩ => ⟨(back C' u' g).1, L.nx sl' _ G' ps' σ' _ (back C' u' g).2 u' S' e⟩
    · exact fun s' cs' G' ps' v' H' C' u' r' ⟨g, e⟩ => ⟨(back C' u' g).1, L.rt s' _ G' ps' v' _ (back C' u' g).2 u' r' e⟩
    · exact fun sl' cs' G' ps' σ' H' C' u' S' ⟨g, e⟩ => ⟨(back C' u' g).1, L.bk sl' _ G' ps' σ' _ (back C' u' g).2 u' S' e⟩
    · exact fun sl' cs' G' ps' σ' H' C' u' S' ⟨g, e⟩ => ⟨(back C' u' g).1, L.ct sl' _ G' ps' σ' _ (back C' u' g).2 u' S' e⟩
/-- d[k], d locked -/
theorem ev_dgetF {kn : Nat} {od : Obj} {us : List (Key × V)} {kvs : List (Key × SV)} {kd : PyData} {k : Key} {m : Nat} (hr : Room m X.A) (ha : EV X na a sl cs (.cell kn) cs1) (hb : EV X na b sl cs1 (.val kd) cs2) (hd : cs2[kn]? = some (.frz od us kvs)) (hk : KeyOf kd k) (hl : lkK kvs k = some t) (hs : NoSl b := by exact fun _ _ => rfl) : EV X na (.Subscript a b pos) sl cs t cs2 :=
  ev_of (pe_dget (by have := hr.un; omega) pe_any pe_any hs) fun B G ps σ H hn C S Q q => ha B G ps σ H hn C S _ fun v G1 ps1 H1 C1 u1 r1 => hb B G1 ps1 σ H1 hn C1 (Slots.mono u1 S) _ fun w G2 ps2 H2 C2 u2 r2 => by
    obtain ⟨pa, rfl, ea, h1, h2⟩ := C2.cellAt (RepV.mono u2 r1) hd
    obtain ⟨z, e1, e2⟩ := lk_some h2 hl
    refine ⟨pa, z, rfl, ?_, q z G2 ps2 H2 C2 (u1.trans u2) e2⟩
    rw [hk.v r2]
    exact .inl ⟨us, k, .inr ⟨od, h1⟩, rfl, e1.symm⟩
theorem ev_extT {α : Type} {f : α → PyData} {l m : List α} {o e : Expr} {apos : Pos} {k j : Nat} {ys : List SV} (ho : EV X na o sl cs (.cell k) cs1) (he : EV X na e sl cs1 (.cell j) cs2) (hc1 : cs1[k]? = some (.lst ys)) (hc : cs2[k]? = some (.lst ((l.map f).map SV.val))) (hj : cs2[j]? = some (.lst ((m.map f).map SV.val))) (pc : PutC cs2 k (.lst (((l ++ m).map f).map SV.val)) cs3) (hz : l.length + m.length ≤ 1000000)
    (hs : starEach [e] X.env = (false, eval e X.env) :: starEach [] X.env := by rfl)
    (hbase : attributeBase o "extend" X.env (eval o X.env) = eval o X.env := by rfl) (hfew : ((backTo pos (starEach (e :: []) X.env)).all (fun x => !x.1) && (backToKw pos (keywordEach [] X.env)).all (fun x => x.1.isSome)
      && decide ((e :: []).length + ([] : List Keyword).length + (if ([] : List Keyword).isEmpty then 0 else 1) < 30)) = true := by rfl)
    (hline : (apos.endLine == pos.line) = true := by rfl) (hplain : (backTo pos (starEach [] X.env)).any (·.1) = false := by rfl) : EV X na (.Call (.Attribute o "extend" apos) [e] [] pos) sl cs (.val .none) cs3 :=
  ev_of (pe_bm PySem.F.plainAttrs_list PySem.F.slot_list_extend PySem.F.type_list_extend mt_extend pe_any pa_any hbase hfew hline hs hplain) fun B G ps σ H hn C S Q q => ho B G ps σ H hn C S _ fun v G1 ps1 H1 C1 u1 r1 => by
    obtain ⟨a, ea, rfl⟩ := r1
    obtain ⟨ws, hw, _⟩ := (C1.cell k a _ ea hc1).1
    refine ⟨.inl ⟨rfl, ws, SqL.of hw⟩, av_cons he av_nil hs B G1 ps1 σ H1 hn C1 (Slots.mono u1 S) _ fun vs G2 ps2 H2 C2 u2 r2 => ?_⟩
    cases r2 with
    | cons r3 r4 =>
      cases r4
      obtain ⟨b, eb, rfl⟩ := r3
      have ea2 := pre_get u2.p ea
      obtain ⟨zs, hz2, rz⟩ := (C2.cell k a _ ea2 hc).1
      obtain ⟨ms, hm2, rm⟩ := (C2.cell j b _ eb hj).1
      have hlz : zs.length = l.length := by rw [Paired.length rz, List.length_map, List.length_map]
      have hlm : ms.length = m.length := by rw [Paired.length rm, List.length_map, List.length_map]
      rw [List.map_append, List.map_append] at pc
      rw [pc.at] at q
      exact ⟨a, b, zs, ms, rfl, rfl, hz2, hm2, by rw [hlz, hlm, sizeLine_eq]; omega, q _ G2 ps2 _ (C2.put ea2 hc (by intro z; cases z) ⟨_, upd_same, pd_app rz rm⟩) (u1.trans u2) Rep.non⟩
end
end DL
namespace DL
open PySem PySem.Spec PyProof.Rows L2
/-! ### something or None -/
def optD {α : Type} (f : α → PyData) : Option α → PyData
  | none => .none
  | some x => f x
theorem optD_some {α : Type} [Inhabited α] {f : α → PyData} {o : Option α} (h : o.isSome = true) : SV.val (optD f o) = SV.val (f (o.getD default)) := by
  cases o with
  | none => cases h
  | some x => rfl
/-! ### each once -/
def nubL {α : Type} [DecidableEq α] : List α → List α
  | [] => []
  | a :: r => if a ∈ r then nubL r else a :: nubL r
theorem nubL_mem {α : Type} [DecidableEq α] : ∀ (l : List α) (x : α), x ∈ nubL l ↔ x ∈ l
  | [], _ => Iff.rfl
  | a :: r, x => by
    unfold nubL
    split
    · rename_i h
      rw [nubL_mem r, List.mem_cons]
      exact ⟨.inr, fun z => z.elim (fun z => z ▸ h) id⟩
    · rw [List.mem_cons, nubL_mem r, List.mem_cons]
theorem nubL_nd {α : Type} [DecidableEq α] : ∀ (l : List α), (nubL l).Nodup
  | [] => List.Pairwise.nil
  | a :: r => by
    unfold nubL
    split
    · exact nubL_nd r
    · rename_i h
      exact List.nodup_cons.mpr ⟨fun z => h ((nubL_mem r a).mp z), nubL_nd r⟩
theorem nubL_self {α : Type} [DecidableEq α] : ∀ {l : List α}, l.Nodup → nubL l = l
  | [], _ => rfl
  | a :: r, h => by
    rw [List.nodup_cons] at h
    unfold nubL
    rw [if_neg h.1, nubL_self h.2]
section
variable {X : Cx} {na : Nat} {sl sl' : Sl} {cs cs1 cs2 cs3 cs4 : Cs} {s t u : SV} {pos spos p pos2 p2 : Pos} {x : Str} {E : DEnds} {N : List Str} {a b : Expr} {tg iter : Expr}
/-! ### lists -/
theorem s1_lputT {α : Type} {f : α → PyData} {o i v : Expr} {p2 : Pos} {k : Nat} {l : List α} {y : α} {z : Int} (hv : EV X na v sl cs (.val (f y)) cs1) (ho : EV X na o sl cs1 (.cell k) cs2) (hi : EV X na i sl cs2 (.val (.int z)) cs2) (hc : cs2[k]? = some (.lst ((l.map f).map SV.val))) (h0 : 0 ≤ z) (h1 : z < l.length) (pc : PutC cs2 k (.lst (((l.set z.toNat y).map f).map SV.val)) cs3) (q : E.nx sl cs3)
    (hs : swapsWithSole [.Subscript o i p2] v pos.line X.env = pure false := by rfl) (hw : swappedStores [.Subscript o i p2] v X.env = pure none := by rfl)
    (ha1 : (assignEach [.Subscript o i p2] X.env).map (·.2) = [assign (.Subscript o i p2) X.env] := by rfl)
    (ha : ∀ v, assign (.Subscript o i p2) X.env v = (do
      let ov ← holding [v] (eval o X.env)
      let iv ← holding [v, ov] (eval i X.env)
      standAt p2
      holding [v, ov, iv] (setItem ov iv v)
      release [v, ov, iv] []) := by intro _; rfl) : S1 X na (.Assign [.Subscript o i p2] v pos) sl cs E := by
  refine s1_lput (j := z.toNat) hv ho hi hc ?_ ?_ q hs hw ha1 ha
  · rw [List.length_map, List.length_map]
    unfold L2.ixN
    rw [if_pos h0, if_pos h1]
  · rw [List.map_set, List.map_set] at pc
    exact pc
theorem ev_popT {α : Type} [Inhabited α] {f : α → PyData} {l : List α} {o e : Expr} {apos : Pos} {k : Nat} {z : Int} {ys : List SV} (ho : EV X na o sl cs (.cell k) cs1) (he : EV X na e sl cs1 (.val (.int z)) cs2) (hc1 : cs1[k]? = some (.lst ys)) (hc : cs2[k]? = some (.lst ((l.map f).map SV.val))) (h0 : 0 ≤ z) (h1 : z < l.length) (hl : l.length ≤ 1000000) (pc : PutC cs2 k (.lst (((l.eraseIdx z.toNat).map f).map SV.val)) cs3)
    (hs : starEach [e] X.env = (false, eval e X.env) :: starEach [] X.env := by rfl)
    (hbase : attributeBase o "pop" X.env (eval o X.env) = eval o X.env := by rfl) (hfew : ((backTo pos (starEach (e :: []) X.env)).all (fun x => !x.1) && (backToKw pos (keywordEach [] X.env)).all (fun x => x.1.isSome)
      && decide ((e :: []).length + ([] : List Keyword).length + (if ([] : List Keyword).isEmpty then 0 else 1) < 30)) = true := by rfl)
    (hline : (apos.endLine == pos.line) = true := by rfl) (hplain : (backTo pos (starEach [] X.env)).any (·.1) = false := by rfl) : EV X na (.Call (.Attribute o "pop" apos) [e] [] pos) sl cs (.val (f (ixD l z))) cs3 :=
  ev_of (pe_bm PySem.F.plainAttrs_list PySem.F.slot_list_pop PySem.F.type_list_pop mt_popAt pe_any pa_any hbase hfew hline hs hplain) fun B G ps σ H hn C S Q q => ho B G ps σ H hn C S _ fun v G1 ps1 H1 C1 u1 r1 => by
    obtain ⟨ad, ea, rfl⟩ := r1
    obtain ⟨ws, hw, _⟩ := (C1.cell k ad _ ea hc1).1
    refine ⟨.inl ⟨rfl, ws, SqL.of hw⟩, av_cons he av_nil hs B G1 ps1 σ H1 hn C1 (Slots.mono u1 S) _ fun vs G2 ps2 H2 C2 u2 r2 => ?_⟩
    cases r2 with
    | cons r3 r4 =>
      cases r4
      cases (r3 : Rep _ _ _ _)
      have ea2 := pre_get u2.p ea
      obtain ⟨zs, hz2, rz⟩ := (C2.cell k ad _ ea2 hc).1
      have hlz : zs.length = l.length := by rw [Paired.length rz, List.length_map, List.length_map]
      have hlt : z.toNat < l.length := by omega
      obtain ⟨y, ey, ry⟩ := pd_get rz (show ((l.map f).map SV.val)[z.toNat]? = some (.val (f l[z.toNat])) by rw [List.getElem?_map, List.getElem?_map, List.getElem?_eq_getElem hlt]; rfl)
      have eix : ixD l z = l[z.toNat] := by
        rw [ixD_eq h0 h1, List.getD_eq_getElem?_getD, List.getElem?_eq_getElem hlt]
        rfl
      rw [pc.at] at q
      rw [eix] at q
      have rz2 : RepVs X.K G2 ps2 (zs.eraseIdx z.toNat) (((l.eraseIdx z.toNat).map f).map SV.val) := by
        rw [List.eraseIdx_eq_take_drop_succ, List.eraseIdx_eq_take_drop_succ, List.map_append, List.map_append, List.map_take, List.map_drop, List.map_take, List.map_drop]
        exact pd_app (pd_take _ rz) (pd_drop _ rz)
      refine ⟨ad, zs, z, z.toNat, y, rfl, rfl, hz2, by omega, by omega, by rw [seqIndex_of h0 (by rw [hlz]; exact h1)], ey, ?_⟩
      exact q _ G2 ps2 _ (C2.put ea2 hc (by intro z; cases z) ⟨_, upd_same, rz2⟩) (u1.trans u2) ry
theorem ev_insT {α : Type} {f : α → PyData} {l : List α} {y : α} {o e d : Expr} {apos : Pos} {k : Nat} {z : Int} {ys : List SV} (ho : EV X na o sl cs (.cell k) cs1) (he : EV X na e sl cs1 (.val (.int z)) cs2) (hd : EV X na d sl cs2 (.val (f y)) cs3) (hc1 : cs1[k]? = some (.lst ys)) (hc : cs3[k]? = some (.lst ((l.map f).map SV.val))) (h0 : 0 ≤ z) (h1 : z ≤ l.length) (hl : l.length ≤ 1000000) (pc : PutC cs3 k (.lst (((l.take z.toNat ++ [y] ++ l.drop z.toNat).map f).map SV.val)) cs4)
    (hs : starEach [e, d] X.env = (false, eval e X.env) :: starEach [d] X.env := by rfl) (hs2 : starEach [d] X.env = (false, eval d X.env) :: starEach [] X.env := by rfl)
    (hbase : attributeBase o "insert" X.env (eval o X.env) = eval o X.env := by rfl) (hfew : ((backTo pos (starEach (e :: [d]) X.env)).all (fun x => !x.1) && (backToKw pos (keywordEach [] X.env)).all (fun x => x.1.isSome)
      && decide ((e :: [d]).length + ([] : List Keyword).length + (if ([] : List Keyword).isEmpty then 0 else 1) < 30)) = true := by rfl)
    (hline : (apos.endLine == pos.line) = true := by rfl) (hplain : (backTo pos (starEach [d] X.env)).any (·.1) = false := by rfl) : EV X na (.Call (.Attribute o "insert" apos) [e, d] [] pos) sl cs (.val .none) cs4 :=
  ev_of (pe_bm PySem.F.plainAttrs_list PySem.F.slot_list_insert PySem.F.type_list_insert mt_insert pe_any pa_any hbase hfew hline hs hplain) fun B G ps σ H hn C S Q q => ho B G ps σ H hn C S _ fun v G1 ps1 H1 C1 u1 r1 => by
    obtain ⟨ad, ea, rfl⟩ := r1
    obtain ⟨ws, hw, _⟩ := (C1.cell k ad _ ea hc1).1
    refine ⟨.inl ⟨rfl, ws, SqL.of hw⟩, av_cons he (av_cons hd av_nil hs2) hs B G1 ps1 σ H1 hn C1 (Slots.mono u1 S) _ fun vs G2 ps2 H2 C2 u2 r2 => ?_⟩
    cases r2 with
    | cons r3 r4 =>
      cases r4 with
      | cons r5 r6 =>
        cases r6
        cases (r3 : Rep _ _ _ _)
        have ea2 := pre_get u2.p ea
        obtain ⟨zs, hz2, rz⟩ := (C2.cell k ad _ ea2 hc).1
        have hlz : zs.length = l.length := by rw [Paired.length rz, List.length_map, List.length_map]
        rw [pc.at] at q
        refine ⟨ad, zs, z, _, rfl, rfl, hz2, by rw [hlz, sizeLine_eq]; omega, h0, by omega, ?_⟩
        refine q _ G2 ps2 _ (C2.put ea2 hc (by intro z; cases z) ⟨_, upd_same, ?_⟩) (u1.trans u2) Rep.non
        rw [List.map_append, List.map_append, List.map_append, List.map_append, List.map_take, List.map_drop, List.map_take, List.map_drop]
        exact pd_app (pd_app (pd_take _ rz) (.cons r5 .nil)) (pd_drop _ rz)
end
end DL
namespace DL
open PySem PySem.Spec PyProof.Rows L2
/-- when equality of data is equality -/
def EqvIs {α : Type} [DecidableEq α] (f : α → PyData) : Prop := ∀ a b, PyData.eqv (f a) (f b) = decide (a = b)
theorem eqv_int : EqvIs PyData.int := fun a b => by
  show (a == b) = decide (a = b)
  rw [Bool.eq_iff_iff, beq_iff_eq, decide_eq_true_eq]
theorem eqv_str : EqvIs PyData.str := fun a b => by
  show (a == b) = decide (a = b)
  rw [Bool.eq_iff_iff, beq_iff_eq, decide_eq_true_eq]
abbrev tieD (q : Int × Int × Int) : PyData := .tuple [.int q.1, .int q.2.1, .int q.2.2]
theorem eqv_tie : EqvIs tieD := fun a b => by
  have e : PyData.eqv (tieD a) (tieD b) = ((a.1 == b.1) && ((a.2.1 == b.2.1) && ((a.2.2 == b.2.2) && true))) := by simp [tieD, PyData.eqv, PyData.eqvAll]
  rw [e, Bool.eq_iff_iff, decide_eq_true_eq, Bool.and_eq_true, Bool.and_eq_true, Bool.and_eq_true, beq_iff_eq, beq_iff_eq, beq_iff_eq]
  constructor
  · rintro ⟨h1, h2, h3, _⟩
    exact Prod.ext h1 (Prod.ext h2 h3)
  · rintro rfl
    exact ⟨rfl, rfl, rfl, rfl⟩
theorem any_is {α : Type} [DecidableEq α] {f : α → PyData} (h : EqvIs f) (y : α) (l : List α) : ((l.map f).any fun z => PyData.eqv z (f y)) = decide (y ∈ l) := by
  rw [List.any_map, Bool.eq_iff_iff, List.any_eq_true, decide_eq_true_eq]
  constructor
  · rintro ⟨z, hz, e⟩
    have e : PyData.eqv (f z) (f y) = true := e
    rw [h, decide_eq_true_eq] at e
    exact e ▸ hz
  · intro hy
    exact ⟨y, hy, by show PyData.eqv (f y) (f y) = true; rw [h]; exact decide_eq_true rfl⟩
section
variable {X : Cx} {na : Nat} {sl sl' : Sl} {cs cs1 cs2 cs3 cs4 : Cs} {s t u : SV} {pos spos p pos2 p2 p3 p4 : Pos} {x : Str} {E : DEnds} {N : List Str} {a b : Expr} {tg iter : Expr}
theorem rep_one {α : Type} (n : Nat) (x : α) : (List.replicate n [x]).flatten = List.replicate n x := by
  induction n with
  | zero => rfl
  | succ n ih => rw [List.replicate_succ, List.flatten_cons, ih]; rfl
/-- [y] * n: a new cell -/
theorem ev_repT {α : Type} {f : α → PyData} {y : α} {n : Int} {j m : Nat} (ha : EV X na a sl cs (.cell j) cs1) (hb : EV X na b sl cs1 (.val (.int n)) cs2) (hc : cs2[j]? = some (.lst [.val (f y)])) (h0 : 0 ≤ n) (h1 : n ≤ 1000000) (ac : AppC cs2 (.lst (((List.replicate n.toNat y).map f).map SV.val)) m cs3) : EV X na (.BinOp a .Mult b pos) sl cs (.cell m) cs3 :=
  ev_op op_rep ha hb fun B G ps H v w hn C r1 r2 Q q => by
    obtain ⟨pa, ea, rfl⟩ := r1
    obtain ⟨ws, hw, rw'⟩ := (C.cell j pa _ ea hc).1
    have hl : ws.length = 1 := Paired.length rw'
    refine ⟨pa, n, ws, rfl, Rep.intI r2, hw, by omega, by omega, by rw [hl, sizeLine_eq]; omega, ?_⟩
    match ws, hl, rw', hw with
    | [w0], _, .cons r0 .nil, _ =>
      refine C.newCell ac (fun q hq => ⟨_, upd_same, ?_⟩) fun v' G' ps' H' C' u' r' => q v' G' ps' H' C' u' r'
      rw [rep_one, List.map_replicate, List.map_replicate]
      have r1 : RepV X.K G (ps ++ [q]) w0 (.val (f y)) := RepV.mono ⟨Same.refl _, List.prefix_append _ _⟩ r0
      generalize n.toNat = k
      induction k with
      | zero => exact .nil
      | succ k ih => exact .cons r1 ih
/-- xs[:k] -/
theorem ev_slTo {ds : List PyData} {k : Int} (ha : EV X na a sl cs s cs1) (hb : EV X na b sl cs1 (.val (.int k)) cs2) (hl : IsL cs2 s (ds.map SV.val)) (h0 : 0 ≤ k) (h1 : k ≤ ds.length) : EV X na (.Subscript a (.Slice none (some b) none p2) pos) sl cs (.val (.list (ds.take k.toNat))) cs2 :=
  ev_of (pe_slice sl_list pe_any po_none (po_some pe_any)) fun B G ps σ H hn C S Q q => ha B G ps σ H hn C S _ fun v G1 ps1 H1 C1 u1 r1 => hb B G1 ps1 σ H1 hn C1 (Slots.mono u1 S) _ fun w G2 ps2 H2 C2 u2 r2 => by
    obtain ⟨l, vs, rfl, h3, h2⟩ := hl.sq C2 (RepV.mono u2 r1)
    have k1 := Reps.ofVs h2
    have hlen : vs.length = ds.length := k1.length
    have e : cutV vs none (some k) = vs.take k.toNat := by
      have hk : k = ((k.toNat : Nat) : Int) := by omega
      unfold cutV
      rw [HT.sIx_none, hk, HT.sIx_nat, Nat.min_eq_left (by omega), List.drop_zero, Nat.sub_zero]
      rfl
    refine ⟨k, Rep.intI r2, l, vs, rfl, h3, ?_⟩
    rw [e]
    exact C2.newLst (Reps.take _ k1) fun v G3 ps3 H3 C3 u3 => q v G3 ps3 H3 C3 ((u1.trans u2).trans u3)
/-- xs[k:] -/
theorem ev_slFr {ds : List PyData} {k : Int} (ha : EV X na a sl cs s cs1) (hb : EV X na b sl cs1 (.val (.int k)) cs2) (hl : IsL cs2 s (ds.map SV.val)) (h0 : 0 ≤ k) : EV X na (.Subscript a (.Slice (some b) none none p2) pos) sl cs (.val (.list (ds.drop k.toNat))) cs2 := by
  have hk : k = ((k.toNat : Nat) : Int) := by omega
  rw [hk] at hb
  exact ev_slFrom ha hb hl p2
/-- xs[::-1] -/
theorem ev_slRev {ds : List PyData} {k : Nat} (ha : EV X na a sl cs s cs1) (hl : IsL cs1 s (ds.map SV.val)) : EV X na (.Subscript a (.Slice none none (some (.UnaryOp .USub (.Constant (.int 1) k p2) p3)) p4) pos) sl cs (.val (.list ds.reverse)) cs1 :=
  ev_of (pe_revL pe_any) fun B G ps σ H hn C S Q q => ha B G ps σ H hn C S _ fun v G1 ps1 H1 C1 u1 r1 => by
    obtain ⟨l, vs, rfl, h3, h2⟩ := hl.sq C1 r1
    exact ⟨l, vs, rfl, h3, C1.newLst (Reps.reverse (Reps.ofVs h2)) fun v G3 ps3 H3 C3 u3 => q v G3 ps3 H3 C3 (u1.trans u3)⟩
/-- x in xs, deep -/
theorem room_65 {A : Around} {k : Nat} (hr : Room k A) : A.units + 65 < cLine := by have := hr.un; omega
theorem rv_inD {K : PySem.W.Frag} {d : PyData} {ds : List PyData} (hd : IsDat cs s d) (he : IsDat cs t (.list ds)) (sd : SeqAt.shaped d = true) (se : SeqAt.shaped (.list ds) = true) : RV K na (rInD K) s t cs (.val (.bool (ds.any fun z => PyData.eqv z d))) cs := fun B G ps H v w hn C r1 r2 Q q =>
  ⟨d, ds, IsDat.dp C r1 hd (SeqAt.canLay_of_shaped sd), IsDat.dp C r2 he (SeqAt.canLay_of_shaped se), sd, se, q _ G ps H C (Up.refl _ _) (Rep.bl _)⟩
theorem rv_ninD {K : PySem.W.Frag} {d : PyData} {ds : List PyData} (hd : IsDat cs s d) (he : IsDat cs t (.list ds)) (sd : SeqAt.shaped d = true) (se : SeqAt.shaped (.list ds) = true) : RV K na (rNotInD K) s t cs (.val (.bool (!ds.any fun z => PyData.eqv z d))) cs := fun B G ps H v w hn C r1 r2 Q q =>
  ⟨d, ds, IsDat.dp C r1 hd (SeqAt.canLay_of_shaped sd), IsDat.dp C r2 he (SeqAt.canLay_of_shaped se), sd, se, q _ G ps H C (Up.refl _ _) (Rep.bl _)⟩
theorem tv_inT {α : Type} [DecidableEq α] {f : α → PyData} {y : α} {l : List α} {k : Nat} (hr : Room k X.A) (ha : EV X na a sl cs (.val (f y)) cs1) (hb : EV X na b sl cs1 (.val (.list (l.map f))) cs2) (h : EqvIs f) (sd : SeqAt.shaped (f y) = true) (se : SeqAt.shaped (.list (l.map f)) = true) (hm : behindInMarks .In b = false := by rfl) : TV X na (.Compare a [.In] [b] pos) sl cs (decide (y ∈ l)) cs2 := by
  have := tv_cmp (pos := pos) (op_inD (room_65 hr)) hm ha hb (rv_inD IsDat.val IsDat.val sd se)
  rwa [any_is h] at this
theorem tv_ninT {α : Type} [DecidableEq α] {f : α → PyData} {y : α} {l : List α} {k : Nat} (hr : Room k X.A) (ha : EV X na a sl cs (.val (f y)) cs1) (hb : EV X na b sl cs1 (.val (.list (l.map f))) cs2) (h : EqvIs f) (sd : SeqAt.shaped (f y) = true) (se : SeqAt.shaped (.list (l.map f)) = true) (hm : behindInMarks .NotIn b = false := by rfl) : TV X na (.Compare a [.NotIn] [b] pos) sl cs (!decide (y ∈ l)) cs2 := by
  have := tv_cmp (pos := pos) (op_notInD (room_65 hr)) hm ha hb (rv_ninD IsDat.val IsDat.val sd se)
  rwa [any_is h] at this
theorem dk_list {α : Type} {f : α → PyData} {n : Nat} (hn : n + 1 ≤ 60) (h : ∀ x, dkD n (f x) = true) (l : List α) : SeqAt.shaped (.list (l.map f)) = true := by
  refine dk_shaped (n := n + 1) ?_ hn
  show (l.map f).all (dkD n) = true
  rw [List.all_eq_true]
  intro d hd
  obtain ⟨x, _, rfl⟩ := List.mem_map.mp hd
  exact h x
/-! len(set(xs)), xs a list of ties -/
def rLenTO (K : PySem.W.Frag) (P : Program) (w : World) : List V → Hp → VK → Prop := fun vs H Q => ∃ (a : Addr) (L : List (Addr × List Int)), vs = [V.ref a] ∧ H a = some (SetTO P w a L) ∧ (∀ p ∈ L, SqT K H p.1 (p.2.map V.int)) ∧ ((L.map (·.2)).Nodup → Q (.int (L.length : Nat)) H)
theorem cr_lenTO : CallR X (.builtin "len") (rLenTO X.K X.prog X.w) := by
  intro pins s σ H vs us Q I r h
  obtain ⟨a, L, rfl, ha, hk, q⟩ := h
  have R0 : SetT0 X.prog X.w s.heap a L := (I.hok a _ ha).1
  obtain ⟨es, ep, t, R⟩ := R0.full fun p hp => I.isT (hk p hp)
  obtain ⟨o, ho, hex, hd⟩ := R.ob
  have hsz : es.size = L.length := R.size
  have few := R.few
  rw [Vals.ref1 r]
  exact call_len_set ho hex hd R.fits (by rw [hsz]; omega) ⟨.int (L.length : Nat), H, I.tok _, ⟨_, by rw [hsz]⟩, q R.nd⟩
def tie3 (q : Int × Int × Int) : List Int := [q.1, q.2.1, q.2.2]
theorem reps_ties {K : PySem.W.Frag} {G : Hp} : ∀ {vs : List V} {l : List (Int × Int × Int)}, Reps K G vs (l.map tieD) → ∃ ks : List (Addr × List Int), vs = ks.map (fun p => V.ref p.1) ∧ ks.map (·.2) = l.map tie3 ∧ ∀ p ∈ ks, SqT K G p.1 (p.2.map V.int)
  | _, [], h => by cases h; exact ⟨[], rfl, rfl, fun _ h => nomatch h⟩
  | _, q :: l, h => by
    cases h with
    | cons r rr =>
      obtain ⟨ks, h1, h2, h3⟩ := reps_ties rr
      obtain ⟨a, ws, rfl, g1, g2⟩ := Rep.tupI r
      have e : ws = (tie3 q).map V.int := Reps.ints (ns := tie3 q) g2
      subst e
      refine ⟨(a, tie3 q) :: ks, by rw [h1]; rfl, by rw [List.map_cons, h2]; rfl, fun p hp => ?_⟩
      rcases List.mem_cons.mp hp with rfl | hp
      · exact g1
      · exact h3 p hp
theorem tie3_inj {a b : Int × Int × Int} (h : tie3 a = tie3 b) : a = b := by
  unfold tie3 at h
  injection h with h1 h2
  injection h2 with h2 h3
  injection h3 with h3 _
  exact Prod.ext h1 (Prod.ext h2 h3)
theorem nub_count {l : List (Int × Int × Int)} {L : List (List Int)} (nd : L.Nodup) (h1 : ∀ x ∈ L, x ∈ l.map tie3) (h2 : ∀ x ∈ l.map tie3, x ∈ L) : L.length = (nubL l).length := by
  have nd2 : ((nubL l).map tie3).Nodup := List.Pairwise.map _ (fun a b hab z => hab (tie3_inj z)) (nubL_nd l)
  have p : L.Perm ((nubL l).map tie3) := (List.perm_ext_iff_of_nodup nd nd2).mpr fun x => by
    constructor
    · intro hx
      obtain ⟨q, hq, e⟩ := List.mem_map.mp (h1 x hx)
      exact List.mem_map.mpr ⟨q, (nubL_mem l q).mpr hq, e⟩
    · intro hx
      obtain ⟨q, hq, e⟩ := List.mem_map.mp hx
      exact h2 x (List.mem_map.mpr ⟨q, (nubL_mem l q).mp hq, e⟩)
  rw [p.length_eq, List.length_map]
theorem ev_lenSet {l : List (Int × Int × Int)} {k : Nat} (hr : Room k X.A) (hm : X.mg "len" = none) (hm2 : X.mg "set" = none) (ha : EV X na a sl cs s cs1) (hl : IsL cs1 s ((l.map tieD).map SV.val)) (few : l.length < 64) (hc : X.calm = true := by rfl) (hg : Gl X "len" := by rfl) (hg2 : Gl X "set" := by rfl)
    (hs : starEach [a] X.env = (false, eval a X.env) :: starEach [] X.env := by rfl) (hs2 : starEach [.Call (.Name "set" p2) [a] [] pos2] X.env = (false, eval (.Call (.Name "set" p2) [a] [] pos2) X.env) :: starEach [] X.env := by rfl)
    (hpl : (backTo pos2 (starEach [] X.env)).any (·.1) = false := by rfl) (hpl2 : (backTo pos (starEach [] X.env)).any (·.1) = false := by rfl) :
    EV X na (.Call (.Name "len" p) [.Call (.Name "set" p2) [a] [] pos2] [] pos) sl cs (.val (.int ((nubL l).length : Nat))) cs1 := by
  have hu : X.A.units + 64 < cLine := by have := room_65 hr; omega
  have inner : PE X (.Call (.Name "set" p2) [a] [] pos2) (tCB (rSetOfT X.K X.prog X.w) (tCons (anyE X a) tNil)) := pe_callTy (cr_setOfT hc hu) hg2 hm2 (by decide +kernel) (pa_cons pe_any pa_nil hs) (by decide) (by decide) hs hpl
  refine ev_of (pe_callB cr_lenTO hg hm (by decide +kernel) (pa_cons inner pa_nil hs2) (by decide) (by decide) hs2 hpl2) fun B G ps σ H hn C S Q q => ?_
  refine ha B G ps σ H hn C S _ fun v G1 ps1 H1 C1 u1 r1 => ?_
  obtain ⟨ad, vs, rfl, h1, h2⟩ := hl.sq C1 r1
  obtain ⟨ks, e1, e2, h3⟩ := reps_ties (Reps.ofVs h2)
  subst e1
  have hlen : ks.length = l.length := by have := congrArg List.length e2; rwa [List.length_map, List.length_map] at this
  refine ⟨ad, ks, rfl, h1, fun p hp => Same.seqT C1.gh (h3 p hp), by omega, fun b L hb sub all => ?_⟩
  have C2 := C1.alloc (SetTO X.prog X.w b L) hb
  have u2 : Up G1 ps1 (upd G1 b (SetTO X.prog X.w b L)) ps1 := ⟨Same.new (C1.freeG hb), List.prefix_refl _⟩
  refine ⟨b, L, rfl, upd_same, fun p hp => Same.seqT C2.gh (Same.seqT u2.s (h3 p (sub p hp))), fun nd => ?_⟩
  have hcount : L.length = (nubL l).length := by
    have := nub_count (l := l) nd (fun x hx => by
      obtain ⟨p, hp, e⟩ := List.mem_map.mp hx
      rw [← e2]
      exact List.mem_map.mpr ⟨p, sub p hp, e⟩) (fun x hx => by
      rw [← e2] at hx
      obtain ⟨p, hp, e⟩ := List.mem_map.mp hx
      rw [← e]
      exact all p hp)
    rwa [List.length_map] at this
  rw [hcount]
  exact q _ _ ps1 _ C2 (u1.trans u2) (Rep.int _)
end
end DL
namespace DL
open PySem PySem.Spec PyProof.Rows L2
theorem isNone_opt {α : Type} {f : α → PyData} (h : ∀ x, PyData.isNone (f x) = false) : ∀ o : Option α, PyData.isNone (optD f o) = o.isNone
  | none => rfl
  | some x => h x
theorem erase_len {α : Type} {l : List α} {i : Nat} (h : i < l.length) : (l.eraseIdx i).length + 1 = l.length := by
  rw [List.length_eraseIdx_of_lt h]
  omega
theorem mapS_J {α β σ : Type} {g : α → σ → β × σ} {J : List α → σ → Prop} (step : ∀ e rest s, J (e :: rest) s → J rest (g e s).2) : ∀ (es : List α) (s0 : σ), J es s0 → ∀ i, i ≤ es.length → J (es.drop i) (mapS g (es.take i) s0).2
  | es, s0, h, 0, _ => by simpa [mapS] using h
  | [], s0, h, i + 1, hi => by simp at hi
  | e :: es, s0, h, i + 1, hi => mapS_J step es (g e s0).2 (step e es s0 h) i (by simpa using hi)
section
variable {X : Cx} {na : Nat} {sl sl' : Sl} {cs cs1 cs2 cs3 cs4 : Cs} {s t u : SV} {pos spos p pos2 p2 p3 p4 : Pos} {x : Str} {E : DEnds} {N : List Str} {a b : Expr}
theorem lc_SJ {α β σ : Type} {elt tg iter : Expr} {scope : Scope} {own : List (Str × Nat)} {GC : Cs → Prop} (es : List α) (f : α → SV) (h : IV X na tg iter sl cs (es.map f) GC cs1)
    (g : α → σ → β × σ) (v : β → PyData) (s0 : σ) (c : σ → Cs) (J : List α → σ → Prop) (hcs : c s0 = cs1) (a : α → Sl) (c2 : α → σ → Cs) (hj : J es s0) (hz : es.length ≤ 100000) (hG : ∀ s, GC (c s)) (hlen : ∀ s, (c s).length = cs1.length)
    (hg : ∀ e ∈ es, ∀ s, ∀ st H C cl fp, GW (blkOf X scope st H C cl fp) cs1.length tg (f e) (wipeS sl (own.map (·.2))) (c s) (own.map (·.2)) fun sl2 cs2 => sl2 = a e ∧ cs2 = c s)
    (hs : ∀ e rest s, J (e :: rest) s → J rest (g e s).2)
    (he : ∀ e rest s, e ∈ es → J (e :: rest) s → (∀ st H C cl fp, EV (blkOf X scope st H C cl fp) cs1.length elt (a e) (c s) (.val (v (g e s).1)) (c2 e s)) ∧ AtC cs1.length (c (g e s).2) (c2 e s))
    : LC X na elt tg iter [] scope own sl cs ((mapS g es s0).1.map v) (c (mapS g es s0).2) := by
  cases es with
  | nil =>
    subst hcs
    exact lc_M h [] (fun _ => sl) (fun _ => c s0) rfl (Nat.zero_le _) (hG _) (fun i s e => by simp at e) (fun i s d e => by simp at e)
  | cons e0 er =>
    have get : ∀ {i : Nat} {s : SV}, ((e0 :: er).map f)[i]? = some s → ∃ e, (e0 :: er)[i]? = some e ∧ s = f e ∧ (e0 :: er).getD i e0 = e := fun {i s} e => by
      rw [List.getElem?_map] at e
      cases q : (e0 :: er)[i]? with
      | none => rw [q] at e; cases e
      | some z =>
        rw [q] at e
        cases e
        exact ⟨z, rfl, rfl, by rw [List.getD_eq_getElem?_getD, q]; rfl⟩
    have := lc_gen (elt := elt) (ifs := []) (sl := sl) (scope := scope) (own := own) h (fun i => a ((e0 :: er).getD i e0)) (fun i => c (mapS g ((e0 :: er).take i) s0).2) (fun i => c2 ((e0 :: er).getD i e0) (mapS g ((e0 :: er).take i) s0).2) (fun _ => true) (fun i => v (g ((e0 :: er).getD i e0) (mapS g ((e0 :: er).take i) s0).2).1) (fun i => (mapS g ((e0 :: er).take i) s0).1.map v) hcs rfl (by rw [List.length_map]; exact hz) (fun _ _ => hG _)
      (fun i s e st H C cl fp => by
        obtain ⟨z, h1, rfl, h3⟩ := get e
        rw [h3, hlen]
        exact hg z (List.mem_of_getElem? h1) _ st H C cl fp)
      (fun i s e st H C cl fp => tvs_nil)
      (fun i s e _ => by
        obtain ⟨z, h1, rfl, h3⟩ := get e
        have hlt := (List.getElem?_eq_some_iff.mp h1).1
        have hJ := mapS_J hs (e0 :: er) s0 hj i (Nat.le_of_lt hlt)
        rw [List.drop_eq_getElem_cons hlt, (List.getElem?_eq_some_iff.mp h1).2] at hJ
        obtain ⟨g1, g2⟩ := he z _ (mapS g ((e0 :: er).take i) s0).2 (List.mem_of_getElem? h1) hJ
        have e1 : (e0 :: er).take (i + 1) = (e0 :: er).take i ++ [z] := by rw [List.take_add_one, h1]; rfl
        refine ⟨fun st H C cl fp => ?_, ?_, ?_⟩
        · rw [h3, hlen]
          exact g1 st H C cl fp
        · rw [e1, mapS_snoc, h3]
          exact g2
        · rw [e1, mapS_snoc, h3, List.map_append]
          rfl)
      (fun i s e hk => by cases hk)
    rw [List.length_map, List.take_of_length_le (Nat.le_refl _)] at this
    exact this
end
end DL
namespace DL
open PySem PySem.Spec PyProof.Rows L2
theorem some_of {α : Type} {o : Option α} (h : o.isNone = false) : o.isSome = true := by
  cases o with
  | none => cases h
  | some x => rfl
theorem emod_bd (n : Int) {m : Int} (h : 0 < m) : 0 ≤ n % m ∧ n % m < m := ⟨Int.emod_nonneg _ (by omega), Int.emod_lt_of_pos _ h⟩
section
variable {X : Cx} {na : Nat} {sl sl' : Sl} {cs cs1 cs2 cs3 cs4 : Cs} {s t u : SV} {pos spos p pos2 p2 p3 p4 : Pos} {x : Str} {E : DEnds} {N : List Str} {a b : Expr}
/-- a cell of one's own is taken as data, and lives no more -/
theorem ev_frz {k : Nat} {c : CC} {d d' : PyData} (ha : EV X na a sl cs (.cell k) cs1) (hk : na ≤ k) (hc : cs1[k]? = some c) (hd : c.data = some d) (e : d = d') (pc : PutC cs1 k .dead cs2) : EV X na a sl cs (.val d') cs2 := by
  subst e
  rw [pc.at]
  intro B G ps σ H hn C S Q q
  refine ha B G ps σ H hn C S Q fun v G1 ps1 H1 C1 u1 r1 => ?_
  obtain ⟨p, ep, rfl⟩ := r1
  obtain ⟨g1, g2, g3⟩ := C1.cell k p c ep hc
  have hnd : c ≠ .dead := fun z => by subst z; cases hd
  have hG : G1 p = none := g3.elim (fun z => (hnd z).elim) id
  obtain ⟨ob, hH, hrr⟩ := g1.data hd
  have C2 := C1.freeze (by omega) ep hc hnd hH
  exact q (.ref p) _ ps1 H1 C2 ⟨u1.s.trans (Same.new hG), u1.p⟩ (hrr _ (Same.new hG) upd_same)
def memB {α : Type} [DecidableEq α] (y : α) (l : List α) : Bool := decide (y ∈ l)
theorem memB_true {α : Type} [DecidableEq α] {y : α} {l : List α} : memB y l = true ↔ y ∈ l := decide_eq_true_iff
theorem tv_inM {α : Type} [DecidableEq α] {f : α → PyData} {y : α} {l : List α} {k : Nat} (hr : Room k X.A) (ha : EV X na a sl cs (.val (f y)) cs1) (hb : EV X na b sl cs1 (.val (.list (l.map f))) cs2) (h : EqvIs f) (sd : SeqAt.shaped (f y) = true) (se : SeqAt.shaped (.list (l.map f)) = true) (hm : behindInMarks .In b = false := by rfl) : TV X na (.Compare a [.In] [b] pos) sl cs (memB y l) cs2 := tv_inT hr ha hb h sd se hm
theorem tv_ninM {α : Type} [DecidableEq α] {f : α → PyData} {y : α} {l : List α} {k : Nat} (hr : Room k X.A) (ha : EV X na a sl cs (.val (f y)) cs1) (hb : EV X na b sl cs1 (.val (.list (l.map f))) cs2) (h : EqvIs f) (sd : SeqAt.shaped (f y) = true) (se : SeqAt.shaped (.list (l.map f)) = true) (hm : behindInMarks .NotIn b = false := by rfl) : TV X na (.Compare a [.NotIn] [b] pos) sl cs (!memB y l) cs2 := tv_ninT hr ha hb h sd se hm
/-- x, y = a, b -/
theorem s1_par {a b : Expr} {x y : Str} {i j m : Nat} {s t : SV} {sl1 sl2 : Sl} {px py pt pt2 : Pos} {kt k2 : Nat} (T : TabL X m) (hN : X.N = N) (hc : X.calm = true) (h : AV X na [a, b] sl cs [s, t] cs1) (p1 : Put N sl x i s sl1) (p2 : Put N sl1 y j t sl2) (hij : i ≠ j) (hx : X.env.scope.names.lookup x = some .local) (hy : X.env.scope.names.lookup y = some .local) (q : E.nx sl2 cs1)
    (hw : swappedStores [.Tuple [.Name x px, .Name y py] kt pt] (.Tuple [a, b] k2 pt2) X.env = pure (some [x, y]) := by rfl) (hs : swapsWithSole [.Tuple [.Name x px, .Name y py] kt pt] (.Tuple [a, b] k2 pt2) pos.line X.env = pure false := by rfl) :
    S1 X na (.Assign [.Tuple [.Name x px, .Name y py] kt pt] (.Tuple [a, b] k2 pt2) pos) sl cs E := by
  subst hN
  obtain ⟨h1, h2⟩ := p1.at
  subst h2
  obtain ⟨h3, h4⟩ := p2.at
  subst h4
  exact s1_of (ps_par hc T.nd h1 h3 hij hx hy pa_any hw hs) fun B G ps σ H hn C S D L => h B G ps σ H hn C S _ fun vs G1 ps1 H1 C1 u1 r1 => by
    cases r1 with
    | cons ra r2 =>
      cases r2 with
      | cons rb r3 =>
        cases r3
        exact ⟨_, _, rfl, L.nx _ cs1 G1 ps1 _ H1 C1 u1 (Slots.set (Slots.set (Slots.mono u1 S) ra i) rb j) q⟩
theorem rgD_0L (n : Int) : rgD 0 n = ((List.range n.toNat).map fun i : Nat => (i : Int)).map PyData.int := by
  have := rgD_0 n
  injection this with h
  injection h
theorem ev_listRgC {n : Int} {m : Nat} {es : List Int} (hc : X.calm = true) (hm : X.mg "list" = none) (hg : Gl X "list") (hm2 : X.mg "range" = none) (hg2 : Gl X "range") (ha : EV X na a sl cs (.val (.int n)) cs1) (h0 : 0 ≤ n) (h1 : n ≤ 16777216) (e : rgD 0 n = es.map PyData.int) (ac : AppC cs1 (.lst ((es.map PyData.int).map SV.val)) m cs2)
    (hs : starEach [a] X.env = (false, eval a X.env) :: starEach [] X.env := by rfl) (hs2 : starEach [.Call (.Name "range" p2) [a] [] pos2] X.env = (false, eval (.Call (.Name "range" p2) [a] [] pos2) X.env) :: starEach [] X.env := by rfl) :
    EV X na (.Call (.Name "list" p) [.Call (.Name "range" p2) [a] [] pos2] [] pos) sl cs (.cell m) cs2 :=
  ev_of (pe_listRg hc hg hm (prg_1 hg2 hm2 pe_any hs) hs2) fun B G ps σ H hn C S Q q => ha B G ps σ H hn C S _ fun v G1 ps1 H1 C1 u1 r1 =>
    ⟨n, Rep.intI r1, RgOk.of_le (Int.le_refl 0) h1 (by omega) h0, C1.newCell ac (fun p hp => ⟨rgV 0 n, upd_same, RepVs.mono ⟨Same.refl _, List.prefix_append _ _⟩ (e ▸ Reps.vs (reps_rg 0 n))⟩) fun v G2 ps2 H2 C2 u2 => q v G2 ps2 H2 C2 (u1.trans u2)⟩
end
end DL
namespace DL
open PySem PySem.Spec PyProof.Rows L2
theorem RenA.repsG {K : PySem.W.Frag} {G : Hp} {ps : List Addr} {κ : List Nat} : ∀ {a b : List SV} {vs : List V}, RenA κ a b → RepVs K G ps vs b → RepVs K G (pick ps κ) vs a
  | _, _, _, .nil, h => by cases h; exact .nil
  | _, _, _, .val t, h => by
    cases h with
    | cons h r => exact .cons h (RenA.repsG t r)
  | _, _, _, .cell (j := j) (k := k) e t, h => by
    cases h with
    | cons h r =>
      obtain ⟨p, hp, hv⟩ := h
      refine .cons ⟨p, ?_, hv⟩ (RenA.repsG t r)
      unfold pick
      rw [List.getElem?_map, e]
      show some (ps.getD k 0) = some p
      simp [List.getD, hp]
section
variable {X : Cx} {na : Nat} {sl sl' : Sl} {cs cs1 cs2 cs3 cs4 : Cs} {s t u : SV} {pos spos p pos2 p2 p3 p4 : Pos} {x : Str} {E : DEnds} {N : List Str} {a b e : Expr} {es : List Expr} {k j n : Nat} {spec : Spec}
/-- a call: any cells are handed on (κ: all that stand within, too), any come back -/
theorem ev_callG {ss svs : List SV} {κ : List Nat} {d d2 da db csm : Cs} {r r2 : SV} (c : Cal X.prog X.w X.K X.mg X.base k x n spec) (hr : Room j X.A) (hk : k ≤ j) (hg : Gl X x)
    (ha : AV X na (e :: es) sl cs ss cs1) (S : SelR cs1 κ κ d) (hren : RenA κ svs ss) (h : spec svs d r d2) (hq : Paired (RenC (fun _ => true) (backOf κ cs1.length)) d2 (da ++ db)) (hda : da.length = κ.length) (hs : SetA cs1 κ da csm) (e1 : csm ++ db = cs2) (e2 : r.ren (backOf κ cs1.length) = r2) (nd : κ.Nodup) (hn : Nat.beq svs.length n = true)
    (hdb : (x == ("__debug__" : Str)) = false := by decide) (he : starEach (e :: es) X.env = (false, eval e X.env) :: starEach es X.env := by rfl) (hpl : (backTo pos (starEach es X.env)).any (·.1) = false := by rfl) :
    EV X na (.Call (.Name x p) (e :: es) [] pos) sl cs r2 cs2 := by
  subst e1
  subst e2
  exact ev_callR c hr hk hg (fun B G ps σ H hna C Sl Q q => ha B G ps σ H hna C Sl _ fun vs G1 ps1 H1 C1 u1 r1 => by
    show spM X.K n spec (vs ++ []) H1 Q E0
    rw [List.append_nil]
    refine ⟨G1, pick ps1 κ, svs, d, r, d2, h, Nat.eq_of_beq_eq_true hn, C1.enterG S nd, RenA.repsG hren r1, fun v G' ps' H' C' u' r' => ?_⟩
    obtain ⟨C2, back⟩ := C1.leaveG S nd C' hq hda hs
    refine q v G' _ H' C2 (u1.trans ⟨u'.s, List.prefix_append _ _⟩) ?_
    exact RepV.ren (P := fun _ => true) (fun k p _ e => back k p e) r' (by cases r <;> rfl)) hdb he hpl
/-- a tuple that holds cells -/
theorem ev_tupC {es : List Expr} {kx : Nat} {ss : List SV} {n : Nat} (h : AV X na es sl cs ss cs1) (ac : AppC cs1 (.tup ss) n cs2) (hz : Nat.ble ss.length 1000000 = true) : EV X na (.Tuple es kx pos) sl cs (.cell n) cs2 :=
  ev_of (pe_tup pa_any) fun B G ps σ H hn C S Q q => h B G ps σ H hn C S _ fun vs G1 ps1 H1 C1 u1 r1 => by
    exact ⟨sz (by rw [Paired.length r1]; exact Nat.le_of_ble_eq_true hz), C1.newCell ac (fun p hp => ⟨vs, upd_same, RepVs.mono ⟨Same.refl _, List.prefix_append _ _⟩ r1⟩) fun v G2 ps2 H2 C2 u2 => q v G2 ps2 H2 C2 (u1.trans u2)⟩
end
end DL
namespace DL
open PySem PySem.Spec PyProof.Rows L2
/-- what kind of thing a value or a cell is -/
def CC.tyOf : CC → Option String
  | .lst _ => some "list"
  | .dct _ => some "dict"
  | .tup _ => some "tuple"
  | _ => none
inductive Kind (cs : Cs) : SV → String → Prop
  | val {d : PyData} : Kind cs (.val d) (tyOf d)
  | cell {k : Nat} {c : CC} {t : String} : cs[k]? = some c → c.tyOf = some t → Kind cs (.cell k) t
theorem Kind.tyX {K : PySem.W.Frag} {B : Bs} {G : Hp} {ps : List Addr} {cs : Cs} {H : Hp} {v : V} {s : SV} {t : String} (C : Core K B G ps cs H) (r : RepV K G ps v s) (h : Kind cs s t) : TyX K H v (.type t) := by
  cases h with
  | val => exact Rep.tyX C.gh r
  | @cell k c _ hc ht =>
    obtain ⟨p, rfl, _, rc⟩ := C.cellAt r hc
    cases c with
    | lst xs => cases ht; obtain ⟨vs, h, _⟩ := rc; exact .base (.lst h)
    | dct xs => cases ht; obtain ⟨vs, h, _⟩ := rc; exact .base (.dK h)
    | tup xs => cases ht; obtain ⟨vs, h, _⟩ := rc; exact .base (.tup h)
    | ins _ _ => cases ht
    | dead => cases ht
    | frz _ _ _ => cases ht
section
variable {X : Cx} {na : Nat} {sl sl' : Sl} {cs cs1 cs2 cs3 cs4 : Cs} {s t u : SV} {pos spos p pos2 p2 p3 p4 apos : Pos} {x : Str} {E : DEnds} {N : List Str} {a b e : Expr} {es : List Expr} {R : Sl → Cs → Prop}
theorem ev_isiC {T : Str} {T' ty : String} {p2 : Pos} {k : Bool} (hm : X.mg "isinstance" = none) (hg : Gl X "isinstance") (ha : EV X na a sl cs s cs1) (hK : Kind cs1 s ty) (hmT : X.mg T = none) (hgT : Gl X T) (hbT : bootBuiltins T = some (.type T')) (hk : PySem.W.kitOne X.K (.type ty) (.type T') = some k) (hT : T ≠ "__name__" := by decide) (hT2 : (T == ("__debug__" : Str)) = false := by decide)
    (hs : starEach [a, .Name T p2] X.env = (false, eval a X.env) :: starEach [.Name T p2] X.env := by rfl) (hs2 : starEach [.Name T p2] X.env = (false, eval (.Name T p2) X.env) :: starEach [] X.env := by rfl) (hpl : (backTo pos (starEach [.Name T p2] X.env)).any (·.1) = false := by rfl) :
    EV X na (.Call (.Name "isinstance" p) [a, .Name T p2] [] pos) sl cs (.val (.bool k)) cs1 := by
  refine ev_of (pe_callB call_isi hg hm (by decide +kernel) (pa_cons pe_any (pa_cons (pe_bltn (v := .ty T') hgT hmT hbT rfl hT hT2) pa_nil hs2) hs) (by decide) (by decide) hs hpl) fun B G ps σ H hn C S Q q => ha B G ps σ H hn C S _ fun v G1 ps1 H1 C1 u1 r1 => ?_
  exact ⟨v, .ty T', _, _, k, rfl, .ty T', hK.tyX C1 r1, hk, q _ G1 ps1 H1 C1 u1 (Rep.bl _)⟩
/-- a part of a tuple that is a cell -/
theorem ev_ixC {a b : Expr} {k : Nat} {xs : List SV} {i : Int} (ha : EV X na a sl cs (.cell k) cs1) (hb : EV X na b sl cs1 (.val (.int i)) cs2) (hl : cs2[k]? = some (.tup xs)) (h : L2.atI xs i = some t) (hs : PlainIx b := by exact fun _ _ => rfl) : EV X na (.Subscript a b pos) sl cs t cs2 :=
  ev_of (pe_ix ix_tup pe_any pe_any hs) (de_op ha hb fun B G ps H v w hn C r1 r2 Q q => by
    obtain ⟨p, rfl, _, vs, h1, h2⟩ := C.cellAt r1 hl
    cases q' : ixN xs.length i with
    | none => unfold atI at h; rw [q'] at h; cases h
    | some j =>
      have h' : xs[j]? = some t := by unfold atI at h; rw [q'] at h; exact h
      obtain ⟨z, hz, rz⟩ := pd_get h2 h'
      refine ⟨p, vs, i, z, rfl, Rep.intI r2, .inl (.inl h1), ?_, q z G ps H C (Up.refl _ _) rz⟩
      unfold atI
      rw [Paired.length h2, q']
      exact hz)
theorem rc_lenC {k : Nat} {xs : List SV} (hl : cs[k]? = some (.tup xs)) : RC X.K na (fun xs H Q => ∃ p ys, xs = [.ref p] ∧ (SqL X.K H p ys ∨ SqT X.K H p ys) ∧ Q (.int ys.length) H) [.cell k] cs (.val (.int (xs.length : Int))) cs := rc1 fun B G ps H v hn C r1 Q q => by
  obtain ⟨p, rfl, _, ws, h1, h2⟩ := C.cellAt r1 hl
  exact ⟨p, ws, rfl, .inr (.inl (.inl h1)), q _ G ps H C (Up.refl _ _) (by rw [Paired.length h2]; exact Rep.int _)⟩
/-- a, b = t, a tuple that is a cell -/
theorem gx_tupC {es : List Expr} {kx k : Nat} {xs : List SV} {n : Nat} (hc : X.calm = true) (hl : cs[k]? = some (.tup xs)) (h : GXs X na es xs sl cs R) (hn' : xs.length = n)
    (hn : (assignEach es X.env).length = n := by rfl) (hst : (assignEach es X.env).findIdx? (·.1) = none := by rfl) : GX X na (.Tuple es kx pos) (.cell k) sl cs R :=
  gx_of (pg_tup hc pgs_any hn hst) fun B G ps σ H v hn C S r Q q => by
    obtain ⟨p, rfl, _, vs, h1, h2⟩ := C.cellAt r hl
    exact ⟨_, _, rfl, .inl (.inl h1), (Paired.length h2).trans hn', h B G ps σ H _ hn C S h2 Q q⟩
/-- x.clear() -/
theorem ev_clearL {k : Nat} {xs : List SV} (ha : EV X na a sl cs (.cell k) cs1) (hc : cs1[k]? = some (.lst xs)) (p : PutC cs1 k (.lst []) cs2) (hbase : attributeBase a "clear" X.env (eval a X.env) = eval a X.env := by rfl) (hline : (apos.endLine == pos.line) = true := by rfl) :
    EV X na (.Call (.Attribute a "clear" apos) [] [] pos) sl cs (.val .none) cs2 :=
  ev_of (pe_bm0 PySem.F.plainAttrs_list PySem.F.slot_list_clear PySem.F.type_list_clear mt_clear pe_any hbase hline) fun B G ps σ H hn C S Q q => ha B G ps σ H hn C S _ fun v G1 ps1 H1 C1 u1 r1 => by
    obtain ⟨l, rfl, e, ws, h1, h2⟩ := C1.cellAt r1 hc
    rw [p.at] at q
    exact ⟨.inl ⟨rfl, ws, SqL.of h1⟩, l, ws, rfl, rfl, h1, q _ G1 ps1 _ (C1.put (c' := .lst []) e hc (by intro z; cases z) ⟨_, upd_same, .nil⟩) u1 Rep.non⟩
/-! ### the content of cells within cells, as data -/
inductive Deep (cs : Cs) : SV → PyData → Prop
  | val {d : PyData} : Deep cs (.val d) d
  | flat {k : Nat} {c : CC} {d : PyData} : cs[k]? = some c → c.data = some d → Deep cs (.cell k) d
  | tup {k : Nat} {xs : List SV} {ds : List PyData} : cs[k]? = some (.tup xs) → Paired (Deep cs) xs ds → Deep cs (.cell k) (.tuple ds)
end
end DL
namespace DL
open PySem PySem.Spec PyProof.Rows L2
theorem ret_gen {na : Nat} {s s2 : SV} {d c2 : Cs} (κs κ : List Nat) (eκ : List.range na ++ κs = κ) (nd : κ.Nodup) (S : SelR c2 κ κ d) (am : s2.amid (fun k => κ.contains k) = true) (e : s2.ren (fun k => κ.idxOf k) = s) : RetOk na s d s2 c2 := by
  subst eκ
  exact .gen nd S am e
/-! ### comparisons of cells within cells -/
inductive IsDat2 (cs : Cs) : SV → PyData → Prop
  | base {s : SV} {d : PyData} : IsDat cs s d → IsDat2 cs s d
  | tup {k : Nat} {xs : List SV} {ds : List PyData} : cs[k]? = some (.tup xs) → Paired (IsDat cs) xs ds → IsDat2 cs (.cell k) (.tuple ds)
theorem IsDat.dpAll {K : PySem.W.Frag} {B : Bs} {G : Hp} {ps : List Addr} {cs : Cs} {H : Hp} (C : Core K B G ps cs H) : ∀ {xs : List SV} {ds : List PyData} {vs : List V}, Paired (IsDat cs) xs ds → RepVs K G ps vs xs → PyData.canLayAll0 ds = true → DpAll K H vs ds
  | _, _, _, .nil, .nil, _ => .nil
  | _, _, _, .cons h t, .cons r rr, l => by
    simp only [PyData.canLayAll0, Bool.and_eq_true] at l
    exact .cons (h.dp C r l.1) (IsDat.dpAll C t rr l.2)
theorem IsDat2.dp {K : PySem.W.Frag} {B : Bs} {G : Hp} {ps : List Addr} {cs : Cs} {H : Hp} {v : V} {s : SV} {d : PyData} (C : Core K B G ps cs H) (r : RepV K G ps v s) (h : IsDat2 cs s d) (l : d.canLay0 = true) : Dp K H v d := by
  cases h with
  | base h => exact h.dp C r l
  | tup hc hp =>
    obtain ⟨p, rfl, _, vs, h1, h2⟩ := C.cellAt r hc
    exact .tup (.inl (.inl h1)) (IsDat.dpAll C hp h2 (by simpa only [PyData.canLay0] using l))
section
variable {X : Cx} {na : Nat} {sl : Sl} {cs cs1 cs2 : Cs} {s t : SV} {pos : Pos} {a b : Expr} {d e : PyData} {k : Nat}
theorem ev_eqD2 (hr : Room k X.A) (ha : EV X na a sl cs s cs1) (hb : EV X na b sl cs1 t cs2) (hd : IsDat2 cs2 s d) (he : IsDat2 cs2 t e) (sd : SeqAt.shaped d = true) (se : SeqAt.shaped e = true) : EV X na (.Compare a [.Eq] [b] pos) sl cs (.val (.bool (PyData.eqv d e))) cs2 :=
  ev_cmp (op_eqD (by have := hr.un; omega)) (nomark _) ha hb fun B G ps H v w hn C r1 r2 Q q =>
    ⟨d, e, hd.dp C r1 (SeqAt.canLay_of_shaped sd), he.dp C r2 (SeqAt.canLay_of_shaped se), sd, se, q _ G ps H C (Up.refl _ _) (Rep.bl _)⟩
theorem tv_eqD2 (hr : Room k X.A) (ha : EV X na a sl cs s cs1) (hb : EV X na b sl cs1 t cs2) (hd : IsDat2 cs2 s d) (he : IsDat2 cs2 t e) (sd : SeqAt.shaped d = true) (se : SeqAt.shaped e = true) : TV X na (.Compare a [.Eq] [b] pos) sl cs (PyData.eqv d e) cs2 :=
  tv_cmp (op_eqD (by have := hr.un; omega)) (nomark _) ha hb fun B G ps H v w hn C r1 r2 Q q =>
    ⟨d, e, hd.dp C r1 (SeqAt.canLay_of_shaped sd), he.dp C r2 (SeqAt.canLay_of_shaped se), sd, se, q _ G ps H C (Up.refl _ _) (Rep.bl _)⟩
theorem tv_inMC {α : Type} [DecidableEq α] {f : α → PyData} {y : α} {l : List α} {m j : Nat} (hr : Room m X.A) (ha : EV X na a sl cs (.val (f y)) cs1) (hb : EV X na b sl cs1 (.cell j) cs2) (hc : cs2[j]? = some (.lst ((l.map f).map SV.val))) (h : EqvIs f) (sd : SeqAt.shaped (f y) = true) (se : SeqAt.shaped (.list (l.map f)) = true) (hm : behindInMarks .In b = false := by rfl) : TV X na (.Compare a [.In] [b] pos) sl cs (memB y l) cs2 := by
  have := tv_cmp (pos := pos) (op_inD (room_65 hr)) hm ha hb (rv_inD IsDat.val (IsDat.cell hc (by first | exact data_map _ | (show (svData _).map _ = _; rw [svData_map]; rfl))) sd se)
  rwa [any_is h] at this
theorem tv_ninMC {α : Type} [DecidableEq α] {f : α → PyData} {y : α} {l : List α} {m j : Nat} (hr : Room m X.A) (ha : EV X na a sl cs (.val (f y)) cs1) (hb : EV X na b sl cs1 (.cell j) cs2) (hc : cs2[j]? = some (.lst ((l.map f).map SV.val))) (h : EqvIs f) (sd : SeqAt.shaped (f y) = true) (se : SeqAt.shaped (.list (l.map f)) = true) (hm : behindInMarks .NotIn b = false := by rfl) : TV X na (.Compare a [.NotIn] [b] pos) sl cs (!memB y l) cs2 := by
  have := tv_cmp (pos := pos) (op_notInD (room_65 hr)) hm ha hb (rv_ninD IsDat.val (IsDat.cell hc (by first | exact data_map _ | (show (svData _).map _ = _; rw [svData_map]; rfl))) sd se)
  rwa [any_is h] at this
theorem tv_neD2 (hr : Room k X.A) (ha : EV X na a sl cs s cs1) (hb : EV X na b sl cs1 t cs2) (hd : IsDat2 cs2 s d) (he : IsDat2 cs2 t e) (sd : SeqAt.shaped d = true) (se : SeqAt.shaped e = true) : TV X na (.Compare a [.NotEq] [b] pos) sl cs (!PyData.eqv d e) cs2 :=
  tv_cmp (op_neD (by have := hr.un; omega)) (nomark _) ha hb fun B G ps H v w hn C r1 r2 Q q =>
    ⟨d, e, hd.dp C r1 (SeqAt.canLay_of_shaped sd), he.dp C r2 (SeqAt.canLay_of_shaped se), sd, se, q _ G ps H C (Up.refl _ _) (Rep.bl _)⟩
end
end DL
namespace DL
open PySem PySem.Spec PyProof.Rows L2
section
variable {K : PySem.W.Frag} {B : Bs} {G H : Hp} {ps : List Addr} {cs : Cs}
theorem Core.pair (C : Core K B G ps cs H) {T : Addr} (hT : H T = none) {x y : V} {d e : PyData} (rx : Rep K G x d) (ry : Rep K G y e) :
    ∃ G'', Core K B G'' ps cs (upd H T (.tup [x, y])) ∧ Up G ps G'' ps ∧ RepV K G'' ps (.ref T) (.val (.tuple [d, e])) ∧ Same H (upd H T (.tup [x, y])) ∧ ∀ b, G'' b ≠ none → G b ≠ none ∨ H b = none := by
  refine ⟨upd G T (.tup [x, y]), C.alloc _ hT, ⟨Same.new (C.freeG hT), List.prefix_refl _⟩, ?_, Same.new hT, fun b e => ?_⟩
  · have sm : Same G (upd G T (.tup [x, y])) := Same.new (C.freeG hT)
    exact .tup (.inl (.inl upd_same)) (.cons (Rep.mono sm rx) (.cons (Rep.mono sm ry) .nil))
  · by_cases z : b = T
    · subst z
      exact .inr hT
    · rw [upd_ne z] at e
      exact .inl e
end
section
variable {X : Cx} {na : Nat} {sl sl' : Sl} {cs cs1 cs2 cs3 : Cs} {s t u : SV} {pos spos p : Pos} {x : Str} {E : DEnds} {N : List Str} {a b iter : Expr} {tg : Expr} {tpos apos cpos : Pos} {elts : List Expr} {kk : Nat}
def enumL {α : Type} (xs : List α) : List (Nat × α) := xs.zipIdx.map fun q => (q.2, q.1)
theorem enumL_at {α : Type} {xs : List α} {i : Nat} : (enumL xs)[i]? = xs[i]?.map fun x => (i, x) := by
  unfold enumL
  rw [List.getElem?_map, List.getElem?_zipIdx]
  cases xs[i]? <;> simp
theorem enumL_len {α : Type} (xs : List α) : (enumL xs).length = xs.length := by
  unfold enumL
  rw [List.length_map, List.length_zipIdx]
abbrev enP (f : α → PyData) (q : Nat × α) : SV := .val (.tuple [.int (q.1 : Int), f q.2])
/-- for i, x in enumerate(xs), xs a list of data -/
theorem iv_enumC {α : Type} {f : α → PyData} {l : List α} {k : Nat} (hm : X.mg "enumerate" = none) (hg : Gl X "enumerate") (h : EV X na a sl cs (.cell k) cs1) (hl : cs1[k]? = some (.lst ((l.map f).map SV.val))) (hs : starEach [a] X.env = (false, eval a X.env) :: starEach [] X.env := by rfl) :
    IV X na (.Tuple elts kk tpos) (.Call (.Name "enumerate" p) [a] [] pos) sl cs ((enumL l).map (enP f)) (fun cs' => cs'[k]? = some (.lst ((l.map f).map SV.val))) cs1 :=
  iv_of (pi_enum hg hm pa_any hs) fun B G ps σ H hn C S R r => (av_cons h av_nil hs) B G ps σ H hn C S _ fun vs G1 ps1 H1 C1 u1 r1 => by
    cases r1 with
    | cons r1 r2 =>
    cases r2
    obtain ⟨ad, rfl, ea, ws, h1, h2⟩ := C1.cellAt r1 hl
    have hlen : ws.length = l.length := (Paired.length h2).trans (by rw [List.length_map, List.length_map])
    refine ⟨ad, ws, rfl, SqL.of h1, r _ (fun H => ∃ vs, SqL X.K H ad vs ∧ vs.length = ws.length) (fun i H v H' => ∃ T x, v = .ref T ∧ H T = none ∧ H' = upd H T (.tup [.int (i : Nat), x]) ∧ ∀ vs, SqL X.K H ad vs → vs[i]? = some x) G1 ps1 H1 C1 u1 ?_ ?_ ?_⟩
    · rw [List.length_map, enumL_len]
      rw [← hlen]
      refine ⟨fun i H hi ⟨vs, q, l⟩ => ⟨vs, vs[i]'(by omega), q, by simp [show i < vs.length by omega]⟩, fun H ⟨vs, q, l⟩ => ⟨vs, q, Nat.le_of_eq l⟩, fun i H v H' hi q y => ?_⟩
      obtain ⟨T, x, h1, h2, h3, h4⟩ := y
      exact ⟨T, x, h1, h2, h3, h4⟩
    · intro G' ps' cs' H' C' u' g
      obtain ⟨vs', h1', h2'⟩ := (C'.cell k ad _ (pre_get u'.p ea) g).1
      exact ⟨vs', SqL.of h1', (Paired.length h2').trans (Paired.length h2).symm⟩
    · intro i H' v H'' G' ps' cs' y C' u' g
      obtain ⟨T, x, rfl, hT, rfl, e⟩ := y
      obtain ⟨vs', h1', h2'⟩ := (C'.cell k ad _ (pre_get u'.p ea) g).1
      obtain ⟨s, es, rs⟩ := pd_getL h2' (e vs' (SqL.of h1'))
      rw [List.getElem?_map, List.getElem?_map] at es
      obtain ⟨z, ez, rfl⟩ := Option.map_eq_some_iff.mp es
      obtain ⟨z0, ez0, rfl⟩ := Option.map_eq_some_iff.mp ez
      obtain ⟨G'', c1, c2, c3, c4, c5⟩ := C'.pair hT (Rep.int (K := X.K) (G := G') (i : Nat)) rs
      refine ⟨_, G'', ?_, c1, c2, c3, c4, c5⟩
      rw [List.getElem?_map, enumL_at, ez0]
      rfl
theorem iv_enumV {α : Type} {f : α → PyData} {l : List α} (hm : X.mg "enumerate" = none) (hg : Gl X "enumerate") (h : EV X na a sl cs (.val (.list (l.map f))) cs1) (hs : starEach [a] X.env = (false, eval a X.env) :: starEach [] X.env := by rfl) :
    IV X na (.Tuple elts kk tpos) (.Call (.Name "enumerate" p) [a] [] pos) sl cs ((enumL l).map (enP f)) (fun _ => True) cs1 :=
  iv_of (pi_enum hg hm pa_any hs) fun B G ps σ H hn C S R r => (av_cons h av_nil hs) B G ps σ H hn C S _ fun vs G1 ps1 H1 C1 u1 r1 => by
    cases r1 with
    | cons r1 r2 =>
    cases r2
    obtain ⟨ad, ws, rfl, h1, h2⟩ := Rep.lstI r1
    have hlen : ws.length = l.length := h2.length.trans (by rw [List.length_map])
    refine ⟨ad, ws, rfl, C1.gh.seq h1, r _ _ _ G1 ps1 H1 C1 u1 (by rw [List.length_map, enumL_len, ← hlen]; exact walk_enum) (fun G' ps' cs' H' C' u' g => C'.gh.seq (u'.s.seq h1)) ?_⟩
    intro i H' v H'' G' ps' cs' y C' u' g
    obtain ⟨T, x0, x, rfl, hT, rfl, ei, e⟩ := y
    obtain rfl := Option.some.inj ei
    obtain ⟨d, ed, rd⟩ := h2.getV e
    rw [List.getElem?_map] at ed
    obtain ⟨z0, ez0, rfl⟩ := Option.map_eq_some_iff.mp ed
    obtain ⟨G'', c1, c2, c3, c4, c5⟩ := C'.pair hT (Rep.int (K := X.K) (G := G') (i : Nat)) (Rep.mono u'.s rd)
    refine ⟨_, G'', ?_, c1, c2, c3, c4, c5⟩
    rw [List.getElem?_map, enumL_at, ez0]
    rfl
/-- for v in d.values(), d locked -/
theorem iv_vals {α : Type} {f : α → PyData} {k : Nat} {od : Obj} {us : List (Key × V)} {kvs : List (Str × α)} (h : EV X na a sl cs (.cell k) cs1) (hl : cs1[k]? = some (.frz od us (svK (kvT f kvs)))) (hbase : attributeBase a "values" X.env (eval a X.env) = eval a X.env := by rfl) (hline : (apos.endLine == cpos.line) = true := by rfl) :
    IV X na tg (.Call (.Attribute a "values" apos) [] [] cpos) sl cs ((kvs.map (·.2)).map fun z => SV.val (f z)) (fun cs' => cs'[k]? = some (.frz od us (svK (kvT f kvs)))) cs1 :=
  iv_of (pi_values pe_any hbase hline) fun B G ps σ H hn C S R r => h B G ps σ H hn C S _ fun v G1 ps1 H1 C1 u1 r1 => by
    obtain ⟨ad, rfl, ea, h1, h2⟩ := C1.cellAt r1 hl
    have hlen : us.length = kvs.length := (Paired.length h2).trans (by unfold svK kvT; rw [List.length_map, List.length_map])
    refine ⟨ad, od, us, rfl, h1, r _ (fun H => H ad = some (.frz od (.dK us))) _ G1 ps1 H1 C1 u1 (by rw [List.length_map, List.length_map, ← hlen]; exact walk_values) (fun G' ps' cs' H' C' u' g => (C'.cell k ad _ (pre_get u'.p ea) g).1.1) ?_⟩
    intro i H' x H'' G' ps' cs' y C' u' g
    obtain ⟨rfl, ky, e⟩ := y
    have rk := (C'.cell k ad _ (pre_get u'.p ea) g).1.2
    obtain ⟨⟨k2, s2⟩, es, ek, rs⟩ := pd_getL rk e
    unfold svK kvT at es
    rw [List.getElem?_map, List.getElem?_map] at es
    obtain ⟨z, ez, e2⟩ := Option.map_eq_some_iff.mp es
    obtain ⟨z0, ez0, rfl⟩ := Option.map_eq_some_iff.mp ez
    cases e2
    exact ⟨.val (f z0.2), G', by rw [List.getElem?_map, List.getElem?_map, ez0]; rfl, C', Up.refl _ _, rs, Same.refl _, fun _ z => .inl z⟩
/-- list(d.values()) -/
def tListVals (te : TE) : TE := fun σ H Q => te σ H fun x H1 => ∃ (d : Addr) (kvs : List (Key × V)), x = .ref d ∧ H1 d = some (.dK kvs) ∧ ∀ p, H1 p = none → Q (.ref p) (upd H1 p (.lst (kvs.map Prod.snd)))
theorem vals_at {kvs : List (Key × V)} {vs : List (Key × Value)} (r : Paired (fun (a : Key × V) (b : Key × Value) => a.1 = b.1 ∧ RelV a.2 b.2) kvs vs) : ∀ {ws : List Value}, ws.length = vs.length → (∀ (j : Nat) (v : Value), ws[j]? = some v → ∃ k : Key, vs[j]? = some (k, v)) → Vals (kvs.map Prod.snd) ws := by
  induction r with
  | nil =>
    intro ws e _
    have : ws = [] := List.eq_nil_of_length_eq_zero e
    subst this
    exact .nil
  | cons h t ih =>
    intro ws e hw
    cases ws with
    | nil => cases e
    | cons w ws =>
      refine .cons ?_ (ih (by simpa using e) fun j v ev => ?_)
      · obtain ⟨k, ek⟩ := hw 0 w rfl
        simp only [List.getElem?_cons_zero, Option.some.injEq] at ek
        rw [ek] at h
        exact h.2
      · have := hw (j + 1) v (by simpa using ev)
        simpa using this
theorem pe_listVals {e : Expr} {te : TE} (hc : X.calm = true) (he : PE X e te) (hg : Gl X "list") (hm : X.mg "list" = none) (hv : bootBuiltins "list" = some (.type "list")) (hbase : attributeBase e "values" X.env (eval e X.env) = eval e X.env := by rfl) (hline : (apos.endLine == cpos.line) = true := by rfl)
    (hs : starEach [.Call (.Attribute e "values" apos) [] [] cpos] X.env = (false, eval (.Call (.Attribute e "values" apos) [] [] cpos) X.env) :: starEach [] X.env := by rfl) :
    PE X (.Call (.Name "list" p) [.Call (.Attribute e "values" apos) [] [] cpos] [] pos) (tListVals te) := by
  refine ⟨fun pins s σ H Q I hq => ?_⟩
  refine wpAny_Call_Name_kw (ld_blt I hg hm hv ?_)
  refine PyProof.Rows.callWith_type1 ?_ hs rfl
  rw [hs]
  show wpAny _ _ (spliced ((false, eval (.Call (.Attribute e "values" apos) [] [] cpos) X.env) :: backTo pos (starEach [] X.env))) _ _ s
  refine Calls.spliced_cons ?_
  refine wpAny_Call_method (T := "dict") (id := "dict.values") hbase rfl hline F.plainAttrs_dict F.slot_dict_values F.type_dict_values (thn (he.run pins s σ H _ I hq) fun u s1 ⟨x, H1, I1, rx, d, kvs, ex, hd, q⟩ => ?_)
  subst ex
  obtain rfl : u = Value.ref d := rx
  obtain ⟨hz, hs0, vs, kv, hdo⟩ := I1.hok d _ hd
  obtain ⟨ep, hat⟩ := hdo.dictAt
  have lk : kvs.length = vs.length := Paired.length kv
  have I2 : Inv X pins σ H1 { s1 with heap := s1.heap.push { cls := .type "dict_values", data := .fields #[.ref d] } } := I1.kept (t' := s1.toks) fun b ob q => Heap.get?_push_of_some _ q
  refine ⟨hdo.typeIs, hdo.mapOf.noDict, ?_⟩
  show wpAny _ _ (callWith cpos (.builtin "dict.values") [.ref d] [] []) _ X.xe s1
  refine method_meetsIn F.slot_dict_values F.entry_dict_values rfl (PySem.evalArgs_none ⟨rfl, hdo.typeIs, F.args_dict_values_1 _, _, meets_dict_values (mixKind X.prog X.w) d hs0, ⟨vs, hdo⟩, ?_⟩)
  refine Calls.spliced_nil ?_
  refine PySem.W.kdl_call (PySem.W.kdl_values (knd := mixKind X.prog X.w) (kvs := vs) (ep := ep)) (I1.ok.hd hc) ⟨⟨_, Heap.get?_push_size _ rfl, rfl, rfl⟩, hat.push _⟩ (by omega) fun h' tk acc c' hk hD hacc => ?_
  have hv : Vals (kvs.map Prod.snd) acc.toList := vals_at kv (by rw [Array.length_toList]; exact hacc.1) fun j v e => hacc.2 j v (by rw [← Array.getElem?_toList]; exact e)
  refine ⟨.ref _, _, I2.laid (t' := tk) (o := .lst (kvs.map Prod.snd)) hk (Nat.le_refl _) ?_, rfl, q _ (I2.hok.fresh (Nat.le_refl _))⟩
  exact ⟨by rw [List.length_map]; exact hz, acc.toList, c', hv, by rw [Array.toArray_toList]; exact hD⟩
theorem reps_vals {K : PySem.W.Frag} {G : Hp} {ps : List Addr} : ∀ {us : List (Key × V)} {kvs : List (Key × SV)}, RepKs K G ps us kvs → RepVs K G ps (us.map Prod.snd) (kvs.map Prod.snd)
  | _, _, .nil => .nil
  | _, _, .cons h t => .cons h.2 (reps_vals t)
theorem vals_T {α : Type} {f : α → PyData} (kvs : List (Str × α)) : (svK (kvT f kvs)).map Prod.snd = ((kvs.map (·.2)).map f).map SV.val := by
  unfold svK kvT
  rw [List.map_map, List.map_map, List.map_map, List.map_map]
  rfl
/-- list(d.values()): a new list that may change -/
theorem ev_listValsC {α : Type} {f : α → PyData} {kvs : List (Str × α)} {n : Nat} (hc : X.calm = true) (hm : X.mg "list" = none) (hg : Gl X "list") (ha : EV X na a sl cs s cs1) (hd : IsD cs1 s (svK (kvT f kvs))) (ac : AppC cs1 (.lst (((kvs.map (·.2)).map f).map SV.val)) n cs2) (hbase : attributeBase a "values" X.env (eval a X.env) = eval a X.env := by rfl) (hline : (apos.endLine == cpos.line) = true := by rfl)
    (hs : starEach [.Call (.Attribute a "values" apos) [] [] cpos] X.env = (false, eval (.Call (.Attribute a "values" apos) [] [] cpos) X.env) :: starEach [] X.env := by rfl) :
    EV X na (.Call (.Name "list" p) [.Call (.Attribute a "values" apos) [] [] cpos] [] pos) sl cs (.cell n) cs2 :=
  ev_of (pe_listVals hc pe_any hg hm (by decide +kernel) hbase hline hs) fun B G ps σ H hn C S Q q => ha B G ps σ H hn C S _ fun v G1 ps1 H1 C1 u1 r1 => by
    obtain ⟨l, us, rfl, h1, h2⟩ := hd.at C1 r1
    refine ⟨l, us, rfl, h1, C1.newCell ac (fun p hp => ⟨us.map Prod.snd, upd_same, ?_⟩) fun v G2 ps2 H2 C2 u2 => q v G2 ps2 H2 C2 (u1.trans u2)⟩
    have := reps_vals h2
    rw [vals_T] at this
    exact RepVs.mono ⟨Same.refl _, List.prefix_append _ _⟩ this
/-- sep.join(xs) -/
theorem ev_join {z : Str} {ys : List Str} (ha : EV X na a sl cs (.val (.str z)) cs1) (hb : EV X na b sl cs1 s cs2) (hl : IsL cs2 s ((ys.map PyData.str).map SV.val)) (hz : (ys.map (·.length)).sum + ys.length * z.length ≤ 16777216)
    (hs : starEach [b] X.env = (false, eval b X.env) :: starEach [] X.env := by rfl) (hbase : attributeBase a "join" X.env (eval a X.env) = eval a X.env := by rfl) (hline : (apos.endLine == pos.line) = true := by rfl) :
    EV X na (.Call (.Attribute a "join" apos) [b] [] pos) sl cs (.val (.str (Txt.join z ys))) cs2 :=
  ev_of (pe_join pe_any pe_any hs hbase hline) fun B G ps σ H hn C S Q q => ha B G ps σ H hn C S _ fun v G1 ps1 H1 C1 u1 r1 => ⟨⟨z, Rep.strI r1⟩, hb B G1 ps1 σ H1 hn C1 (Slots.mono u1 S) _ fun w G2 ps2 H2 C2 u2 r2 => by
    obtain ⟨l, vs, rfl, h1, h2⟩ := hl.sq C2 r2
    have e : vs = ys.map V.str := Reps.strs (Reps.ofVs h2)
    subst e
    exact ⟨z, l, ys, Rep.strI r1, rfl, .inl h1, hz, q _ G2 ps2 H2 C2 (u1.trans u2) (Rep.str _)⟩⟩
/-- d.clear() -/
theorem ev_clearD {k : Nat} {kvs : List (Key × SV)} (ha : EV X na a sl cs (.cell k) cs1) (hc : cs1[k]? = some (.dct kvs)) (p : PutC cs1 k (.dct []) cs2) (hbase : attributeBase a "clear" X.env (eval a X.env) = eval a X.env := by rfl) (hline : (apos.endLine == pos.line) = true := by rfl) :
    EV X na (.Call (.Attribute a "clear" apos) [] [] pos) sl cs (.val .none) cs2 :=
  ev_of (pe_dclear pe_any hbase hline) fun B G ps σ H hn C S Q q => ha B G ps σ H hn C S _ fun v G1 ps1 H1 C1 u1 r1 => by
    obtain ⟨l, rfl, e, ws, h1, h2⟩ := C1.cellAt r1 hc
    rw [p.at] at q
    exact ⟨.inr (.inr (.inl ⟨rfl, .inl ⟨_, h1⟩⟩)), l, ws, rfl, rfl, h1, q _ G1 ps1 _ (C1.put (c' := .dct []) e hc (by intro z; cases z) ⟨_, upd_same, .nil⟩) u1 Rep.non⟩
end
end DL
namespace DL
open PySem PySem.Spec PyProof.Rows L2
section
variable {X : Cx} {na : Nat} {sl sl' : Sl} {cs cs1 cs2 cs3 : Cs} {s t u : SV} {pos spos p : Pos} {x : Str} {a b : Expr}
theorem inV_str (y : Str) : ∀ l : List Str, inV (.str y) (l.map V.str) = memB y l
  | [] => rfl
  | z :: l => by
    have ih := inV_str y l
    unfold inV at ih ⊢
    rw [List.map_cons, List.any_cons, ih]
    unfold memB
    show ((z == y) || decide (y ∈ l)) = decide (y ∈ z :: l)
    rw [Bool.eq_iff_iff, Bool.or_eq_true, beq_iff_eq, decide_eq_true_eq, decide_eq_true_eq, List.mem_cons, eq_comm]
theorem flat_strs : ∀ l : List Str, (l.map V.str).all flatV = true
  | [] => rfl
  | z :: l => by
    rw [List.map_cons, List.all_cons, flat_strs l]
    rfl
theorem tv_inTS {y : Str} {l : List Str} (ha : EV X na a sl cs (.val (.str y)) cs1) (hb : EV X na b sl cs1 (.val (.tuple (l.map PyData.str))) cs2) (hm : behindInMarks .In b = false := by rfl) : TV X na (.Compare a [.In] [b] pos) sl cs (memB y l) cs2 :=
  tv_cmp (pos := pos) op_in_seq hm ha hb fun B G ps H v w hn C r1 r2 Q q => by
    obtain ⟨ad, vs, rfl, h1, h2⟩ := Rep.tupI r2
    have e : vs = l.map V.str := Reps.strs h2
    subst e
    obtain rfl := Rep.strI r1
    refine ⟨ad, _, rfl, .inr (Same.seqT C.gh h1), rfl, flat_strs l, ?_⟩
    rw [inV_str]
    exact q _ G ps H C (Up.refl _ _) (Rep.bl _)
theorem tv_ninTS {y : Str} {l : List Str} (ha : EV X na a sl cs (.val (.str y)) cs1) (hb : EV X na b sl cs1 (.val (.tuple (l.map PyData.str))) cs2) (hm : behindInMarks .NotIn b = false := by rfl) : TV X na (.Compare a [.NotIn] [b] pos) sl cs (!memB y l) cs2 :=
  tv_cmp (pos := pos) op_notIn_seq hm ha hb fun B G ps H v w hn C r1 r2 Q q => by
    obtain ⟨ad, vs, rfl, h1, h2⟩ := Rep.tupI r2
    have e : vs = l.map V.str := Reps.strs h2
    subst e
    obtain rfl := Rep.strI r1
    refine ⟨ad, _, rfl, .inr (Same.seqT C.gh h1), rfl, flat_strs l, ?_⟩
    show Q (.bl (!inV (.str y) (l.map V.str))) H
    rw [inV_str]
    exact q _ G ps H C (Up.refl _ _) (Rep.bl _)
end
end DL
namespace DL
open PySem PySem.Spec PyProof.Rows L2
/-! ### tuples of the same content, compared -/
section
open PySem.SeqAt PySem.AutoSeq1 PySem.MeetsSeq PySem.MeetsSeq2 PySem.MeetsSeq3 PySem.SeqRoads2
variable {prog : Program} {w : World}
theorem tup_ne_same (a1 a2 : Addr) (u1 u2 : Array Value) (k1 k2 : Nat) (q1 q2 : Option Addr) (z1 z2 : Array (Option Value)) :
    MeetsIn prog w (Builtin.«tuple.__ne__» ⟨[.ref a1, .ref a2], []⟩)
      (fun A R s => s.heap.get? a1 = some { cls := .type "tuple", dict := q1, data := .seq u1 k1, slots := z1 } ∧ s.heap.get? a2 = some { cls := .type "tuple", dict := q2, data := .seq u2 k2, slots := z2 } ∧
        u1.size = u2.size ∧ (∀ j (g1 : j < u1.size) (g2 : j < u2.size), EqIn prog w A.in1 s u1[j] u2[j] true) ∧ R (.ok (.ret (.bool false))) s) :=
  .of_wp fun A R s hh => by
    obtain ⟨hp, gg, dd, tk, os⟩ := s
    obtain ⟨e1, e2, ez, he, hR⟩ := hh
    have sub := AutoSeq1.sub_tuple_tuple
    have len : (u1.toList.zip u2.toList).length = u1.size := by simp; omega
    wp_walk using AutoSeq1.wpAny_loadPart' e1, AutoSeq1.wpAny_loadPart' e2, wpAny_forIn_list _ (fun rest b s' => b.1 = none ∧ s' = ⟨hp, gg, dd, tk, os⟩ ∧ ∃ i, rest = (u1.toList.zip u2.toList).drop i) _
    case turn =>
      rintro ⟨v1, v2⟩ rest b s' ⟨hb', rfl, i, hz⟩
      have lt : i < (u1.toList.zip u2.toList).length := by
        refine Nat.lt_of_not_le fun ge => ?_
        rw [List.drop_of_length_le ge] at hz
        cases hz
      have lt1 : i < u1.size := by omega
      have lt2 : i < u2.size := by omega
      rw [List.drop_eq_getElem_cons lt] at hz
      injection hz with both more
      obtain rfl : v1 = u1[i] := by have := congrArg Prod.fst both; simpa using this
      obtain rfl : v2 = u2[i] := by have := congrArg Prod.snd both; simpa using this
      refine wpAny_bind (he i lt1 lt2 _ _ ?_)
      wp_walk
      exact ⟨rfl, rfl, i + 1, more⟩
    case fin =>
      rintro ⟨b1, b2⟩ s' ⟨hb', rfl, i, hz⟩
      simp only at hb'
      subst hb'
      wp_walk
      exact ⟨_, rfl, by simpa [Builtin.Tuple.tupleCompareSizes, bne, ez] using hR⟩
    case h => exact ⟨rfl, rfl, 0, rfl⟩
theorem rc_ne_same {A : Around} {s : Shared} {E : Value → Shared → Prop} {a1 a2 : Addr} {u1 u2 : Array Value} {Q : Value → Shared → Prop} (t1 : s.heap.IsTuple a1 u1) (t2 : s.heap.IsTuple a2 u2) (ez : u1.size = u2.size) (hu : A.units < cLine)
    (he : ∀ j (g1 : j < u1.size) (g2 : j < u2.size), EqIn prog w A.in1 s u1[j] u2[j] true) (h : Q (.bool false) s) : wpAny (model prog w) A (compareOp .NotEq (.ref a1) (.ref a2)) Q E s := by
  obtain ⟨⟨c1, d1, x1, z1⟩, o1, hc1, n1, hd1⟩ := id t1
  obtain ⟨⟨c2, d2, x2, z2⟩, o2, hc2, n2, hd2⟩ := id t2
  simp only at hc1 hd1 hc2 hd2
  subst hc1 hd1 hc2 hd2
  refine wpAny_richCompare_same_room (T := "tuple") (op := .NotEq) ⟨_, o1, rfl⟩ ⟨_, o2, rfl⟩ F.slot_tuple_ne (call_meetsIn F.slot_tuple_ne ⟨_, o1, rfl⟩ F.entry_tuple_ne (F.args_tuple_ne_2 _ _) (tup_ne_same a1 a2 u1 u2 n1 n2 d1 d2 z1 z2) ?_) hu
  exact ⟨o1, o2, ez, he, show Value.bool false ≠ Value.notImplemented ∧ Q (.bool false) s from ⟨(fun x => nomatch x), h⟩⟩
end
theorem paired_at {α β : Type} {R : α → β → Prop} : ∀ {xs : List α} {ys : List β}, Paired R xs ys → ∀ j (h1 : j < xs.length) (h2 : j < ys.length), R xs[j] ys[j]
  | _, _, .cons h _, 0, _, _ => h
  | _, _, .cons _ t, j + 1, h1, h2 => paired_at t j (by simpa using h1) (by simpa using h2)
theorem vals_ix {xs : List V} {us : List Value} (r : Vals xs us) : ∀ j (h1 : j < xs.length) (h2 : j < us.length), RelV xs[j] us[j] := by
  induction r with
  | nil => intro j h1 _; cases h1
  | cons h t ih =>
    intro j h1 h2
    cases j with
    | zero => exact h
    | succ j => exact ih j (by simpa using h1) (by simpa using h2)
def SameV (K : PySem.W.Frag) (H : Hp) (x y : V) : Prop := (∃ d, Dp K H x d ∧ Dp K H y d ∧ SeqAt.shaped d = true ∧ PyData.eqv d d = true) ∨
  ∃ a b ks ls, x = .ref a ∧ y = .ref b ∧ H a = some (.dK ks) ∧ H b = some (.dK ls) ∧ ks.length = ls.length ∧ ∀ p ∈ ks, ∃ y d, valV ls p.1 = some y ∧ Dp K H p.2 d ∧ Dp K H y d ∧ SeqAt.shaped d = true ∧ PyData.eqv d d = true
theorem SameV.at {X : Cx} {pins : List (Addr × Obj)} {σ : L2.St} {H : Hp} {s : Shared} (I : Inv X pins σ H s) {A : Around} (hu : A.in1.units < cLine) (hu2 : A.in1.in1.units + 64 < cLine) {x y : V} (h : SameV X.K H x y) {v u : Value} (rx : RelV x v) (ry : RelV y u) : SeqAt.EqIn X.prog X.w A.in1 s v u true := by
  rcases h with ⟨d, d1, d2, sd, ed⟩ | ⟨a, b, ks, ls, rfl, rfl, ea, eb, hlen, hp⟩
  · obtain ⟨as, r1⟩ := Dp.reads I d _ v d1 rx
    obtain ⟨bs, r2⟩ := Dp.reads I d _ u d2 ry
    have := PySem.W.keq_at (A := A) r1 r2 sd sd (by show A.in1.units + 64 < cLine; have : A.in1.in1.units = A.in1.units + 1 := rfl; omega)
    rw [ed] at this
    exact this.inModel _ _
  · obtain rfl : v = Value.ref a := rx
    obtain rfl : u = Value.ref b := ry
    by_cases hab : a = b
    · subst hab
      exact (SeqAt.EqAt.same _).inModel _ _
    · obtain ⟨_, ya, va, ra, da⟩ := (show ObjOk X.prog X.w H s.heap a (.dK ks) from I.hok a _ ea)
      obtain ⟨_, yb, vb, rb, db⟩ := (show ObjOk X.prog X.w H s.heap b (.dK ls) from I.hok b _ eb)
      have hl : va.length = vb.length := by rw [← ra.length, ← rb.length]; exact hlen
      refine SeqAt.EqIn.of_refs hab fun E Q hq => ?_
      exact PySem.W.keq_eq (knd := mixKind X.prog X.w) (r := true) ya yb da db hu (fun _ => hits_deep I hu2 rb ra hp) (by simpa [hl] using hq)
def rTupNe (K : PySem.W.Frag) : R2 := fun x y H Q => ∃ a b xs ys, x = .ref a ∧ y = .ref b ∧ SqT K H a xs ∧ SqT K H b ys ∧ Paired (SameV K H) xs ys ∧ Q (.bl false) H
theorem op_neTup {X : Cx} (hu : X.A.units + 1 < cLine) (hu2 : X.A.units + 2 + 64 < cLine) : OpR X (compareOp .NotEq) (rTupNe X.K) := by
  intro pins s σ H x y v u Q I rx ry h
  obtain ⟨a, b, xs, ys, rfl, rfl, ea, eb, hp, q⟩ := h
  obtain rfl : v = Value.ref a := rx
  obtain rfl : u = Value.ref b := ry
  obtain ⟨is1, r1, t1, _⟩ := I.tuple ea
  obtain ⟨is2, r2, t2, _⟩ := I.tuple eb
  have l1 := r1.length
  have l2 := r2.length
  have l3 := Paired.length hp
  refine rc_ne_same t1 t2 (by simp; omega) (by omega) (fun j g1 g2 => ?_) ⟨.bl false, H, I, rfl, q⟩
  have j1 : j < xs.length := by simp at g1; omega
  have j2 : j < ys.length := by omega
  have hj : SameV X.K H xs[j] ys[j] := paired_at hp j j1 j2
  exact hj.at (A := X.A) I hu hu2 (by simpa using vals_ix r1 j j1 (by simpa using g1)) (by simpa using vals_ix r2 j j2 (by simpa using g2))
inductive SameD (cs : Cs) : SV → SV → Prop
  | dat {s t : SV} {d : PyData} : IsDat cs s d → IsDat cs t d → SeqAt.shaped d = true → PyData.eqv d d = true → SameD cs s t
  | dct {s t : SV} {kvs : List (Key × PyData)} : IsD cs s (svK kvs) → IsD cs t (svK kvs) → (∀ kv ∈ kvs, SeqAt.shaped kv.2 = true ∧ PyData.eqv kv.2 kv.2 = true) → (kvs.map (·.1)).Nodup → SameD cs s t
theorem SameD.same {K : PySem.W.Frag} {B : Bs} {G H : Hp} {ps : List Addr} {cs : Cs} (C : Core K B G ps cs H) {s t : SV} (h : SameD cs s t) {v u : V} (r1 : RepV K G ps v s) (r2 : RepV K G ps u t) : SameV K H v u := by
  cases h with
  | dat h1 h2 sd ed => exact .inl ⟨_, IsDat.dp C r1 h1 (SeqAt.canLay_of_shaped sd), IsDat.dp C r2 h2 (SeqAt.canLay_of_shaped sd), sd, ed⟩
  | dct hd he hf nd =>
    obtain ⟨a, us, rfl, h1, h2⟩ := hd.at C r1
    obtain ⟨b, ls, rfl, h3, h4⟩ := he.at C r2
    obtain ⟨h5, h6, h7, h8⟩ := repKs_deep C.gh hf h2 h4
    refine .inr ⟨a, b, us, ls, rfl, rfl, h1, h3, h5, fun p hp => ?_⟩
    obtain ⟨y, d, k1, k2⟩ := h8 p hp
    exact ⟨y, d, valV_mem (by rw [h7]; exact nd) k1, k2⟩
theorem SameD.all {K : PySem.W.Frag} {B : Bs} {G H : Hp} {ps : List Addr} {cs : Cs} (C : Core K B G ps cs H) : ∀ {xs ys : List SV} {vs us : List V}, Paired (SameD cs) xs ys → RepVs K G ps vs xs → RepVs K G ps us ys → Paired (SameV K H) vs us
  | _, _, _, _, .nil, .nil, .nil => .nil
  | _, _, _, _, .cons h t, .cons r1 t1, .cons r2 t2 => .cons (h.same C r1 r2) (SameD.all C t t1 t2)
section
variable {X : Cx} {na : Nat} {sl sl' : Sl} {cs cs1 cs2 cs3 : Cs} {s t u : SV} {pos spos p : Pos} {x : Str} {a b : Expr}
/-- (..) != (..), tuples that hold things of the same content -/
theorem tv_neTup {i j k : Nat} {xs ys : List SV} (hr : Room k X.A) (ha : EV X na a sl cs (.cell i) cs1) (hb : EV X na b sl cs1 (.cell j) cs2) (e1 : cs2[i]? = some (.tup xs)) (e2 : cs2[j]? = some (.tup ys)) (hp : Paired (SameD cs2) xs ys) : TV X na (.Compare a [.NotEq] [b] pos) sl cs false cs2 :=
  tv_cmp (op_neTup (by have := hr.un; omega) (by have := hr.un; omega)) (nomark _) ha hb fun B G ps H v w hn C r1 r2 Q q => by
    obtain ⟨p1, rfl, _, vs, h1, h2⟩ := C.cellAt r1 e1
    obtain ⟨p2, rfl, _, us, h3, h4⟩ := C.cellAt r2 e2
    exact ⟨p1, p2, vs, us, rfl, rfl, SqT.of h1, SqT.of h3, SameD.all C hp h2 h4, q _ G ps H C (Up.refl _ _) (Rep.bl _)⟩
end
end DL
namespace DL
open PySem PySem.Spec PyProof.Rows L2
theorem enumL_lt {α : Type} {xs : List α} {i : Nat} {x : α} (h : (i, x) ∈ enumL xs) : i < xs.length := by
  unfold enumL at h
  obtain ⟨⟨y, j⟩, h1, h2⟩ := List.mem_map.mp h
  cases h2
  exact (List.mem_zipIdx' h1).1
theorem enumL_mem {α : Type} {xs : List α} {i : Nat} {x : α} (h : (i, x) ∈ enumL xs) : x ∈ xs := by
  unfold enumL at h
  obtain ⟨⟨y, j⟩, h1, h2⟩ := List.mem_map.mp h
  cases h2
  exact List.fst_mem_of_mem_zipIdx h1
theorem enumL_snd {α : Type} (xs : List α) : (enumL xs).map (·.2) = xs := by
  unfold enumL
  rw [List.map_map]
  exact List.zipIdx_map_fst 0 xs
theorem cut_both {α : Type} (xs : List α) (k m : Nat) : (xs.drop (min k xs.length)).take (min m xs.length - min k xs.length) = (xs.drop k).take (m - k) := by
  by_cases hk : k ≤ xs.length
  · rw [Nat.min_eq_left hk]
    by_cases hm : m ≤ xs.length
    · rw [Nat.min_eq_left hm]
    · rw [Nat.min_eq_right (by omega), List.take_of_length_le (by rw [List.length_drop]; omega), List.take_of_length_le (by rw [List.length_drop]; omega)]
  · rw [Nat.min_eq_right (by omega : xs.length ≤ k), List.drop_of_length_le (Nat.le_refl _), List.drop_of_length_le (by omega), List.take_nil, List.take_nil]
section
variable {X : Cx} {na : Nat} {sl sl' : Sl} {cs cs1 cs2 cs3 : Cs} {s t u : SV} {pos spos p p2 p3 p4 : Pos} {x : Str} {a b c : Expr}
/-- t + u, tuples -/
theorem ev_catT {ds es : List PyData} (ha : EV X na a sl cs (.val (.tuple ds)) cs1) (hb : EV X na b sl cs1 (.val (.tuple es)) cs2) (hz : ds.length + es.length ≤ 1000000) : EV X na (.BinOp a .Add b pos) sl cs (.val (.tuple (ds ++ es))) cs2 :=
  ev_op op_catA ha hb fun B G ps H v w hn C r1 r2 Q q => by
    obtain ⟨q1, vs, rfl, h1, h2⟩ := Rep.tupI r1
    obtain ⟨q2, ws, rfl, h3, h4⟩ := Rep.tupI r2
    refine ⟨q1, q2, vs, ws, rfl, rfl, Same.seqT C.gh h1, Same.seqT C.gh h3, sz (by rw [h2.length, h4.length]; exact hz), fun e => ?_, fun _ e => ?_, fun _ _ => C.newTup (h2.append h4) q⟩
    · subst e
      cases h2
      exact q _ G ps H C (Up.refl _ _) r2
    · subst e
      cases h4
      rw [List.append_nil] at q
      exact q _ G ps H C (Up.refl _ _) r1
/-- xs[k:m], none below nought -/
theorem ev_slFT {ds : List PyData} {k m : Nat} (ha : EV X na a sl cs s cs1) (hb : EV X na b sl cs1 (.val (.int (k : Int))) cs2) (hc : EV X na c sl cs2 (.val (.int (m : Int))) cs3) (hl : IsL cs3 s (ds.map SV.val)) : EV X na (.Subscript a (.Slice (some b) (some c) none p2) pos) sl cs (.val (.list ((ds.drop k).take (m - k)))) cs3 :=
  ev_of (pe_slice sl_list pe_any (po_some pe_any) (po_some pe_any)) fun B G ps σ H hn C S Q q => ha B G ps σ H hn C S _ fun v G1 ps1 H1 C1 u1 r1 => hb B G1 ps1 σ H1 hn C1 (Slots.mono u1 S) _ fun w G2 ps2 H2 C2 u2 r2 => ⟨(k : Int), Rep.intI r2, hc B G2 ps2 σ H2 hn C2 (Slots.mono u2 (Slots.mono u1 S)) _ fun w' G3 ps3 H3 C3 u3 r3 => by
    obtain ⟨l, vs, rfl, h1, h2⟩ := hl.sq C3 (RepV.mono u3 (RepV.mono u2 r1))
    have k1 := Reps.ofVs h2
    have e : cutV vs (some (k : Int)) (some (m : Int)) = (vs.drop k).take (m - k) := by
      unfold cutV
      rw [HT.sIx_nat, HT.sIx_nat]
      exact cut_both vs k m
    refine ⟨(m : Int), Rep.intI r3, l, vs, rfl, h1, ?_⟩
    rw [e]
    exact C3.newLst (Reps.take _ (Reps.drop k k1)) fun v G4 ps4 H4 C4 u4 => q v G4 ps4 H4 C4 (((u1.trans u2).trans u3).trans u4)⟩
end
end DL
set_option Elab.async false
set_option linter.all false
set_option maxRecDepth 100000
set_option maxHeartbeats 8000000
namespace DL
open PySem PySem.Spec PyProof.Rows L2
def topS (i : Nat) : Stmt := PySem.Challenge.pw_outlineward_k41_straight_rows_gone_throu.main.body.getD i (.Pass ⟨0, 0, 0, 0⟩)
abbrev s_smooth : Stmt := topS 1
abbrev N_smooth : List Str := ["base", "pairs", "found", "here", "place", "value"]
abbrev P_smooth : List Str := ["base", "pairs"]
theorem sc_smooth : FnScope N_smooth P_smooth (defScope s_smooth) := ⟨rfl, rfl, rfl, by decide +kernel, rfl, by decide +kernel, by decide +kernel⟩
theorem tb_smooth : tabOk (N_smooth.take 6) (defScope s_smooth) = true := by decide +kernel
abbrev s_entry : Stmt := topS 2
abbrev N_entry : List Str := ["row", "p", "found", "place", "value"]
abbrev P_entry : List Str := ["row", "p"]
theorem sc_entry : FnScope N_entry P_entry (defScope s_entry) := ⟨rfl, rfl, rfl, by decide +kernel, rfl, by decide +kernel, by decide +kernel⟩
theorem tb_entry : tabOk (N_entry.take 5) (defScope s_entry) = true := by decide +kernel
abbrev s_written : Stmt := topS 3
abbrev N_written : List Str := ["row", "p", "v", "pairs", "step"]
abbrev P_written : List Str := ["row", "p", "v"]
theorem sc_written : FnScope N_written P_written (defScope s_written) := ⟨rfl, rfl, rfl, by decide +kernel, rfl, by decide +kernel, by decide +kernel⟩
theorem tb_written : tabOk (N_written.take 4) (defScope s_written) = true := by decide +kernel
abbrev s_changes : Stmt := topS 4
abbrev N_changes : List Str := ["row", "t", "u", "step"]
abbrev P_changes : List Str := ["row", "t", "u"]
theorem sc_changes : FnScope N_changes P_changes (defScope s_changes) := ⟨rfl, rfl, rfl, by decide +kernel, rfl, by decide +kernel, by decide +kernel⟩
theorem tb_changes : tabOk (N_changes.take 3) (defScope s_changes) = true := by decide +kernel
abbrev s_number_at : Stmt := topS 7
abbrev N_number_at : List Str := ["x", "numbers"]
abbrev P_number_at : List Str := ["x", "numbers"]
theorem sc_number_at : FnScope N_number_at P_number_at (defScope s_number_at) := ⟨rfl, rfl, rfl, by decide +kernel, rfl, by decide +kernel, by decide +kernel⟩
theorem tb_number_at : tabOk (N_number_at.take 2) (defScope s_number_at) = true := by decide +kernel
abbrev s_place_at : Stmt := topS 8
abbrev N_place_at : List Str := ["place", "numbers"]
abbrev P_place_at : List Str := ["place", "numbers"]
theorem sc_place_at : FnScope N_place_at P_place_at (defScope s_place_at) := ⟨rfl, rfl, rfl, by decide +kernel, rfl, by decide +kernel, by decide +kernel⟩
theorem tb_place_at : tabOk (N_place_at.take 2) (defScope s_place_at) = true := by decide +kernel
abbrev s_term_at : Stmt := topS 9
abbrev N_term_at : List Str := ["term", "numbers", "rows"]
abbrev P_term_at : List Str := ["term", "numbers", "rows"]
theorem sc_term_at : FnScope N_term_at P_term_at (defScope s_term_at) := ⟨rfl, rfl, rfl, by decide +kernel, rfl, by decide +kernel, by decide +kernel⟩
theorem tb_term_at : tabOk (N_term_at.take 3) (defScope s_term_at) = true := by decide +kernel
abbrev s_each_holds : Stmt := topS 10
abbrev N_each_holds : List Str := ["claim", "numbers", "rows", "t", "u", "row", "other", "more", "p", "least"]
abbrev P_each_holds : List Str := ["claim", "numbers", "rows"]
theorem sc_each_holds : FnScope N_each_holds P_each_holds (defScope s_each_holds) := ⟨rfl, rfl, rfl, by decide +kernel, rfl, by decide +kernel, by decide +kernel⟩
theorem tb_each_holds : tabOk (N_each_holds.take 10) (defScope s_each_holds) = true := by decide +kernel
abbrev s_rise_holds : Stmt := topS 11
abbrev N_rise_holds : List Str := ["claim", "numbers", "rows", "t", "u", "row", "held", "k", "p"]
abbrev P_rise_holds : List Str := ["claim", "numbers", "rows"]
theorem sc_rise_holds : FnScope N_rise_holds P_rise_holds (defScope s_rise_holds) := ⟨rfl, rfl, rfl, by decide +kernel, rfl, by decide +kernel, by decide +kernel⟩
theorem tb_rise_holds : tabOk (N_rise_holds.take 8) (defScope s_rise_holds) = true := by decide +kernel
abbrev s_holds : Stmt := topS 12
abbrev N_holds : List Str := ["claim", "numbers", "rows"]
abbrev P_holds : List Str := ["claim", "numbers", "rows"]
theorem sc_holds : FnScope N_holds P_holds (defScope s_holds) := ⟨rfl, rfl, rfl, by decide +kernel, rfl, by decide +kernel, by decide +kernel⟩
theorem tb_holds : tabOk (N_holds.take 3) (defScope s_holds) = true := by decide +kernel
abbrev s_picked : Stmt := topS 15
abbrev N_picked : List Str := ["picks", "used", "other"]
abbrev P_picked : List Str := ["picks", "used", "other"]
theorem sc_picked : FnScope N_picked P_picked (defScope s_picked) := ⟨rfl, rfl, rfl, by decide +kernel, rfl, by decide +kernel, by decide +kernel⟩
theorem tb_picked : tabOk (N_picked.take 3) (defScope s_picked) = true := by decide +kernel
abbrev s_through : Stmt := topS 16
abbrev N_through : List Str := ["rows", "start", "numbers", "held", "used", "n", "row", "value"]
abbrev P_through : List Str := ["rows", "start"]
theorem sc_through : FnScope N_through P_through (defScope s_through) := ⟨rfl, rfl, rfl, by decide +kernel, rfl, by decide +kernel, by decide +kernel⟩
theorem tb_through : tabOk (N_through.take 8) (defScope s_through) = true := by decide +kernel
abbrev s__law_cell_at : Stmt := topS 18
abbrev N__law_cell_at : List Str := ["_law_script", "_law_k", "_law_number_here"]
abbrev P__law_cell_at : List Str := ["_law_script", "_law_k"]
theorem sc__law_cell_at : FnScope N__law_cell_at P__law_cell_at (defScope s__law_cell_at) := ⟨rfl, rfl, rfl, by decide +kernel, rfl, by decide +kernel, by decide +kernel⟩
theorem tb__law_cell_at : tabOk (N__law_cell_at.take 3) (defScope s__law_cell_at) = true := by decide +kernel
abbrev s__law_mix : Stmt := topS 19
abbrev N__law_mix : List Str := ["_law_seed", "_law_k", "_law_number_here"]
abbrev P__law_mix : List Str := ["_law_seed", "_law_k"]
theorem sc__law_mix : FnScope N__law_mix P__law_mix (defScope s__law_mix) := ⟨rfl, rfl, rfl, by decide +kernel, rfl, by decide +kernel, by decide +kernel⟩
theorem tb__law_mix : tabOk (N__law_mix.take 3) (defScope s__law_mix) = true := by decide +kernel
abbrev s__law_words : Stmt := topS 20
abbrev N__law_words : List Str := ["_law_cell", "_law_many", "_law_letters", "_law_own", "_law_k", "_law_size", "_law_spot", "_law_words_here", "_law_base", "_law_j", "_law_each"]
abbrev P__law_words : List Str := ["_law_cell", "_law_many"]
theorem sc__law_words : FnScope N__law_words P__law_words (defScope s__law_words) := ⟨rfl, rfl, rfl, by decide +kernel, rfl, by decide +kernel, by decide +kernel⟩
theorem tb__law_words : tabOk (N__law_words.take 9) (defScope s__law_words) = true := by decide +kernel
abbrev s__law_made : Stmt := topS 21
abbrev N__law_made : List Str := ["_law_seed", "_law_near", "_law_steps", "_law_last", "_law_base", "_law_place_here", "_law_k", "_law_value"]
abbrev P__law_made : List Str := ["_law_seed", "_law_near"]
theorem sc__law_made : FnScope N__law_made P__law_made (defScope s__law_made) := ⟨rfl, rfl, rfl, by decide +kernel, rfl, by decide +kernel, by decide +kernel⟩
theorem tb__law_made : tabOk (N__law_made.take 8) (defScope s__law_made) = true := by decide +kernel
abbrev s__law_holds : Stmt := topS 22
abbrev N__law_holds : List Str := ["_law_row", "_law_place_here", "_law_value", "_law_at", "_law_number_here"]
abbrev P__law_holds : List Str := ["_law_row", "_law_place_here"]
theorem sc__law_holds : FnScope N__law_holds P__law_holds (defScope s__law_holds) := ⟨rfl, rfl, rfl, by decide +kernel, rfl, by decide +kernel, by decide +kernel⟩
theorem tb__law_holds : tabOk (N__law_holds.take 5) (defScope s__law_holds) = true := by decide +kernel
abbrev s__law_stairs : Stmt := topS 23
abbrev N__law_stairs : List Str := ["_law_row", "_law_at", "_law_number_here", "_law_places", "_law_last", "_law_steps", "_law_place_here", "_law_value"]
abbrev P__law_stairs : List Str := ["_law_row"]
theorem sc__law_stairs : FnScope N__law_stairs P__law_stairs (defScope s__law_stairs) := ⟨rfl, rfl, rfl, by decide +kernel, rfl, by decide +kernel, by decide +kernel⟩
theorem tb__law_stairs : tabOk (N__law_stairs.take 8) (defScope s__law_stairs) = true := by decide +kernel
abbrev s__law_place : Stmt := topS 24
abbrev N__law_place : List Str := ["_law_seed", "_law_w", "_law_near", "_law_x"]
abbrev P__law_place : List Str := ["_law_seed", "_law_w", "_law_near"]
theorem sc__law_place : FnScope N__law_place P__law_place (defScope s__law_place) := ⟨rfl, rfl, rfl, by decide +kernel, rfl, by decide +kernel, by decide +kernel⟩
theorem tb__law_place : tabOk (N__law_place.take 4) (defScope s__law_place) = true := by decide +kernel
abbrev s__law_term : Stmt := topS 25
abbrev N__law_term : List Str := ["_law_seed", "_law_w", "_law_near"]
abbrev P__law_term : List Str := ["_law_seed", "_law_w", "_law_near"]
theorem sc__law_term : FnScope N__law_term P__law_term (defScope s__law_term) := ⟨rfl, rfl, rfl, by decide +kernel, rfl, by decide +kernel, by decide +kernel⟩
theorem tb__law_term : tabOk (N__law_term.take 3) (defScope s__law_term) = true := by decide +kernel
abbrev s__law_number : Stmt := topS 26
abbrev N__law_number : List Str := ["_law_x", "_law_numbers"]
abbrev P__law_number : List Str := ["_law_x", "_law_numbers"]
theorem sc__law_number : FnScope N__law_number P__law_number (defScope s__law_number) := ⟨rfl, rfl, rfl, by decide +kernel, rfl, by decide +kernel, by decide +kernel⟩
theorem tb__law_number : tabOk (N__law_number.take 2) (defScope s__law_number) = true := by decide +kernel
abbrev s__law_worth : Stmt := topS 27
abbrev N__law_worth : List Str := ["_law_term_here", "_law_numbers", "_law_rows", "_law_place_here"]
abbrev P__law_worth : List Str := ["_law_term_here", "_law_numbers", "_law_rows"]
theorem sc__law_worth : FnScope N__law_worth P__law_worth (defScope s__law_worth) := ⟨rfl, rfl, rfl, by decide +kernel, rfl, by decide +kernel, by decide +kernel⟩
theorem tb__law_worth : tabOk (N__law_worth.take 4) (defScope s__law_worth) = true := by decide +kernel
abbrev s__law_put : Stmt := topS 28
abbrev N__law_put : List Str := ["_law_rows", "_law_r", "_law_place_here", "_law_value", "_law_base", "_law_steps", "_law_writes"]
abbrev P__law_put : List Str := ["_law_rows", "_law_r", "_law_place_here", "_law_value"]
theorem sc__law_put : FnScope N__law_put P__law_put (defScope s__law_put) := ⟨rfl, rfl, rfl, by decide +kernel, rfl, by decide +kernel, by decide +kernel⟩
theorem tb__law_put : tabOk (N__law_put.take 7) (defScope s__law_put) = true := by decide +kernel
abbrev s__law_gone : Stmt := topS 29
abbrev N__law_gone : List Str := ["_law_row", "_law_numbers", "_law_rows", "_law_pick_here", "_law_place_here"]
abbrev P__law_gone : List Str := ["_law_row", "_law_numbers", "_law_rows", "_law_pick_here"]
theorem sc__law_gone : FnScope N__law_gone P__law_gone (defScope s__law_gone) := ⟨rfl, rfl, rfl, by decide +kernel, rfl, by decide +kernel, by decide +kernel⟩
theorem tb__law_gone : tabOk (N__law_gone.take 5) (defScope s__law_gone) = true := by decide +kernel
abbrev s__law_start : Stmt := topS 30
abbrev N__law_start : List Str := ["_law_script", "_law_w", "_law_near", "_law_numbers", "_law_rows", "_law_k", "_law_cell"]
abbrev P__law_start : List Str := ["_law_script", "_law_w", "_law_near"]
theorem sc__law_start : FnScope N__law_start P__law_start (defScope s__law_start) := ⟨rfl, rfl, rfl, by decide +kernel, rfl, by decide +kernel, by decide +kernel⟩
theorem tb__law_start : tabOk (N__law_start.take 7) (defScope s__law_start) = true := by decide +kernel
abbrev s__law_drawn : Stmt := topS 31
abbrev N__law_drawn : List Str := ["_law_seed", "_law_w", "_law_near", "_law_kind", "_law_more", "_law_term_here"]
abbrev P__law_drawn : List Str := ["_law_seed", "_law_w", "_law_near"]
theorem sc__law_drawn : FnScope N__law_drawn P__law_drawn (defScope s__law_drawn) := ⟨rfl, rfl, rfl, by decide +kernel, rfl, by decide +kernel, by decide +kernel⟩
theorem tb__law_drawn : tabOk (N__law_drawn.take 6) (defScope s__law_drawn) = true := by decide +kernel
abbrev s__law_pick : Stmt := topS 32
abbrev N__law_pick : List Str := ["_law_seed", "_law_row", "_law_near"]
abbrev P__law_pick : List Str := ["_law_seed", "_law_row", "_law_near"]
theorem sc__law_pick : FnScope N__law_pick P__law_pick (defScope s__law_pick) := ⟨rfl, rfl, rfl, by decide +kernel, rfl, by decide +kernel, by decide +kernel⟩
theorem tb__law_pick : tabOk (N__law_pick.take 3) (defScope s__law_pick) = true := by decide +kernel
abbrev s__law_alike : Stmt := topS 33
abbrev N__law_alike : List Str := ["_law_found", "_law_due", "_law_told", "_law_row", "_law_step", "_law_one"]
abbrev P__law_alike : List Str := ["_law_found", "_law_due"]
theorem sc__law_alike : FnScope N__law_alike P__law_alike (defScope s__law_alike) := ⟨rfl, rfl, rfl, by decide +kernel, rfl, by decide +kernel, by decide +kernel⟩
theorem tb__law_alike : tabOk (N__law_alike.take 5) (defScope s__law_alike) = true := by decide +kernel
abbrev s_law : Stmt := topS 34
abbrev N_law : List Str := ["_law_script", "_law_w", "_law_near", "_law_numbers", "_law_rows", "_law_picks", "_law_straight", "_law_start_here", "_law_r", "_law_many", "_law_k", "_law_cell", "_law_row", "_law_pick_here", "_law_due", "_law_handed", "_law_kept", "_law_found"]
abbrev P_law : List Str := ["_law_script"]
theorem sc_law : FnScope N_law P_law (defScope s_law) := ⟨rfl, rfl, rfl, by decide +kernel, rfl, by decide +kernel, by decide +kernel⟩
theorem tb_law : tabOk (N_law.take 18) (defScope s_law) = true := by decide +kernel
/-- what a script is -/
def Sbd (n : Int) : Prop := ∃ b : Nat, b ≤ 1050000 ∧ n.natAbs < 2 ^ b
theorem Sbd.bd {n : Int} (h : Sbd n) : Bd n := by
  obtain ⟨b, hb, h⟩ := h
  exact ⟨b, by omega, h⟩
theorem sbd_of {ns : List Int} (h : ∀ z ∈ ns, Builtin.Int.intBits z ≤ 1048576) : ∀ z ∈ ns, Sbd z := fun z hz => by
  refine ⟨1048576, by omega, ?_⟩
  have h1 := h z hz
  unfold Builtin.Int.intBits at h1
  by_cases h0 : z = 0
  · subst h0
    exact Nat.two_pow_pos _
  · rw [if_neg (by simpa using h0)] at h1
    exact Nat.lt_of_lt_of_le Nat.lt_log2_self (Nat.pow_le_pow_right (by omega) h1)
structure Scr where
  ns : List Int
  len : ns.length ≤ 63
  bd : ∀ z ∈ ns, Sbd z
abbrev Scr.D (S : Scr) : PyData := .list (S.ns.map .int)
abbrev Scr.at (S : Scr) (k : Nat) : Int := S.ns.getD k 0
theorem Scr.bdAt (S : Scr) (k : Nat) : Sbd (S.at k) := by
  unfold Scr.at
  rw [List.getD_eq_getElem?_getD]
  cases h : S.ns[k]? with
  | none => exact ⟨1, by decide, by decide⟩
  | some z => exact S.bd z (List.mem_of_getElem? h)
theorem Scr.atI (S : Scr) {i : Int} (h0 : 0 ≤ i) (h1 : i < S.ns.length) : L2.atI (S.ns.map PyData.int) i = some (.int (S.at i.toNat)) := at_map h0 h1
section
set_option maxHeartbeats 4000000
/-! ### set(xs) of a list of ints, sorted(set(xs)), of any number -/
/-- what a new set is -/
def eset (w : World) : Obj := { cls := .type "set", dict := none, data := .set #[] 0 (.fresh 0 0 (!w.params.followText "set-order")) }
section
variable {P : Program} {w : World} {A : Around} {Er : Value → Shared → Prop} {s : Shared}
set_option maxRecDepth 100000 in
theorem setl_call {at_ : Addr} {vals : Array Value} (ns : List Int) {Good : Value → Shared → Prop} (calm : A.handled = none) (isl : s.heap.IsList at_ vals) (iv : IntsAre vals.toList ns) (few : ns.length + 1 < scanBound)
    (fin : ∀ (hp : Heap) (tok cnt : Nat), SetR w hp s.heap.objs.size (fun j => decide (j ∈ ns)) cnt → cnt ≤ ns.length → (∀ b o, s.heap.get? b = some o → hp.get? b = some o) → Good (.ref s.heap.objs.size) { s with heap := hp, toks := tok }) :
    wpAny (model P w) A (call (.type "set") [.ref at_]) Good Er s := by
  have size_eq : vals.size = ns.length := by
    have := IntsAre.length iv
    rwa [Array.length_toList] at this
  obtain ⟨c0, tl0, mro0⟩ := F.called_set.mro
  have made0 := F.called_set.made
  have sub0 := F.called_set.sub
  refine wpAny_call (codeAny_of_tree ?_)
  show wpAny (model P w) _ (callAny (.type "set") _) _ _ s
  refine wpAny_pure ⟨Code.quiet_builtin _ (by decide +kernel), codeAny_builtin F.entry_type_call ?_⟩
  rw [Around.under_plain (weight_type_call_type "set" [.ref at_] []) rfl]
  have nt0 := F.called_set.notType
  have cc0 := F.called_set.canCreate
  have tc0 := F.typeCall_set_1 (.ref at_)
  repeat (any_goals (first | assumption | wp_step))
  refine codeAny_mono (code_set_led1 (.ref at_) (E := Er) (Q₁ := fun ob s₁ => ob = .ref s.heap.objs.size ∧ s₁ = { s with heap := s.heap.push (eset w) }) ⟨rfl, rfl⟩) fun res st1 hres => ?_
  match res, hres with
  | .error _, z => exact z
  | .ok (.ret ob), z =>
    obtain ⟨rfl, rfl⟩ := z
    have here : (s.heap.push (eset w)).get? s.heap.objs.size = some (eset w) := Heap.get?_push_size _ rfl
    have isset : Shared.TypeIs { s with heap := s.heap.push (eset w) } (.ref s.heap.objs.size) "set" := ⟨_, here, rfl⟩
    have lk0 := F.called_set.init.lookup
    have bi0 := F.called_set.init.bind (.ref s.heap.objs.size)
    repeat (any_goals (first | assumption | wp_step))
    refine codeAny_mono (codeAny_call_builtin (R := wants (fun told s₂ => told = .none ∧ ∃ hp tok cnt, s₂ = { s with heap := hp, toks := tok } ∧ SetR w hp s.heap.objs.size (fun j => decide (j ∈ ns)) cnt ∧ cnt ≤ ns.length ∧
        (∀ b o, s.heap.get? b = some o → hp.get? b = some o)) Er) F.called_set.init.plain F.entry_set_init (check_set_init_1 isset ?_)) fun res2 st2 hres2 => ?_
    · obtain ⟨ob, hob, cl, nn, dt⟩ := isl
      obtain ⟨f1, f2, f3, f4⟩ := ob
      simp only at cl dt
      subst cl
      subst dt
      have hob2 : (s.heap.push (eset w)).get? at_ = some { cls := .type "list", dict := f2, data := .seq vals nn, slots := f4 } := Heap.get?_push_of_some _ hob
      have n1 := F.sub_list_set
      have n2 := F.sub_list_frozenset
      have n3 : (Value.type "list" == Value.type "dict") = false := by decide
      have isl2 : (s.heap.push (eset w)).IsList at_ vals := ⟨_, hob2, rfl, nn, rfl⟩
      unfold Builtin.«set.__init__» noKeywords Builtin.Frozenset.updateFrom
      generalize hold : pyIter = walkIt
      wp_walk
      subst hold
      refine wpAny_pyIter_list isl2 ?_
      refine wpAny_bind (wpAny_runValue ?_)
      have ltA : at_ < s.heap.objs.size := Heap.lt_size hob
      have calm3 : A.in1.in1.in1.handled = none := by simp [calm]
      have neIt : at_ ≠ (s.heap.push (eset w)).objs.size := by
        rw [Heap.size_push]
        exact fun z => Nat.lt_irrefl _ (Nat.lt_trans (z ▸ ltA : s.heap.objs.size + 1 < _) (Nat.lt_succ_self _))
      have notIn : s.heap.objs.size ∉ [(s.heap.push (eset w)).objs.size, at_] := by
        intro z
        rcases List.mem_cons.mp z with z | z
        · rw [Heap.size_push] at z
          exact Nat.ne_of_lt (Nat.lt_succ_self _) z
        · rw [List.mem_singleton] at z
          exact Nat.lt_irrefl _ (z ▸ ltA)
      have each : ∀ (i : Nat) (v : Value), vals[i]? = some v → ∃ k t, ns[i]? = some k ∧ v = .int k t := fun i v hv => by
        have hi : i < ns.length := by
          rw [← size_eq]
          exact (Array.getElem?_eq_some_iff.mp hv).1
        obtain ⟨t, e⟩ := IntsAre.int_at iv i v (by rw [Array.getElem?_toList]; exact hv)
        exact ⟨ns[i], t, List.getElem?_eq_getElem hi, by rw [e, List.getD_eq_getElem?_getD, List.getElem?_eq_getElem hi]; rfl⟩
      refine set_update_ints ((Walks.list calm3 _ at_ neIt vals).toS) s.heap.objs.size notIn ns size_eq few each vals.size 0 _ (by omega) (by omega) ⟨⟨_, Heap.get?_push_size _ rfl, rfl, rfl⟩, isl2.push _⟩ ⟨0, by omega, ?_⟩ ?_
      · exact setR_new_at (Heap.get?_push_of_some _ here)
      · intro sx cx mv le set2
        have g1 : sx.gens = s.gens := mv.gens
        have g2 : sx.drawn = s.drawn := mv.drawn
        have g3 : sx.os = s.os := mv.os
        show wpAny _ _ _ _ _ _
        refine wpAny_pure ?_
        show wpAny _ _ (ret Value.none) _ _ _
        rw [size_eq] at le
        refine wpAny_pure ⟨rfl, sx.heap, sx.toks, cx, ?_, set2, le, fun b o e => ?_⟩
        · cases sx
          cases s
          simp only at g1 g2 g3
          subst g1
          subst g2
          subst g3
          rfl
        · have b0 : b < s.heap.objs.size := Heap.lt_size e
          refine mv.heap b o (fun z => ?_) (Heap.get?_push_of_some _ (Heap.get?_push_of_some _ e))
          rcases List.mem_cons.mp z with z | z
          · exact Nat.lt_irrefl _ (z ▸ b0)
          · rw [List.mem_singleton, Heap.size_push] at z
            exact Nat.lt_irrefl _ (Nat.lt_trans (z ▸ b0 : s.heap.objs.size + 1 < _) (Nat.lt_succ_self _))
    · match res2, hres2 with
      | .error _, z => exact z
      | .ok (.ret _), z =>
        obtain ⟨rfl, hp, tok, cnt, rfl, k1, k2, k3⟩ := z
        repeat (any_goals (first | assumption | wp_step))
        exact fin _ _ _ k1 k2 k3
end
section
variable {P : Program} {w : World} {A : Around} {Er : Value → Shared → Prop} {s : Shared}
theorem sets_sorted {at_ : Addr} {S : Int → Bool} {cnt : Nat} {Good : Value → Shared → Prop} (R : SetR w s.heap at_ S cnt) (calm : A.handled = none)
    (fin : ∀ (s2 : Shared) (p : Addr) (out : List Value) (ns : List Int), (∀ b o, s.heap.get? b = some o → s2.heap.get? b = some o) → s2.gens = s.gens → s2.os = s.os → s.heap.objs.size ≤ p → (∃ ep, s2.heap.get? p = some (seqObj "list" out.toArray ep)) →
      IntsAre out ns → ns.length ≤ sizeLine → ns.Pairwise (· < ·) → (∀ k, k ∈ ns ↔ S k = true) → Good (.ref p) s2) :
    wpAny (model P w) A (call (.builtin "sorted") [.ref at_]) Good Er s := by
  obtain ⟨ob, es, ep, tb, hob, ex, dt, good, nodup, mem, few, fits, size, ris, led⟩ := R
  refine Calls.call_function_entry kind_sorted plain_sorted entry_sorted (args_sorted1 _) ?_
  unfold Builtin.«sorted»
  refine wpAny_bind (m := checkCount "sorted" 1 1 _) (wpAny_pure ?_)
  refine wpAny_bind (collect_set (A := A.in1) calm ⟨ob, hob, ex.1, dt⟩ fits few ris led fun st got keep grow gens os perm => ?_)
  have allI : ∀ v ∈ got, ∃ i t, v = Value.int i t := fun v hv => by
    obtain ⟨e, he, q⟩ := List.mem_map.mp (perm.mem_iff.mp hv)
    obtain ⟨k, tk, h1, _⟩ := good e he
    exact ⟨k, tk, by rw [← q]; exact h1⟩
  have hI := SrtO.ints_iv allI
  have lenG : got.length < scanBound := by
    rw [perm.length_eq, List.length_map, Array.length_toList]
    exact few
  have lenS : got.length ≤ sizeLine := by
    rw [sizeLine_eq]
    unfold scanBound at lenG
    omega
  have keys : (got.map SrtO.iv).Perm (es.toList.map keyOf) := by
    have q := perm.map SrtO.iv
    rw [List.map_map] at q
    refine q.trans (List.Perm.of_eq (List.map_congr_left fun e he => ?_))
    obtain ⟨k, tk, h1, _⟩ := good e he
    show SrtO.iv e.2 = keyOf e
    unfold keyOf
    rw [h1]
    rfl
  refine wpAny_bind (wpAny_newList ?_ (by omega))
  have there : (st.heap.push (seqObj "list" got.toArray 0)).get? st.heap.objs.size = some (seqObj "list" got.toArray 0) := Heap.get?_push_size _ rfl
  refine wpAny_bind (wpAny_holding (wpAny_call_entry slot_list_sort ⟨_, there, rfl⟩ entry_list_sort (SrtO.list_sort_ord SrtO.swo_int there lenS (fun h2 => SrtO.ints_sortable hI h2) fun out o1 o2 => ⟨_, rfl, ?_⟩) (args_list_sort _)))
  obtain ⟨k1, k2, k3⟩ := SrtO.ints_out hI o1 o2
  obtain ⟨e2, atP⟩ := sortedHeap_at (vs := got) (out := out.toArray) there
  have pm : (out.map SrtO.iv).Perm (es.toList.map keyOf) := k2.trans keys
  have lenO : (out.map SrtO.iv).length ≤ sizeLine := by
    rw [k2.length_eq, List.length_map]
    exact lenS
  refine wpAny_pure ⟨_, rfl, fin _ st.heap.objs.size out (out.map SrtO.iv) (fun b u e => ?_) gens os grow ⟨e2, atP⟩ k1 lenO ?_ fun k => by rw [pm.mem_iff, ← mem k]⟩
  · have old := keep b u e
    have lt := Heap.lt_size old
    show (sortedHeap _ _ _ _).get? b = some u
    rw [sortedHeap_old (Nat.ne_of_lt lt) (by rw [size_push']; exact Nat.lt_succ_of_lt lt)]
    exact Heap.get?_push_of_some _ old
  · have nd2 := pm.nodup_iff.mpr nodup
    exact (k3.and nd2).imp fun {x y} h => by omega
end
/-- what set(xs) is -/
def rSetIL (K : PySem.W.Frag) (w : World) : List V → Hp → VK → Prop := fun xs H Q => ∃ (l : Addr) (ns : List Int), xs = [V.ref l] ∧ SqL K H l (ns.map V.int) ∧ ns.length + 1 < scanBound ∧
  ∀ (a : Addr) (c : Nat), H a = none → c ≤ ns.length → Q (.ref a) (upd H a (SetO w a (fun j => decide (j ∈ ns)) c))
/-- sorted of a set of ints -/
def rSortIS (w : World) : List V → Hp → VK → Prop := fun xs H Q => ∃ (a : Addr) (S : Int → Bool) (n : Nat), xs = [V.ref a] ∧ H a = some (SetO w a S n) ∧
  ∀ (ns : List Int) (p : Addr), ns.Pairwise (· < ·) → (∀ k : Int, k ∈ ns ↔ S k = true) → H p = none → Q (.ref p) (upd H p (.lst (ns.map V.int)))
section
variable {X : Cx}
theorem cr_setIL (calm : X.calm = true) : CallR X (.type "set") (rSetIL X.K X.w) := by
  intro pins s σ H xs us Q I r h
  obtain ⟨l, ns, rfl, hl, few, q⟩ := h
  rw [Vals.ref1 r]
  obtain ⟨its, rv, pl, _⟩ := I.list hl
  have free : H s.heap.objs.size = none := I.hok.fresh (Nat.le_refl _)
  refine setl_call ns (I.ok.hd calm) pl.isList (by simpa using rv.ints) few fun hp tok cnt R le keep => ?_
  exact ⟨.ref s.heap.objs.size, upd H s.heap.objs.size (SetO X.w s.heap.objs.size (fun j => decide (j ∈ ns)) cnt), I.laid (t' := tok) keep (Nat.le_refl _) (setO_new R), rfl, q _ cnt free le⟩
theorem cr_sortIS (calm : X.calm = true) : CallR X (.builtin "sorted") (rSortIS X.w) := by
  intro pins s σ H xs us Q I r h
  obtain ⟨a, S, n, rfl, ha, q⟩ := h
  rw [Vals.ref1 r]
  refine sets_sorted (setO_get I ha) (I.ok.hd calm) fun s2 p out ns keep gens os free ⟨ep, atp⟩ iso len srt mem => ?_
  have hn : H p = none := I.hok.fresh free
  have lenV : (ns.map V.int).length ≤ sizeLine := by rw [List.length_map]; exact len
  have J : Inv X pins σ (upd H p (.lst (ns.map V.int))) { s with heap := s2.heap, gens := s2.gens, drawn := s2.drawn, toks := s2.toks } :=
    I.call (ch := []) (Un.laid keep free hn) (I.hok.laid keep free ⟨lenV, out, ep, vals_of_ints iso, atp⟩) (by rw [gens]; exact I.bare) (fun _ z => nomatch z)
  have same : s2 = { s with heap := s2.heap, gens := s2.gens, drawn := s2.drawn, toks := s2.toks } := by
    cases s2
    cases s
    cases os
    rfl
  rw [same]
  exact ⟨.ref p, _, J, rfl, q ns p srt mem hn⟩
end
def uniqS : List Int → List Int
  | [] => []
  | [a] => [a]
  | a :: b :: r => if a = b then uniqS (b :: r) else a :: uniqS (b :: r)
/-- the numbers of a list, each once, rising -/
def sortU (ns : List Int) : List Int := uniqS (sortI ns)
theorem uniqS_ok : ∀ (l : List Int), l.Pairwise (· ≤ ·) → (uniqS l).Pairwise (· < ·) ∧ ∀ k, k ∈ uniqS l ↔ k ∈ l
  | [], _ => ⟨List.Pairwise.nil, fun k => Iff.rfl⟩
  | [a], _ => ⟨List.pairwise_singleton _ _, fun k => Iff.rfl⟩
  | a :: b :: r, hl => by
    rw [List.pairwise_cons] at hl
    obtain ⟨h1, h2⟩ := uniqS_ok (b :: r) hl.2
    by_cases e : a = b
    · have q : uniqS (a :: b :: r) = uniqS (b :: r) := by
        show (if a = b then _ else _) = _
        rw [if_pos e]
      rw [q]
      refine ⟨h1, fun k => ?_⟩
      rw [h2, List.mem_cons (a := k) (b := a), e]
      exact ⟨.inr, fun z => z.elim (fun z => by rw [z]; exact List.mem_cons_self) id⟩
    · have q : uniqS (a :: b :: r) = a :: uniqS (b :: r) := by
        show (if a = b then _ else _) = _
        rw [if_neg e]
      rw [q]
      refine ⟨List.pairwise_cons.mpr ⟨fun x hx => ?_, h1⟩, fun k => by rw [List.mem_cons, h2, List.mem_cons (a := k) (b := a)]⟩
      have hx2 := (h2 x).mp hx
      have l1 := hl.1 b List.mem_cons_self
      rcases List.mem_cons.mp hx2 with z | z
      · omega
      · have := (List.pairwise_cons.mp hl.2).1 x z
        omega
theorem sortU_ok (ns : List Int) : (sortU ns).Pairwise (· < ·) ∧ ∀ k, k ∈ sortU ns ↔ k ∈ ns := by
  obtain ⟨h1, h2⟩ := uniqS_ok _ (sortI_srt ns)
  exact ⟨h1, fun k => (h2 k).trans (sortI_perm ns).mem_iff⟩
theorem uniqS_len : ∀ l : List Int, (uniqS l).length ≤ l.length
  | [] => Nat.le_refl _
  | [a] => Nat.le_refl _
  | a :: b :: r => by
    have := uniqS_len (b :: r)
    show (if a = b then uniqS (b :: r) else a :: uniqS (b :: r)).length ≤ _
    split
    · rw [List.length_cons]; omega
    · rw [List.length_cons, List.length_cons (a := a)]; omega
theorem sortU_len (ns : List Int) : (sortU ns).length ≤ ns.length := by
  have h := uniqS_len (sortI ns)
  rw [(sortI_perm ns).length_eq] at h
  exact h
theorem sortU_uniq {ns ms : List Int} (h : ms.Pairwise (· < ·)) (hm : ∀ k, k ∈ ms ↔ k ∈ ns) : ms = sortU ns := by
  obtain ⟨h1, h2⟩ := sortU_ok ns
  have n1 : ms.Nodup := h.imp fun {a b} h => by omega
  have n2 : (sortU ns).Nodup := h1.imp fun {a b} h => by omega
  have p : ms.Perm (sortU ns) := (List.perm_ext_iff_of_nodup n1 n2).mpr fun k => (hm k).trans (h2 k).symm
  exact perm_sorted (le := fun a b : Int => a ≤ b) (fun a b h1 h2 => by omega) p (h.imp fun {a b} h => by omega) (h1.imp fun {a b} h => by omega)
section
variable {X : Cx} {na : Nat} {sl sl' : Sl} {cs cs1 cs2 cs3 : Cs} {s t u : SV} {pos pos2 p p2 : Pos} {a : Expr}
theorem ev_sortedSet {ns : List Int} (hm : X.mg "sorted" = none) (hm2 : X.mg "set" = none) (ha : EV X na a sl cs s cs1) (hl : IsL cs1 s ((ns.map PyData.int).map SV.val)) (few : ns.length ≤ 1000) (hc : X.calm = true := by rfl) (hg : Gl X "sorted" := by rfl) (hg2 : Gl X "set" := by rfl)
    (hs : starEach [a] X.env = (false, eval a X.env) :: starEach [] X.env := by rfl) (hs2 : starEach [.Call (.Name "set" p2) [a] [] pos2] X.env = (false, eval (.Call (.Name "set" p2) [a] [] pos2) X.env) :: starEach [] X.env := by rfl)
    (hpl : (backTo pos2 (starEach [] X.env)).any (·.1) = false := by rfl) (hpl2 : (backTo pos (starEach [] X.env)).any (·.1) = false := by rfl) :
    EV X na (.Call (.Name "sorted" p) [.Call (.Name "set" p2) [a] [] pos2] [] pos) sl cs (.val (.list ((sortU ns).map .int))) cs1 := by
  have inner : PE X (.Call (.Name "set" p2) [a] [] pos2) (tCB (rSetIL X.K X.w) (tCons (anyE X a) tNil)) := pe_callTy (cr_setIL hc) hg2 hm2 (by decide +kernel) (pa_cons pe_any pa_nil hs) (by decide) (by decide) hs hpl
  refine ev_of (pe_callB (cr_sortIS hc) hg hm (by decide +kernel) (pa_cons inner pa_nil hs2) (by decide) (by decide) hs2 hpl2) fun B G ps σ H hn C S Q q => ?_
  refine ha B G ps σ H hn C S _ fun v G1 ps1 H1 C1 u1 r1 => ?_
  obtain ⟨l, vs, rfl, h1, h2⟩ := hl.sq C1 r1
  have e : vs = ns.map V.int := Reps.ints (Reps.ofVs h2)
  subst e
  refine ⟨l, ns, rfl, h1, by unfold scanBound; omega, fun b c hb _ => ?_⟩
  have C2 := C1.alloc (SetO X.w b (fun j => decide (j ∈ ns)) c) hb
  have u2 : Up G1 ps1 (upd G1 b (SetO X.w b (fun j => decide (j ∈ ns)) c)) ps1 := ⟨Same.new (C1.freeG hb), List.prefix_refl _⟩
  refine ⟨b, _, _, rfl, upd_same, fun ms d srt mem hd => ?_⟩
  have : ms = sortU ns := sortU_uniq srt fun k => (mem k).trans (by rw [decide_eq_true_eq])
  subst this
  exact C2.newLst (Reps.ofInts _) (fun z G' ps' H' C' u' r' => q z G' ps' H' C' ((u1.trans u2).trans u') r') d hd
end
end
/-! ### how a text is gone through -/
local macro_rules | `(tactic| wtm_at "d.lk") => `(tactic| first | exact Lk.here | (apply Lk.there; wtm_at "d.lk"))
local macro_rules | `(tactic| wtm_at "d.put") => `(tactic| first | exact Put.here | (apply Put.there; wtm_at "d.put"))
local macro_rules | `(tactic| wtm_at "d.putC") => `(tactic| first | exact PutC.here | (apply PutC.there; wtm_at "d.putC"))
local macro_rules | `(tactic| wtm_at "d.appC") => `(tactic| first | exact AppC.nil | (apply AppC.cons; wtm_at "d.appC"))
local macro_rules | `(tactic| wtm_at "d.le") => `(tactic| first | exact Le.nil | (apply Le.same; wtm_at "d.le") | (apply Le.lose; wtm_at "d.le"))
local macro_rules | `(tactic| wtm_at "d.isL") => `(tactic| first | exact IsL.val | exact IsL.cell rfl | assumption)
local macro_rules | `(tactic| wtm_at "d.isQ") => `(tactic| first | exact IsQ.t | exact IsQ.l IsL.val | exact IsQ.l (IsL.cell rfl))
local macro_rules | `(tactic| wtm_at "d.isD") => `(tactic| first | exact IsD.val | exact IsD.cell rfl | assumption)
local macro_rules | `(tactic| wtm_at "d.isDat") => `(tactic| first | exact IsDat.val | exact IsDat.cell rfl rfl | assumption)
local macro_rules | `(tactic| wtm_at "d.flat") => `(tactic| first | rfl | exact flat_map _ | exact flat_svK _ | exact all_flat1 (flat_map _) | exact all_flat1 (flat_svK _) | assumption | (simp [CC.flat, SV.isVal]; done))
local macro_rules | `(tactic| wtm_at "d.sel") => `(tactic| first | exact Sel.nil | (refine' Sel.cons rfl (by wtm_at "d.flat") (by intro z; cases z) ?t; (case t => wtm_at "d.sel")))
local macro_rules | `(tactic| wtm_at "d.ren") => `(tactic| first | exact RenA.nil | (apply RenA.val; wtm_at "d.ren") | (refine' RenA.cell rfl ?t; (case t => wtm_at "d.ren")))
local macro_rules | `(tactic| wtm_at "d.setA") => `(tactic| first | exact SetA.nil | (refine' SetA.cons ?h ?t; (case h => wtm_at "d.putC"); (case t => wtm_at "d.setA")))
local macro_rules | `(tactic| wtm_at "d.args") => `(tactic| first | exact av_nil | (refine' av_cons ?h ?t; (case h => wtm_at "d.ev"); (case t => wtm_at "d.args")))
local macro_rules | `(tactic| wtm_at "d.argsD") => `(tactic| first | exact ad_nil | (refine' ad_cons ?h ?t; (case h => wtm_at "d.ev"); (case t => wtm_at "d.argsD")))
local macro_rules | `(tactic| wtm_at "d.argsC") => `(tactic| first | exact av_nil | (refine' av_cons ?h ?t; (case h => first | wtm_at "d.evC" | wtm_at "d.ev"); (case t => wtm_at "d.argsC")))
local macro_rules | `(tactic| wtm_at "d.side") => `(tactic| first | with_reducible assumption | omega | decide | rfl)
local macro_rules | `(tactic| wtm_at "d.mul") => `(tactic| first | with_reducible assumption | exact small_mul (by omega) (by omega) | exact bd_mul_small (by assumption) (by omega) | exact bd_mul_small (Deal.bd _) (by omega) | exact small_mul (by decide) (by decide))
local macro_rules | `(tactic| wtm_at "d.div") => `(tactic| exact small_div (by omega) (by omega))
local macro_rules | `(tactic| wtm_at "d.pow") => `(tactic| exact ⟨by decide, by decide, by decide⟩)
local macro_rules | `(tactic| wtm_at "d.at") => `(tactic| first | with_reducible assumption | exact at_if | rfl | exact at_zero | (apply atI_nat; assumption))
local macro_rules | `(tactic| wtm_at "d.lt") => `(tactic| first | rfl | (simp [CC.lt, SV.lt]; done))
local macro_rules | `(tactic| wtm_at "d.ret") => `(tactic| first
  | (refine RetOk.val ?_ rfl ?_; (exact ⟨_, rfl⟩); wtm_at "d.lt")
  | (refine RetOk.frz ?_ rfl ?_ ?_ rfl ?_; (exact Nat.le_of_ble_eq_true rfl); (first | rfl | (simp [CC.data, svData_map, kvData_map]; done)); (exact ⟨_, rfl⟩); wtm_at "d.lt")
  | (refine RetOk.new ?_ rfl ?_ ?_ ?_ rfl ?_; (exact Nat.le_of_ble_eq_true rfl); (first | rfl | (simp [CC.flat, SV.isVal]; done)); (intro z; cases z); (exact ⟨_, rfl⟩); wtm_at "d.lt"))
local macro_rules | `(tactic| wtm_at "d.dget") => `(tactic| (refine' ev_dget (by assumption) ?ha ?hb ?hd ?hk ?hl; (case ha => wtm_at "d.ev"); (case hb => wtm_at "d.ev"); (case hd => wtm_at "d.isD"); (case hk => constructor); (case hl => first | assumption | rfl)))
local macro_rules | `(tactic| wtm_at "d.dg2") => `(tactic| first | assumption | rfl)
local macro_rules | `(tactic| wtm_at "d.dget2") => `(tactic| (refine' ev_dget2 (by assumption) ?hf ?ha ?hb ?hd1 ?hd ?hk ?hl; (case ha => wtm_at "d.ev"); (case hb => wtm_at "d.ev"); (case hf => wtm_at "d.ev"); (case hd1 => exact ⟨_, by wtm_at "d.isD"⟩); (case hd => wtm_at "d.isD"); (case hk => constructor); (case hl => wtm_at "d.dg2")))
local macro_rules | `(tactic| wtm_at "d.two") => `(tactic| ((case ha => wtm_at "d.ev"); (case hb => wtm_at "d.ev")))
local macro_rules | `(tactic| wtm_at "d.nelist") => `(tactic| (refine' tv_neD (by assumption) ?ha ?hb ?hd ?he ?sd ?se; (case ha => wtm_at "d.ev"); (case hb => wtm_at "d.ev"); (case hd => wtm_at "d.isDat"); (case he => wtm_at "d.isDat"); (case sd => assumption); (case se => assumption)))
local macro_rules | `(tactic| wtm_at "d.eqDD") => `(tactic| first
  | (refine' tv_eqDD (by assumption) ?ha ?hb ?hd ?he ?hf ?nd; (case ha => wtm_at "d.ev"); (case hb => wtm_at "d.ev"); (case hd => wtm_at "d.isD"); (case he => wtm_at "d.isD"); (case hf => assumption); (case nd => assumption))
  | (refine' tv_neDD (by assumption) ?ha ?hb ?hd ?he ?hf ?nd; (case ha => wtm_at "d.ev"); (case hb => wtm_at "d.ev"); (case hd => wtm_at "d.isD"); (case he => wtm_at "d.isD"); (case hf => assumption); (case nd => assumption)))
local macro_rules | `(tactic| wtm_at "d.eqD") => `(tactic| first
  | (refine' ev_eqDD (by assumption) ?ha ?hb ?hd ?he ?hf ?nd; (case ha => wtm_at "d.ev"); (case hb => wtm_at "d.ev"); (case hd => wtm_at "d.isD"); (case he => wtm_at "d.isD"); (case hf => assumption); (case nd => assumption))
  | (refine' ev_eqD (by assumption) ?ha ?hb ?hd ?he ?sd ?se; (case ha => wtm_at "d.ev"); (case hb => wtm_at "d.ev"); (case hd => wtm_at "d.isDat"); (case he => wtm_at "d.isDat"); (case sd => first | rfl | assumption); (case se => first | rfl | assumption)))
local macro_rules | `(tactic| wtm_at "d.catL") => `(tactic| (refine' ev_catL ?ha ?hb ?hl ?hm ?hz; (case ha => wtm_at "d.ev"); (case hb => wtm_at "d.ev"); (case hl => wtm_at "d.isL"); (case hm => wtm_at "d.isL"); (case hz => first | assumption | decide)))
local macro_rules | `(tactic| wtm_at "d.slF") => `(tactic| (refine' ev_slFrom (k := 1) ?ha ?hb ?hl _; (case ha => wtm_at "d.ev"); (case hb => wtm_at "d.ev"); (case hl => wtm_at "d.isL")))
local macro_rules | `(tactic| wtm_at "d.tv") => `(tactic| first
  | (refine' tv_w ?h; (case h => wtm_at "d.wv"))
  | (refine' tv_not ?h; (case h => wtm_at "d.tv"))
  | (refine' tv_lt ?ha ?hb; (case ha => wtm_at "d.ev"); (case hb => wtm_at "d.ev")) | (refine' tv_le ?ha ?hb; (case ha => wtm_at "d.ev"); (case hb => wtm_at "d.ev")) | (refine' tv_gt ?ha ?hb; (case ha => wtm_at "d.ev"); (case hb => wtm_at "d.ev")) | (refine' tv_ge ?ha ?hb; (case ha => wtm_at "d.ev"); (case hb => wtm_at "d.ev"))
  | (refine' tv_eqI ?ha ?hb; (case ha => wtm_at "d.ev"); (case hb => wtm_at "d.ev")) | (refine' tv_eqS ?ha ?hb; (case ha => wtm_at "d.ev"); (case hb => wtm_at "d.ev")) | (refine' tv_neI ?ha ?hb; (case ha => wtm_at "d.ev"); (case hb => wtm_at "d.ev")) | (refine' tv_neS ?ha ?hb; (case ha => wtm_at "d.ev"); (case hb => wtm_at "d.ev"))
  | (refine' tv_isN ?ha ?hb; (case ha => wtm_at "d.ev"); (case hb => wtm_at "d.ev")) | (refine' tv_notN ?ha ?hb; (case ha => wtm_at "d.ev"); (case hb => wtm_at "d.ev"))
  | (refine' tv_din (by assumption) ?ha ?hb ?hd ?hk; (case ha => wtm_at "d.ev"); (case hb => wtm_at "d.ev"); (case hd => wtm_at "d.isD"); (case hk => constructor))
  | (refine' tv_dnin (by assumption) ?ha ?hb ?hd ?hk; (case ha => wtm_at "d.ev"); (case hb => wtm_at "d.ev"); (case hd => wtm_at "d.isD"); (case hk => constructor))
  | wtm_at "d.nelist"
  | (refine' tv_isnotB ?ha ?hb; (case ha => wtm_at "d.ev"); (case hb => wtm_at "d.ev"))
  | wtm_at "d.eqDD"
  | (refine' tv_neDF (by assumption) ?ha ?hb ?hd ?he ?hf ?nd; (case ha => wtm_at "d.ev"); (case hb => wtm_at "d.ev"); (case hd => wtm_at "d.isD"); (case he => wtm_at "d.isD"); (case hf => assumption); (case nd => assumption))
  | (refine' tv_val ?h; (case h => wtm_at "d.ev")))
local macro_rules | `(tactic| wtm_at "d.wv") => `(tactic| first
  | (refine' wv_and1 ?h; (case h => wtm_at "d.tv")) | (refine' wv_or1 ?h; (case h => wtm_at "d.tv"))
  | (refine' wv_and ?h (fun hk => ?t); (case h => wtm_at "d.tv"); (case t => wtm_at "d.wv"))
  | (refine' wv_or ?h (fun hk => ?t); (case h => wtm_at "d.tv"); (case t => wtm_at "d.wv"))
  | (refine' wv_or0 ?h ?t; (case h => wtm_at "d.tv"); (case t => wtm_at "d.wv"))
  | (refine' wv_and0 ?h ?t; (case h => wtm_at "d.tv"); (case t => wtm_at "d.wv")))
local macro_rules | `(tactic| wtm_at "d.ev") => `(tactic| first
  | exact ev_int | exact ev_str | exact ev_bool | exact ev_none
  | (refine' ev_name (by assumption) rfl ?h ?hi; (case h => wtm_at "d.lk"); (case hi => exact rfl))
  | (refine' ev_nameV (by assumption) rfl ?h; (case h => wtm_at "d.lk"))
  | (refine' ev_add ?ha ?hb; (case ha => wtm_at "d.ev"); (case hb => wtm_at "d.ev"))
  | (refine' ev_sub ?ha ?hb; (case ha => wtm_at "d.ev"); (case hb => wtm_at "d.ev"))
  | (refine' ev_mul ?ha ?hb ?hc; (case ha => wtm_at "d.ev"); (case hb => wtm_at "d.ev"); (case hc => wtm_at "d.mul"))
  | (refine' ev_mod ?ha ?hb ?hc; (case ha => wtm_at "d.ev"); (case hb => wtm_at "d.ev"); (case hc => wtm_at "d.side"))
  | (refine' ev_div ?ha ?hb ?hc; (case ha => wtm_at "d.ev"); (case hb => wtm_at "d.ev"); (case hc => wtm_at "d.div"))
  | (refine' ev_pow ?ha ?hb ?hc; (case ha => wtm_at "d.ev"); (case hb => wtm_at "d.ev"); (case hc => wtm_at "d.pow"))
  | (refine' ev_neg ?ha; (case ha => wtm_at "d.ev"))
  | (refine' ev_lt ?ha ?hb; (case ha => wtm_at "d.ev"); (case hb => wtm_at "d.ev")) | (refine' ev_le ?ha ?hb; (case ha => wtm_at "d.ev"); (case hb => wtm_at "d.ev")) | (refine' ev_gt ?ha ?hb; (case ha => wtm_at "d.ev"); (case hb => wtm_at "d.ev")) | (refine' ev_ge ?ha ?hb; (case ha => wtm_at "d.ev"); (case hb => wtm_at "d.ev"))
  | (refine' ev_eqI ?ha ?hb; (case ha => wtm_at "d.ev"); (case hb => wtm_at "d.ev")) | (refine' ev_eqS ?ha ?hb; (case ha => wtm_at "d.ev"); (case hb => wtm_at "d.ev")) | (refine' ev_neI ?ha ?hb; (case ha => wtm_at "d.ev"); (case hb => wtm_at "d.ev")) | (refine' ev_neS ?ha ?hb; (case ha => wtm_at "d.ev"); (case hb => wtm_at "d.ev"))
  | (refine' ev_isN ?ha ?hb; (case ha => wtm_at "d.ev"); (case hb => wtm_at "d.ev")) | (refine' ev_notN ?ha ?hb; (case ha => wtm_at "d.ev"); (case hb => wtm_at "d.ev"))
  | (refine' ev_not ?ha; (case ha => wtm_at "d.ev"))
  | (refine' ev_tup ?ha ?hz; (case ha => wtm_at "d.argsD"); (case hz => exact rfl))
  | (refine' ev_lstV ?ha ?hz; (case ha => wtm_at "d.argsD"); (case hz => exact rfl))
  | (refine' ev_ixT ?ha ?hb ?hi; (case ha => wtm_at "d.ev"); (case hb => wtm_at "d.ev"); (case hi => wtm_at "d.at"))
  | (refine' ev_ixLv ?ha ?hb ?hi; (case ha => wtm_at "d.ev"); (case hb => wtm_at "d.ev"); (case hi => wtm_at "d.at"))
  | (refine' ev_ixL ?ha ?hb ?hl ?hi; (case ha => wtm_at "d.ev"); (case hb => wtm_at "d.ev"); (case hl => wtm_at "d.isL"); (case hi => wtm_at "d.at"))
  | wtm_at "d.dget"
  | wtm_at "d.dget2"
  | exact ev_dict0V
  | (refine' ev_dictDV (by assumption) rfl ?ha ?hl; (case ha => wtm_at "d.ev"); (case hl => wtm_at "d.isD"))
  | (refine' ev_len (by assumption) rfl ?ha ?hr; (case ha => wtm_at "d.ev"); (case hr => first | exact rc_lenT | exact rc_lenLv | exact rc_lenL (IsL.cell rfl)))
  | (refine' ev_tupleL (by assumption) rfl ?ha ?hl; (case ha => wtm_at "d.ev"); (case hl => wtm_at "d.isL"))
  | (refine' ev_tupleT (by assumption) rfl ?ha; (case ha => wtm_at "d.ev"))
  | (refine' ev_max2 rfl (by assumption) rfl ?ha ?hb; (case ha => wtm_at "d.ev"); (case hb => wtm_at "d.ev")) | (refine' ev_min2 rfl (by assumption) rfl ?ha ?hb; (case ha => wtm_at "d.ev"); (case hb => wtm_at "d.ev"))
  | (refine' ev_intB (by assumption) rfl ?ha; (case ha => wtm_at "d.ev"))
  | (refine' ev_isTup (by assumption) rfl ?ha (by assumption) rfl; (case ha => wtm_at "d.ev")) | (refine' ev_isInt (by assumption) rfl ?ha (by assumption) rfl; (case ha => wtm_at "d.ev")) | (refine' ev_isBool (by assumption) rfl ?ha (by assumption) rfl; (case ha => wtm_at "d.ev")) | (refine' ev_isStr (by assumption) rfl ?ha (by assumption) rfl; (case ha => wtm_at "d.ev")) | (refine' ev_isLst (by assumption) rfl ?ha (by assumption) rfl; (case ha => wtm_at "d.ev"))
  | (refine' ev_glo (by assumption) rfl)
  | wtm_at "d.eqD"
  | wtm_at "d.catL"
  | wtm_at "d.slF"
  | (refine' ev_sortedI (by assumption) rfl ?ha ?hl; (case ha => wtm_at "d.ev"); (case hl => first | assumption | wtm_at "d.isL"))
  | (refine' ev_and1 ?ha; (case ha => wtm_at "d.ev"))
  | (refine' ev_and ?ha ?hb; (case ha => wtm_at "d.ev"); (case hb => intro _; wtm_at "d.ev"))
  | (refine' ev_or ?ha ?hb; (case ha => wtm_at "d.ev"); (case hb => intro _; wtm_at "d.ev"))
  | (refine' ev_and0 ?ha ?hb; (case ha => wtm_at "d.ev"); (case hb => wtm_at "d.ev"))
  | (refine' ev_or0 ?ha ?hb; (case ha => wtm_at "d.ev"); (case hb => wtm_at "d.ev"))
  | (refine' ev_append ?ha ?hb ?hc ?hd ?hp ?hz; (case ha => wtm_at "d.ev"); (case hb => wtm_at "d.ev"); (case hc => exact rfl); (case hd => exact rfl); (case hp => wtm_at "d.putC"); (case hz => wtm_at "d.side"))
  | (refine' ev_listRg1 rfl (by assumption) rfl (by assumption) rfl ?ha ?ho ?hq; (case ha => wtm_at "d.ev"); (case ho => wtm_at "d.side"); (case hq => wtm_at "d.side"))
  | (refine' ev_listRg2 rfl (by assumption) rfl (by assumption) rfl ?ha ?hb ?ho ?hq; (case ha => wtm_at "d.ev"); (case hb => wtm_at "d.ev"); (case ho => wtm_at "d.side"); (case hq => wtm_at "d.side"))
  | (refine' ev_reverse ?ha ?hc ?hp; (case ha => wtm_at "d.ev"); (case hc => exact rfl); (case hp => wtm_at "d.putC"))
  | (refine' ev_sortedP (by assumption) rfl ?ha ?hl; (case ha => wtm_at "d.ev"); (case hl => wtm_at "d.isL"))
  | wtm_at "d.call")
/-- what makes a new cell -/
local macro_rules | `(tactic| wtm_at "d.evC") => `(tactic| first
  | (refine' ev_lstC ?ha ?hac ?hz; (case ha => wtm_at "d.args"); (case hac => wtm_at "d.appC"); (case hz => exact rfl))
  | (refine' ev_dict0 ?hac; (case hac => wtm_at "d.appC"))
  | (refine' ev_listC (by assumption) rfl ?ha ?hl ?hac; (case ha => wtm_at "d.ev"); (case hl => wtm_at "d.isQ"); (case hac => wtm_at "d.appC"))
  | (refine' ev_dictP rfl (by assumption) rfl ?ha ?hl ?hac; (case ha => wtm_at "d.ev"); (case hl => wtm_at "d.isL"); (case hac => wtm_at "d.appC"))
  | wtm_at "d.callC")
local macro_rules | `(tactic| wtm_at "d.setC") => `(tactic| (refine' s1_set (by assumption) rfl ?h ?p ?q ?hi; (case h => wtm_at "d.evC"); (case p => wtm_at "d.put"); (case hi => exact rfl); show SX _ _ _ _ _ _))
local macro_rules | `(tactic| wtm_at "d.returnC") => `(tactic| (refine' s1_ret ?h ?q; (case h => wtm_at "d.evC"); show RetOk _ _ _ _ _))
local macro_rules | `(tactic| wtm_at "d.stC") => `(tactic| (refine' sx_cons ?s; first | wtm_at "d.setC" | wtm_at "d.returnC"))
/-- statements without branches -/
local macro_rules | `(tactic| wtm_at "d.set") => `(tactic| (refine' s1_set (by assumption) rfl ?h ?p ?q ?hi; (case h => wtm_at "d.ev"); (case p => wtm_at "d.put"); (case hi => exact rfl); show SX _ _ _ _ _ _))
local macro_rules | `(tactic| wtm_at "d.return") => `(tactic| (refine' s1_ret ?h ?q; (case h => wtm_at "d.ev"); show RetOk _ _ _ _ _))
local macro_rules | `(tactic| wtm_at "d.expr") => `(tactic| (refine' s1_expr ?h ?q; (case h => wtm_at "d.ev"); show SX _ _ _ _ _ _))
local macro_rules | `(tactic| wtm_at "d.lput") => `(tactic| (refine' s1_lput ?hv ?ho ?hi ?hc ?hj ?p ?q; (case hv => wtm_at "d.ev"); (case ho => wtm_at "d.ev"); (case hi => wtm_at "d.ev"); (case hc => exact rfl); (case hj => exact rfl); (case p => wtm_at "d.putC"); show SX _ _ _ _ _ _))
local macro_rules | `(tactic| wtm_at "d.dput") => `(tactic| (refine' s1_dput (by assumption) ?hv ?ho ?hi ?hc ?hk ?hz ?nd ?p ?q; (case hv => wtm_at "d.ev"); (case ho => wtm_at "d.ev"); (case hi => wtm_at "d.ev"); (case hc => exact rfl); (case hk => constructor); (case hz => wtm_at "d.side"); (case nd => assumption); (case p => wtm_at "d.putC"); show SX _ _ _ _ _ _))
local macro_rules | `(tactic| wtm_at "d.st") => `(tactic| (refine' sx_cons ?s; first | wtm_at "d.set" | wtm_at "d.return" | wtm_at "d.expr" | wtm_at "d.lput" | wtm_at "d.dput"))
local macro_rules | `(tactic| wtm_at "d.if") => `(tactic| (refine' sx_cons ?s; refine' s1_if ?h ?y ?n; (case h => wtm_at "d.tv")))
local macro_rules | `(tactic| wtm_at "d.lv") => `(tactic| first | decide | omega)
/-- a, b = .. -/
local macro_rules | `(tactic| wtm_at "d.gxs") => `(tactic| first
  | (refine' gxs_cons (gx_name (by assumption) rfl ?p ?r ?i) ?hs; (case p => wtm_at "d.put"); (case i => exact rfl); (case hs => exact rfl); wtm_at "d.gxs")
  | refine' gxs_nil ?bd)
local macro_rules | `(tactic| wtm_at "d.unp") => `(tactic| (refine' sx_cons ?s; refine' s1_asg ?h ?g; (case h => wtm_at "d.ev"); (first | refine' gx_lst rfl IsL.val ?u rfl | refine' gx_tup rfl ?u rfl); wtm_at "d.gxs"; show SX _ _ _ _ _ _))
/-! ### rows, as stairs -/
abbrev stD (b : Int) (ss : List (Int × Int)) : PyData := .tuple [.int b, .tuple (ss.map pD)]
def lastV (b : Int) : List (Int × Int) → Int
  | [] => b
  | s :: r => lastV s.2 r
theorem lastV_snoc (l : List (Int × Int)) (p : Int × Int) : ∀ h, lastV h (l ++ [p]) = p.2 := by
  induction l with
  | nil => exact fun _ => rfl
  | cons q r ih => exact fun h => ih q.2
def entryF (b : Int) : List (Int × Int) → Int → Int
  | [], _ => b
  | s :: r, p => if p < s.1 then b else entryF s.2 r p
theorem entryF_all {p : Int} : ∀ {ss : List (Int × Int)} {b : Int}, (∀ s ∈ ss, s.1 ≤ p) → entryF b ss p = lastV b ss
  | [], _, _ => rfl
  | s :: r, b, h => by
    have h1 := h s List.mem_cons_self
    show (if p < s.1 then b else entryF s.2 r p) = lastV s.2 r
    rw [if_neg (by omega), entryF_all fun q hq => h q (List.mem_cons_of_mem _ hq)]
theorem entryF_cut {p : Int} {e : Int × Int} {post : List (Int × Int)} (he : p < e.1) : ∀ {pre : List (Int × Int)} {b : Int}, (∀ s ∈ pre, s.1 ≤ p) → entryF b (pre ++ e :: post) p = lastV b pre
  | [], b, _ => by
    show (if p < e.1 then b else entryF e.2 post p) = b
    rw [if_pos he]
  | s :: r, b, h => by
    have h1 := h s List.mem_cons_self
    show (if p < s.1 then b else entryF s.2 (r ++ e :: post) p) = lastV s.2 r
    rw [if_neg (by omega), entryF_cut he fun q hq => h q (List.mem_cons_of_mem _ hq)]
section
variable {P : Program} {w : World} {K : PySem.W.Frag} {mg : Str → Option Value} {base : Heap}
inductive SpEntry : Spec
  | mk {b : Int} {ss : List (Int × Int)} {p : Int} : SpEntry [.val (stD b ss), .val (.int p)] [] (.val (.int (entryF b ss p))) []
theorem cal_entry (D : DefAt K mg "entry" s_entry P_entry) : Cal P w K mg base 1 "entry" 2 SpEntry := by
  refine cal_def D sc_entry tb_entry (fun f cdv A outer s H E hr T TL svs cs sv cs' h hl => ?_)
  cases h with
  | @mk b ss p =>
  wtm_at "d.st"
  refine' sx_cons ?loop
  refine' s1_forJ ss (fun q => SV.val (pD q)) (fun pre => ∀ q ∈ pre, q.1 ≤ p) (fun _ h => nomatch h) PassesOwn.never rfl ?it (fun pre => [some (.val (stD b ss)), some (.val (.int p)), some (.val (.int (lastV b pre))), none, none]) (fun pre => []) ?st ?ce ?gc ?tu ?dn
  case it =>
    have e : ss.map (fun q => SV.val (pD q)) = (ss.map pD).map SV.val := by rw [List.map_map]; rfl
    rw [e]
    refine' iv_tup ?el
    case el => wtm_at "d.ev"
  case st => wtm_at "d.le"
  case ce => rfl
  case gc => exact fun _ _ _ => trivial
  case tu =>
    intro pre e post he hj
    refine' gx_tup rfl (gxs_cons (gx_name TL rfl (by wtm_at "d.put") (gxs_cons (gx_name TL rfl (by wtm_at "d.put") (gxs_nil ?bd) rfl)) rfl)) rfl
    case bd =>
      wtm_at "d.if"
      · intro hk
        have h0 : p < e.1 := of_decide_eq_true hk
        refine sx_cons (s1_break ?_)
        show SX _ _ _ _ _ _
        wtm_at "d.st"
        exact ret_val (by rw [he, entryF_cut h0 hj]) rfl rfl rfl
      · intro hk
        have h0 : ¬ p < e.1 := of_decide_eq_false hk
        refine sx_nil ?_
        show SX _ _ _ _ _ _
        wtm_at "d.st"
        refine sx_nil ⟨fun q hq => ?_, ?_⟩
        · rcases List.mem_append.mp hq with hq | hq
          · exact hj q hq
          · rw [List.mem_singleton] at hq
            subst hq
            omega
        · rw [lastV_snoc]
          exact At.same (by wtm_at "d.le")
  case dn =>
    intro sl' hj l
    refine sx_weak l ?_
    wtm_at "d.st"
    exact ret_val (by rw [entryF_all hj]) rfl rfl rfl
end
local macro_rules | `(tactic| wtm_at "g.len") => `(tactic| simp only [List.length_append, List.length_cons, List.length_nil, List.length_map, List.length_range, List.length_reverse, List.length_drop, List.length_take, List.length_set, List.length_replicate])
local macro_rules | `(tactic| wtm_at "g.lenA") => `(tactic| simp only [List.length_append, List.length_cons, List.length_nil, List.length_map, List.length_range, List.length_reverse, List.length_drop, List.length_take, List.length_set, List.length_replicate] at *)
local macro_rules | `(tactic| wtm_at "g.sd") => `(tactic| first | with_reducible assumption | omega | decide | (split <;> omega) | (wtm_at "g.len"; omega) | (wtm_at "g.lenA"; omega) | (subst_vars; first | with_reducible assumption | omega | (wtm_at "g.len"; omega) | (wtm_at "g.lenA"; omega)))
local macro_rules | `(tactic| wtm_at "g.pre") => `(tactic| wtm_at "g.sd")
local macro_rules | `(tactic| wtm_at "g.nd") => `(tactic| first | with_reducible assumption | exact List.Pairwise.nil | (refine putSt_nd _ _ _ ?_; wtm_at "g.nd") | (refine putI_nd _ _ _ ?_; wtm_at "g.nd") | (subst_vars; with_reducible assumption))
local macro_rules | `(tactic| wtm_at "g.str") => `(tactic| first | with_reducible assumption | omega | decide | (subst_vars; omega) | (subst_vars; decide))
local macro_rules | `(tactic| wtm_at "g.ixs") => `(tactic| first | with_reducible assumption | omega | (refine ⟨by omega, Int.lt_of_lt_of_le (b := 4) (by omega) (by decide)⟩))
local macro_rules | `(tactic| wtm_at "g.inv") => `(tactic| first | wtm_at "g.sd" | wtm_at "g.nd" | (refine ⟨?_, ?_⟩ <;> wtm_at "g.inv"))
local macro_rules | `(tactic| wtm_at "g.flat") => `(tactic| first | rfl | exact all_flat1 (flat_map _) | exact all_flat1 (flat_svK _) | (simp [CC.flat, SV.isVal]; done))
local macro_rules | `(tactic| wtm_at "g.data") => `(tactic| first | rfl | exact data_map _ | exact data_svK _ | (simp [CC.data, svData_map, kvData_map]; done))
local macro_rules | `(tactic| wtm_at "g.okS") => `(tactic| first | rfl | (simp [okS, SV.lt]; done))
local macro_rules | `(tactic| wtm_at "g.key") => `(tactic| first | with_reducible assumption | (subst_vars; with_reducible assumption))
local macro_rules | `(tactic| wtm_at "g.same") => `(tactic| first | rfl | (subst_vars; rfl))
local macro_rules | `(tactic| wtm_at "d.lt") => `(tactic| first | rfl | (simp only [List.all_cons, List.all_nil, lt_svK, lt_map, Bool.and_true, Bool.true_and]; first | done | rfl) | (simp [CC.lt, SV.lt]; done))
local macro_rules | `(tactic| wtm_at "g.some") => `(tactic| first | with_reducible assumption | exact some_of (by assumption) | (subst_vars; first | with_reducible assumption | exact some_of (by assumption)))
local macro_rules | `(tactic| wtm_at "g.wj") => `(tactic| (refine ⟨?_, ?_⟩ <;> wtm_at "g.inv"))
local macro_rules | `(tactic| wtm_at "g.shp") => `(tactic| first | exact dk_shaped (n := 0) rfl (by decide) | exact dk_shaped (n := 1) rfl (by decide) | exact dk_shaped (n := 0) (by assumption) (by decide) | exact dk_shaped (n := 1) (by decide) (by decide) | exact dk_shaped (n := 1) (by decide +kernel) (by decide))
local macro_rules | `(tactic| wtm_at "g.cj") => `(tactic| first | trivial | (intros; dsimp only at *; wtm_at "g.inv") | wtm_at "g.inv")
theorem dk_st (x : Int × List (Int × Int)) : dkD 3 (.tuple [.int x.1, .tuple (x.2.map pD)]) = true := by
  have h2 : ∀ p : Int × Int, dkD 1 (pD p) = true := fun p => by simp [dkD, pD]
  simp [dkD, h2]
inductive Trm
  | is (x : Str)
  | rd (r : Str) (p : Str × Int)
def Trm.D : Trm → PyData
  | .is x => .tuple [.str "is", .str x]
  | .rd r p => .tuple [.str "at", .str r, .tuple [.str p.1, .int p.2]]
inductive Ag
  | row (s : Str)
  | is (x : Str)
def Ag.D : Ag → PyData
  | .row s => .tuple [.str "row", .str s]
  | .is x => .tuple [.str "is", .str x]
inductive Clm
  | least (a b : Trm) (c : Int)
  | each (t u : Str × Int) (r way : Str) (b : Ag) (c : Int)
  | rise (t u : Str × Int) (r : Str)
def Clm.D : Clm → PyData
  | .least a b c => .tuple [.str "least", a.D, b.D, .int c]
  | .each t u r w b c => .tuple [.str "each", .tuple [.str t.1, .int t.2], .tuple [.str u.1, .int u.2], .str r, .str w, b.D, .int c]
  | .rise t u r => .tuple [.str "rise", .tuple [.str t.1, .int t.2], .tuple [.str u.1, .int u.2], .str r]
inductive Row
  | set (x : Str) (t : Trm) (c : Int)
  | put (r : Str) (p : Str × Int) (t : Trm) (c : Int)
  | any (x : Str)
  | lose (r : Str)
def Row.D : Row → PyData
  | .set x t c => .tuple [.str "set", .str x, t.D, .int c]
  | .put r p t c => .tuple [.str "put", .str r, .tuple [.str p.1, .int p.2], t.D, .int c]
  | .any x => .tuple [.str "any", .str x]
  | .lose r => .tuple [.str "lose", .str r]
inductive Pck
  | i (n : Int)
  | r (s : Int × List (Int × Int))
def Pck.D : Pck → PyData
  | .i n => .int n
  | .r s => .tuple [.int s.1, .tuple (s.2.map pD)]
instance : Inhabited Pck := ⟨.i 0⟩
def Pck.toI : Pck → Int
  | .i n => n
  | .r _ => 0
def Pck.toR : Pck → Int × List (Int × Int)
  | .i _ => (0, [])
  | .r s => s
def Pck.isI : Pck → Prop
  | .i _ => True
  | .r _ => False
def Pck.isR : Pck → Prop
  | .i _ => False
  | .r _ => True
theorem Pck.eqI {p : Pck} (h : p.isI) : SV.val (Pck.D p) = SV.val (.int p.toI) := by cases p with | i n => rfl | r s => cases h
theorem Pck.eqR {p : Pck} (h : p.isR) : SV.val (Pck.D p) = SV.val (.tuple [.int p.toR.1, .tuple (p.toR.2.map pD)]) := by cases p with | i n => cases h | r s => rfl
abbrev ThrV := List (Str × Int) × List (Str × (Int × List (Int × Int)))
abbrev DueV := List (Str × Int) × List (Str × (Int × List (Int × Int)))
abbrev LawV := List (Str × Int) × List (Str × (Int × List (Int × Int) × List (Int × Int)))
abbrev e_tup_str_int (q : (Str × Int)) : PyData := .tuple [(.str q.1), (.int q.2)]
abbrev e_tupl_tup_int_int (q : (List (Int × Int))) : PyData := .tuple (q.map pD)
abbrev e_tup_int_tupl_tup_int_int (q : (Int × (List (Int × Int)))) : PyData := .tuple [(.int q.1), (.tuple (q.2.map pD))]
abbrev e_lst_int (q : (List Int)) : PyData := .list (q.map PyData.int)
abbrev e_lst_str (q : (List Str)) : PyData := .list (q.map PyData.str)
abbrev e_tup_int_tupl_tup_int_int_tupl_tup_int_int (q : (Int × (List (Int × Int)) × (List (Int × Int)))) : PyData := .tuple [(.int q.1), (.tuple (q.2.1.map pD)), (.tuple (q.2.2.map pD))]
abbrev e_lst_Pck (q : (List Pck)) : PyData := .list (q.map Pck.D)
abbrev e_lst_Row (q : (List Row)) : PyData := .list (q.map Row.D)
abbrev e_lst_tup_int_int (q : (List (Int × Int))) : PyData := .list (q.map pD)
def m_smooth (base_0 : Int) (pairs_0 : (List (Int × Int))) : (Int × (List (Int × Int))) := forL (fun (x_4 : (Int × Int)) (s_5 : (Int × (List (Int × Int)))) n_1 => if (!decide (x_4.2 = s_5.1)) then n_1 (x_4.2, (s_5.2 ++ [(x_4.1, x_4.2)])) else n_1 (s_5.1, s_5.2)) (fun s_5 : (Int × (List (Int × Int))) => (base_0, s_5.2)) pairs_0 (base_0, ([] : (List (Int × Int))))
section
variable {P : Program} {w : World} {K : PySem.W.Frag} {mg : Str → Option Value} {base : Heap}
inductive Sp_smooth : Spec
  | mk {base_0 : Int} {pairs_0 : (List (Int × Int))} (hp : pairs_0.length ≤ 1000) : Sp_smooth [.val (.int base_0), .cell 0] [(.lst ((pairs_0.map pD).map SV.val))] (.val (.tuple [(.int (m_smooth base_0 pairs_0).1), (.tuple ((m_smooth base_0 pairs_0).2.map pD))])) [(.lst ((pairs_0.map pD).map SV.val))]
theorem cal_smooth (D : DefAt K mg "smooth" s_smooth P_smooth) (z_tuple : mg "tuple" = none) : Cal P w K mg base 1 "smooth" 2 Sp_smooth := by
  refine cal_def D sc_smooth tb_smooth (fun f cdv A outer s0 H E hr T TL svs cs sv cs1 hsp hl => ?_)
  cases hsp with
  | @mk base_0 pairs_0 hp =>
  obtain ⟨R0, h⟩ : ∃ R0, (m_smooth base_0 pairs_0) = R0 := ⟨_, rfl⟩
  rw [h]
  unfold m_smooth at h
  show SX _ _ _ [some (.val (.int base_0)), some (.cell 0), none, none, none, none] [(.lst ((pairs_0.map pD).map SV.val))] _
  refine sx_cons (s1_set TL rfl (ev_lstC (ss := []) av_nil (AppC.cons AppC.nil) rfl) (Put.there (Put.there Put.here)) ?_ rfl)
  show SX _ _ _ _ _ _
  refine sx_cons (s1_set TL rfl (ev_name T rfl Lk.here rfl) (Put.there (Put.there (Put.there Put.here))) ?_ rfl)
  show SX _ _ _ _ _ _
  refine' sx_cons ?lp2
  refine' s1_forK pairs_0 (fun x => SV.val (pD x)) _ _ R0 (base_0, ([] : (List (Int × Int)))) (fun l_1 (s_5 : (Int × (List (Int × Int)))) => (s_5.2.length + 1 * l_1.length ≤ (([] : (List (Int × Int)))).length + 1 * pairs_0.length)) h PassesOwn.never rfl (iv_mapC (iv_cell (ev_name T rfl (Lk.there Lk.here) rfl) rfl)) ?j02 (fun s_5 : (Int × (List (Int × Int))) => [some (.val (.int base_0)), some (.cell 0), some (.cell 1), some (.val (.int s_5.1)), none, none]) (fun s_5 : (Int × (List (Int × Int))) => [(.lst ((pairs_0.map pD).map SV.val)), (.lst ((s_5.2.map pD).map SV.val))]) (Le.same (Le.same (Le.same (Le.same (Le.lose (Le.lose Le.nil)))))) rfl (by intro _; rfl) ?tu2 ?dn2
  case j02 => wtm_at "g.inv"
  case tu2 =>
    clear h
    rintro x_4 l_1 ⟨here_1, c_3⟩ n_1 hm1 hJ1 h
    have hm1p := hm1
    have hm1 := mem_mid hm1
    try dsimp only at h hJ1
    refine gx_tup rfl (gxs_cons (gx_name TL rfl (Put.there (Put.there (Put.there (Put.there Put.here)))) (gxs_cons (gx_name TL rfl (Put.there (Put.there (Put.there (Put.there (Put.there Put.here))))) (gxs_nil ?_) rfl)) rfl)) rfl
    show SX _ _ _ [some (.val (.int base_0)), some (.cell 0), some (.cell 1), some (.val (.int here_1)), some (.val (.int x_4.1)), some (.val (.int x_4.2))] [(.lst ((pairs_0.map pD).map SV.val)), (.lst ((c_3.map pD).map SV.val))] _
    refine' sx_cons (s1_if (tv_neI (ev_name T rfl (Lk.there (Lk.there (Lk.there (Lk.there (Lk.there Lk.here))))) rfl) (ev_name T rfl (Lk.there (Lk.there (Lk.there Lk.here))) rfl)) ?y4 ?n4)
    case y4 =>
      intro hb3
      have hb3x := hb3
      try simp only [Bool.and_eq_true, Bool.or_eq_true, Bool.and_eq_false_iff, Bool.or_eq_false_iff, decide_eq_true_eq, decide_eq_false_iff_not, Bool.not_eq_true', Bool.not_eq_false', Bool.not_eq_eq_eq_not, Bool.not_true, Bool.not_false] at hb3x
      rw [if_pos hb3] at h
      refine sx_cons (s1_expr (ev_appT (f := pD) (l := c_3) (y := (x_4.1, x_4.2)) (ev_name T rfl (Lk.there (Lk.there Lk.here)) rfl) (ev_tup (ad_cons (ev_name T rfl (Lk.there (Lk.there (Lk.there (Lk.there Lk.here)))) rfl) (ad_cons (ev_name T rfl (Lk.there (Lk.there (Lk.there (Lk.there (Lk.there Lk.here))))) rfl) ad_nil)) rfl) rfl rfl (PutC.there PutC.here) (by wtm_at "g.sd")) ?_)
      show SX _ _ _ _ _ _
      refine sx_cons (s1_set TL rfl (ev_name T rfl (Lk.there (Lk.there (Lk.there (Lk.there (Lk.there Lk.here))))) rfl) (Put.there (Put.there (Put.there Put.here))) ?_ rfl)
      show SX _ _ _ _ _ _
      refine sx_nil ?_
      show SX _ _ _ _ _ _
      refine sx_nil ?_
      exact ⟨(x_4.2, (c_3 ++ [(x_4.1, x_4.2)])), h, (by wtm_at "g.inv"), (At.same (Le.same (Le.same (Le.same (Le.same (Le.lose (Le.lose Le.nil)))))))⟩
    case n4 =>
      intro hb3
      have hb3x := hb3
      try simp only [Bool.and_eq_true, Bool.or_eq_true, Bool.and_eq_false_iff, Bool.or_eq_false_iff, decide_eq_true_eq, decide_eq_false_iff_not, Bool.not_eq_true', Bool.not_eq_false', Bool.not_eq_eq_eq_not, Bool.not_true, Bool.not_false] at hb3x
      rw [if_neg (by rw [hb3]; decide)] at h
      refine sx_nil ?_
      show SX _ _ _ _ _ _
      refine sx_nil ?_
      exact ⟨(here_1, c_3), h, (by wtm_at "g.inv"), (At.same (Le.same (Le.same (Le.same (Le.same (Le.lose (Le.lose Le.nil)))))))⟩
  case dn2 =>
    clear h
    rintro ⟨here_1, c_3⟩ hJ1 h slx hlx
    try dsimp only at h hJ1
    refine sx_weak hlx ?_
    show SX _ _ _ [some (.val (.int base_0)), some (.cell 0), some (.cell 1), some (.val (.int here_1)), none, none] [(.lst ((pairs_0.map pD).map SV.val)), (.lst ((c_3.map pD).map SV.val))] _
    refine sx_cons (s1_ret (ev_tup (ad_cons (ev_name T rfl Lk.here rfl) (ad_cons (ev_tupleL (ds := c_3.map pD) z_tuple rfl (ev_name T rfl (Lk.there (Lk.there Lk.here)) rfl) (IsL.cell rfl)) ad_nil)) rfl) ?_)
    show RetOk _ _ _ _ _
    subst h
    exact ret_val rfl rfl rfl (by wtm_at "d.lt")
end
def m_written (row_0 : (Int × (List (Int × Int)))) (p_0 : Int) (v_0 : Int) : (Int × (List (Int × Int))) := letF ((row_0.2.filter fun (y_1 : (Int × Int)) => (decide (y_1.1 < p_0))).map fun (y_1 : (Int × Int)) => y_1) fun pairs_2 => letF (entryF row_0.1 row_0.2 (p_0 + 1)) fun r_3 => letF (m_smooth row_0.1 (((pairs_2 ++ [(p_0, v_0)]) ++ [((p_0 + 1), r_3)]) ++ ((row_0.2.filter fun (y_4 : (Int × Int)) => (decide ((p_0 + 1) < y_4.1))).map fun (y_4 : (Int × Int)) => y_4))) fun r_5 => r_5
section
variable {P : Program} {w : World} {K : PySem.W.Frag} {mg : Str → Option Value} {base : Heap}
inductive Sp_written : Spec
  | mk {row_0 : (Int × (List (Int × Int)))} {p_0 : Int} {v_0 : Int} (hp : row_0.2.length ≤ 400) : Sp_written [.val (.tuple [(.int row_0.1), (.tuple (row_0.2.map pD))]), .val (.int p_0), .val (.int v_0)] [] (.val (.tuple [(.int (m_written row_0 p_0 v_0).1), (.tuple ((m_written row_0 p_0 v_0).2.map pD))])) []
theorem cal_written (D : DefAt K mg "written" s_written P_written) (C_entry : Cal P w K mg base 1 "entry" 2 SpEntry) (C_smooth : Cal P w K mg base 1 "smooth" 2 Sp_smooth) : Cal P w K mg base 2 "written" 3 Sp_written := by
  refine cal_def D sc_written tb_written (fun f cdv A outer s0 H E hr T TL svs cs sv cs1 hsp hl => ?_)
  cases hsp with
  | @mk row_0 p_0 v_0 hp =>
  obtain ⟨R0, h⟩ : ∃ R0, (m_written row_0 p_0 v_0) = R0 := ⟨_, rfl⟩
  rw [h]
  unfold m_written at h
  show SX _ _ _ [some (.val (.tuple [(.int row_0.1), (.tuple (row_0.2.map pD))])), some (.val (.int p_0)), some (.val (.int v_0)), none, none] [] _
  replace h := letF_elim h
  obtain ⟨pairs_2, epairs_2, h⟩ := h
  have fl3 := List.length_filter_le (fun (y_1 : (Int × Int)) => (decide (y_1.1 < p_0))) row_0.2
  refine sx_cons (s1_setLcC TL rfl rfl (blkOk_by (N := N_written) (sc := defScope s_written) (by decide +kernel)) (lc_as (es := pairs_2.map pD) (lc_as (es := ((row_0.2.filter fun (y_1 : (Int × Int)) => (decide (y_1.1 < p_0))).map fun (y_1 : (Int × Int)) => y_1).map pD) (lc_F (own := [("step", 4)]) row_0.2 (fun x => SV.val (pD x)) (by exact (iv_mapC (iv_tup (ds := row_0.2.map pD) (ev_ixT (ev_name T rfl Lk.here rfl) ev_int rfl)))) (fun y_1 => (decide (y_1.1 < p_0))) (fun y_1 => (.tuple [(.int y_1.1), (.int y_1.2)])) (fun y_1 => [some (.val (.tuple [(.int row_0.1), (.tuple (row_0.2.map pD))])), some (.val (.int p_0)), some (.val (.int v_0)), none, some (.val (.tuple [(.int y_1.1), (.int y_1.2)]))]) (fun _ => []) (by wtm_at "g.sd") (by first | exact trivial | rfl) (fun y_1 hm1 st H0 C0 cl fp => gw_name T.nd rfl (Put.there (Put.there (Put.there (Put.there Put.here)))) (by decide) ⟨rfl, rfl⟩) (fun y_1 hm1 st H0 C0 cl fp => (by

      exact (tv_lt (ev_ixT (ev_nameV T.nd rfl (Lk.there (Lk.there (Lk.there (Lk.there Lk.here))))) ev_int rfl) (ev_nameV T.nd rfl (Lk.there Lk.here))))) (fun y_1 hm1 hq2 => ⟨fun st H0 C0 cl fp => (by
      have hq2x := hq2
      try simp only [Bool.and_eq_true, Bool.or_eq_true, Bool.and_eq_false_iff, Bool.or_eq_false_iff, decide_eq_true_eq, decide_eq_false_iff_not, Bool.not_eq_true', Bool.not_eq_false', Bool.not_eq_eq_eq_not, Bool.not_true, Bool.not_false] at hq2x
      exact (ev_nameV T.nd rfl (Lk.there (Lk.there (Lk.there (Lk.there Lk.here)))))), AtC.same⟩)) (by rw [List.map_map]; rfl) rfl) (by subst epairs_2; rfl) rfl) AppC.nil (Put.there (Put.there (Put.there Put.here))) ?_ rfl)
  show SX _ _ _ _ _ _
  refine sx_cons (s1_expr (ev_appT (f := pD) (l := pairs_2) (y := (p_0, v_0)) (ev_name T rfl (Lk.there (Lk.there (Lk.there Lk.here))) rfl) (ev_tup (ad_cons (ev_name T rfl (Lk.there Lk.here) rfl) (ad_cons (ev_name T rfl (Lk.there (Lk.there Lk.here)) rfl) ad_nil)) rfl) rfl rfl PutC.here (by wtm_at "g.sd")) ?_)
  show SX _ _ _ _ _ _
  replace h := letF_elim h
  obtain ⟨r_3, er_3, h⟩ := h
  refine sx_cons (s1_expr (ev_appT (f := pD) (l := (pairs_2 ++ [(p_0, v_0)])) (y := ((p_0 + 1), r_3)) (ev_name T rfl (Lk.there (Lk.there (Lk.there Lk.here))) rfl) (ev_tup (ad_cons (ev_add (ev_name T rfl (Lk.there Lk.here) rfl) ev_int) (ad_cons (ev_as (t := .val (.int r_3)) (cs2 := [(.lst (((pairs_2 ++ [(p_0, v_0)]).map pD).map SV.val))]) (ev_callM (κ := []) C_entry hr (by decide) rfl (av_cons (ev_name T rfl Lk.here rfl) (av_cons (ev_add (ev_name T rfl (Lk.there Lk.here) rfl) ev_int) av_nil)) Sel.nil (RenA.val (RenA.val RenA.nil)) (SpEntry.mk (b := row_0.1) (ss := row_0.2) (p := (p_0 + 1))) SetA.nil (List.prefix_refl _) rfl (by decide) rfl) (by subst er_3; rfl) (by subst er_3; rfl)) ad_nil)) rfl) rfl rfl PutC.here (by wtm_at "g.sd")) ?_)
  show SX _ _ _ _ _ _
  have fl6 := List.length_filter_le (fun (y_4 : (Int × Int)) => (decide ((p_0 + 1) < y_4.1))) row_0.2
  refine sx_cons (s1_expr (ev_extT (f := pD) (l := ((pairs_2 ++ [(p_0, v_0)]) ++ [((p_0 + 1), r_3)])) (m := ((row_0.2.filter fun (y_4 : (Int × Int)) => (decide ((p_0 + 1) < y_4.1))).map fun (y_4 : (Int × Int)) => y_4)) (ev_name T rfl (Lk.there (Lk.there (Lk.there Lk.here))) rfl) (ev_LCC rfl T.nd (blkOk_by (N := N_written) (sc := defScope s_written) (by decide +kernel)) (lc_as (es := ((row_0.2.filter fun (y_4 : (Int × Int)) => (decide ((p_0 + 1) < y_4.1))).map fun (y_4 : (Int × Int)) => y_4).map pD) (lc_F (own := [("step", 4)]) row_0.2 (fun x => SV.val (pD x)) (by exact (iv_mapC (iv_tup (ds := row_0.2.map pD) (ev_ixT (ev_name T rfl Lk.here rfl) ev_int rfl)))) (fun y_4 => (decide ((p_0 + 1) < y_4.1))) (fun y_4 => (.tuple [(.int y_4.1), (.int y_4.2)])) (fun y_4 => [some (.val (.tuple [(.int row_0.1), (.tuple (row_0.2.map pD))])), some (.val (.int p_0)), some (.val (.int v_0)), some (.cell 0), some (.val (.tuple [(.int y_4.1), (.int y_4.2)]))]) (fun _ => [(.lst ((((pairs_2 ++ [(p_0, v_0)]) ++ [((p_0 + 1), r_3)]).map pD).map SV.val))]) (by wtm_at "g.sd") (by first | exact trivial | rfl) (fun y_4 hm4 st H0 C0 cl fp => gw_name T.nd rfl (Put.there (Put.there (Put.there (Put.there Put.here)))) (by decide) ⟨rfl, rfl⟩) (fun y_4 hm4 st H0 C0 cl fp => (by

      exact (tv_gt (ev_ixT (ev_nameV T.nd rfl (Lk.there (Lk.there (Lk.there (Lk.there Lk.here))))) ev_int rfl) (ev_add (ev_nameV T.nd rfl (Lk.there Lk.here)) ev_int)))) (fun y_4 hm4 hq5 => ⟨fun st H0 C0 cl fp => (by
      have hq5x := hq5
      try simp only [Bool.and_eq_true, Bool.or_eq_true, Bool.and_eq_false_iff, Bool.or_eq_false_iff, decide_eq_true_eq, decide_eq_false_iff_not, Bool.not_eq_true', Bool.not_eq_false', Bool.not_eq_eq_eq_not, Bool.not_true, Bool.not_false] at hq5x
      exact (ev_nameV T.nd rfl (Lk.there (Lk.there (Lk.there (Lk.there Lk.here)))))), AtC.same⟩)) (by rw [List.map_map]; rfl) rfl) (AppC.cons AppC.nil)) rfl rfl rfl PutC.here (by wtm_at "g.sd")) ?_)
  show SX _ _ _ _ _ _
  replace h := letF_elim h
  obtain ⟨r_5, er_5, h⟩ := h
  refine sx_cons (s1_ret (ev_as (t := .val (.tuple [(.int r_5.1), (.tuple (r_5.2.map pD))])) (cs2 := [(.lst (((((pairs_2 ++ [(p_0, v_0)]) ++ [((p_0 + 1), r_3)]) ++ ((row_0.2.filter fun (y_4 : (Int × Int)) => (decide ((p_0 + 1) < y_4.1))).map fun (y_4 : (Int × Int)) => y_4)).map pD).map SV.val)), (.lst ((((row_0.2.filter fun (y_4 : (Int × Int)) => (decide ((p_0 + 1) < y_4.1))).map fun (y_4 : (Int × Int)) => y_4).map pD).map SV.val))]) (ev_callM (κ := [0]) C_smooth hr (by decide) rfl (av_cons (ev_ixT (ev_name T rfl Lk.here rfl) ev_int rfl) (av_cons (ev_name T rfl (Lk.there (Lk.there (Lk.there Lk.here))) rfl) av_nil)) (Sel.cons rfl (by wtm_at "d.flat") (by intro z; cases z) Sel.nil) (RenA.val (RenA.cell rfl RenA.nil)) (Sp_smooth.mk (base_0 := row_0.1) (pairs_0 := (((pairs_2 ++ [(p_0, v_0)]) ++ [((p_0 + 1), r_3)]) ++ ((row_0.2.filter fun (y_4 : (Int × Int)) => (decide ((p_0 + 1) < y_4.1))).map fun (y_4 : (Int × Int)) => y_4))) (by wtm_at "g.pre")) (SetA.cons PutC.here SetA.nil) (List.prefix_refl _) (by wtm_at "g.flat") (by decide) rfl) (by subst er_5; rfl) (by subst er_5; rfl)) ?_)
  show RetOk _ _ _ _ _
  subst h
  exact ret_val rfl rfl rfl (by wtm_at "d.lt")
end
def m_number_at (x_0 : Str) (numbers_0 : (List (Str × Int))) : Int := if (decide (x_0 = ("" : Str))) then 0 else ((lkS numbers_0 x_0).getD 0)
section
variable {P : Program} {w : World} {K : PySem.W.Frag} {mg : Str → Option Value} {base : Heap}
inductive Sp_number_at : Spec
  | mk {x_0 : Str} {numbers_0 : (List (Str × Int))}  : Sp_number_at [.val (.str x_0), .cell 0] [(.dct (svK (kvT PyData.int numbers_0)))] (.val (.int (m_number_at x_0 numbers_0))) [(.dct (svK (kvT PyData.int numbers_0)))]
theorem cal_number_at (D : DefAt K mg "number_at" s_number_at P_number_at) : Cal P w K mg base 1 "number_at" 2 Sp_number_at := by
  refine cal_def D sc_number_at tb_number_at (fun f cdv A outer s0 H E hr T TL svs cs sv cs1 hsp hl => ?_)
  cases hsp with
  | @mk x_0 numbers_0  =>
  obtain ⟨R0, h⟩ : ∃ R0, (m_number_at x_0 numbers_0) = R0 := ⟨_, rfl⟩
  rw [h]
  unfold m_number_at at h
  show SX _ _ _ [some (.val (.str x_0)), some (.cell 0)] [(.dct (svK (kvT PyData.int numbers_0)))] _
  refine' sx_cons (s1_if (tv_eqS (ev_name T rfl Lk.here rfl) ev_str) ?y2 ?n2)
  case y2 =>
    intro hb1
    have hb1x := hb1
    try simp only [Bool.and_eq_true, Bool.or_eq_true, Bool.and_eq_false_iff, Bool.or_eq_false_iff, decide_eq_true_eq, decide_eq_false_iff_not, Bool.not_eq_true', Bool.not_eq_false', Bool.not_eq_eq_eq_not, Bool.not_true, Bool.not_false] at hb1x
    rw [if_pos hb1] at h
    refine sx_cons (s1_ret ev_int ?_)
    show RetOk _ _ _ _ _
    subst h
    exact ret_val rfl rfl rfl (by wtm_at "d.lt")
  case n2 =>
    intro hb1
    have hb1x := hb1
    try simp only [Bool.and_eq_true, Bool.or_eq_true, Bool.and_eq_false_iff, Bool.or_eq_false_iff, decide_eq_true_eq, decide_eq_false_iff_not, Bool.not_eq_true', Bool.not_eq_false', Bool.not_eq_eq_eq_not, Bool.not_true, Bool.not_false] at hb1x
    rw [if_neg (by rw [hb1]; decide)] at h
    refine sx_nil ?_
    show SX _ _ _ _ _ _
    refine sx_cons (s1_ret (ev_dget2 hr ev_int (ev_name T rfl (Lk.there Lk.here) rfl) (ev_name T rfl Lk.here rfl) ⟨_, (IsD.cell rfl)⟩ (IsD.cell rfl) (KeyOf.str _) (get_T (f := PyData.int) numbers_0 x_0 0)) ?_)
    show RetOk _ _ _ _ _
    subst h
    exact ret_val rfl rfl rfl (by wtm_at "d.lt")
end
def m_place_at (place_0 : (Str × Int)) (numbers_0 : (List (Str × Int))) : Int := letF (m_number_at place_0.1 numbers_0) fun r_1 => (r_1 + place_0.2)
section
variable {P : Program} {w : World} {K : PySem.W.Frag} {mg : Str → Option Value} {base : Heap}
inductive Sp_place_at : Spec
  | mk {place_0 : (Str × Int)} {numbers_0 : (List (Str × Int))}  : Sp_place_at [.val (.tuple [(.str place_0.1), (.int place_0.2)]), .cell 0] [(.dct (svK (kvT PyData.int numbers_0)))] (.val (.int (m_place_at place_0 numbers_0))) [(.dct (svK (kvT PyData.int numbers_0)))]
theorem cal_place_at (D : DefAt K mg "place_at" s_place_at P_place_at) (C_number_at : Cal P w K mg base 1 "number_at" 2 Sp_number_at) : Cal P w K mg base 2 "place_at" 2 Sp_place_at := by
  refine cal_def D sc_place_at tb_place_at (fun f cdv A outer s0 H E hr T TL svs cs sv cs1 hsp hl => ?_)
  cases hsp with
  | @mk place_0 numbers_0  =>
  obtain ⟨R0, h⟩ : ∃ R0, (m_place_at place_0 numbers_0) = R0 := ⟨_, rfl⟩
  rw [h]
  unfold m_place_at at h
  show SX _ _ _ [some (.val (.tuple [(.str place_0.1), (.int place_0.2)])), some (.cell 0)] [(.dct (svK (kvT PyData.int numbers_0)))] _
  replace h := letF_elim h
  obtain ⟨r_1, er_1, h⟩ := h
  refine sx_cons (s1_ret (ev_add (ev_as (t := .val (.int r_1)) (cs2 := [(.dct (svK (kvT PyData.int numbers_0)))]) (ev_callM (κ := [0]) C_number_at hr (by decide) rfl (av_cons (ev_ixT (ev_name T rfl Lk.here rfl) ev_int rfl) (av_cons (ev_name T rfl (Lk.there Lk.here) rfl) av_nil)) (Sel.cons rfl (by wtm_at "d.flat") (by intro z; cases z) Sel.nil) (RenA.val (RenA.cell rfl RenA.nil)) (Sp_number_at.mk (x_0 := place_0.1) (numbers_0 := numbers_0) ) (SetA.cons PutC.here SetA.nil) (List.prefix_refl _) (by wtm_at "g.flat") (by decide) rfl) (by subst er_1; rfl) (by subst er_1; rfl)) (ev_ixT (ev_name T rfl Lk.here rfl) ev_int rfl)) ?_)
  show RetOk _ _ _ _ _
  subst h
  exact ret_val rfl rfl rfl (by wtm_at "d.lt")
end
def m_term_at (term_0 : Trm) (numbers_0 : (List (Str × Int))) (rows_0 : (List (Str × (Int × (List (Int × Int)))))) : Int := match term_0 with
  | .is x => letF (m_number_at x numbers_0) fun r_1 => r_1
  | .rd r p => letF (m_place_at p numbers_0) fun r_2 => letF (entryF ((lkS rows_0 r).getD ((0, []) : Int × List (Int × Int))).1 ((lkS rows_0 r).getD ((0, []) : Int × List (Int × Int))).2 r_2) fun r_3 => r_3
section
variable {P : Program} {w : World} {K : PySem.W.Frag} {mg : Str → Option Value} {base : Heap}
inductive Sp_term_at : Spec
  | mk {term_0 : Trm} {numbers_0 : (List (Str × Int))} {rows_0 : (List (Str × (Int × (List (Int × Int)))))}  : Sp_term_at [.val (Trm.D term_0), .cell 0, .cell 1] [(.dct (svK (kvT PyData.int numbers_0))), (.dct (svK (kvT e_tup_int_tupl_tup_int_int rows_0)))] (.val (.int (m_term_at term_0 numbers_0 rows_0))) [(.dct (svK (kvT PyData.int numbers_0))), (.dct (svK (kvT e_tup_int_tupl_tup_int_int rows_0)))]
theorem cal_term_at (D : DefAt K mg "term_at" s_term_at P_term_at) (C_number_at : Cal P w K mg base 1 "number_at" 2 Sp_number_at) (C_place_at : Cal P w K mg base 2 "place_at" 2 Sp_place_at) (C_entry : Cal P w K mg base 1 "entry" 2 SpEntry) (G_BLANK : Glo K mg "BLANK" (.tuple [(.int 0), (.tuple [])])) : Cal P w K mg base 3 "term_at" 3 Sp_term_at := by
  refine cal_def D sc_term_at tb_term_at (fun f cdv A outer s0 H E hr T TL svs cs sv cs1 hsp hl => ?_)
  cases hsp with
  | @mk term_0 numbers_0 rows_0  =>
  obtain ⟨R0, h⟩ : ∃ R0, (m_term_at term_0 numbers_0 rows_0) = R0 := ⟨_, rfl⟩
  rw [h]
  unfold m_term_at at h
  cases term_0
  case is x =>
    dsimp only at h
    show SX _ _ _ [some (.val (.tuple [(.str ("is" : Str)), (.str x)])), some (.cell 0), some (.cell 1)] [(.dct (svK (kvT PyData.int numbers_0))), (.dct (svK (kvT e_tup_int_tupl_tup_int_int rows_0)))] _
    refine sx_cons (s1_if (tv_eqS (ev_ixT (ev_name T rfl Lk.here rfl) ev_int rfl) ev_str) (fun _ => ?_) (fun z => absurd z (by decide)))
    replace h := letF_elim h
    obtain ⟨r_1, er_1, h⟩ := h
    refine sx_cons (s1_ret (ev_as (t := .val (.int r_1)) (cs2 := [(.dct (svK (kvT PyData.int numbers_0))), (.dct (svK (kvT e_tup_int_tupl_tup_int_int rows_0)))]) (ev_callM (κ := [0]) C_number_at hr (by decide) rfl (av_cons (ev_ixT (ev_name T rfl Lk.here rfl) ev_int rfl) (av_cons (ev_name T rfl (Lk.there Lk.here) rfl) av_nil)) (Sel.cons rfl (by wtm_at "d.flat") (by intro z; cases z) Sel.nil) (RenA.val (RenA.cell rfl RenA.nil)) (Sp_number_at.mk (x_0 := x) (numbers_0 := numbers_0) ) (SetA.cons PutC.here SetA.nil) (List.prefix_refl _) (by wtm_at "g.flat") (by decide) rfl) (by subst er_1; rfl) (by subst er_1; rfl)) ?_)
    show RetOk _ _ _ _ _
    subst h
    exact ret_val rfl rfl rfl (by wtm_at "d.lt")
  case rd r p =>
    dsimp only at h
    show SX _ _ _ [some (.val (.tuple [(.str ("at" : Str)), (.str r), (.tuple [(.str p.1), (.int p.2)])])), some (.cell 0), some (.cell 1)] [(.dct (svK (kvT PyData.int numbers_0))), (.dct (svK (kvT e_tup_int_tupl_tup_int_int rows_0)))] _
    refine sx_cons (s1_if (tv_eqS (ev_ixT (ev_name T rfl Lk.here rfl) ev_int rfl) ev_str) (fun z => absurd z (by decide)) (fun _ => ?_))
    refine sx_nil ?_
    show SX _ _ _ _ _ _
    replace h := letF_elim h
    obtain ⟨r_2, er_2, h⟩ := h
    replace h := letF_elim h
    obtain ⟨r_3, er_3, h⟩ := h
    refine sx_cons (s1_ret (ev_as (t := .val (.int r_3)) (cs2 := [(.dct (svK (kvT PyData.int numbers_0))), (.dct (svK (kvT e_tup_int_tupl_tup_int_int rows_0)))]) (ev_callM (κ := []) C_entry hr (by decide) rfl (av_cons (ev_dget2 hr (ev_glo G_BLANK rfl) (ev_name T rfl (Lk.there (Lk.there Lk.here)) rfl) (ev_ixT (ev_name T rfl Lk.here rfl) ev_int rfl) ⟨_, (IsD.cell rfl)⟩ (IsD.cell rfl) (KeyOf.str _) (get_T (f := e_tup_int_tupl_tup_int_int) rows_0 r ((0, []) : Int × List (Int × Int)))) (av_cons (ev_as (t := .val (.int r_2)) (cs2 := [(.dct (svK (kvT PyData.int numbers_0))), (.dct (svK (kvT e_tup_int_tupl_tup_int_int rows_0)))]) (ev_callM (κ := [0]) C_place_at hr (by decide) rfl (av_cons (ev_ixT (ev_name T rfl Lk.here rfl) ev_int rfl) (av_cons (ev_name T rfl (Lk.there Lk.here) rfl) av_nil)) (Sel.cons rfl (by wtm_at "d.flat") (by intro z; cases z) Sel.nil) (RenA.val (RenA.cell rfl RenA.nil)) (Sp_place_at.mk (place_0 := p) (numbers_0 := numbers_0) ) (SetA.cons PutC.here SetA.nil) (List.prefix_refl _) (by wtm_at "g.flat") (by decide) rfl) (by subst er_2; rfl) (by subst er_2; rfl)) av_nil)) Sel.nil (RenA.val (RenA.val RenA.nil)) (SpEntry.mk (b := ((lkS rows_0 r).getD ((0, []) : Int × List (Int × Int))).1) (ss := ((lkS rows_0 r).getD ((0, []) : Int × List (Int × Int))).2) (p := r_2)) SetA.nil (List.prefix_refl _) rfl (by decide) rfl) (by subst er_3; rfl) (by subst er_3; rfl)) ?_)
    show RetOk _ _ _ _ _
    subst h
    exact ret_val rfl rfl rfl (by wtm_at "d.lt")
end
def m_picked (picks_0 : (List Pck)) (used_0 : Int) (other_0 : Pck) : Pck := if (decide (used_0 < (picks_0.length : Int))) then (ixD picks_0 used_0) else other_0
section
variable {P : Program} {w : World} {K : PySem.W.Frag} {mg : Str → Option Value} {base : Heap}
inductive Sp_picked : Spec
  | mk {picks_0 : (List Pck)} {used_0 : Int} {other_0 : Pck} (hu : 0 ≤ used_0) : Sp_picked [.cell 0, .val (.int used_0), .val (Pck.D other_0)] [(.lst ((picks_0.map Pck.D).map SV.val))] (.val (Pck.D (m_picked picks_0 used_0 other_0))) [(.lst ((picks_0.map Pck.D).map SV.val))]
theorem cal_picked (D : DefAt K mg "picked" s_picked P_picked) (z_len : mg "len" = none) : Cal P w K mg base 1 "picked" 3 Sp_picked := by
  refine cal_def D sc_picked tb_picked (fun f cdv A outer s0 H E hr T TL svs cs sv cs1 hsp hl => ?_)
  cases hsp with
  | @mk picks_0 used_0 other_0 hu =>
  obtain ⟨R0, h⟩ : ∃ R0, (m_picked picks_0 used_0 other_0) = R0 := ⟨_, rfl⟩
  rw [h]
  unfold m_picked at h
  show SX _ _ _ [some (.cell 0), some (.val (.int used_0)), some (.val (Pck.D other_0))] [(.lst ((picks_0.map Pck.D).map SV.val))] _
  refine' sx_cons (s1_if (tv_lt (ev_name T rfl (Lk.there Lk.here) rfl) (ev_is (t := .val (.int (picks_0.length : Int))) (ev_len z_len rfl (ev_name T rfl Lk.here rfl) (rc_lenL (IsL.cell rfl))) (by simp only [List.length_map]))) ?y2 ?n2)
  case y2 =>
    intro hb1
    have hb1x := hb1
    try simp only [Bool.and_eq_true, Bool.or_eq_true, Bool.and_eq_false_iff, Bool.or_eq_false_iff, decide_eq_true_eq, decide_eq_false_iff_not, Bool.not_eq_true', Bool.not_eq_false', Bool.not_eq_eq_eq_not, Bool.not_true, Bool.not_false] at hb1x
    rw [if_pos hb1] at h
    have at3 : L2.atI (picks_0.map Pck.D) used_0 = some (Pck.D (ixD picks_0 used_0)) := at_ixD (f := Pck.D) (by wtm_at "g.sd") (by wtm_at "g.sd")
    refine sx_cons (s1_ret (ev_ixL (ev_name T rfl Lk.here rfl) (ev_name T rfl (Lk.there Lk.here) rfl) (IsL.cell rfl) (atI_map at3)) ?_)
    show RetOk _ _ _ _ _
    subst h
    exact ret_val rfl rfl rfl (by wtm_at "d.lt")
  case n2 =>
    intro hb1
    have hb1x := hb1
    try simp only [Bool.and_eq_true, Bool.or_eq_true, Bool.and_eq_false_iff, Bool.or_eq_false_iff, decide_eq_true_eq, decide_eq_false_iff_not, Bool.not_eq_true', Bool.not_eq_false', Bool.not_eq_eq_eq_not, Bool.not_true, Bool.not_false] at hb1x
    rw [if_neg (by rw [hb1]; decide)] at h
    refine sx_nil ?_
    show SX _ _ _ _ _ _
    refine sx_cons (s1_ret (ev_name T rfl (Lk.there (Lk.there Lk.here)) rfl) ?_)
    show RetOk _ _ _ _ _
    subst h
    exact ret_val rfl rfl rfl (by wtm_at "d.lt")
end
local macro_rules | `(tactic| wtm_at "g.pre") => `(tactic| first | (subst_vars; with_reducible assumption) | assumption | (subst_vars; assumption))
local macro_rules | `(tactic| wtm_at "g.flat") => `(tactic| first | rfl | exact all_flat1 (flat_map _) | exact all_flat1 (flat_svK _) | (simp only [List.all_cons, List.all_nil, flat_svK, flat_map, Bool.and_self, Bool.and_true]; done) | (simp [CC.flat, SV.isVal]; done))
theorem forL_inv {α σ ρ : Type} {body : α → σ → (σ → ρ) → ρ} {k : σ → ρ} {Q : ρ → Prop} (J : List α → σ → Prop) (hk : ∀ s, J [] s → Q (k s)) : ∀ (es : List α) (s : σ), (∀ x ∈ es, ∀ xs s n, J (x :: xs) s → (∀ s', J xs s' → Q (n s')) → Q (body x s n)) → J es s → Q (forL body k es s)
  | [], s, _, h => hk s h
  | x :: xs, s, hb, h => hb x List.mem_cons_self xs s _ h fun s' h' => forL_inv J hk xs s' (fun y hy => hb y (List.mem_cons_of_mem _ hy)) h'
def m_law_cell_at (script_0 : Scr) (k_0 : Int) : Int := if (decide (k_0 < (script_0.ns.length : Int))) then (Scr.at script_0 (k_0 : Int).toNat) else letF ((7919 * k_0) + 11) fun number_here_1 => joinF (fun (q_3 : (Int)) => (q_3 % 2147483647)) fun j_1 => if (decide (0 < (script_0.ns.length : Int))) then letF ((((Scr.at script_0 ((k_0 % (script_0.ns.length : Int)) : Int).toNat) % 1000003) * 48271) + ((7919 * k_0) * k_0)) fun number_here_4 => j_1 (number_here_4) else j_1 (number_here_1)
section
variable {P : Program} {w : World} {K : PySem.W.Frag} {mg : Str → Option Value} {base : Heap}
inductive Sp_law_cell_at : Spec
  | mk {script_0 : Scr} {k_0 : Int} (hk : 0 ≤ k_0 ∧ k_0 < 200) : Sp_law_cell_at [.val (Scr.D script_0), .val (.int k_0)] [] (.val (.int (m_law_cell_at script_0 k_0))) []
theorem cal_law_cell_at (D : DefAt K mg "_law_cell_at" s__law_cell_at P__law_cell_at) (z_len : mg "len" = none) : Cal P w K mg base 1 "_law_cell_at" 2 Sp_law_cell_at := by
  refine cal_def D sc__law_cell_at tb__law_cell_at (fun f cdv A outer s0 H E hr T TL svs cs sv cs1 hsp hl => ?_)
  cases hsp with
  | @mk script_0 k_0 hk =>
  obtain ⟨R0, h⟩ : ∃ R0, (m_law_cell_at script_0 k_0) = R0 := ⟨_, rfl⟩
  rw [h]
  unfold m_law_cell_at at h
  have hSl := script_0.len
  show SX _ _ _ [some (.val (Scr.D script_0)), some (.val (.int k_0)), none] [] _
  refine' sx_cons (s1_if (tv_lt (ev_name T rfl (Lk.there Lk.here) rfl) (ev_is (t := .val (.int (script_0.ns.length : Int))) (ev_len z_len rfl (ev_name T rfl Lk.here rfl) (rc_lenLv)) (by simp only [List.length_map]))) ?y2 ?n2)
  case y2 =>
    intro hb1
    have hb1x := hb1
    try simp only [Bool.and_eq_true, Bool.or_eq_true, Bool.and_eq_false_iff, Bool.or_eq_false_iff, decide_eq_true_eq, decide_eq_false_iff_not, Bool.not_eq_true', Bool.not_eq_false', Bool.not_eq_eq_eq_not, Bool.not_true, Bool.not_false] at hb1x
    rw [if_pos hb1] at h
    have sa3 := Scr.atI script_0 (i := k_0) (by wtm_at "g.sd") (by wtm_at "g.sd")
    have sb3 := (Scr.bdAt script_0 (k_0 : Int).toNat).bd
    refine sx_cons (s1_ret (ev_ixLv (ev_name T rfl Lk.here rfl) (ev_name T rfl (Lk.there Lk.here) rfl) sa3) ?_)
    show RetOk _ _ _ _ _
    subst h
    exact ret_val rfl rfl rfl (by wtm_at "d.lt")
  case n2 =>
    intro hb1
    have hb1x := hb1
    try simp only [Bool.and_eq_true, Bool.or_eq_true, Bool.and_eq_false_iff, Bool.or_eq_false_iff, decide_eq_true_eq, decide_eq_false_iff_not, Bool.not_eq_true', Bool.not_eq_false', Bool.not_eq_eq_eq_not, Bool.not_true, Bool.not_false] at hb1x
    rw [if_neg (by rw [hb1]; decide)] at h
    refine sx_nil ?_
    show SX _ _ _ _ _ _
    replace h := letF_elim h
    obtain ⟨number_here_1, enumber_here_1, h⟩ := h
    refine sx_cons (s1_set TL rfl (ev_is (t := .val (.int number_here_1)) (ev_add (ev_mul ev_int (ev_name T rfl (Lk.there Lk.here) rfl) (by wtm_at "d.mul")) ev_int) (by subst enumber_here_1; rfl)) (Put.there (Put.there Put.here)) ?_ rfl)
    show SX _ _ _ _ _ _
    replace h := joinF_elim h
    obtain ⟨j_1, hj_1, h⟩ := h
    refine' sx_cutA (fun sl1 cs1 => ∃ q_3 : (Int), j_1 q_3 = R0 ∧ True ∧ sl1 = [some (.val (Scr.D script_0)), some (.val (.int k_0)), some (.val (.int q_3))] ∧ cs1 = []) ?st5 ?rest5
    case st5 =>
      refine' s1_if (tv_gt (ev_is (t := .val (.int (script_0.ns.length : Int))) (ev_len z_len rfl (ev_name T rfl Lk.here rfl) (rc_lenLv)) (by simp only [List.length_map])) ev_int) ?y5 ?n5
      case y5 =>
        intro hb4
        have hb4x := hb4
        try simp only [Bool.and_eq_true, Bool.or_eq_true, Bool.and_eq_false_iff, Bool.or_eq_false_iff, decide_eq_true_eq, decide_eq_false_iff_not, Bool.not_eq_true', Bool.not_eq_false', Bool.not_eq_eq_eq_not, Bool.not_true, Bool.not_false] at hb4x
        rw [if_pos hb4] at h
        replace h := letF_elim h
        obtain ⟨number_here_4, enumber_here_4, h⟩ := h
        have md6 := emod_bd (k_0) (m := (script_0.ns.length : Int)) (by wtm_at "g.sd")
        have sa7 := Scr.atI script_0 (i := (k_0 % (script_0.ns.length : Int))) (by wtm_at "g.sd") (by wtm_at "g.sd")
        have sb7 := (Scr.bdAt script_0 ((k_0 % (script_0.ns.length : Int)) : Int).toNat).bd
        refine sx_cons (s1_set TL rfl (ev_is (t := .val (.int number_here_4)) (ev_add (ev_mul (ev_mod (ev_ixLv (ev_name T rfl Lk.here rfl) (ev_mod (ev_name T rfl (Lk.there Lk.here) rfl) (ev_is (t := .val (.int (script_0.ns.length : Int))) (ev_len z_len rfl (ev_name T rfl Lk.here rfl) (rc_lenLv)) (by simp only [List.length_map])) (by wtm_at "d.side")) sa7) ev_int (by wtm_at "d.side")) ev_int (by wtm_at "d.mul")) (ev_mul (ev_mul ev_int (ev_name T rfl (Lk.there Lk.here) rfl) (by wtm_at "d.mul")) (ev_name T rfl (Lk.there Lk.here) rfl) (by wtm_at "d.mul"))) (by subst enumber_here_4; rfl)) (Put.there (Put.there Put.here)) ?_ rfl)
        show SX _ _ _ _ _ _
        refine sx_nil ?_
        exact ⟨_, _, ⟨(number_here_4), h, trivial, rfl, rfl⟩, (At.same (Le.same (Le.same (Le.same Le.nil))))⟩
      case n5 =>
        intro hb4
        have hb4x := hb4
        try simp only [Bool.and_eq_true, Bool.or_eq_true, Bool.and_eq_false_iff, Bool.or_eq_false_iff, decide_eq_true_eq, decide_eq_false_iff_not, Bool.not_eq_true', Bool.not_eq_false', Bool.not_eq_eq_eq_not, Bool.not_true, Bool.not_false] at hb4x
        rw [if_neg (by rw [hb4]; decide)] at h
        refine sx_nil ?_
        exact ⟨_, _, ⟨(number_here_1), h, trivial, rfl, rfl⟩, (At.same (Le.same (Le.same (Le.same Le.nil))))⟩
    clear h
    rintro _ _ ⟨number_here_2, h, hi1, rfl, rfl⟩
    replace h := hj_1 _ h
    try dsimp only at h hi1
    show SX _ _ _ [some (.val (Scr.D script_0)), some (.val (.int k_0)), some (.val (.int number_here_2))] [] _
    refine sx_cons (s1_ret (ev_mod (ev_name T rfl (Lk.there (Lk.there Lk.here)) rfl) ev_int (by wtm_at "d.side")) ?_)
    show RetOk _ _ _ _ _
    subst h
    exact ret_val rfl rfl rfl (by wtm_at "d.lt")
end
theorem cell_bd (S : Scr) (k : Int) : Bd (m_law_cell_at S k) := by
  unfold m_law_cell_at
  simp only [letF, joinF]
  split
  · exact (Scr.bdAt _ _).bd
  · split
    · exact bd_lt (by omega)
    · exact bd_lt (by omega)
def m_law_mix (seed_0 : Int) (k_0 : Int) : Int := letF ((((seed_0 * 48271) + (k_0 * 40692)) + 1) % 2147483647) fun number_here_1 => ((number_here_1 * number_here_1) % 2147483629)
section
variable {P : Program} {w : World} {K : PySem.W.Frag} {mg : Str → Option Value} {base : Heap}
inductive Sp_law_mix : Spec
  | mk {seed_0 : Int} {k_0 : Int} (hs : 0 ≤ seed_0 ∧ seed_0 < 4294967296) (hk : 0 ≤ k_0 ∧ k_0 < 1000) : Sp_law_mix [.val (.int seed_0), .val (.int k_0)] [] (.val (.int (m_law_mix seed_0 k_0))) []
theorem cal_law_mix (D : DefAt K mg "_law_mix" s__law_mix P__law_mix) : Cal P w K mg base 1 "_law_mix" 2 Sp_law_mix := by
  refine cal_def D sc__law_mix tb__law_mix (fun f cdv A outer s0 H E hr T TL svs cs sv cs1 hsp hl => ?_)
  cases hsp with
  | @mk seed_0 k_0 hs hk =>
  obtain ⟨R0, h⟩ : ∃ R0, (m_law_mix seed_0 k_0) = R0 := ⟨_, rfl⟩
  rw [h]
  unfold m_law_mix at h
  show SX _ _ _ [some (.val (.int seed_0)), some (.val (.int k_0)), none] [] _
  replace h := letF_elim h
  obtain ⟨number_here_1, enumber_here_1, h⟩ := h
  refine sx_cons (s1_set TL rfl (ev_is (t := .val (.int number_here_1)) (ev_mod (ev_add (ev_add (ev_mul (ev_name T rfl Lk.here rfl) ev_int (by wtm_at "d.mul")) (ev_mul (ev_name T rfl (Lk.there Lk.here) rfl) ev_int (by wtm_at "d.mul"))) ev_int) ev_int (by wtm_at "d.side")) (by subst enumber_here_1; rfl)) (Put.there (Put.there Put.here)) ?_ rfl)
  show SX _ _ _ _ _ _
  refine sx_cons (s1_ret (ev_mod (ev_mul (ev_name T rfl (Lk.there (Lk.there Lk.here)) rfl) (ev_name T rfl (Lk.there (Lk.there Lk.here)) rfl) (by wtm_at "d.mul")) ev_int (by wtm_at "d.side")) ?_)
  show RetOk _ _ _ _ _
  subst h
  exact ret_val rfl rfl rfl (by wtm_at "d.lt")
end
theorem mix_bd (s k : Int) : 0 ≤ m_law_mix s k ∧ m_law_mix s k < 2147483629 := by
  unfold m_law_mix
  simp only [letF]
  exact ⟨Int.emod_nonneg _ (by decide), Int.emod_lt_of_pos _ (by decide)⟩
theorem join_small {α : Type} (z : Str) (g : α → Int) (xs : List α) (h : xs.length ≤ 1000000) : ((xs.map fun y => chS z (g y)).map (·.length)).sum + (xs.map fun y => chS z (g y)).length * ("" : Str).length ≤ 16777216 := by
  have e : ∀ l : List α, ((l.map fun y => chS z (g y)).map (·.length)).sum = l.length := by
    intro l
    induction l with
    | nil => rfl
    | cons a r ih =>
      rw [List.map_cons, List.map_cons, List.sum_cons, ih, List.length_cons]
      show 1 + r.length = r.length + 1
      omega
  rw [e, show ("" : Str).length = 0 from rfl]
  omega
local macro_rules | `(tactic| wtm_at "g.ixs") => `(tactic| first | (refine ⟨by omega, Int.lt_of_lt_of_le (b := 26) (by omega) (by decide)⟩) | (refine ⟨by omega, Int.lt_of_lt_of_le (b := 2) (by omega) (by decide)⟩) | fail)
local macro_rules | `(tactic| wtm_at "g.join") => `(tactic| (refine join_small _ _ _ ?_; subst_vars; simp only [List.length_map, List.length_range]; omega))
theorem txt_join (y : Str) (parts : List Str) : Txt.join y parts = Str.join y parts := StrLaws.glued_eq_join y parts
theorem len_app (a b : Str) : (a ++ b).length = a.length + b.length := Array.size_append
theorem join_len1 : ∀ l : List Str, (∀ a ∈ l, a.length = 1) → (Str.join ("" : Str) l).length = l.length
  | [], _ => rfl
  | [x], h => h x List.mem_cons_self
  | x :: y :: r, h => by
    show (x ++ ("" : Str) ++ Str.join ("" : Str) (y :: r)).length = _
    rw [len_app, len_app, h x List.mem_cons_self, join_len1 (y :: r) fun q hq => h q (List.mem_cons_of_mem _ hq)]
    show 1 + 0 + (r.length + 1) = r.length + 1 + 1
    omega
theorem words_add {α : Type} (a : Str) (z : Str) (g : α → Int) (xs : List α) (h : xs.length ≤ 1000) (i : Int) : (chS a i).length + (Txt.join ("" : Str) (xs.map fun y => chS z (g y))).length ≤ 1000000 := by
  have e : (Txt.join (Str.ofString "") (xs.map fun y => chS z (g y))).length = (xs.map fun y => chS z (g y)).length := (txt_join _ _).symm ▸ join_len1 _ fun q hq => by
    obtain ⟨y, _, rfl⟩ := List.mem_map.mp hq
    rfl
  rw [e, List.length_map]
  show 1 + _ ≤ _
  omega
local macro_rules | `(tactic| wtm_at "g.str") => `(tactic| (with_reducible refine words_add _ _ _ _ ?_ _; subst_vars; simp only [List.length_map, List.length_range]; omega))
def m_law_words (cell_0 : Int) (many_0 : Int) : (List Str) := if (decide ((cell_0 % 7) = 3)) then ((List.range (many_0 : Int).toNat).map fun (y_1 : Nat) => (ixD ([("row" : Str), ("is" : Str), ("at" : Str), ("set" : Str), ("put" : Str), ("know" : Str), ("lose" : Str), ("start" : Str), ("entry" : Str), ("own" : Str), ("nought" : Str), ("pick" : Str), ("least" : Str), ("lost" : Str)] : (List Str)) (((cell_0 / 7) + (y_1 : Int)) % 14))) else letF (cell_0 % 8) fun size_2 => if (decide (size_2 = 0)) then ((List.range (many_0 : Int).toNat).map fun (y_3 : Nat) => (chS ("abcdefghijklmnopqrstuvwxyz" : Str) (((cell_0 / 8) + (y_3 : Int)) % 26))) else letF ((cell_0 / 8) % size_2) fun spot_4 => forL (fun (x_6 : Nat) (s_7 : ((List Str))) n_1 => letF ((List.range (size_2 : Int).toNat).map fun (y_8 : Nat) => (((cell_0 / 432) + ((7 * (y_8 : Int)) * (y_8 : Int))) + ((x_6 : Int) * (if (decide ((y_8 : Int) = spot_4)) then 1 else 0 : Int)))) fun base_9 => n_1 ((s_7 ++ [((chS ("qz" : Str) ((cell_0 / 144) % 2)) ++ (Txt.join ("" : Str) (base_9.map fun (y_10 : Int) => (chS ("abcdefghijklmnopqrstuvwxyz" : Str) (y_10 % 26)))))]))) (fun s_7 : ((List Str)) => s_7) (List.range (many_0 : Int).toNat) (([] : (List Str)))
section
variable {P : Program} {w : World} {K : PySem.W.Frag} {mg : Str → Option Value} {base : Heap}
inductive Sp_law_words : Spec
  | mk {cell_0 : Int} {many_0 : Int} (hm : many_0 = 8) (hc : Bd cell_0) : Sp_law_words [.val (.int cell_0), .val (.int many_0)] [] (.val (.list ((m_law_words cell_0 many_0).map PyData.str))) []
theorem cal_law_words (D : DefAt K mg "_law_words" s__law_words P__law_words) (z_int : mg "int" = none) (z_range : mg "range" = none) : Cal P w K mg base 1 "_law_words" 2 Sp_law_words := by
  refine cal_def D sc__law_words tb__law_words (fun f cdv A outer s0 H E hr T TL svs cs sv cs1 hsp hl => ?_)
  cases hsp with
  | @mk cell_0 many_0 hm hc =>
  obtain ⟨R0, h⟩ : ∃ R0, (m_law_words cell_0 many_0) = R0 := ⟨_, rfl⟩
  rw [h]
  unfold m_law_words at h
  show SX _ _ _ [some (.val (.int cell_0)), some (.val (.int many_0)), none, none, none, none, none, none, none, none, none] [] _
  refine sx_cons (s1_set TL rfl ev_str (Put.there (Put.there Put.here)) ?_ rfl)
  show SX _ _ _ _ _ _
  refine sx_cons (s1_set TL rfl (ev_lstV (ad_cons ev_str (ad_cons ev_str (ad_cons ev_str (ad_cons ev_str (ad_cons ev_str (ad_cons ev_str (ad_cons ev_str (ad_cons ev_str (ad_cons ev_str (ad_cons ev_str (ad_cons ev_str (ad_cons ev_str (ad_cons ev_str (ad_cons ev_str ad_nil)))))))))))))) rfl) (Put.there (Put.there (Put.there Put.here))) ?_ rfl)
  show SX _ _ _ _ _ _
  refine' sx_cons (s1_if (tv_eqI (ev_mod (ev_name T rfl Lk.here rfl) ev_int (by wtm_at "d.side")) ev_int) ?y2 ?n2)
  case y2 =>
    intro hb1
    have hb1x := hb1
    try simp only [Bool.and_eq_true, Bool.or_eq_true, Bool.and_eq_false_iff, Bool.or_eq_false_iff, decide_eq_true_eq, decide_eq_false_iff_not, Bool.not_eq_true', Bool.not_eq_false', Bool.not_eq_eq_eq_not, Bool.not_true, Bool.not_false] at hb1x
    rw [if_pos hb1] at h
    refine sx_cons (s1_ret (ev_LC rfl T.nd (blkOk_by (N := N__law_words) (sc := defScope s__law_words) (by decide +kernel)) (lc_as (es := ((List.range (many_0 : Int).toNat).map fun (y_1 : Nat) => (ixD ([("row" : Str), ("is" : Str), ("at" : Str), ("set" : Str), ("put" : Str), ("know" : Str), ("lose" : Str), ("start" : Str), ("entry" : Str), ("own" : Str), ("nought" : Str), ("pick" : Str), ("least" : Str), ("lost" : Str)] : (List Str)) (((cell_0 / 7) + (y_1 : Int)) % 14))).map PyData.str) (lc_K (own := [("_law_k", 4)]) (List.range (many_0 : Int).toNat) (fun i : Nat => SV.val (.int (i : Int))) (by exact (iv_range1 z_range rfl (ev_name T rfl (Lk.there Lk.here) rfl) (by wtm_at "g.sd") (by wtm_at "g.sd"))) (fun y_1 => (.str (ixD ([("row" : Str), ("is" : Str), ("at" : Str), ("set" : Str), ("put" : Str), ("know" : Str), ("lose" : Str), ("start" : Str), ("entry" : Str), ("own" : Str), ("nought" : Str), ("pick" : Str), ("least" : Str), ("lost" : Str)] : (List Str)) (((cell_0 / 7) + (y_1 : Int)) % 14)))) (fun y_1 => [some (.val (.int cell_0)), some (.val (.int many_0)), some (.val (.str ("abcdefghijklmnopqrstuvwxyz" : Str))), some (.val (.list [(.str ("row" : Str)), (.str ("is" : Str)), (.str ("at" : Str)), (.str ("set" : Str)), (.str ("put" : Str)), (.str ("know" : Str)), (.str ("lose" : Str)), (.str ("start" : Str)), (.str ("entry" : Str)), (.str ("own" : Str)), (.str ("nought" : Str)), (.str ("pick" : Str)), (.str ("least" : Str)), (.str ("lost" : Str))])), some (.val (.int (y_1 : Int))), none, none, none, none, none, none]) (fun _ => []) (by wtm_at "g.sd") (by first | exact trivial | rfl) (fun y_1 hm4 st H0 C0 cl fp => gw_name T.nd rfl (Put.there (Put.there (Put.there (Put.there Put.here)))) (by decide) ⟨rfl, rfl⟩) (fun y_1 hm4 => ⟨fun st H0 C0 cl fp => (by
        have hm4r := List.mem_range.mp hm4
        have at3 : L2.atI (([("row" : Str), ("is" : Str), ("at" : Str), ("set" : Str), ("put" : Str), ("know" : Str), ("lose" : Str), ("start" : Str), ("entry" : Str), ("own" : Str), ("nought" : Str), ("pick" : Str), ("least" : Str), ("lost" : Str)] : (List Str)).map PyData.str) (((cell_0 / 7) + (y_1 : Int)) % 14) = some (PyData.str (ixD ([("row" : Str), ("is" : Str), ("at" : Str), ("set" : Str), ("put" : Str), ("know" : Str), ("lose" : Str), ("start" : Str), ("entry" : Str), ("own" : Str), ("nought" : Str), ("pick" : Str), ("least" : Str), ("lost" : Str)] : (List Str)) (((cell_0 / 7) + (y_1 : Int)) % 14))) := at_ixD (f := PyData.str) (by wtm_at "g.sd") (by wtm_at "g.sd")
        have ib3 := ixD_bdS (xs := ([("row" : Str), ("is" : Str), ("at" : Str), ("set" : Str), ("put" : Str), ("know" : Str), ("lose" : Str), ("start" : Str), ("entry" : Str), ("own" : Str), ("nought" : Str), ("pick" : Str), ("least" : Str), ("lost" : Str)] : (List Str))) (lo := 2) (hi := 6) (i := (((cell_0 / 7) + (y_1 : Int)) % 14)) (by decide) (by wtm_at "g.sd") (by wtm_at "g.sd")
        exact (ev_ixLv (ev_nameV T.nd rfl (Lk.there (Lk.there (Lk.there Lk.here)))) (ev_mod (ev_add (ev_div (ev_nameV T.nd rfl Lk.here) ev_int (by wtm_at "d.div")) (ev_nameV T.nd rfl (Lk.there (Lk.there (Lk.there (Lk.there Lk.here)))))) ev_int (by wtm_at "d.side")) at3)), AtC.same⟩)) (by rw [List.map_map]; rfl) rfl)) ?_)
    show RetOk _ _ _ _ _
    subst h
    exact ret_val rfl rfl rfl (by wtm_at "d.lt")
  case n2 =>
    intro hb1
    have hb1x := hb1
    try simp only [Bool.and_eq_true, Bool.or_eq_true, Bool.and_eq_false_iff, Bool.or_eq_false_iff, decide_eq_true_eq, decide_eq_false_iff_not, Bool.not_eq_true', Bool.not_eq_false', Bool.not_eq_eq_eq_not, Bool.not_true, Bool.not_false] at hb1x
    rw [if_neg (by rw [hb1]; decide)] at h
    refine sx_nil ?_
    show SX _ _ _ _ _ _
    replace h := letF_elim h
    obtain ⟨size_2, esize_2, h⟩ := h
    refine sx_cons (s1_set TL rfl (ev_is (t := .val (.int size_2)) (ev_mod (ev_name T rfl Lk.here rfl) ev_int (by wtm_at "d.side")) (by subst esize_2; rfl)) (Put.there (Put.there (Put.there (Put.there (Put.there Put.here))))) ?_ rfl)
    show SX _ _ _ _ _ _
    refine' sx_cons (s1_if (tv_eqI (ev_name T rfl (Lk.there (Lk.there (Lk.there (Lk.there (Lk.there Lk.here))))) rfl) ev_int) ?y6 ?n6)
    case y6 =>
      intro hb5
      have hb5x := hb5
      try simp only [Bool.and_eq_true, Bool.or_eq_true, Bool.and_eq_false_iff, Bool.or_eq_false_iff, decide_eq_true_eq, decide_eq_false_iff_not, Bool.not_eq_true', Bool.not_eq_false', Bool.not_eq_eq_eq_not, Bool.not_true, Bool.not_false] at hb5x
      rw [if_pos hb5] at h
      refine sx_cons (s1_ret (ev_LC rfl T.nd (blkOk_by (N := N__law_words) (sc := defScope s__law_words) (by decide +kernel)) (lc_as (es := ((List.range (many_0 : Int).toNat).map fun (y_3 : Nat) => (chS ("abcdefghijklmnopqrstuvwxyz" : Str) (((cell_0 / 8) + (y_3 : Int)) % 26))).map PyData.str) (lc_K (own := [("_law_k", 4)]) (List.range (many_0 : Int).toNat) (fun i : Nat => SV.val (.int (i : Int))) (by exact (iv_range1 z_range rfl (ev_name T rfl (Lk.there Lk.here) rfl) (by wtm_at "g.sd") (by wtm_at "g.sd"))) (fun y_3 => (.str (chS ("abcdefghijklmnopqrstuvwxyz" : Str) (((cell_0 / 8) + (y_3 : Int)) % 26)))) (fun y_3 => [some (.val (.int cell_0)), some (.val (.int many_0)), some (.val (.str ("abcdefghijklmnopqrstuvwxyz" : Str))), some (.val (.list [(.str ("row" : Str)), (.str ("is" : Str)), (.str ("at" : Str)), (.str ("set" : Str)), (.str ("put" : Str)), (.str ("know" : Str)), (.str ("lose" : Str)), (.str ("start" : Str)), (.str ("entry" : Str)), (.str ("own" : Str)), (.str ("nought" : Str)), (.str ("pick" : Str)), (.str ("least" : Str)), (.str ("lost" : Str))])), some (.val (.int (y_3 : Int))), some (.val (.int size_2)), none, none, none, none, none]) (fun _ => []) (by wtm_at "g.sd") (by first | exact trivial | rfl) (fun y_3 hm7 st H0 C0 cl fp => gw_name T.nd rfl (Put.there (Put.there (Put.there (Put.there Put.here)))) (by decide) ⟨rfl, rfl⟩) (fun y_3 hm7 => ⟨fun st H0 C0 cl fp => (by
          have hm7r := List.mem_range.mp hm7
          exact (ev_ixS (ev_nameV T.nd rfl (Lk.there (Lk.there Lk.here))) (ev_mod (ev_add (ev_div (ev_nameV T.nd rfl Lk.here) ev_int (by wtm_at "d.div")) (ev_nameV T.nd rfl (Lk.there (Lk.there (Lk.there (Lk.there Lk.here)))))) ev_int (by wtm_at "d.side")) (by wtm_at "g.ixs") (by wtm_at "g.str"))), AtC.same⟩)) (by rw [List.map_map]; rfl) rfl)) ?_)
      show RetOk _ _ _ _ _
      subst h
      exact ret_val rfl rfl rfl (by wtm_at "d.lt")
    case n6 =>
      intro hb5
      have hb5x := hb5
      try simp only [Bool.and_eq_true, Bool.or_eq_true, Bool.and_eq_false_iff, Bool.or_eq_false_iff, decide_eq_true_eq, decide_eq_false_iff_not, Bool.not_eq_true', Bool.not_eq_false', Bool.not_eq_eq_eq_not, Bool.not_true, Bool.not_false] at hb5x
      rw [if_neg (by rw [hb5]; decide)] at h
      refine sx_nil ?_
      show SX _ _ _ _ _ _
      replace h := letF_elim h
      obtain ⟨spot_4, espot_4, h⟩ := h
      have md8 := emod_bd ((cell_0 / 8)) (m := size_2) (by wtm_at "g.sd")
      refine sx_cons (s1_set TL rfl (ev_is (t := .val (.int spot_4)) (ev_mod (ev_div (ev_name T rfl Lk.here rfl) ev_int (by wtm_at "d.div")) (ev_name T rfl (Lk.there (Lk.there (Lk.there (Lk.there (Lk.there Lk.here))))) rfl) (by wtm_at "d.side")) (by subst espot_4; rfl)) (Put.there (Put.there (Put.there (Put.there (Put.there (Put.there Put.here)))))) ?_ rfl)
      show SX _ _ _ _ _ _
      refine sx_cons (s1_set TL rfl (ev_lstC (ss := []) av_nil AppC.nil rfl) (Put.there (Put.there (Put.there (Put.there (Put.there (Put.there (Put.there Put.here))))))) ?_ rfl)
      show SX _ _ _ _ _ _
      refine' sx_cons ?lp10
      refine' s1_forK (List.range (many_0 : Int).toNat) (fun i : Nat => SV.val (.int (i : Int))) _ _ R0 (([] : (List Str))) (fun l_1 (s_7 : ((List Str))) => (s_7.length + 1 * l_1.length ≤ (([] : (List Str))).length + 1 * (List.range (many_0 : Int).toNat).length)) h PassesOwn.never rfl (iv_range1 z_range rfl (ev_name T rfl (Lk.there Lk.here) rfl) (by wtm_at "g.sd") (by wtm_at "g.sd")) ?j010 (fun s_7 : ((List Str)) => [some (.val (.int cell_0)), some (.val (.int many_0)), some (.val (.str ("abcdefghijklmnopqrstuvwxyz" : Str))), some (.val (.list [(.str ("row" : Str)), (.str ("is" : Str)), (.str ("at" : Str)), (.str ("set" : Str)), (.str ("put" : Str)), (.str ("know" : Str)), (.str ("lose" : Str)), (.str ("start" : Str)), (.str ("entry" : Str)), (.str ("own" : Str)), (.str ("nought" : Str)), (.str ("pick" : Str)), (.str ("least" : Str)), (.str ("lost" : Str))])), none, some (.val (.int size_2)), some (.val (.int spot_4)), some (.cell 0), none, none, none]) (fun s_7 : ((List Str)) => [(.lst ((s_7.map PyData.str).map SV.val))]) (Le.same (Le.same (Le.same (Le.same (Le.lose (Le.same (Le.same (Le.same (Le.lose (Le.lose (Le.lose Le.nil))))))))))) rfl (fun _ => trivial) ?tu10 ?dn10
      case j010 => wtm_at "g.inv"
      case tu10 =>
        clear h
        rintro x_6 l_1 c_5 n_1 hm9 hJ1 h
        have hm9p := hm9
        have hm9 := mem_mid hm9
        have hm9r := List.mem_range.mp hm9
        try dsimp only at h hJ1
        refine gx_name TL rfl (Put.there (Put.there (Put.there (Put.there Put.here)))) ?_ rfl
        show SX _ _ _ [some (.val (.int cell_0)), some (.val (.int many_0)), some (.val (.str ("abcdefghijklmnopqrstuvwxyz" : Str))), some (.val (.list [(.str ("row" : Str)), (.str ("is" : Str)), (.str ("at" : Str)), (.str ("set" : Str)), (.str ("put" : Str)), (.str ("know" : Str)), (.str ("lose" : Str)), (.str ("start" : Str)), (.str ("entry" : Str)), (.str ("own" : Str)), (.str ("nought" : Str)), (.str ("pick" : Str)), (.str ("least" : Str)), (.str ("lost" : Str))])), some (.val (.int (x_6 : Int))), some (.val (.int size_2)), some (.val (.int spot_4)), some (.cell 0), none, none, none] [(.lst ((c_5.map PyData.str).map SV.val))] _
        replace h := letF_elim h
        obtain ⟨base_9, ebase_9, h⟩ := h
        refine sx_cons (s1_setLc TL rfl rfl (blkOk_by (N := N__law_words) (sc := defScope s__law_words) (by decide +kernel)) (lc_as (es := base_9.map PyData.int) (lc_as (es := ((List.range (size_2 : Int).toNat).map fun (y_8 : Nat) => (((cell_0 / 432) + ((7 * (y_8 : Int)) * (y_8 : Int))) + ((x_6 : Int) * (if (decide ((y_8 : Int) = spot_4)) then 1 else 0 : Int)))).map PyData.int) (lc_K (own := [("_law_j", 9)]) (List.range (size_2 : Int).toNat) (fun i : Nat => SV.val (.int (i : Int))) (by exact (iv_range1 z_range rfl (ev_name T rfl (Lk.there (Lk.there (Lk.there (Lk.there (Lk.there Lk.here))))) rfl) (by wtm_at "g.sd") (by wtm_at "g.sd"))) (fun y_8 => (.int (((cell_0 / 432) + ((7 * (y_8 : Int)) * (y_8 : Int))) + ((x_6 : Int) * (if (decide ((y_8 : Int) = spot_4)) then 1 else 0 : Int))))) (fun y_8 => [some (.val (.int cell_0)), some (.val (.int many_0)), some (.val (.str ("abcdefghijklmnopqrstuvwxyz" : Str))), some (.val (.list [(.str ("row" : Str)), (.str ("is" : Str)), (.str ("at" : Str)), (.str ("set" : Str)), (.str ("put" : Str)), (.str ("know" : Str)), (.str ("lose" : Str)), (.str ("start" : Str)), (.str ("entry" : Str)), (.str ("own" : Str)), (.str ("nought" : Str)), (.str ("pick" : Str)), (.str ("least" : Str)), (.str ("lost" : Str))])), some (.val (.int (x_6 : Int))), some (.val (.int size_2)), some (.val (.int spot_4)), some (.cell 0), none, some (.val (.int (y_8 : Int))), none]) (fun _ => [(.lst ((c_5.map PyData.str).map SV.val))]) (by wtm_at "g.sd") (by first | exact trivial | rfl) (fun y_8 hm11 st H0 C0 cl fp => gw_name T.nd rfl (Put.there (Put.there (Put.there (Put.there (Put.there (Put.there (Put.there (Put.there (Put.there Put.here))))))))) (by decide) ⟨rfl, rfl⟩) (fun y_8 hm11 => ⟨fun st H0 C0 cl fp => (by
            have hm11r := List.mem_range.mp hm11
            exact (ev_add (ev_add (ev_div (ev_nameV T.nd rfl Lk.here) ev_int (by wtm_at "d.div")) (ev_mul (ev_mul ev_int (ev_nameV T.nd rfl (Lk.there (Lk.there (Lk.there (Lk.there (Lk.there (Lk.there (Lk.there (Lk.there (Lk.there Lk.here)))))))))) (by wtm_at "d.mul")) (ev_nameV T.nd rfl (Lk.there (Lk.there (Lk.there (Lk.there (Lk.there (Lk.there (Lk.there (Lk.there (Lk.there Lk.here)))))))))) (by wtm_at "d.mul"))) (ev_mul (ev_nameV T.nd rfl (Lk.there (Lk.there (Lk.there (Lk.there Lk.here))))) (ev_intB z_int rfl (ev_eqI (ev_nameV T.nd rfl (Lk.there (Lk.there (Lk.there (Lk.there (Lk.there (Lk.there (Lk.there (Lk.there (Lk.there Lk.here)))))))))) (ev_nameV T.nd rfl (Lk.there (Lk.there (Lk.there (Lk.there (Lk.there (Lk.there Lk.here))))))))) (by wtm_at "d.mul")))), AtC.same⟩)) (by rw [List.map_map]; rfl) rfl) (by subst ebase_9; rfl) rfl) (Put.there (Put.there (Put.there (Put.there (Put.there (Put.there (Put.there (Put.there Put.here)))))))) ?_ rfl)
        show SX _ _ _ _ _ _
        refine sx_cons (s1_expr (ev_appT (f := PyData.str) (l := c_5) (y := ((chS ("qz" : Str) ((cell_0 / 144) % 2)) ++ (Txt.join ("" : Str) (base_9.map fun (y_10 : Int) => (chS ("abcdefghijklmnopqrstuvwxyz" : Str) (y_10 % 26)))))) (ev_name T rfl (Lk.there (Lk.there (Lk.there (Lk.there (Lk.there (Lk.there (Lk.there Lk.here))))))) rfl) (ev_addS (ev_ixS ev_str (ev_mod (ev_div (ev_name T rfl Lk.here rfl) ev_int (by wtm_at "d.div")) ev_int (by wtm_at "d.side")) (by wtm_at "g.ixs") (by wtm_at "g.str")) (ev_join (z := ("" : Str)) (ys := (base_9.map fun (y_10 : Int) => (chS ("abcdefghijklmnopqrstuvwxyz" : Str) (y_10 % 26)))) ev_str (ev_LC rfl T.nd (blkOk_by (N := N__law_words) (sc := defScope s__law_words) (by decide +kernel)) (lc_as (es := (base_9.map fun (y_10 : Int) => (chS ("abcdefghijklmnopqrstuvwxyz" : Str) (y_10 % 26))).map PyData.str) (lc_K (own := [("_law_each", 10)]) base_9 (fun x => SV.val (PyData.int x)) (by exact (iv_mapC (iv_listV (ds := base_9.map PyData.int) (ev_name T rfl (Lk.there (Lk.there (Lk.there (Lk.there (Lk.there (Lk.there (Lk.there (Lk.there Lk.here)))))))) rfl)))) (fun y_10 => (.str (chS ("abcdefghijklmnopqrstuvwxyz" : Str) (y_10 % 26)))) (fun y_10 => [some (.val (.int cell_0)), some (.val (.int many_0)), some (.val (.str ("abcdefghijklmnopqrstuvwxyz" : Str))), some (.val (.list [(.str ("row" : Str)), (.str ("is" : Str)), (.str ("at" : Str)), (.str ("set" : Str)), (.str ("put" : Str)), (.str ("know" : Str)), (.str ("lose" : Str)), (.str ("start" : Str)), (.str ("entry" : Str)), (.str ("own" : Str)), (.str ("nought" : Str)), (.str ("pick" : Str)), (.str ("least" : Str)), (.str ("lost" : Str))])), some (.val (.int (x_6 : Int))), some (.val (.int size_2)), some (.val (.int spot_4)), some (.cell 0), some (.val (.list (base_9.map PyData.int))), none, some (.val (.int y_10))]) (fun _ => [(.lst ((c_5.map PyData.str).map SV.val))]) (by wtm_at "g.sd") (by first | exact trivial | rfl) (fun y_10 hm12 st H0 C0 cl fp => gw_name T.nd rfl (Put.there (Put.there (Put.there (Put.there (Put.there (Put.there (Put.there (Put.there (Put.there (Put.there Put.here)))))))))) (by decide) ⟨rfl, rfl⟩) (fun y_10 hm12 => ⟨fun st H0 C0 cl fp => (by

            exact (ev_ixS (ev_nameV T.nd rfl (Lk.there (Lk.there Lk.here))) (ev_mod (ev_nameV T.nd rfl (Lk.there (Lk.there (Lk.there (Lk.there (Lk.there (Lk.there (Lk.there (Lk.there (Lk.there (Lk.there Lk.here))))))))))) ev_int (by wtm_at "d.side")) (by wtm_at "g.ixs") (by wtm_at "g.str"))), AtC.same⟩)) (by rw [List.map_map]; rfl) rfl)) IsL.val (by wtm_at "g.join")) (by wtm_at "g.str")) rfl rfl PutC.here (by wtm_at "g.sd")) ?_)
        show SX _ _ _ _ _ _
        refine sx_nil ?_
        exact ⟨((c_5 ++ [((chS ("qz" : Str) ((cell_0 / 144) % 2)) ++ (Txt.join ("" : Str) (base_9.map fun (y_10 : Int) => (chS ("abcdefghijklmnopqrstuvwxyz" : Str) (y_10 % 26)))))])), h, (by wtm_at "g.inv"), (At.same (Le.same (Le.same (Le.same (Le.same (Le.lose (Le.same (Le.same (Le.same (Le.lose (Le.lose (Le.lose Le.nil))))))))))))⟩
      case dn10 =>
        clear h
        rintro c_5 hJ1 h slx hlx
        try dsimp only at h hJ1
        refine sx_weak hlx ?_
        show SX _ _ _ [some (.val (.int cell_0)), some (.val (.int many_0)), some (.val (.str ("abcdefghijklmnopqrstuvwxyz" : Str))), some (.val (.list [(.str ("row" : Str)), (.str ("is" : Str)), (.str ("at" : Str)), (.str ("set" : Str)), (.str ("put" : Str)), (.str ("know" : Str)), (.str ("lose" : Str)), (.str ("start" : Str)), (.str ("entry" : Str)), (.str ("own" : Str)), (.str ("nought" : Str)), (.str ("pick" : Str)), (.str ("least" : Str)), (.str ("lost" : Str))])), none, some (.val (.int size_2)), some (.val (.int spot_4)), some (.cell 0), none, none, none] [(.lst ((c_5.map PyData.str).map SV.val))] _
        refine sx_cons (s1_ret (ev_name T rfl (Lk.there (Lk.there (Lk.there (Lk.there (Lk.there (Lk.there (Lk.there Lk.here))))))) rfl) ?_)
        show RetOk _ _ _ _ _
        subst h
        exact ret_frz (c := []) (Nat.le_of_ble_eq_true rfl) rfl (by wtm_at "g.data") rfl rfl rfl (by wtm_at "d.lt")
end
/-! ### words may stand in any text -/
theorem okS_chS {z : Str} (h : PyData.strOk z = true) (i : Int) : PyData.strOk (chS z i) = true := by
  unfold chS
  cases e : L2.atI z.cps.toList i with
  | none => simp [PyData.strOk]
  | some c =>
    have hm : c ∈ z.cps.toList := by
      unfold L2.atI at e
      cases e2 : L2.ixN z.cps.toList.length i with
      | none => rw [e2] at e; cases e
      | some j =>
        rw [e2] at e
        exact List.mem_of_getElem? e
    have h2 := (Array.all_eq_true_iff_forall_mem.mp h) c (Array.mem_toList_iff.mp hm)
    show Array.all #[c] _ = true
    simpa using h2
theorem okS_app {a b : Str} (ha : PyData.strOk a = true) (hb : PyData.strOk b = true) : PyData.strOk (a ++ b) = true := by
  show (a.cps ++ b.cps).all _ = true
  rw [Array.all_append]
  exact Bool.and_eq_true_iff.mpr ⟨ha, hb⟩
theorem okS_join {z : Str} (hz : PyData.strOk z = true) : ∀ l : List Str, (∀ x ∈ l, PyData.strOk x = true) → PyData.strOk (Str.join z l) = true
  | [], _ => by simp [PyData.strOk, Str.join, Str.empty]
  | [x], h => h x List.mem_cons_self
  | x :: y :: r, h => okS_app (okS_app (h x List.mem_cons_self) hz) (okS_join hz (y :: r) fun q hq => h q (List.mem_cons_of_mem _ hq))
theorem abc_ok : PyData.strOk ("abcdefghijklmnopqrstuvwxyz" : Str) = true := by decide +kernel
theorem qz_ok : PyData.strOk ("qz" : Str) = true := by decide +kernel
theorem ixD_okS {xs : List Str} (h : ∀ x ∈ xs, PyData.strOk x = true) {i : Int} (h0 : 0 ≤ i) (h1 : i < xs.length) : PyData.strOk (ixD xs i) = true := h _ (ixD_mem h0 h1)
theorem words_ok (c m : Int) : (m_law_words c m).length = m.toNat ∧ ∀ x ∈ m_law_words c m, PyData.strOk x = true := by
  unfold m_law_words
  simp only [letF]
  split
  · refine ⟨by simp, fun x hx => ?_⟩
    obtain ⟨y, _, rfl⟩ := List.mem_map.mp hx
    refine ixD_okS (by decide +kernel) (Int.emod_nonneg _ (by decide)) (Int.emod_lt_of_pos _ (by decide))
  · split
    · refine ⟨by simp, fun x hx => ?_⟩
      obtain ⟨y, _, rfl⟩ := List.mem_map.mp hx
      exact okS_chS abc_ok _
    · refine forL_inv (Q := fun (r : List Str) => r.length = m.toNat ∧ ∀ x ∈ r, PyData.strOk x = true) (fun (l : List Nat) (s : List Str) => s.length + l.length = m.toNat ∧ ∀ x ∈ s, PyData.strOk x = true) (fun s h => ⟨by simpa using h.1, h.2⟩) _ _ (fun x _ xs s n h k => ?_) ⟨by simp, fun x hx => nomatch hx⟩
      refine k _ ⟨?_, fun y hy => ?_⟩
      · have := h.1
        rw [List.length_cons] at this
        rw [List.length_append]
        simp only [List.length_cons, List.length_nil]
        omega
      · rcases List.mem_append.mp hy with hy | hy
        · exact h.2 y hy
        · cases List.mem_singleton.mp hy
          refine okS_app (okS_chS qz_ok _) ?_
          rw [txt_join]
          refine okS_join (by decide +kernel) _ fun q hq => ?_
          obtain ⟨z, _, rfl⟩ := List.mem_map.mp hq
          exact okS_chS abc_ok _
theorem made_many (s : Int) : 0 ≤ ixD ([(s % 4), (4 + ((s / 4) % 37))] : (List Int)) (if (decide ((s % 16) = 5)) then 1 else 0 : Int) ∧ ixD ([(s % 4), (4 + ((s / 4) % 37))] : (List Int)) (if (decide ((s % 16) = 5)) then 1 else 0 : Int) ≤ 40 := by
  refine ixD_bd (fun x hx => ?_) (by split <;> decide) (by split <;> (show (_ : Int) < 2; decide))
  rcases List.mem_cons.mp hx with rfl | hx
  · omega
  · cases List.mem_singleton.mp hx
    omega
theorem words_len (c m : Int) : (m_law_words c m).length = m.toNat := (words_ok c m).1
def m_law_made (seed_0 : Int) (near_0 : Int) : (Int × (List (Int × Int)) × (List (Int × Int))) := letF (((near_0 * 1000003) % 100000000000000000) - 50000000000000000) fun last_1 => letF ((ixD ([near_0, (near_0 - 100000000000000000)] : (List Int)) ((seed_0 / 3) % 2)) - ((seed_0 / 6) % 4)) fun place_here_2 => forL (fun (x_7 : Nat) (s_8 : (Int × Int × Int × (List (Int × Int)))) n_1 => letF (m_law_mix s_8.1 (x_7 : Int)) fun r_9 => letF (ixD ([((s_8.2.1 + 1) + (r_9 % 3)), ((s_8.2.1 - 1) - (r_9 % 3))] : (List Int)) ((r_9 / 3) % 2)) fun value_10 => letF (((s_8.2.2.1 + 1) + ((r_9 / 6) % 3)) + (100000000000000000 * (if ((decide (((r_9 / 18) % 9) = 1)) && (decide ((x_7 : Int) < 4))) then 1 else 0 : Int))) fun place_here_11 => n_1 (r_9, value_10, place_here_11, (s_8.2.2.2 ++ [(s_8.2.2.1, value_10)]))) (fun s_8 : (Int × Int × Int × (List (Int × Int))) => (last_1, s_8.2.2.2, ([] : (List (Int × Int))))) (List.range ((ixD ([(seed_0 % 4), (4 + ((seed_0 / 4) % 37))] : (List Int)) (if (decide ((seed_0 % 16) = 5)) then 1 else 0 : Int)) : Int).toNat) (seed_0, last_1, place_here_2, ([] : (List (Int × Int))))
section
variable {P : Program} {w : World} {K : PySem.W.Frag} {mg : Str → Option Value} {base : Heap}
inductive Sp_law_made : Spec
  | mk {seed_0 : Int} {near_0 : Int} (hs : 0 ≤ seed_0 ∧ seed_0 < 4294967296) (hn : -100000000000000000 ≤ near_0 ∧ near_0 ≤ 100000000000000000) : Sp_law_made [.val (.int seed_0), .val (.int near_0)] [] (.val (.tuple [(.int (m_law_made seed_0 near_0).1), (.tuple ((m_law_made seed_0 near_0).2.1.map pD)), (.tuple ((m_law_made seed_0 near_0).2.2.map pD))])) []
theorem cal_law_made (D : DefAt K mg "_law_made" s__law_made P__law_made) (C_law_mix : Cal P w K mg base 1 "_law_mix" 2 Sp_law_mix) (z_int : mg "int" = none) (z_range : mg "range" = none) (z_tuple : mg "tuple" = none) : Cal P w K mg base 2 "_law_made" 2 Sp_law_made := by
  refine cal_def D sc__law_made tb__law_made (fun f cdv A outer s0 H E hr T TL svs cs sv cs1 hsp hl => ?_)
  cases hsp with
  | @mk seed_0 near_0 hs hn =>
  obtain ⟨R0, h⟩ : ∃ R0, (m_law_made seed_0 near_0) = R0 := ⟨_, rfl⟩
  rw [h]
  unfold m_law_made at h
  have hmk := made_many seed_0
  show SX _ _ _ [some (.val (.int seed_0)), some (.val (.int near_0)), none, none, none, none, none, none] [] _
  refine sx_cons (s1_set TL rfl (ev_lstC (ss := []) av_nil AppC.nil rfl) (Put.there (Put.there Put.here)) ?_ rfl)
  show SX _ _ _ _ _ _
  replace h := letF_elim h
  obtain ⟨last_1, elast_1, h⟩ := h
  refine sx_cons (s1_set TL rfl (ev_is (t := .val (.int last_1)) (ev_sub (ev_mod (ev_mul (ev_name T rfl (Lk.there Lk.here) rfl) ev_int (by wtm_at "d.mul")) (ev_is (t := .val (.int 100000000000000000)) (ev_pow ev_int ev_int ⟨by decide, by decide, by decide⟩) rfl) (by wtm_at "d.side")) (ev_is (t := .val (.int 50000000000000000)) (ev_mul ev_int (ev_is (t := .val (.int 10000000000000000)) (ev_pow ev_int ev_int ⟨by decide, by decide, by decide⟩) rfl) (by wtm_at "d.mul")) rfl)) (by subst elast_1; rfl)) (Put.there (Put.there (Put.there Put.here))) ?_ rfl)
  show SX _ _ _ _ _ _
  refine sx_cons (s1_set TL rfl (ev_name T rfl (Lk.there (Lk.there (Lk.there Lk.here))) rfl) (Put.there (Put.there (Put.there (Put.there Put.here)))) ?_ rfl)
  show SX _ _ _ _ _ _
  replace h := letF_elim h
  obtain ⟨place_here_2, eplace_here_2, h⟩ := h
  have at1 : L2.atI (([near_0, (near_0 - 100000000000000000)] : (List Int)).map PyData.int) ((seed_0 / 3) % 2) = some (PyData.int (ixD ([near_0, (near_0 - 100000000000000000)] : (List Int)) ((seed_0 / 3) % 2))) := at_ixD (f := PyData.int) (by wtm_at "g.sd") (by wtm_at "g.sd")
  refine sx_cons (s1_set TL rfl (ev_is (t := .val (.int place_here_2)) (ev_sub (ev_ixLv (ev_lstV (ad_cons (ev_name T rfl (Lk.there Lk.here) rfl) (ad_cons (ev_sub (ev_name T rfl (Lk.there Lk.here) rfl) (ev_is (t := .val (.int 100000000000000000)) (ev_pow ev_int ev_int ⟨by decide, by decide, by decide⟩) rfl)) ad_nil)) rfl) (ev_mod (ev_div (ev_name T rfl Lk.here rfl) ev_int (by wtm_at "d.div")) ev_int (by wtm_at "d.side")) at1) (ev_mod (ev_div (ev_name T rfl Lk.here rfl) ev_int (by wtm_at "d.div")) ev_int (by wtm_at "d.side"))) (by subst eplace_here_2; rfl)) (Put.there (Put.there (Put.there (Put.there (Put.there Put.here))))) ?_ rfl)
  show SX _ _ _ _ _ _
  have at2 : L2.atI (([(seed_0 % 4), (4 + ((seed_0 / 4) % 37))] : (List Int)).map PyData.int) (if (decide ((seed_0 % 16) = 5)) then 1 else 0 : Int) = some (PyData.int (ixD ([(seed_0 % 4), (4 + ((seed_0 / 4) % 37))] : (List Int)) (if (decide ((seed_0 % 16) = 5)) then 1 else 0 : Int))) := at_ixD (f := PyData.int) (by wtm_at "g.sd") (by wtm_at "g.sd")
  refine' sx_cons ?lp4
  refine' s1_forK (List.range ((ixD ([(seed_0 % 4), (4 + ((seed_0 / 4) % 37))] : (List Int)) (if (decide ((seed_0 % 16) = 5)) then 1 else 0 : Int)) : Int).toNat) (fun i : Nat => SV.val (.int (i : Int))) _ _ R0 (seed_0, last_1, place_here_2, ([] : (List (Int × Int)))) (fun l_1 (s_8 : (Int × Int × Int × (List (Int × Int)))) => (s_8.2.2.2.length + 1 * l_1.length ≤ (([] : (List (Int × Int)))).length + 1 * (List.range ((ixD ([(seed_0 % 4), (4 + ((seed_0 / 4) % 37))] : (List Int)) (if (decide ((seed_0 % 16) = 5)) then 1 else 0 : Int)) : Int).toNat).length) ∧ (0 ≤ s_8.1 ∧ s_8.1 < 4294967296)) h PassesOwn.never rfl (iv_range1 z_range rfl (ev_ixLv (ev_lstV (ad_cons (ev_mod (ev_name T rfl Lk.here rfl) ev_int (by wtm_at "d.side")) (ad_cons (ev_add ev_int (ev_mod (ev_div (ev_name T rfl Lk.here rfl) ev_int (by wtm_at "d.div")) ev_int (by wtm_at "d.side"))) ad_nil)) rfl) (ev_intB z_int rfl (ev_eqI (ev_mod (ev_name T rfl Lk.here rfl) ev_int (by wtm_at "d.side")) ev_int)) at2) (by wtm_at "g.sd") (by wtm_at "g.sd")) ?j04 (fun s_8 : (Int × Int × Int × (List (Int × Int))) => [some (.val (.int s_8.1)), some (.val (.int near_0)), some (.cell 0), some (.val (.int s_8.2.1)), some (.val (.int last_1)), some (.val (.int s_8.2.2.1)), none, none]) (fun s_8 : (Int × Int × Int × (List (Int × Int))) => [(.lst ((s_8.2.2.2.map pD).map SV.val))]) (Le.same (Le.same (Le.same (Le.same (Le.same (Le.same (Le.lose (Le.lose Le.nil)))))))) rfl (fun _ => trivial) ?tu4 ?dn4
  case j04 => wtm_at "g.inv"
  case tu4 =>
    clear h
    rintro x_7 l_1 ⟨seed_3, last_4, place_here_5, c_6⟩ n_1 hm3 hJ1 h
    have hm3p := hm3
    have hm3 := mem_mid hm3
    have hm3r := List.mem_range.mp hm3
    try dsimp only at h hJ1
    obtain ⟨hJ1_0, hJ1_1⟩ := hJ1
    refine gx_name TL rfl (Put.there (Put.there (Put.there (Put.there (Put.there (Put.there Put.here)))))) ?_ rfl
    show SX _ _ _ [some (.val (.int seed_3)), some (.val (.int near_0)), some (.cell 0), some (.val (.int last_4)), some (.val (.int last_1)), some (.val (.int place_here_5)), some (.val (.int (x_7 : Int))), none] [(.lst ((c_6.map pD).map SV.val))] _
    replace h := letF_elim h
    obtain ⟨r_9, er_9, h⟩ := h
    have p5 := mix_bd seed_3 (x_7 : Int)
    refine sx_cons (s1_set TL rfl (ev_as (t := .val (.int r_9)) (cs2 := [(.lst ((c_6.map pD).map SV.val))]) (ev_callM (κ := []) C_law_mix hr (by decide) rfl (av_cons (ev_name T rfl Lk.here rfl) (av_cons (ev_name T rfl (Lk.there (Lk.there (Lk.there (Lk.there (Lk.there (Lk.there Lk.here)))))) rfl) av_nil)) Sel.nil (RenA.val (RenA.val RenA.nil)) (Sp_law_mix.mk (seed_0 := seed_3) (k_0 := (x_7 : Int)) (by wtm_at "g.pre") (by wtm_at "g.pre")) SetA.nil (List.prefix_refl _) rfl (by decide) rfl) (by subst er_9; rfl) (by subst er_9; rfl)) Put.here ?_ rfl)
    show SX _ _ _ _ _ _
    replace h := letF_elim h
    obtain ⟨value_10, evalue_10, h⟩ := h
    have at6 : L2.atI (([((last_4 + 1) + (r_9 % 3)), ((last_4 - 1) - (r_9 % 3))] : (List Int)).map PyData.int) ((r_9 / 3) % 2) = some (PyData.int (ixD ([((last_4 + 1) + (r_9 % 3)), ((last_4 - 1) - (r_9 % 3))] : (List Int)) ((r_9 / 3) % 2))) := at_ixD (f := PyData.int) (by wtm_at "g.sd") (by wtm_at "g.sd")
    refine sx_cons (s1_set TL rfl (ev_is (t := .val (.int value_10)) (ev_ixLv (ev_lstV (ad_cons (ev_add (ev_add (ev_name T rfl (Lk.there (Lk.there (Lk.there Lk.here))) rfl) ev_int) (ev_mod (ev_name T rfl Lk.here rfl) ev_int (by wtm_at "d.side"))) (ad_cons (ev_sub (ev_sub (ev_name T rfl (Lk.there (Lk.there (Lk.there Lk.here))) rfl) ev_int) (ev_mod (ev_name T rfl Lk.here rfl) ev_int (by wtm_at "d.side"))) ad_nil)) rfl) (ev_mod (ev_div (ev_name T rfl Lk.here rfl) ev_int (by wtm_at "d.div")) ev_int (by wtm_at "d.side")) at6) (by subst evalue_10; rfl)) (Put.there (Put.there (Put.there (Put.there (Put.there (Put.there (Put.there Put.here))))))) ?_ rfl)
    show SX _ _ _ _ _ _
    refine sx_cons (s1_expr (ev_appT (f := pD) (l := c_6) (y := (place_here_5, value_10)) (ev_name T rfl (Lk.there (Lk.there Lk.here)) rfl) (ev_tup (ad_cons (ev_name T rfl (Lk.there (Lk.there (Lk.there (Lk.there (Lk.there Lk.here))))) rfl) (ad_cons (ev_name T rfl (Lk.there (Lk.there (Lk.there (Lk.there (Lk.there (Lk.there (Lk.there Lk.here))))))) rfl) ad_nil)) rfl) rfl rfl PutC.here (by wtm_at "g.sd")) ?_)
    show SX _ _ _ _ _ _
    refine sx_cons (s1_set TL rfl (ev_name T rfl (Lk.there (Lk.there (Lk.there (Lk.there (Lk.there (Lk.there (Lk.there Lk.here))))))) rfl) (Put.there (Put.there (Put.there Put.here))) ?_ rfl)
    show SX _ _ _ _ _ _
    replace h := letF_elim h
    obtain ⟨place_here_11, eplace_here_11, h⟩ := h
    refine sx_cons (s1_set TL rfl (ev_is (t := .val (.int place_here_11)) (ev_add (ev_add (ev_add (ev_name T rfl (Lk.there (Lk.there (Lk.there (Lk.there (Lk.there Lk.here))))) rfl) ev_int) (ev_mod (ev_div (ev_name T rfl Lk.here rfl) ev_int (by wtm_at "d.div")) ev_int (by wtm_at "d.side"))) (ev_mul (ev_is (t := .val (.int 100000000000000000)) (ev_pow ev_int ev_int ⟨by decide, by decide, by decide⟩) rfl) (ev_intB z_int rfl (ev_and (ev_eqI (ev_mod (ev_div (ev_name T rfl Lk.here rfl) ev_int (by wtm_at "d.div")) ev_int (by wtm_at "d.side")) ev_int) (fun hk7 => (by
      have hk7x := hk7
      try simp only [Bool.and_eq_true, Bool.or_eq_true, Bool.and_eq_false_iff, Bool.or_eq_false_iff, decide_eq_true_eq, decide_eq_false_iff_not, Bool.not_eq_true', Bool.not_eq_false', Bool.not_eq_eq_eq_not, Bool.not_true, Bool.not_false] at hk7x
      exact (ev_and1 (ev_lt (ev_name T rfl (Lk.there (Lk.there (Lk.there (Lk.there (Lk.there (Lk.there Lk.here)))))) rfl) ev_int)))))) (by wtm_at "d.mul"))) (by subst eplace_here_11; rfl)) (Put.there (Put.there (Put.there (Put.there (Put.there Put.here))))) ?_ rfl)
    show SX _ _ _ _ _ _
    refine sx_nil ?_
    exact ⟨(r_9, value_10, place_here_11, (c_6 ++ [(place_here_5, value_10)])), h, (by wtm_at "g.inv"), (At.same (Le.same (Le.same (Le.same (Le.same (Le.same (Le.same (Le.lose (Le.lose Le.nil)))))))))⟩
  case dn4 =>
    clear h
    rintro ⟨seed_3, last_4, place_here_5, c_6⟩ hJ1 h slx hlx
    try dsimp only at h hJ1
    refine sx_weak hlx ?_
    obtain ⟨hJ1_0, hJ1_1⟩ := hJ1
    show SX _ _ _ [some (.val (.int seed_3)), some (.val (.int near_0)), some (.cell 0), some (.val (.int last_4)), some (.val (.int last_1)), some (.val (.int place_here_5)), none, none] [(.lst ((c_6.map pD).map SV.val))] _
    refine sx_cons (s1_ret (ev_tup (ad_cons (ev_name T rfl (Lk.there (Lk.there (Lk.there (Lk.there Lk.here)))) rfl) (ad_cons (ev_tupleL (ds := c_6.map pD) z_tuple rfl (ev_name T rfl (Lk.there (Lk.there Lk.here)) rfl) (IsL.cell rfl)) (ad_cons (ev_tup ad_nil rfl) ad_nil))) rfl) ?_)
    show RetOk _ _ _ _ _
    subst h
    exact ret_val rfl rfl rfl (by wtm_at "d.lt")
end
/-! ### rows as the law keeps them: how long -/
abbrev Mad := Int × List (Int × Int) × List (Int × Int)
def MadesW (a b : Nat) (rows : List (Str × Mad)) : Prop := ∀ q ∈ rows, q.2.2.1.length ≤ a ∧ q.2.2.2.length ≤ b
theorem lkS_mem {α : Type} : ∀ {xs : List (Str × α)} {k : Str} {v : α}, lkS xs k = some v → (k, v) ∈ xs
  | (j, u) :: r, k, v, h => by
    have h : (if j = k then some u else lkS r k) = some v := h
    split at h
    · rename_i e
      cases h
      rw [e]
      exact List.mem_cons_self
    · exact List.mem_cons_of_mem _ (lkS_mem h)
theorem putSt_mem {α : Type} {k : Str} {v : α} : ∀ {ps : List (Str × α)} {q : Str × α}, q ∈ putSt ps k v → q.2 = v ∨ q ∈ ps
  | [], q, h => by
    have h : q ∈ [(k, v)] := h
    rw [List.mem_singleton] at h
    exact .inl (by rw [h])
  | (j, u) :: r, q, h => by
    have h : q ∈ (if j = k then (j, v) :: r else (j, u) :: putSt r k v) := h
    split at h
    · rcases List.mem_cons.mp h with rfl | h
      · exact .inl rfl
      · exact .inr (List.mem_cons_of_mem _ h)
    · rcases List.mem_cons.mp h with rfl | h
      · exact .inr List.mem_cons_self
      · exact (putSt_mem h).imp id (List.mem_cons_of_mem _)
theorem lkS_some {α : Type} : ∀ {ps : List (Str × α)} {k : Str}, k ∈ ps.map (·.1) → (lkS ps k).isSome = true
  | (j, u) :: r, k, h => by
    show (if j = k then some u else lkS r k).isSome = true
    split
    · rfl
    · rename_i e
      exact lkS_some ((List.mem_cons.mp h).elim (fun z => (e z.symm).elim) id)
theorem MadesW.get {a b : Nat} {rows : List (Str × Mad)} (h : MadesW a b rows) (k : Str) : ((lkS rows k).getD (0, ([] : List (Int × Int)), ([] : List (Int × Int)))).2.1.length ≤ a ∧ ((lkS rows k).getD (0, ([] : List (Int × Int)), ([] : List (Int × Int)))).2.2.length ≤ b := by
  cases e : lkS rows k with
  | none => exact ⟨Nat.zero_le _, Nat.zero_le _⟩
  | some v => exact h _ (lkS_mem e)
theorem MadesW.at {a b : Nat} {rows : List (Str × Mad)} (h : MadesW a b rows) (k : Str) : ((lkS rows k).getD default).2.1.length ≤ a ∧ ((lkS rows k).getD default).2.2.length ≤ b := by
  cases e : lkS rows k with
  | none => exact ⟨Nat.zero_le _, Nat.zero_le _⟩
  | some v => exact h _ (lkS_mem e)
theorem MadesW.put {a b : Nat} {rows : List (Str × Mad)} (h : MadesW a b rows) {k : Str} {v : Mad} (hv : v.2.1.length ≤ a ∧ v.2.2.length ≤ b) : MadesW a b (putSt rows k v) := fun q hq => by
  rcases putSt_mem hq with e | e
  · rw [e]
    exact hv
  · exact h q e
theorem MadesW.mono {a b c d : Nat} {rows : List (Str × Mad)} (h : MadesW a b rows) (h1 : a ≤ c) (h2 : b ≤ d) : MadesW c d rows := fun q hq => ⟨Nat.le_trans (h q hq).1 h1, Nat.le_trans (h q hq).2 h2⟩
theorem MadesW.nil {a b : Nat} : MadesW a b [] := fun _ h => nomatch h
theorem made_len (s n : Int) : (m_law_made s n).2.1.length ≤ 40 ∧ (m_law_made s n).2.2.length ≤ 0 := by
  have hm := made_many s
  unfold m_law_made
  simp only [letF]
  refine forL_inv (Q := fun (r : Mad) => r.2.1.length ≤ 40 ∧ r.2.2.length ≤ 0) (fun (l : List Nat) (t : Int × Int × Int × List (Int × Int)) => t.2.2.2.length + l.length ≤ 40) (fun t h => ⟨by simpa using h, Nat.le_refl _⟩) _ _ (fun x _ xs t n h k => k _ ?_) (by simp only [List.length_nil, List.length_range]; omega)
  dsimp only
  rw [List.length_cons] at h
  rw [List.length_append, List.length_singleton]
  omega
def m_law_holds (row_0 : (Int × (List (Int × Int)) × (List (Int × Int)))) (place_here_0 : Int) : Int := forL (fun (x_2 : (Int × Int)) (s_3 : (Int)) n_1 => if (decide (x_2.1 ≤ place_here_0)) then n_1 (x_2.2) else n_1 (s_3)) (fun s_3 : (Int) => forL (fun (x_5 : (Int × Int)) (s_6 : (Int)) n_2 => if (decide (x_5.1 = place_here_0)) then n_2 (x_5.2) else n_2 (s_6)) (fun s_6 : (Int) => s_6) row_0.2.2 (s_3)) row_0.2.1 (row_0.1)
section
variable {P : Program} {w : World} {K : PySem.W.Frag} {mg : Str → Option Value} {base : Heap}
inductive Sp_law_holds : Spec
  | mk {row_0 : (Int × (List (Int × Int)) × (List (Int × Int)))} {place_here_0 : Int}  : Sp_law_holds [.val (.tuple [(.int row_0.1), (.tuple (row_0.2.1.map pD)), (.tuple (row_0.2.2.map pD))]), .val (.int place_here_0)] [] (.val (.int (m_law_holds row_0 place_here_0))) []
theorem cal_law_holds (D : DefAt K mg "_law_holds" s__law_holds P__law_holds) : Cal P w K mg base 1 "_law_holds" 2 Sp_law_holds := by
  refine cal_def D sc__law_holds tb__law_holds (fun f cdv A outer s0 H E hr T TL svs cs sv cs1 hsp hl => ?_)
  cases hsp with
  | @mk row_0 place_here_0  =>
  obtain ⟨R0, h⟩ : ∃ R0, (m_law_holds row_0 place_here_0) = R0 := ⟨_, rfl⟩
  rw [h]
  unfold m_law_holds at h
  show SX _ _ _ [some (.val (.tuple [(.int row_0.1), (.tuple (row_0.2.1.map pD)), (.tuple (row_0.2.2.map pD))])), some (.val (.int place_here_0)), none, none, none] [] _
  refine sx_cons (s1_set TL rfl (ev_ixT (ev_name T rfl Lk.here rfl) ev_int rfl) (Put.there (Put.there Put.here)) ?_ rfl)
  show SX _ _ _ _ _ _
  refine' sx_cons ?lp2
  refine' s1_forK row_0.2.1 (fun x => SV.val (pD x)) _ _ R0 (row_0.1) (fun l_1 (s_3 : (Int)) => True) h PassesOwn.never rfl (iv_mapC (iv_tup (ds := row_0.2.1.map pD) (ev_ixT (ev_name T rfl Lk.here rfl) ev_int rfl))) ?j02 (fun s_3 : (Int) => [some (.val (.tuple [(.int row_0.1), (.tuple (row_0.2.1.map pD)), (.tuple (row_0.2.2.map pD))])), some (.val (.int place_here_0)), some (.val (.int s_3)), none, none]) (fun s_3 : (Int) => []) (Le.same (Le.same (Le.same (Le.lose (Le.lose Le.nil))))) rfl (fun _ => trivial) ?tu2 ?dn2
  case j02 => trivial
  case tu2 =>
    clear h
    rintro x_2 l_1 value_1 n_1 hm1 hJ1 h
    have hm1p := hm1
    have hm1 := mem_mid hm1
    try dsimp only at h hJ1
    refine gx_tup rfl (gxs_cons (gx_name TL rfl (Put.there (Put.there (Put.there Put.here))) (gxs_cons (gx_name TL rfl (Put.there (Put.there (Put.there (Put.there Put.here)))) (gxs_nil ?_) rfl)) rfl)) rfl
    show SX _ _ _ [some (.val (.tuple [(.int row_0.1), (.tuple (row_0.2.1.map pD)), (.tuple (row_0.2.2.map pD))])), some (.val (.int place_here_0)), some (.val (.int value_1)), some (.val (.int x_2.1)), some (.val (.int x_2.2))] [] _
    refine' sx_cons (s1_if (tv_le (ev_name T rfl (Lk.there (Lk.there (Lk.there Lk.here))) rfl) (ev_name T rfl (Lk.there Lk.here) rfl)) ?y4 ?n4)
    case y4 =>
      intro hb3
      have hb3x := hb3
      try simp only [Bool.and_eq_true, Bool.or_eq_true, Bool.and_eq_false_iff, Bool.or_eq_false_iff, decide_eq_true_eq, decide_eq_false_iff_not, Bool.not_eq_true', Bool.not_eq_false', Bool.not_eq_eq_eq_not, Bool.not_true, Bool.not_false] at hb3x
      rw [if_pos hb3] at h
      refine sx_cons (s1_set TL rfl (ev_name T rfl (Lk.there (Lk.there (Lk.there (Lk.there Lk.here)))) rfl) (Put.there (Put.there Put.here)) ?_ rfl)
      show SX _ _ _ _ _ _
      refine sx_nil ?_
      show SX _ _ _ _ _ _
      refine sx_nil ?_
      exact ⟨(x_2.2), h, trivial, (At.same (Le.same (Le.same (Le.same (Le.lose (Le.lose Le.nil))))))⟩
    case n4 =>
      intro hb3
      have hb3x := hb3
      try simp only [Bool.and_eq_true, Bool.or_eq_true, Bool.and_eq_false_iff, Bool.or_eq_false_iff, decide_eq_true_eq, decide_eq_false_iff_not, Bool.not_eq_true', Bool.not_eq_false', Bool.not_eq_eq_eq_not, Bool.not_true, Bool.not_false] at hb3x
      rw [if_neg (by rw [hb3]; decide)] at h
      refine sx_nil ?_
      show SX _ _ _ _ _ _
      refine sx_nil ?_
      exact ⟨(value_1), h, trivial, (At.same (Le.same (Le.same (Le.same (Le.lose (Le.lose Le.nil))))))⟩
  case dn2 =>
    clear h
    rintro value_1 hJ1 h slx hlx
    try dsimp only at h hJ1
    refine sx_weak hlx ?_
    show SX _ _ _ [some (.val (.tuple [(.int row_0.1), (.tuple (row_0.2.1.map pD)), (.tuple (row_0.2.2.map pD))])), some (.val (.int place_here_0)), some (.val (.int value_1)), none, none] [] _
    refine' sx_cons ?lp6
    refine' s1_forK row_0.2.2 (fun x => SV.val (pD x)) _ _ R0 (value_1) (fun l_2 (s_6 : (Int)) => True) h PassesOwn.never rfl (iv_mapC (iv_tup (ds := row_0.2.2.map pD) (ev_ixT (ev_name T rfl Lk.here rfl) ev_int rfl))) ?j06 (fun s_6 : (Int) => [some (.val (.tuple [(.int row_0.1), (.tuple (row_0.2.1.map pD)), (.tuple (row_0.2.2.map pD))])), some (.val (.int place_here_0)), some (.val (.int s_6)), none, none]) (fun s_6 : (Int) => []) (Le.same (Le.same (Le.same (Le.lose (Le.lose Le.nil))))) rfl (fun _ => trivial) ?tu6 ?dn6
    case j06 => trivial
    case tu6 =>
      clear h
      rintro x_5 l_2 value_4 n_2 hm5 hJ2 h
      have hm5p := hm5
      have hm5 := mem_mid hm5
      try dsimp only at h hJ2
      refine gx_tup rfl (gxs_cons (gx_name TL rfl (Put.there (Put.there (Put.there Put.here))) (gxs_cons (gx_name TL rfl (Put.there (Put.there (Put.there (Put.there Put.here)))) (gxs_nil ?_) rfl)) rfl)) rfl
      show SX _ _ _ [some (.val (.tuple [(.int row_0.1), (.tuple (row_0.2.1.map pD)), (.tuple (row_0.2.2.map pD))])), some (.val (.int place_here_0)), some (.val (.int value_4)), some (.val (.int x_5.1)), some (.val (.int x_5.2))] [] _
      refine' sx_cons (s1_if (tv_eqI (ev_name T rfl (Lk.there (Lk.there (Lk.there Lk.here))) rfl) (ev_name T rfl (Lk.there Lk.here) rfl)) ?y8 ?n8)
      case y8 =>
        intro hb7
        have hb7x := hb7
        try simp only [Bool.and_eq_true, Bool.or_eq_true, Bool.and_eq_false_iff, Bool.or_eq_false_iff, decide_eq_true_eq, decide_eq_false_iff_not, Bool.not_eq_true', Bool.not_eq_false', Bool.not_eq_eq_eq_not, Bool.not_true, Bool.not_false] at hb7x
        rw [if_pos hb7] at h
        refine sx_cons (s1_set TL rfl (ev_name T rfl (Lk.there (Lk.there (Lk.there (Lk.there Lk.here)))) rfl) (Put.there (Put.there Put.here)) ?_ rfl)
        show SX _ _ _ _ _ _
        refine sx_nil ?_
        show SX _ _ _ _ _ _
        refine sx_nil ?_
        exact ⟨(x_5.2), h, trivial, (At.same (Le.same (Le.same (Le.same (Le.lose (Le.lose Le.nil))))))⟩
      case n8 =>
        intro hb7
        have hb7x := hb7
        try simp only [Bool.and_eq_true, Bool.or_eq_true, Bool.and_eq_false_iff, Bool.or_eq_false_iff, decide_eq_true_eq, decide_eq_false_iff_not, Bool.not_eq_true', Bool.not_eq_false', Bool.not_eq_eq_eq_not, Bool.not_true, Bool.not_false] at hb7x
        rw [if_neg (by rw [hb7]; decide)] at h
        refine sx_nil ?_
        show SX _ _ _ _ _ _
        refine sx_nil ?_
        exact ⟨(value_4), h, trivial, (At.same (Le.same (Le.same (Le.same (Le.lose (Le.lose Le.nil))))))⟩
    case dn6 =>
      clear h
      rintro value_4 hJ2 h slx hlx
      try dsimp only at h hJ2
      refine sx_weak hlx ?_
      show SX _ _ _ [some (.val (.tuple [(.int row_0.1), (.tuple (row_0.2.1.map pD)), (.tuple (row_0.2.2.map pD))])), some (.val (.int place_here_0)), some (.val (.int value_4)), none, none] [] _
      refine sx_cons (s1_ret (ev_name T rfl (Lk.there (Lk.there Lk.here)) rfl) ?_)
      show RetOk _ _ _ _ _
      subst h
      exact ret_val rfl rfl rfl (by wtm_at "d.lt")
end
def m_law_stairs (row_0 : (Int × (List (Int × Int)) × (List (Int × Int)))) : (Int × (List (Int × Int))) := letF (row_0.2.1.map fun (y_1 : (Int × Int)) => y_1.1) fun places_2 => forL (fun (x_4 : (Int × Int)) (s_5 : ((List Int))) n_1 => n_1 ((s_5 ++ ([x_4.1, (x_4.1 + 1)] : (List Int))))) (fun s_5 : ((List Int)) => forL (fun (x_9 : Int) (s_10 : (Int × (List (Int × Int)))) n_2 => letF (m_law_holds row_0 x_9) fun r_11 => if (!decide (r_11 = s_10.1)) then n_2 (r_11, (s_10.2 ++ [(x_9, r_11)])) else n_2 (s_10.1, s_10.2)) (fun s_10 : (Int × (List (Int × Int))) => (row_0.1, s_10.2)) (sortU s_5) (row_0.1, ([] : (List (Int × Int))))) row_0.2.2 (places_2)
section
variable {P : Program} {w : World} {K : PySem.W.Frag} {mg : Str → Option Value} {base : Heap}
inductive Sp_law_stairs : Spec
  | mk {row_0 : (Int × (List (Int × Int)) × (List (Int × Int)))} (hq : row_0.2.1.length ≤ 100 ∧ row_0.2.2.length ≤ 100) : Sp_law_stairs [.val (.tuple [(.int row_0.1), (.tuple (row_0.2.1.map pD)), (.tuple (row_0.2.2.map pD))])] [] (.val (.tuple [(.int (m_law_stairs row_0).1), (.tuple ((m_law_stairs row_0).2.map pD))])) []
theorem cal_law_stairs (D : DefAt K mg "_law_stairs" s__law_stairs P__law_stairs) (C_law_holds : Cal P w K mg base 1 "_law_holds" 2 Sp_law_holds) (z_set : mg "set" = none) (z_sorted : mg "sorted" = none) (z_tuple : mg "tuple" = none) : Cal P w K mg base 2 "_law_stairs" 1 Sp_law_stairs := by
  refine cal_def D sc__law_stairs tb__law_stairs (fun f cdv A outer s0 H E hr T TL svs cs sv cs1 hsp hl => ?_)
  cases hsp with
  | @mk row_0 hq =>
  obtain ⟨R0, h⟩ : ∃ R0, (m_law_stairs row_0) = R0 := ⟨_, rfl⟩
  rw [h]
  unfold m_law_stairs at h
  show SX _ _ _ [some (.val (.tuple [(.int row_0.1), (.tuple (row_0.2.1.map pD)), (.tuple (row_0.2.2.map pD))])), none, none, none, none, none, none, none] [] _
  replace h := letF_elim h
  obtain ⟨places_2, eplaces_2, h⟩ := h
  refine sx_cons (s1_setLcC TL rfl rfl (blkOk_by (N := N__law_stairs) (sc := defScope s__law_stairs) (by decide +kernel)) (lc_as (es := places_2.map PyData.int) (lc_as (es := (row_0.2.1.map fun (y_1 : (Int × Int)) => y_1.1).map PyData.int) (lc_K (own := [("_law_at", 1), ("_law_number_here", 2)]) row_0.2.1 (fun x => SV.val (pD x)) (by exact (iv_mapC (iv_tup (ds := row_0.2.1.map pD) (ev_ixT (ev_name T rfl Lk.here rfl) ev_int rfl)))) (fun y_1 => (.int y_1.1)) (fun y_1 => [some (.val (.tuple [(.int row_0.1), (.tuple (row_0.2.1.map pD)), (.tuple (row_0.2.2.map pD))])), some (.val (.int y_1.1)), some (.val (.int y_1.2)), none, none, none, none, none]) (fun _ => []) (by wtm_at "g.sd") (by first | exact trivial | rfl) (fun y_1 hm1 st H0 C0 cl fp => gw_tup rfl (gws_cons (gw_name T.nd rfl (Put.there Put.here) (by decide) (gws_cons (gw_name T.nd rfl (Put.there (Put.there Put.here)) (by decide) (gws_nil ⟨rfl, rfl⟩))))) rfl) (fun y_1 hm1 => ⟨fun st H0 C0 cl fp => (by

      exact (ev_nameV T.nd rfl (Lk.there Lk.here))), AtC.same⟩)) (by rw [List.map_map]; rfl) rfl) (by subst eplaces_2; rfl) rfl) AppC.nil (Put.there (Put.there (Put.there Put.here))) ?_ rfl)
  show SX _ _ _ _ _ _
  refine' sx_cons ?lp3
  refine' s1_forK row_0.2.2 (fun x => SV.val (pD x)) _ _ R0 (places_2) (fun l_1 (s_5 : ((List Int))) => (s_5.length + 2 * l_1.length ≤ (places_2).length + 2 * row_0.2.2.length)) h PassesOwn.never rfl (iv_mapC (iv_tup (ds := row_0.2.2.map pD) (ev_ixT (ev_name T rfl Lk.here rfl) ev_int rfl))) ?j03 (fun s_5 : ((List Int)) => [some (.val (.tuple [(.int row_0.1), (.tuple (row_0.2.1.map pD)), (.tuple (row_0.2.2.map pD))])), none, none, some (.cell 0), none, none, none, none]) (fun s_5 : ((List Int)) => [(.lst ((s_5.map PyData.int).map SV.val))]) (Le.same (Le.lose (Le.lose (Le.same (Le.lose (Le.lose (Le.lose (Le.lose Le.nil)))))))) rfl (fun _ => trivial) ?tu3 ?dn3
  case j03 => wtm_at "g.inv"
  case tu3 =>
    clear h
    rintro x_4 l_1 c_3 n_1 hm2 hJ1 h
    have hm2p := hm2
    have hm2 := mem_mid hm2
    try dsimp only at h hJ1
    refine gx_tup rfl (gxs_cons (gx_name TL rfl (Put.there Put.here) (gxs_cons (gx_name TL rfl (Put.there (Put.there Put.here)) (gxs_nil ?_) rfl)) rfl)) rfl
    show SX _ _ _ [some (.val (.tuple [(.int row_0.1), (.tuple (row_0.2.1.map pD)), (.tuple (row_0.2.2.map pD))])), some (.val (.int x_4.1)), some (.val (.int x_4.2)), some (.cell 0), none, none, none, none] [(.lst ((c_3.map PyData.int).map SV.val))] _
    refine sx_cons (s1_expr (ev_extT (f := PyData.int) (l := c_3) (m := ([x_4.1, (x_4.1 + 1)] : (List Int))) (ev_name T rfl (Lk.there (Lk.there (Lk.there Lk.here))) rfl) (ev_lstC (ss := [.val (PyData.int x_4.1), .val (PyData.int (x_4.1 + 1))]) (av_cons (ev_name T rfl (Lk.there Lk.here) rfl) (av_cons (ev_add (ev_name T rfl (Lk.there Lk.here) rfl) ev_int) av_nil)) (AppC.cons AppC.nil) rfl) rfl rfl rfl PutC.here (by wtm_at "g.sd")) ?_)
    show SX _ _ _ _ _ _
    refine sx_nil ?_
    exact ⟨((c_3 ++ ([x_4.1, (x_4.1 + 1)] : (List Int)))), h, (by wtm_at "g.inv"), (At.drop (Le.same (Le.lose (Le.lose (Le.same (Le.lose (Le.lose (Le.lose (Le.lose Le.nil)))))))) (by wtm_at "g.okS") (by wtm_at "d.lt") rfl)⟩
  case dn3 =>
    clear h
    rintro c_3 hJ1 h slx hlx
    try dsimp only at h hJ1
    refine sx_weak hlx ?_
    show SX _ _ _ [some (.val (.tuple [(.int row_0.1), (.tuple (row_0.2.1.map pD)), (.tuple (row_0.2.2.map pD))])), none, none, some (.cell 0), none, none, none, none] [(.lst ((c_3.map PyData.int).map SV.val))] _
    refine sx_cons (s1_set TL rfl (ev_ixT (ev_name T rfl Lk.here rfl) ev_int rfl) (Put.there (Put.there (Put.there (Put.there Put.here)))) ?_ rfl)
    show SX _ _ _ _ _ _
    refine sx_cons (s1_set TL rfl (ev_lstC (ss := []) av_nil (AppC.cons AppC.nil) rfl) (Put.there (Put.there (Put.there (Put.there (Put.there Put.here))))) ?_ rfl)
    show SX _ _ _ _ _ _
    have su4 := sortU_len c_3
    refine' sx_cons ?lp6
    refine' s1_forK (sortU c_3) (fun x => SV.val (PyData.int x)) _ _ R0 (row_0.1, ([] : (List (Int × Int)))) (fun l_2 (s_10 : (Int × (List (Int × Int)))) => (s_10.2.length + 1 * l_2.length ≤ (([] : (List (Int × Int)))).length + 1 * (sortU c_3).length)) h PassesOwn.never rfl (iv_mapC (iv_listV (ds := (sortU c_3).map PyData.int) (ev_sortedSet (ns := c_3) z_sorted z_set (ev_name T rfl (Lk.there (Lk.there (Lk.there Lk.here))) rfl) (IsL.cell rfl) (by wtm_at "g.sd")))) ?j06 (fun s_10 : (Int × (List (Int × Int))) => [some (.val (.tuple [(.int row_0.1), (.tuple (row_0.2.1.map pD)), (.tuple (row_0.2.2.map pD))])), none, none, some (.cell 0), some (.val (.int s_10.1)), some (.cell 1), none, none]) (fun s_10 : (Int × (List (Int × Int))) => [(.lst ((c_3.map PyData.int).map SV.val)), (.lst ((s_10.2.map pD).map SV.val))]) (Le.same (Le.lose (Le.lose (Le.same (Le.same (Le.same (Le.lose (Le.lose Le.nil)))))))) rfl (fun _ => trivial) ?tu6 ?dn6
    case j06 => wtm_at "g.inv"
    case tu6 =>
      clear h
      rintro x_9 l_2 ⟨last_6, c_8⟩ n_2 hm5 hJ2 h
      have hm5p := hm5
      have hm5 := mem_mid hm5
      try dsimp only at h hJ2
      refine gx_name TL rfl (Put.there (Put.there (Put.there (Put.there (Put.there (Put.there Put.here)))))) ?_ rfl
      show SX _ _ _ [some (.val (.tuple [(.int row_0.1), (.tuple (row_0.2.1.map pD)), (.tuple (row_0.2.2.map pD))])), none, none, some (.cell 0), some (.val (.int last_6)), some (.cell 1), some (.val (.int x_9)), none] [(.lst ((c_3.map PyData.int).map SV.val)), (.lst ((c_8.map pD).map SV.val))] _
      replace h := letF_elim h
      obtain ⟨r_11, er_11, h⟩ := h
      refine sx_cons (s1_set TL rfl (ev_as (t := .val (.int r_11)) (cs2 := [(.lst ((c_3.map PyData.int).map SV.val)), (.lst ((c_8.map pD).map SV.val))]) (ev_callM (κ := []) C_law_holds hr (by decide) rfl (av_cons (ev_name T rfl Lk.here rfl) (av_cons (ev_name T rfl (Lk.there (Lk.there (Lk.there (Lk.there (Lk.there (Lk.there Lk.here)))))) rfl) av_nil)) Sel.nil (RenA.val (RenA.val RenA.nil)) (Sp_law_holds.mk (row_0 := row_0) (place_here_0 := x_9) ) SetA.nil (List.prefix_refl _) rfl (by decide) rfl) (by subst er_11; rfl) (by subst er_11; rfl)) (Put.there (Put.there (Put.there (Put.there (Put.there (Put.there (Put.there Put.here))))))) ?_ rfl)
      show SX _ _ _ _ _ _
      refine' sx_cons (s1_if (tv_neI (ev_name T rfl (Lk.there (Lk.there (Lk.there (Lk.there (Lk.there (Lk.there (Lk.there Lk.here))))))) rfl) (ev_name T rfl (Lk.there (Lk.there (Lk.there (Lk.there Lk.here)))) rfl)) ?y8 ?n8)
      case y8 =>
        intro hb7
        have hb7x := hb7
        try simp only [Bool.and_eq_true, Bool.or_eq_true, Bool.and_eq_false_iff, Bool.or_eq_false_iff, decide_eq_true_eq, decide_eq_false_iff_not, Bool.not_eq_true', Bool.not_eq_false', Bool.not_eq_eq_eq_not, Bool.not_true, Bool.not_false] at hb7x
        rw [if_pos hb7] at h
        refine sx_cons (s1_expr (ev_appT (f := pD) (l := c_8) (y := (x_9, r_11)) (ev_name T rfl (Lk.there (Lk.there (Lk.there (Lk.there (Lk.there Lk.here))))) rfl) (ev_tup (ad_cons (ev_name T rfl (Lk.there (Lk.there (Lk.there (Lk.there (Lk.there (Lk.there Lk.here)))))) rfl) (ad_cons (ev_name T rfl (Lk.there (Lk.there (Lk.there (Lk.there (Lk.there (Lk.there (Lk.there Lk.here))))))) rfl) ad_nil)) rfl) rfl rfl (PutC.there PutC.here) (by wtm_at "g.sd")) ?_)
        show SX _ _ _ _ _ _
        refine sx_cons (s1_set TL rfl (ev_name T rfl (Lk.there (Lk.there (Lk.there (Lk.there (Lk.there (Lk.there (Lk.there Lk.here))))))) rfl) (Put.there (Put.there (Put.there (Put.there Put.here)))) ?_ rfl)
        show SX _ _ _ _ _ _
        refine sx_nil ?_
        show SX _ _ _ _ _ _
        refine sx_nil ?_
        exact ⟨(r_11, (c_8 ++ [(x_9, r_11)])), h, (by wtm_at "g.inv"), (At.same (Le.same (Le.lose (Le.lose (Le.same (Le.same (Le.same (Le.lose (Le.lose Le.nil)))))))))⟩
      case n8 =>
        intro hb7
        have hb7x := hb7
        try simp only [Bool.and_eq_true, Bool.or_eq_true, Bool.and_eq_false_iff, Bool.or_eq_false_iff, decide_eq_true_eq, decide_eq_false_iff_not, Bool.not_eq_true', Bool.not_eq_false', Bool.not_eq_eq_eq_not, Bool.not_true, Bool.not_false] at hb7x
        rw [if_neg (by rw [hb7]; decide)] at h
        refine sx_nil ?_
        show SX _ _ _ _ _ _
        refine sx_nil ?_
        exact ⟨(last_6, c_8), h, (by wtm_at "g.inv"), (At.same (Le.same (Le.lose (Le.lose (Le.same (Le.same (Le.same (Le.lose (Le.lose Le.nil)))))))))⟩
    case dn6 =>
      clear h
      rintro ⟨last_6, c_8⟩ hJ2 h slx hlx
      try dsimp only at h hJ2
      refine sx_weak hlx ?_
      show SX _ _ _ [some (.val (.tuple [(.int row_0.1), (.tuple (row_0.2.1.map pD)), (.tuple (row_0.2.2.map pD))])), none, none, some (.cell 0), some (.val (.int last_6)), some (.cell 1), none, none] [(.lst ((c_3.map PyData.int).map SV.val)), (.lst ((c_8.map pD).map SV.val))] _
      refine sx_cons (s1_ret (ev_tup (ad_cons (ev_ixT (ev_name T rfl Lk.here rfl) ev_int rfl) (ad_cons (ev_tupleL (ds := c_8.map pD) z_tuple rfl (ev_name T rfl (Lk.there (Lk.there (Lk.there (Lk.there (Lk.there Lk.here))))) rfl) (IsL.cell rfl)) ad_nil)) rfl) ?_)
      show RetOk _ _ _ _ _
      subst h
      exact ret_val rfl rfl rfl (by wtm_at "d.lt")
end
def m_law_place (seed_0 : Int) (w_0 : (List Str)) (near_0 : Int) : (Str × Int) := letF (ixD ([("" : Str), (ixD w_0 0), (ixD w_0 1), (ixD w_0 2)] : (List Str)) (seed_0 % 4)) fun x_1 => (x_1, ((((seed_0 / 4) % 5) - 2) + (near_0 * (if (decide (x_1 = ("" : Str))) then 1 else 0 : Int))))
section
variable {P : Program} {w : World} {K : PySem.W.Frag} {mg : Str → Option Value} {base : Heap}
inductive Sp_law_place : Spec
  | mk {seed_0 : Int} {w_0 : (List Str)} {near_0 : Int} (hw : w_0.length = 8) (hn : -100000000000000000 ≤ near_0 ∧ near_0 ≤ 100000000000000000) : Sp_law_place [.val (.int seed_0), .val (.list (w_0.map PyData.str)), .val (.int near_0)] [] (.val (.tuple [(.str (m_law_place seed_0 w_0 near_0).1), (.int (m_law_place seed_0 w_0 near_0).2)])) []
theorem cal_law_place (D : DefAt K mg "_law_place" s__law_place P__law_place) (z_int : mg "int" = none) : Cal P w K mg base 1 "_law_place" 3 Sp_law_place := by
  refine cal_def D sc__law_place tb__law_place (fun f cdv A outer s0 H E hr T TL svs cs sv cs1 hsp hl => ?_)
  cases hsp with
  | @mk seed_0 w_0 near_0 hw hn =>
  obtain ⟨R0, h⟩ : ∃ R0, (m_law_place seed_0 w_0 near_0) = R0 := ⟨_, rfl⟩
  rw [h]
  unfold m_law_place at h
  show SX _ _ _ [some (.val (.int seed_0)), some (.val (.list (w_0.map PyData.str))), some (.val (.int near_0)), none] [] _
  replace h := letF_elim h
  obtain ⟨x_1, ex_1, h⟩ := h
  have at1 : L2.atI (w_0.map PyData.str) 0 = some (PyData.str (ixD w_0 0)) := at_ixD (f := PyData.str) (by wtm_at "g.sd") (by wtm_at "g.sd")
  have at2 : L2.atI (w_0.map PyData.str) 1 = some (PyData.str (ixD w_0 1)) := at_ixD (f := PyData.str) (by wtm_at "g.sd") (by wtm_at "g.sd")
  have at3 : L2.atI (w_0.map PyData.str) 2 = some (PyData.str (ixD w_0 2)) := at_ixD (f := PyData.str) (by wtm_at "g.sd") (by wtm_at "g.sd")
  have at4 : L2.atI (([("" : Str), (ixD w_0 0), (ixD w_0 1), (ixD w_0 2)] : (List Str)).map PyData.str) (seed_0 % 4) = some (PyData.str (ixD ([("" : Str), (ixD w_0 0), (ixD w_0 1), (ixD w_0 2)] : (List Str)) (seed_0 % 4))) := at_ixD (f := PyData.str) (by wtm_at "g.sd") (by wtm_at "g.sd")
  refine sx_cons (s1_set TL rfl (ev_is (t := .val (.str x_1)) (ev_ixLv (ev_lstV (ad_cons ev_str (ad_cons (ev_ixLv (ev_name T rfl (Lk.there Lk.here) rfl) ev_int at1) (ad_cons (ev_ixLv (ev_name T rfl (Lk.there Lk.here) rfl) ev_int at2) (ad_cons (ev_ixLv (ev_name T rfl (Lk.there Lk.here) rfl) ev_int at3) ad_nil)))) rfl) (ev_mod (ev_name T rfl Lk.here rfl) ev_int (by wtm_at "d.side")) at4) (by subst ex_1; rfl)) (Put.there (Put.there (Put.there Put.here))) ?_ rfl)
  show SX _ _ _ _ _ _
  refine sx_cons (s1_ret (ev_tup (ad_cons (ev_name T rfl (Lk.there (Lk.there (Lk.there Lk.here))) rfl) (ad_cons (ev_add (ev_sub (ev_mod (ev_div (ev_name T rfl Lk.here rfl) ev_int (by wtm_at "d.div")) ev_int (by wtm_at "d.side")) ev_int) (ev_mul (ev_name T rfl (Lk.there (Lk.there Lk.here)) rfl) (ev_intB z_int rfl (ev_eqS (ev_name T rfl (Lk.there (Lk.there (Lk.there Lk.here))) rfl) ev_str)) (by wtm_at "d.mul"))) ad_nil)) rfl) ?_)
  show RetOk _ _ _ _ _
  subst h
  exact ret_val rfl rfl rfl (by wtm_at "d.lt")
end
def m_law_term (seed_0 : Int) (w_0 : (List Str)) (near_0 : Int) : Trm := if (decide ((seed_0 % 3) < 2)) then (Trm.is (ixD ([("" : Str), (ixD w_0 0), (ixD w_0 1), (ixD w_0 2)] : (List Str)) ((seed_0 / 3) % 4))) else letF (m_law_place (seed_0 / 9) w_0 near_0) fun r_1 => (Trm.rd (ixD w_0 (3 + ((seed_0 / 3) % 3))) r_1)
section
variable {P : Program} {w : World} {K : PySem.W.Frag} {mg : Str → Option Value} {base : Heap}
inductive Sp_law_term : Spec
  | mk {seed_0 : Int} {w_0 : (List Str)} {near_0 : Int} (hw : w_0.length = 8) (hn : -100000000000000000 ≤ near_0 ∧ near_0 ≤ 100000000000000000) : Sp_law_term [.val (.int seed_0), .val (.list (w_0.map PyData.str)), .val (.int near_0)] [] (.val (Trm.D (m_law_term seed_0 w_0 near_0))) []
theorem cal_law_term (D : DefAt K mg "_law_term" s__law_term P__law_term) (C_law_place : Cal P w K mg base 1 "_law_place" 3 Sp_law_place) : Cal P w K mg base 2 "_law_term" 3 Sp_law_term := by
  refine cal_def D sc__law_term tb__law_term (fun f cdv A outer s0 H E hr T TL svs cs sv cs1 hsp hl => ?_)
  cases hsp with
  | @mk seed_0 w_0 near_0 hw hn =>
  obtain ⟨R0, h⟩ : ∃ R0, (m_law_term seed_0 w_0 near_0) = R0 := ⟨_, rfl⟩
  rw [h]
  unfold m_law_term at h
  show SX _ _ _ [some (.val (.int seed_0)), some (.val (.list (w_0.map PyData.str))), some (.val (.int near_0))] [] _
  refine' sx_cons (s1_if (tv_lt (ev_mod (ev_name T rfl Lk.here rfl) ev_int (by wtm_at "d.side")) ev_int) ?y2 ?n2)
  case y2 =>
    intro hb1
    have hb1x := hb1
    try simp only [Bool.and_eq_true, Bool.or_eq_true, Bool.and_eq_false_iff, Bool.or_eq_false_iff, decide_eq_true_eq, decide_eq_false_iff_not, Bool.not_eq_true', Bool.not_eq_false', Bool.not_eq_eq_eq_not, Bool.not_true, Bool.not_false] at hb1x
    rw [if_pos hb1] at h
    have at3 : L2.atI (w_0.map PyData.str) 0 = some (PyData.str (ixD w_0 0)) := at_ixD (f := PyData.str) (by wtm_at "g.sd") (by wtm_at "g.sd")
    have at4 : L2.atI (w_0.map PyData.str) 1 = some (PyData.str (ixD w_0 1)) := at_ixD (f := PyData.str) (by wtm_at "g.sd") (by wtm_at "g.sd")
    have at5 : L2.atI (w_0.map PyData.str) 2 = some (PyData.str (ixD w_0 2)) := at_ixD (f := PyData.str) (by wtm_at "g.sd") (by wtm_at "g.sd")
    have at6 : L2.atI (([("" : Str), (ixD w_0 0), (ixD w_0 1), (ixD w_0 2)] : (List Str)).map PyData.str) ((seed_0 / 3) % 4) = some (PyData.str (ixD ([("" : Str), (ixD w_0 0), (ixD w_0 1), (ixD w_0 2)] : (List Str)) ((seed_0 / 3) % 4))) := at_ixD (f := PyData.str) (by wtm_at "g.sd") (by wtm_at "g.sd")
    refine sx_cons (s1_ret (ev_tup (ad_cons ev_str (ad_cons (ev_ixLv (ev_lstV (ad_cons ev_str (ad_cons (ev_ixLv (ev_name T rfl (Lk.there Lk.here) rfl) ev_int at3) (ad_cons (ev_ixLv (ev_name T rfl (Lk.there Lk.here) rfl) ev_int at4) (ad_cons (ev_ixLv (ev_name T rfl (Lk.there Lk.here) rfl) ev_int at5) ad_nil)))) rfl) (ev_mod (ev_div (ev_name T rfl Lk.here rfl) ev_int (by wtm_at "d.div")) ev_int (by wtm_at "d.side")) at6) ad_nil)) rfl) ?_)
    show RetOk _ _ _ _ _
    subst h
    exact ret_val rfl rfl rfl (by wtm_at "d.lt")
  case n2 =>
    intro hb1
    have hb1x := hb1
    try simp only [Bool.and_eq_true, Bool.or_eq_true, Bool.and_eq_false_iff, Bool.or_eq_false_iff, decide_eq_true_eq, decide_eq_false_iff_not, Bool.not_eq_true', Bool.not_eq_false', Bool.not_eq_eq_eq_not, Bool.not_true, Bool.not_false] at hb1x
    rw [if_neg (by rw [hb1]; decide)] at h
    refine sx_nil ?_
    show SX _ _ _ _ _ _
    replace h := letF_elim h
    obtain ⟨r_1, er_1, h⟩ := h
    have at7 : L2.atI (w_0.map PyData.str) (3 + ((seed_0 / 3) % 3)) = some (PyData.str (ixD w_0 (3 + ((seed_0 / 3) % 3)))) := at_ixD (f := PyData.str) (by wtm_at "g.sd") (by wtm_at "g.sd")
    refine sx_cons (s1_ret (ev_tup (ad_cons ev_str (ad_cons (ev_ixLv (ev_name T rfl (Lk.there Lk.here) rfl) (ev_add ev_int (ev_mod (ev_div (ev_name T rfl Lk.here rfl) ev_int (by wtm_at "d.div")) ev_int (by wtm_at "d.side"))) at7) (ad_cons (ev_as (t := .val (.tuple [(.str r_1.1), (.int r_1.2)])) (cs2 := []) (ev_callM (κ := []) C_law_place hr (by decide) rfl (av_cons (ev_div (ev_name T rfl Lk.here rfl) ev_int (by wtm_at "d.div")) (av_cons (ev_name T rfl (Lk.there Lk.here) rfl) (av_cons (ev_name T rfl (Lk.there (Lk.there Lk.here)) rfl) av_nil))) Sel.nil (RenA.val (RenA.val (RenA.val RenA.nil))) (Sp_law_place.mk (seed_0 := (seed_0 / 9)) (w_0 := w_0) (near_0 := near_0) (by wtm_at "g.pre") (by wtm_at "g.pre")) SetA.nil (List.prefix_refl _) rfl (by decide) rfl) (by subst er_1; rfl) (by subst er_1; rfl)) ad_nil))) rfl) ?_)
    show RetOk _ _ _ _ _
    subst h
    exact ret_val rfl rfl rfl (by wtm_at "d.lt")
end
def m_law_number (x_0 : Str) (numbers_0 : (List (Str × Int))) : Int := if (decide (x_0 = ("" : Str))) then 0 else ((lkS numbers_0 x_0).getD 0)
section
variable {P : Program} {w : World} {K : PySem.W.Frag} {mg : Str → Option Value} {base : Heap}
inductive Sp_law_number : Spec
  | mk {x_0 : Str} {numbers_0 : (List (Str × Int))}  : Sp_law_number [.val (.str x_0), .cell 0] [(.dct (svK (kvT PyData.int numbers_0)))] (.val (.int (m_law_number x_0 numbers_0))) [(.dct (svK (kvT PyData.int numbers_0)))]
theorem cal_law_number (D : DefAt K mg "_law_number" s__law_number P__law_number) : Cal P w K mg base 1 "_law_number" 2 Sp_law_number := by
  refine cal_def D sc__law_number tb__law_number (fun f cdv A outer s0 H E hr T TL svs cs sv cs1 hsp hl => ?_)
  cases hsp with
  | @mk x_0 numbers_0  =>
  obtain ⟨R0, h⟩ : ∃ R0, (m_law_number x_0 numbers_0) = R0 := ⟨_, rfl⟩
  rw [h]
  unfold m_law_number at h
  show SX _ _ _ [some (.val (.str x_0)), some (.cell 0)] [(.dct (svK (kvT PyData.int numbers_0)))] _
  refine' sx_cons (s1_if (tv_eqS (ev_name T rfl Lk.here rfl) ev_str) ?y2 ?n2)
  case y2 =>
    intro hb1
    have hb1x := hb1
    try simp only [Bool.and_eq_true, Bool.or_eq_true, Bool.and_eq_false_iff, Bool.or_eq_false_iff, decide_eq_true_eq, decide_eq_false_iff_not, Bool.not_eq_true', Bool.not_eq_false', Bool.not_eq_eq_eq_not, Bool.not_true, Bool.not_false] at hb1x
    rw [if_pos hb1] at h
    refine sx_cons (s1_ret ev_int ?_)
    show RetOk _ _ _ _ _
    subst h
    exact ret_val rfl rfl rfl (by wtm_at "d.lt")
  case n2 =>
    intro hb1
    have hb1x := hb1
    try simp only [Bool.and_eq_true, Bool.or_eq_true, Bool.and_eq_false_iff, Bool.or_eq_false_iff, decide_eq_true_eq, decide_eq_false_iff_not, Bool.not_eq_true', Bool.not_eq_false', Bool.not_eq_eq_eq_not, Bool.not_true, Bool.not_false] at hb1x
    rw [if_neg (by rw [hb1]; decide)] at h
    refine sx_nil ?_
    show SX _ _ _ _ _ _
    refine sx_cons (s1_ret (ev_dget2 hr ev_int (ev_name T rfl (Lk.there Lk.here) rfl) (ev_name T rfl Lk.here rfl) ⟨_, (IsD.cell rfl)⟩ (IsD.cell rfl) (KeyOf.str _) (get_T (f := PyData.int) numbers_0 x_0 0)) ?_)
    show RetOk _ _ _ _ _
    subst h
    exact ret_val rfl rfl rfl (by wtm_at "d.lt")
end
def m_law_worth (term_here_0 : Trm) (numbers_0 : (List (Str × Int))) (rows_0 : (List (Str × (Int × (List (Int × Int)) × (List (Int × Int)))))) : Int := match term_here_0 with
  | .is x => letF (m_law_number x numbers_0) fun r_1 => r_1
  | .rd r p => letF (m_law_number p.1 numbers_0) fun r_2 => letF (r_2 + p.2) fun place_here_3 => letF (m_law_holds ((lkS rows_0 r).getD (0, ([] : (List (Int × Int))), ([] : (List (Int × Int))))) place_here_3) fun r_4 => r_4
section
variable {P : Program} {w : World} {K : PySem.W.Frag} {mg : Str → Option Value} {base : Heap}
inductive Sp_law_worth : Spec
  | mk {term_here_0 : Trm} {numbers_0 : (List (Str × Int))} {rows_0 : (List (Str × (Int × (List (Int × Int)) × (List (Int × Int)))))}  : Sp_law_worth [.val (Trm.D term_here_0), .cell 0, .cell 1] [(.dct (svK (kvT PyData.int numbers_0))), (.dct (svK (kvT e_tup_int_tupl_tup_int_int_tupl_tup_int_int rows_0)))] (.val (.int (m_law_worth term_here_0 numbers_0 rows_0))) [(.dct (svK (kvT PyData.int numbers_0))), (.dct (svK (kvT e_tup_int_tupl_tup_int_int_tupl_tup_int_int rows_0)))]
theorem cal_law_worth (D : DefAt K mg "_law_worth" s__law_worth P__law_worth) (C_law_number : Cal P w K mg base 1 "_law_number" 2 Sp_law_number) (C_law_holds : Cal P w K mg base 1 "_law_holds" 2 Sp_law_holds) : Cal P w K mg base 2 "_law_worth" 3 Sp_law_worth := by
  refine cal_def D sc__law_worth tb__law_worth (fun f cdv A outer s0 H E hr T TL svs cs sv cs1 hsp hl => ?_)
  cases hsp with
  | @mk term_here_0 numbers_0 rows_0  =>
  obtain ⟨R0, h⟩ : ∃ R0, (m_law_worth term_here_0 numbers_0 rows_0) = R0 := ⟨_, rfl⟩
  rw [h]
  unfold m_law_worth at h
  cases term_here_0
  case is x =>
    dsimp only at h
    show SX _ _ _ [some (.val (.tuple [(.str ("is" : Str)), (.str x)])), some (.cell 0), some (.cell 1), none] [(.dct (svK (kvT PyData.int numbers_0))), (.dct (svK (kvT e_tup_int_tupl_tup_int_int_tupl_tup_int_int rows_0)))] _
    refine sx_cons (s1_if (tv_eqS (ev_ixT (ev_name T rfl Lk.here rfl) ev_int rfl) ev_str) (fun _ => ?_) (fun z => absurd z (by decide)))
    replace h := letF_elim h
    obtain ⟨r_1, er_1, h⟩ := h
    refine sx_cons (s1_ret (ev_as (t := .val (.int r_1)) (cs2 := [(.dct (svK (kvT PyData.int numbers_0))), (.dct (svK (kvT e_tup_int_tupl_tup_int_int_tupl_tup_int_int rows_0)))]) (ev_callM (κ := [0]) C_law_number hr (by decide) rfl (av_cons (ev_ixT (ev_name T rfl Lk.here rfl) ev_int rfl) (av_cons (ev_name T rfl (Lk.there Lk.here) rfl) av_nil)) (Sel.cons rfl (by wtm_at "d.flat") (by intro z; cases z) Sel.nil) (RenA.val (RenA.cell rfl RenA.nil)) (Sp_law_number.mk (x_0 := x) (numbers_0 := numbers_0) ) (SetA.cons PutC.here SetA.nil) (List.prefix_refl _) (by wtm_at "g.flat") (by decide) rfl) (by subst er_1; rfl) (by subst er_1; rfl)) ?_)
    show RetOk _ _ _ _ _
    subst h
    exact ret_val rfl rfl rfl (by wtm_at "d.lt")
  case rd r p =>
    dsimp only at h
    show SX _ _ _ [some (.val (.tuple [(.str ("at" : Str)), (.str r), (.tuple [(.str p.1), (.int p.2)])])), some (.cell 0), some (.cell 1), none] [(.dct (svK (kvT PyData.int numbers_0))), (.dct (svK (kvT e_tup_int_tupl_tup_int_int_tupl_tup_int_int rows_0)))] _
    refine sx_cons (s1_if (tv_eqS (ev_ixT (ev_name T rfl Lk.here rfl) ev_int rfl) ev_str) (fun z => absurd z (by decide)) (fun _ => ?_))
    refine sx_nil ?_
    show SX _ _ _ _ _ _
    replace h := letF_elim h
    obtain ⟨r_2, er_2, h⟩ := h
    replace h := letF_elim h
    obtain ⟨place_here_3, eplace_here_3, h⟩ := h
    refine sx_cons (s1_set TL rfl (ev_is (t := .val (.int place_here_3)) (ev_add (ev_as (t := .val (.int r_2)) (cs2 := [(.dct (svK (kvT PyData.int numbers_0))), (.dct (svK (kvT e_tup_int_tupl_tup_int_int_tupl_tup_int_int rows_0)))]) (ev_callM (κ := [0]) C_law_number hr (by decide) rfl (av_cons (ev_ixT (ev_ixT (ev_name T rfl Lk.here rfl) ev_int rfl) ev_int rfl) (av_cons (ev_name T rfl (Lk.there Lk.here) rfl) av_nil)) (Sel.cons rfl (by wtm_at "d.flat") (by intro z; cases z) Sel.nil) (RenA.val (RenA.cell rfl RenA.nil)) (Sp_law_number.mk (x_0 := p.1) (numbers_0 := numbers_0) ) (SetA.cons PutC.here SetA.nil) (List.prefix_refl _) (by wtm_at "g.flat") (by decide) rfl) (by subst er_2; rfl) (by subst er_2; rfl)) (ev_ixT (ev_ixT (ev_name T rfl Lk.here rfl) ev_int rfl) ev_int rfl)) (by subst eplace_here_3; rfl)) (Put.there (Put.there (Put.there Put.here))) ?_ rfl)
    show SX _ _ _ _ _ _
    replace h := letF_elim h
    obtain ⟨r_4, er_4, h⟩ := h
    refine sx_cons (s1_ret (ev_as (t := .val (.int r_4)) (cs2 := [(.dct (svK (kvT PyData.int numbers_0))), (.dct (svK (kvT e_tup_int_tupl_tup_int_int_tupl_tup_int_int rows_0)))]) (ev_callM (κ := []) C_law_holds hr (by decide) rfl (av_cons (ev_dget2 hr (ev_tup (ad_cons ev_int (ad_cons (ev_tup ad_nil rfl) (ad_cons (ev_tup ad_nil rfl) ad_nil))) rfl) (ev_name T rfl (Lk.there (Lk.there Lk.here)) rfl) (ev_ixT (ev_name T rfl Lk.here rfl) ev_int rfl) ⟨_, (IsD.cell rfl)⟩ (IsD.cell rfl) (KeyOf.str _) (get_T (f := e_tup_int_tupl_tup_int_int_tupl_tup_int_int) rows_0 r (0, ([] : (List (Int × Int))), ([] : (List (Int × Int)))))) (av_cons (ev_name T rfl (Lk.there (Lk.there (Lk.there Lk.here))) rfl) av_nil)) Sel.nil (RenA.val (RenA.val RenA.nil)) (Sp_law_holds.mk (row_0 := ((lkS rows_0 r).getD (0, ([] : (List (Int × Int))), ([] : (List (Int × Int)))))) (place_here_0 := place_here_3) ) SetA.nil (List.prefix_refl _) rfl (by decide) rfl) (by subst er_4; rfl) (by subst er_4; rfl)) ?_)
    show RetOk _ _ _ _ _
    subst h
    exact ret_val rfl rfl rfl (by wtm_at "d.lt")
end
def m_law_put (rows_0 : (List (Str × (Int × (List (Int × Int)) × (List (Int × Int)))))) (r_0 : Str) (place_here_0 : Int) (value_0 : Int) : (List (Str × (Int × (List (Int × Int)) × (List (Int × Int))))) := ((putSt rows_0 r_0 (((lkS rows_0 r_0).getD (0, ([] : (List (Int × Int))), ([] : (List (Int × Int))))).1, ((lkS rows_0 r_0).getD (0, ([] : (List (Int × Int))), ([] : (List (Int × Int))))).2.1, (((lkS rows_0 r_0).getD (0, ([] : (List (Int × Int))), ([] : (List (Int × Int))))).2.2 ++ ([(place_here_0, value_0)] : (List (Int × Int)))))))
section
variable {P : Program} {w : World} {K : PySem.W.Frag} {mg : Str → Option Value} {base : Heap}
inductive Sp_law_put : Spec
  | mk {rows_0 : (List (Str × (Int × (List (Int × Int)) × (List (Int × Int)))))} {r_0 : Str} {place_here_0 : Int} {value_0 : Int} (hl : rows_0.length ≤ 200) (hd : (rows_0.map (·.1)).Nodup) (hw : MadesW 200 200 rows_0) : Sp_law_put [.cell 0, .val (.str r_0), .val (.int place_here_0), .val (.int value_0)] [(.dct (svK (kvT e_tup_int_tupl_tup_int_int_tupl_tup_int_int rows_0)))] (.val .none) [(.dct (svK (kvT e_tup_int_tupl_tup_int_int_tupl_tup_int_int (m_law_put rows_0 r_0 place_here_0 value_0))))]
theorem cal_law_put (D : DefAt K mg "_law_put" s__law_put P__law_put) : Cal P w K mg base 1 "_law_put" 4 Sp_law_put := by
  refine cal_def D sc__law_put tb__law_put (fun f cdv A outer s0 H E hr T TL svs cs sv cs1 hsp hl => ?_)
  cases hsp with
  | @mk rows_0 r_0 place_here_0 value_0 hl hd hw =>
  obtain ⟨R0, h⟩ : ∃ R0, (m_law_put rows_0 r_0 place_here_0 value_0) = R0 := ⟨_, rfl⟩
  rw [h]
  unfold m_law_put at h
  show SX _ _ _ [some (.cell 0), some (.val (.str r_0)), some (.val (.int place_here_0)), some (.val (.int value_0)), none, none, none] [(.dct (svK (kvT e_tup_int_tupl_tup_int_int_tupl_tup_int_int rows_0)))] _
  have gt1 := MadesW.get hw r_0
  refine sx_cons (s1_asg (ev_dget2 hr (ev_tup (ad_cons ev_int (ad_cons (ev_tup ad_nil rfl) (ad_cons (ev_tup ad_nil rfl) ad_nil))) rfl) (ev_name T rfl Lk.here rfl) (ev_name T rfl (Lk.there Lk.here) rfl) ⟨_, (IsD.cell rfl)⟩ (IsD.cell rfl) (KeyOf.str _) (get_T (f := e_tup_int_tupl_tup_int_int_tupl_tup_int_int) rows_0 r_0 (0, ([] : (List (Int × Int))), ([] : (List (Int × Int)))))) ?_)
  refine gx_tup rfl (gxs_cons (gx_name TL rfl (Put.there (Put.there (Put.there (Put.there Put.here)))) (gxs_cons (gx_name TL rfl (Put.there (Put.there (Put.there (Put.there (Put.there Put.here))))) (gxs_cons (gx_name TL rfl (Put.there (Put.there (Put.there (Put.there (Put.there (Put.there Put.here)))))) (gxs_nil ?_) rfl)) rfl)) rfl)) rfl
  show SX _ _ _ _ _ _
  have hz2 : (((lkS rows_0 r_0).getD (0, ([] : (List (Int × Int))), ([] : (List (Int × Int))))).2.2).length + (([(place_here_0, value_0)] : (List (Int × Int)))).length ≤ 1000000 := by wtm_at "g.sd"
  have pl3 := putSt_len r_0 (((lkS rows_0 r_0).getD (0, ([] : (List (Int × Int))), ([] : (List (Int × Int))))).1, ((lkS rows_0 r_0).getD (0, ([] : (List (Int × Int))), ([] : (List (Int × Int))))).2.1, (((lkS rows_0 r_0).getD (0, ([] : (List (Int × Int))), ([] : (List (Int × Int))))).2.2 ++ ([(place_here_0, value_0)] : (List (Int × Int))))) rows_0
  refine sx_cons (s1_dputT (f := e_tup_int_tupl_tup_int_int_tupl_tup_int_int) (kvs := rows_0) (k := r_0) (y := (((lkS rows_0 r_0).getD (0, ([] : (List (Int × Int))), ([] : (List (Int × Int))))).1, ((lkS rows_0 r_0).getD (0, ([] : (List (Int × Int))), ([] : (List (Int × Int))))).2.1, (((lkS rows_0 r_0).getD (0, ([] : (List (Int × Int))), ([] : (List (Int × Int))))).2.2 ++ ([(place_here_0, value_0)] : (List (Int × Int)))))) hr (ev_tup (ad_cons (ev_name T rfl (Lk.there (Lk.there (Lk.there (Lk.there Lk.here)))) rfl) (ad_cons (ev_name T rfl (Lk.there (Lk.there (Lk.there (Lk.there (Lk.there Lk.here))))) rfl) (ad_cons (ev_is (t := .val (.tuple ((((lkS rows_0 r_0).getD (0, ([] : (List (Int × Int))), ([] : (List (Int × Int))))).2.2 ++ ([(place_here_0, value_0)] : (List (Int × Int)))).map pD))) (ev_catT (ds := ((lkS rows_0 r_0).getD (0, ([] : (List (Int × Int))), ([] : (List (Int × Int))))).2.2.map pD) (es := ([(place_here_0, value_0)] : (List (Int × Int))).map pD) (ev_name T rfl (Lk.there (Lk.there (Lk.there (Lk.there (Lk.there (Lk.there Lk.here)))))) rfl) (ev_tup (ad_cons (ev_tup (ad_cons (ev_name T rfl (Lk.there (Lk.there Lk.here)) rfl) (ad_cons (ev_name T rfl (Lk.there (Lk.there (Lk.there Lk.here))) rfl) ad_nil)) rfl) ad_nil) rfl) (by simpa only [List.length_map] using hz2)) (by rw [← List.map_append])) ad_nil))) rfl) (ev_name T rfl Lk.here rfl) (ev_name T rfl (Lk.there Lk.here) rfl) rfl (by wtm_at "g.sd") (by wtm_at "g.nd") PutC.here ?_)
  show SX _ _ _ _ _ _
  refine sx_nil ?_
  show RetOk _ _ _ _ _
  subst h
  exact ret_val rfl rfl rfl (by wtm_at "d.lt")
end
def m_law_gone_set (x : Str) (t : Trm) (c : Int) (numbers_0 : (List (Str × Int))) (rows_0 : (List (Str × (Int × (List (Int × Int)) × (List (Int × Int)))))) (pick_here_0 : Unit) : (List (Str × Int)) := letF (m_law_worth t numbers_0 rows_0) fun r_1 => ((putSt numbers_0 x (r_1 + c)))
section
variable {P : Program} {w : World} {K : PySem.W.Frag} {mg : Str → Option Value} {base : Heap}
inductive Sp_law_gone_set : Spec
  | mk {x : Str} {t : Trm} {c : Int} {numbers_0 : (List (Str × Int))} {rows_0 : (List (Str × (Int × (List (Int × Int)) × (List (Int × Int)))))} {pick_here_0 : Unit} (hn : numbers_0.length ≤ 200 ∧ (numbers_0.map (·.1)).Nodup) (hq : rows_0.length ≤ 200 ∧ (rows_0.map (·.1)).Nodup) (hw : MadesW 200 200 rows_0) : Sp_law_gone_set [.val (.tuple [(.str ("set" : Str)), (.str x), (Trm.D t), (.int c)]), .cell 0, .cell 1, .val .none] [(.dct (svK (kvT PyData.int numbers_0))), (.dct (svK (kvT e_tup_int_tupl_tup_int_int_tupl_tup_int_int rows_0)))] (.val .none) [(.dct (svK (kvT PyData.int (m_law_gone_set x t c numbers_0 rows_0 pick_here_0)))), (.dct (svK (kvT e_tup_int_tupl_tup_int_int_tupl_tup_int_int rows_0)))]
theorem cal_law_gone_set (D : DefAt K mg "_law_gone" s__law_gone P__law_gone) (C_law_worth : Cal P w K mg base 2 "_law_worth" 3 Sp_law_worth) : Cal P w K mg base 3 "_law_gone" 4 Sp_law_gone_set := by
  refine cal_def D sc__law_gone tb__law_gone (fun f cdv A outer s0 H E hr T TL svs cs sv cs1 hsp hl => ?_)
  cases hsp with
  | @mk x t c numbers_0 rows_0 pick_here_0 hn hq hw =>
  obtain ⟨R0, h⟩ : ∃ R0, (m_law_gone_set x t c numbers_0 rows_0 pick_here_0) = R0 := ⟨_, rfl⟩
  rw [h]
  unfold m_law_gone_set at h
  have hn1 := hn.1
  have hn2 := hn.2
  have hr1 := hq.1
  have hr2 := hq.2
  show SX _ _ _ [some (.val (.tuple [(.str ("set" : Str)), (.str x), (Trm.D t), (.int c)])), some (.cell 0), some (.cell 1), some (.val .none), none] [(.dct (svK (kvT PyData.int numbers_0))), (.dct (svK (kvT e_tup_int_tupl_tup_int_int_tupl_tup_int_int rows_0)))] _
  refine sx_cons (s1_if (tv_eqS (ev_ixT (ev_name T rfl Lk.here rfl) ev_int rfl) ev_str) (fun _ => ?_) (fun z => absurd z (by decide)))
  replace h := letF_elim h
  obtain ⟨r_1, er_1, h⟩ := h
  have pl2 := putSt_len x (r_1 + c) numbers_0
  refine sx_cons (s1_dputT (f := PyData.int) (kvs := numbers_0) (k := x) (y := (r_1 + c)) hr (ev_add (ev_as (t := .val (.int r_1)) (cs2 := [(.dct (svK (kvT PyData.int numbers_0))), (.dct (svK (kvT e_tup_int_tupl_tup_int_int_tupl_tup_int_int rows_0)))]) (ev_callM (κ := [0, 1]) C_law_worth hr (by decide) rfl (av_cons (ev_ixT (ev_name T rfl Lk.here rfl) ev_int rfl) (av_cons (ev_name T rfl (Lk.there Lk.here) rfl) (av_cons (ev_name T rfl (Lk.there (Lk.there Lk.here)) rfl) av_nil))) (Sel.cons rfl (by wtm_at "d.flat") (by intro z; cases z) (Sel.cons rfl (by wtm_at "d.flat") (by intro z; cases z) Sel.nil)) (RenA.val (RenA.cell rfl (RenA.cell rfl RenA.nil))) (Sp_law_worth.mk (term_here_0 := t) (numbers_0 := numbers_0) (rows_0 := rows_0) ) (SetA.cons PutC.here (SetA.cons (PutC.there PutC.here) SetA.nil)) (List.prefix_refl _) (by wtm_at "g.flat") (by decide) rfl) (by subst er_1; rfl) (by subst er_1; rfl)) (ev_ixT (ev_name T rfl Lk.here rfl) ev_int rfl)) (ev_name T rfl (Lk.there Lk.here) rfl) (ev_ixT (ev_name T rfl Lk.here rfl) ev_int rfl) rfl (by wtm_at "g.sd") (by wtm_at "g.nd") PutC.here ?_)
  show SX _ _ _ _ _ _
  refine sx_nil ?_
  show SX _ _ _ _ _ _
  refine sx_nil ?_
  show RetOk _ _ _ _ _
  subst h
  exact ret_val rfl rfl rfl (by wtm_at "d.lt")
end
def m_law_gone_put (r : Str) (p : (Str × Int)) (t : Trm) (c : Int) (numbers_0 : (List (Str × Int))) (rows_0 : (List (Str × (Int × (List (Int × Int)) × (List (Int × Int)))))) (pick_here_0 : Unit) : (List (Str × (Int × (List (Int × Int)) × (List (Int × Int))))) := letF (m_law_number p.1 numbers_0) fun r_1 => letF (r_1 + p.2) fun place_here_2 => letF (m_law_worth t numbers_0 rows_0) fun r_3 => letF (m_law_put rows_0 r place_here_2 (r_3 + c)) fun c_4 => (c_4)
section
variable {P : Program} {w : World} {K : PySem.W.Frag} {mg : Str → Option Value} {base : Heap}
inductive Sp_law_gone_put : Spec
  | mk {r : Str} {p : (Str × Int)} {t : Trm} {c : Int} {numbers_0 : (List (Str × Int))} {rows_0 : (List (Str × (Int × (List (Int × Int)) × (List (Int × Int)))))} {pick_here_0 : Unit} (hn : numbers_0.length ≤ 200 ∧ (numbers_0.map (·.1)).Nodup) (hq : rows_0.length ≤ 200 ∧ (rows_0.map (·.1)).Nodup) (hw : MadesW 200 200 rows_0) : Sp_law_gone_put [.val (.tuple [(.str ("put" : Str)), (.str r), (.tuple [(.str p.1), (.int p.2)]), (Trm.D t), (.int c)]), .cell 0, .cell 1, .val .none] [(.dct (svK (kvT PyData.int numbers_0))), (.dct (svK (kvT e_tup_int_tupl_tup_int_int_tupl_tup_int_int rows_0)))] (.val .none) [(.dct (svK (kvT PyData.int numbers_0))), (.dct (svK (kvT e_tup_int_tupl_tup_int_int_tupl_tup_int_int (m_law_gone_put r p t c numbers_0 rows_0 pick_here_0))))]
theorem cal_law_gone_put (D : DefAt K mg "_law_gone" s__law_gone P__law_gone) (C_law_number : Cal P w K mg base 1 "_law_number" 2 Sp_law_number) (C_law_worth : Cal P w K mg base 2 "_law_worth" 3 Sp_law_worth) (C_law_put : Cal P w K mg base 1 "_law_put" 4 Sp_law_put) : Cal P w K mg base 3 "_law_gone" 4 Sp_law_gone_put := by
  refine cal_def D sc__law_gone tb__law_gone (fun f cdv A outer s0 H E hr T TL svs cs sv cs1 hsp hl => ?_)
  cases hsp with
  | @mk r p t c numbers_0 rows_0 pick_here_0 hn hq hw =>
  obtain ⟨R0, h⟩ : ∃ R0, (m_law_gone_put r p t c numbers_0 rows_0 pick_here_0) = R0 := ⟨_, rfl⟩
  rw [h]
  unfold m_law_gone_put at h
  have hn1 := hn.1
  have hn2 := hn.2
  have hr1 := hq.1
  have hr2 := hq.2
  show SX _ _ _ [some (.val (.tuple [(.str ("put" : Str)), (.str r), (.tuple [(.str p.1), (.int p.2)]), (Trm.D t), (.int c)])), some (.cell 0), some (.cell 1), some (.val .none), none] [(.dct (svK (kvT PyData.int numbers_0))), (.dct (svK (kvT e_tup_int_tupl_tup_int_int_tupl_tup_int_int rows_0)))] _
  refine sx_cons (s1_if (tv_eqS (ev_ixT (ev_name T rfl Lk.here rfl) ev_int rfl) ev_str) (fun z => absurd z (by decide)) (fun _ => ?_))
  refine sx_cons (s1_if (tv_eqS (ev_ixT (ev_name T rfl Lk.here rfl) ev_int rfl) ev_str) (fun _ => ?_) (fun z => absurd z (by decide)))
  replace h := letF_elim h
  obtain ⟨r_1, er_1, h⟩ := h
  replace h := letF_elim h
  obtain ⟨place_here_2, eplace_here_2, h⟩ := h
  refine sx_cons (s1_set TL rfl (ev_is (t := .val (.int place_here_2)) (ev_add (ev_as (t := .val (.int r_1)) (cs2 := [(.dct (svK (kvT PyData.int numbers_0))), (.dct (svK (kvT e_tup_int_tupl_tup_int_int_tupl_tup_int_int rows_0)))]) (ev_callM (κ := [0]) C_law_number hr (by decide) rfl (av_cons (ev_ixT (ev_ixT (ev_name T rfl Lk.here rfl) ev_int rfl) ev_int rfl) (av_cons (ev_name T rfl (Lk.there Lk.here) rfl) av_nil)) (Sel.cons rfl (by wtm_at "d.flat") (by intro z; cases z) Sel.nil) (RenA.val (RenA.cell rfl RenA.nil)) (Sp_law_number.mk (x_0 := p.1) (numbers_0 := numbers_0) ) (SetA.cons PutC.here SetA.nil) (List.prefix_refl _) (by wtm_at "g.flat") (by decide) rfl) (by subst er_1; rfl) (by subst er_1; rfl)) (ev_ixT (ev_ixT (ev_name T rfl Lk.here rfl) ev_int rfl) ev_int rfl)) (by subst eplace_here_2; rfl)) (Put.there (Put.there (Put.there (Put.there Put.here)))) ?_ rfl)
  show SX _ _ _ _ _ _
  replace h := letF_elim h
  obtain ⟨r_3, er_3, h⟩ := h
  replace h := letF_elim h
  obtain ⟨c_4, ec_4, h⟩ := h
  refine sx_cons (s1_expr (ev_as (t := .val .none) (cs2 := [(.dct (svK (kvT PyData.int numbers_0))), (.dct (svK (kvT e_tup_int_tupl_tup_int_int_tupl_tup_int_int c_4)))]) (ev_callM (κ := [1]) C_law_put hr (by decide) rfl (av_cons (ev_name T rfl (Lk.there (Lk.there Lk.here)) rfl) (av_cons (ev_ixT (ev_name T rfl Lk.here rfl) ev_int rfl) (av_cons (ev_name T rfl (Lk.there (Lk.there (Lk.there (Lk.there Lk.here)))) rfl) (av_cons (ev_add (ev_as (t := .val (.int r_3)) (cs2 := [(.dct (svK (kvT PyData.int numbers_0))), (.dct (svK (kvT e_tup_int_tupl_tup_int_int_tupl_tup_int_int rows_0)))]) (ev_callM (κ := [0, 1]) C_law_worth hr (by decide) rfl (av_cons (ev_ixT (ev_name T rfl Lk.here rfl) ev_int rfl) (av_cons (ev_name T rfl (Lk.there Lk.here) rfl) (av_cons (ev_name T rfl (Lk.there (Lk.there Lk.here)) rfl) av_nil))) (Sel.cons rfl (by wtm_at "d.flat") (by intro z; cases z) (Sel.cons rfl (by wtm_at "d.flat") (by intro z; cases z) Sel.nil)) (RenA.val (RenA.cell rfl (RenA.cell rfl RenA.nil))) (Sp_law_worth.mk (term_here_0 := t) (numbers_0 := numbers_0) (rows_0 := rows_0) ) (SetA.cons PutC.here (SetA.cons (PutC.there PutC.here) SetA.nil)) (List.prefix_refl _) (by wtm_at "g.flat") (by decide) rfl) (by subst er_3; rfl) (by subst er_3; rfl)) (ev_ixT (ev_name T rfl Lk.here rfl) ev_int rfl)) av_nil)))) (Sel.cons rfl (by wtm_at "d.flat") (by intro z; cases z) Sel.nil) (RenA.cell rfl (RenA.val (RenA.val (RenA.val RenA.nil)))) (Sp_law_put.mk (rows_0 := rows_0) (r_0 := r) (place_here_0 := place_here_2) (value_0 := (r_3 + c)) (by wtm_at "g.pre") (by wtm_at "g.pre") (by wtm_at "g.pre")) (SetA.cons (PutC.there PutC.here) SetA.nil) (List.prefix_refl _) (by wtm_at "g.flat") (by decide) rfl) (by subst ec_4; rfl) (by subst ec_4; rfl)) ?_)
  show SX _ _ _ _ _ _
  refine sx_nil ?_
  show SX _ _ _ _ _ _
  refine sx_nil ?_
  show SX _ _ _ _ _ _
  refine sx_nil ?_
  show RetOk _ _ _ _ _
  subst h
  exact ret_val rfl rfl rfl (by wtm_at "d.lt")
end
def m_law_gone_any (x : Str) (numbers_0 : (List (Str × Int))) (rows_0 : (List (Str × (Int × (List (Int × Int)) × (List (Int × Int)))))) (pick_here_0 : Int) : (List (Str × Int)) := ((putSt numbers_0 x pick_here_0))
section
variable {P : Program} {w : World} {K : PySem.W.Frag} {mg : Str → Option Value} {base : Heap}
inductive Sp_law_gone_any : Spec
  | mk {x : Str} {numbers_0 : (List (Str × Int))} {rows_0 : (List (Str × (Int × (List (Int × Int)) × (List (Int × Int)))))} {pick_here_0 : Int} (hn : numbers_0.length ≤ 200 ∧ (numbers_0.map (·.1)).Nodup) (hq : rows_0.length ≤ 200 ∧ (rows_0.map (·.1)).Nodup) (hw : MadesW 200 200 rows_0) : Sp_law_gone_any [.val (.tuple [(.str ("any" : Str)), (.str x)]), .cell 0, .cell 1, .val (.int pick_here_0)] [(.dct (svK (kvT PyData.int numbers_0))), (.dct (svK (kvT e_tup_int_tupl_tup_int_int_tupl_tup_int_int rows_0)))] (.val .none) [(.dct (svK (kvT PyData.int (m_law_gone_any x numbers_0 rows_0 pick_here_0)))), (.dct (svK (kvT e_tup_int_tupl_tup_int_int_tupl_tup_int_int rows_0)))]
theorem cal_law_gone_any (D : DefAt K mg "_law_gone" s__law_gone P__law_gone) : Cal P w K mg base 1 "_law_gone" 4 Sp_law_gone_any := by
  refine cal_def D sc__law_gone tb__law_gone (fun f cdv A outer s0 H E hr T TL svs cs sv cs1 hsp hl => ?_)
  cases hsp with
  | @mk x numbers_0 rows_0 pick_here_0 hn hq hw =>
  obtain ⟨R0, h⟩ : ∃ R0, (m_law_gone_any x numbers_0 rows_0 pick_here_0) = R0 := ⟨_, rfl⟩
  rw [h]
  unfold m_law_gone_any at h
  have hn1 := hn.1
  have hn2 := hn.2
  have hr1 := hq.1
  have hr2 := hq.2
  show SX _ _ _ [some (.val (.tuple [(.str ("any" : Str)), (.str x)])), some (.cell 0), some (.cell 1), some (.val (.int pick_here_0)), none] [(.dct (svK (kvT PyData.int numbers_0))), (.dct (svK (kvT e_tup_int_tupl_tup_int_int_tupl_tup_int_int rows_0)))] _
  refine sx_cons (s1_if (tv_eqS (ev_ixT (ev_name T rfl Lk.here rfl) ev_int rfl) ev_str) (fun z => absurd z (by decide)) (fun _ => ?_))
  refine sx_cons (s1_if (tv_eqS (ev_ixT (ev_name T rfl Lk.here rfl) ev_int rfl) ev_str) (fun z => absurd z (by decide)) (fun _ => ?_))
  refine sx_cons (s1_if (tv_eqS (ev_ixT (ev_name T rfl Lk.here rfl) ev_int rfl) ev_str) (fun _ => ?_) (fun z => absurd z (by decide)))
  have pl4 := putSt_len x pick_here_0 numbers_0
  refine sx_cons (s1_dputT (f := PyData.int) (kvs := numbers_0) (k := x) (y := pick_here_0) hr (ev_name T rfl (Lk.there (Lk.there (Lk.there Lk.here))) rfl) (ev_name T rfl (Lk.there Lk.here) rfl) (ev_ixT (ev_name T rfl Lk.here rfl) ev_int rfl) rfl (by wtm_at "g.sd") (by wtm_at "g.nd") PutC.here ?_)
  show SX _ _ _ _ _ _
  refine sx_nil ?_
  show SX _ _ _ _ _ _
  refine sx_nil ?_
  show SX _ _ _ _ _ _
  refine sx_nil ?_
  show SX _ _ _ _ _ _
  refine sx_nil ?_
  show RetOk _ _ _ _ _
  subst h
  exact ret_val rfl rfl rfl (by wtm_at "d.lt")
end
def m_law_gone_lose (r : Str) (numbers_0 : (List (Str × Int))) (rows_0 : (List (Str × (Int × (List (Int × Int)) × (List (Int × Int)))))) (pick_here_0 : (Int × (List (Int × Int)) × (List (Int × Int)))) : (List (Str × (Int × (List (Int × Int)) × (List (Int × Int))))) := ((putSt rows_0 r pick_here_0))
section
variable {P : Program} {w : World} {K : PySem.W.Frag} {mg : Str → Option Value} {base : Heap}
inductive Sp_law_gone_lose : Spec
  | mk {r : Str} {numbers_0 : (List (Str × Int))} {rows_0 : (List (Str × (Int × (List (Int × Int)) × (List (Int × Int)))))} {pick_here_0 : (Int × (List (Int × Int)) × (List (Int × Int)))} (hn : numbers_0.length ≤ 200 ∧ (numbers_0.map (·.1)).Nodup) (hq : rows_0.length ≤ 200 ∧ (rows_0.map (·.1)).Nodup) (hw : MadesW 200 200 rows_0) : Sp_law_gone_lose [.val (.tuple [(.str ("lose" : Str)), (.str r)]), .cell 0, .cell 1, .val (.tuple [(.int pick_here_0.1), (.tuple (pick_here_0.2.1.map pD)), (.tuple (pick_here_0.2.2.map pD))])] [(.dct (svK (kvT PyData.int numbers_0))), (.dct (svK (kvT e_tup_int_tupl_tup_int_int_tupl_tup_int_int rows_0)))] (.val .none) [(.dct (svK (kvT PyData.int numbers_0))), (.dct (svK (kvT e_tup_int_tupl_tup_int_int_tupl_tup_int_int (m_law_gone_lose r numbers_0 rows_0 pick_here_0))))]
theorem cal_law_gone_lose (D : DefAt K mg "_law_gone" s__law_gone P__law_gone) : Cal P w K mg base 1 "_law_gone" 4 Sp_law_gone_lose := by
  refine cal_def D sc__law_gone tb__law_gone (fun f cdv A outer s0 H E hr T TL svs cs sv cs1 hsp hl => ?_)
  cases hsp with
  | @mk r numbers_0 rows_0 pick_here_0 hn hq hw =>
  obtain ⟨R0, h⟩ : ∃ R0, (m_law_gone_lose r numbers_0 rows_0 pick_here_0) = R0 := ⟨_, rfl⟩
  rw [h]
  unfold m_law_gone_lose at h
  have hn1 := hn.1
  have hn2 := hn.2
  have hr1 := hq.1
  have hr2 := hq.2
  show SX _ _ _ [some (.val (.tuple [(.str ("lose" : Str)), (.str r)])), some (.cell 0), some (.cell 1), some (.val (.tuple [(.int pick_here_0.1), (.tuple (pick_here_0.2.1.map pD)), (.tuple (pick_here_0.2.2.map pD))])), none] [(.dct (svK (kvT PyData.int numbers_0))), (.dct (svK (kvT e_tup_int_tupl_tup_int_int_tupl_tup_int_int rows_0)))] _
  refine sx_cons (s1_if (tv_eqS (ev_ixT (ev_name T rfl Lk.here rfl) ev_int rfl) ev_str) (fun z => absurd z (by decide)) (fun _ => ?_))
  refine sx_cons (s1_if (tv_eqS (ev_ixT (ev_name T rfl Lk.here rfl) ev_int rfl) ev_str) (fun z => absurd z (by decide)) (fun _ => ?_))
  refine sx_cons (s1_if (tv_eqS (ev_ixT (ev_name T rfl Lk.here rfl) ev_int rfl) ev_str) (fun z => absurd z (by decide)) (fun _ => ?_))
  refine sx_cons (s1_if (tv_eqS (ev_ixT (ev_name T rfl Lk.here rfl) ev_int rfl) ev_str) (fun _ => ?_) (fun z => absurd z (by decide)))
  have pl5 := putSt_len r pick_here_0 rows_0
  refine sx_cons (s1_dputT (f := e_tup_int_tupl_tup_int_int_tupl_tup_int_int) (kvs := rows_0) (k := r) (y := pick_here_0) hr (ev_name T rfl (Lk.there (Lk.there (Lk.there Lk.here))) rfl) (ev_name T rfl (Lk.there (Lk.there Lk.here)) rfl) (ev_ixT (ev_name T rfl Lk.here rfl) ev_int rfl) rfl (by wtm_at "g.sd") (by wtm_at "g.nd") (PutC.there PutC.here) ?_)
  show SX _ _ _ _ _ _
  refine sx_nil ?_
  show SX _ _ _ _ _ _
  refine sx_nil ?_
  show SX _ _ _ _ _ _
  refine sx_nil ?_
  show SX _ _ _ _ _ _
  refine sx_nil ?_
  show SX _ _ _ _ _ _
  refine sx_nil ?_
  show RetOk _ _ _ _ _
  subst h
  exact ret_val rfl rfl rfl (by wtm_at "d.lt")
end
def RowsW (n : Nat) (rows : List (Str × (Int × List (Int × Int)))) : Prop := ∀ q ∈ rows, q.2.2.length ≤ n
theorem RowsW.get {n : Nat} {rows : List (Str × (Int × List (Int × Int)))} (h : RowsW n rows) (k : Str) : ((lkS rows k).getD (0, ([] : List (Int × Int)))).2.length ≤ n := by
  cases e : lkS rows k with
  | none => exact Nat.zero_le _
  | some v => exact h _ (lkS_mem e)
theorem RowsW.put {n : Nat} {rows : List (Str × (Int × List (Int × Int)))} (h : RowsW n rows) {k : Str} {v : Int × List (Int × Int)} (hv : v.2.length ≤ n) : RowsW n (putSt rows k v) := fun q hq => by
  rcases putSt_mem hq with e | e
  · rw [e]
    exact hv
  · exact h q e
theorem RowsW.mono {a b : Nat} {rows : List (Str × (Int × List (Int × Int)))} (h : RowsW a rows) (h1 : a ≤ b) : RowsW b rows := fun q hq => Nat.le_trans (h q hq) h1
theorem RowsW.mem {n : Nat} {rows : List (Str × (Int × List (Int × Int)))} (h : RowsW n rows) {x : Int × List (Int × Int)} (hx : x ∈ rows.map (·.2)) : x.2.length ≤ n := by
  obtain ⟨q, hq, rfl⟩ := List.mem_map.mp hx
  exact h q hq
theorem lt_frzK {a : Obj} {b : List (Key × L2.V)} (n : Nat) (kvs : List (Key × PyData)) : (CC.frz a b (svK kvs)).lt n = true := by
  simp [CC.lt, SV.lt, svK]
local macro_rules | `(tactic| wtm_at "d.lt") => `(tactic| first | rfl | (simp only [List.all_cons, List.all_nil, lt_svK, lt_map, lt_frzK, Bool.and_true, Bool.true_and]; first | done | rfl) | (simp [CC.lt, SV.lt]; done))
def RowOk (r : Row) : Prop := dkD 3 (Row.D r) = true
theorem trm_ok {t : Trm} (h : (match t with | .is x => PyData.strOk x && true | .rd r p => PyData.strOk r && PyData.strOk p.1) = true) : dkD 2 t.D = true := by
  have e1 : PyData.strOk ("is" : Str) = true := by decide +kernel
  have e2 : PyData.strOk ("at" : Str) = true := by decide +kernel
  cases t with
  | is x => simpa [Trm.D, dkD, e1] using h
  | rd r p => simpa [Trm.D, dkD, e2] using h
theorem place_ok (s : Int) (w : List Str) (n : Int) (hw : w.length = 8) (h : ∀ x ∈ w, PyData.strOk x = true) : PyData.strOk (m_law_place s w n).1 = true := by
  unfold m_law_place
  simp only [letF]
  refine ixD_okS (fun x hx => ?_) (by omega) (by show _ < (4 : Int); omega)
  have := fun i (h0 : (0 : Int) ≤ i) (h1 : i < 8) => ixD_okS h h0 (by rw [hw]; exact h1)
  rcases List.mem_cons.mp hx with rfl | hx
  · decide +kernel
  · rcases List.mem_cons.mp hx with rfl | hx
    · exact this 0 (by decide) (by decide)
    · rcases List.mem_cons.mp hx with rfl | hx
      · exact this 1 (by decide) (by decide)
      · cases List.mem_singleton.mp hx
        exact this 2 (by decide) (by decide)
theorem term_ok (s : Int) (w : List Str) (n : Int) (hw : w.length = 8) (h : ∀ x ∈ w, PyData.strOk x = true) : dkD 2 (m_law_term s w n).D = true := by
  have at8 := fun i (h0 : (0 : Int) ≤ i) (h1 : i < 8) => ixD_okS h h0 (by rw [hw]; exact h1)
  unfold m_law_term
  simp only [letF]
  split
  · refine trm_ok ?_
    dsimp only
    rw [Bool.and_true]
    refine ixD_okS (fun x hx => ?_) (by omega) (by show _ < (4 : Int); omega)
    rcases List.mem_cons.mp hx with rfl | hx
    · decide +kernel
    · rcases List.mem_cons.mp hx with rfl | hx
      · exact at8 0 (by decide) (by decide)
      · rcases List.mem_cons.mp hx with rfl | hx
        · exact at8 1 (by decide) (by decide)
        · cases List.mem_singleton.mp hx
          exact at8 2 (by decide) (by decide)
  · refine trm_ok ?_
    dsimp only
    rw [at8 _ (by omega) (by omega), place_ok _ _ _ hw h]
    rfl
theorem row_okSet {x : Str} {t : Trm} {c : Int} (h1 : PyData.strOk x = true) (h2 : dkD 2 t.D = true) : RowOk (.set x t c) := by
  have e : PyData.strOk ("set" : Str) = true := by decide +kernel
  simp [RowOk, Row.D, dkD, h1, h2, e]
theorem row_okPut {r : Str} {p : Str × Int} {t : Trm} {c : Int} (h1 : PyData.strOk r = true) (h2 : dkD 2 t.D = true) (h3 : PyData.strOk p.1 = true) : RowOk (.put r p t c) := by
  have e : PyData.strOk ("put" : Str) = true := by decide +kernel
  simp [RowOk, Row.D, dkD, h1, h2, h3, e]
theorem row_okAny {x : Str} (h1 : PyData.strOk x = true) : RowOk (.any x) := by
  have e : PyData.strOk ("any" : Str) = true := by decide +kernel
  simp [RowOk, Row.D, dkD, h1, e]
theorem row_okLose {x : Str} (h1 : PyData.strOk x = true) : RowOk (.lose x) := by
  have e : PyData.strOk ("lose" : Str) = true := by decide +kernel
  simp [RowOk, Row.D, dkD, h1, e]
def m_law_start (script_0 : Scr) (w_0 : (List Str)) (near_0 : Int) : LawV := forL (fun (x_3 : Nat) (s_4 : ((List (Str × Int)) × (List (Str × (Int × (List (Int × Int)) × (List (Int × Int))))))) n_1 => letF (m_law_cell_at script_0 (1 + (x_3 : Int))) fun r_5 => letF (r_5 % 2147483647) fun cell_6 => joinF (fun (q_8 : ((List (Str × Int)))) => if (decide (0 < ((cell_6 / 35) % 5))) then letF (m_law_made (cell_6 / 175) near_0) fun r_9 => n_1 (q_8, (putSt s_4.2 (ixD w_0 (3 + (x_3 : Int))) r_9)) else n_1 (q_8, s_4.2)) fun j_1 => if (decide (0 < (cell_6 % 5))) then j_1 ((putSt s_4.1 (ixD w_0 (x_3 : Int)) ((near_0 + ((cell_6 / 5) % 7)) - 3))) else j_1 (s_4.1)) (fun s_4 : ((List (Str × Int)) × (List (Str × (Int × (List (Int × Int)) × (List (Int × Int)))))) => (s_4.1, s_4.2)) (List.range (3 : Int).toNat) (([] : (List (Str × Int))), ([] : (List (Str × (Int × (List (Int × Int)) × (List (Int × Int)))))))
section
variable {P : Program} {w : World} {K : PySem.W.Frag} {mg : Str → Option Value} {base : Heap}
inductive Sp_law_start : Spec
  | mk {script_0 : Scr} {w_0 : (List Str)} {near_0 : Int} (hw : w_0.length = 8) (hn : -100000000000000000 ≤ near_0 ∧ near_0 ≤ 100000000000000000) : Sp_law_start [.val (Scr.D script_0), .val (.list (w_0.map PyData.str)), .val (.int near_0)] [] (.cell 0) [(.tup [.cell 1, .cell 2]), (.dct (svK (kvT PyData.int (m_law_start script_0 w_0 near_0).1))), (.dct (svK (kvT e_tup_int_tupl_tup_int_int_tupl_tup_int_int (m_law_start script_0 w_0 near_0).2)))]
theorem cal_law_start (D : DefAt K mg "_law_start" s__law_start P__law_start) (C_law_cell_at : Cal P w K mg base 1 "_law_cell_at" 2 Sp_law_cell_at) (C_law_made : Cal P w K mg base 2 "_law_made" 2 Sp_law_made) (z_range : mg "range" = none) : Cal P w K mg base 3 "_law_start" 3 Sp_law_start := by
  refine cal_def D sc__law_start tb__law_start (fun f cdv A outer s0 H E hr T TL svs cs sv cs1 hsp hl => ?_)
  cases hsp with
  | @mk script_0 w_0 near_0 hw hn =>
  obtain ⟨R0, h⟩ : ∃ R0, (m_law_start script_0 w_0 near_0) = R0 := ⟨_, rfl⟩
  rw [h]
  unfold m_law_start at h
  show SX _ _ _ [some (.val (Scr.D script_0)), some (.val (.list (w_0.map PyData.str))), some (.val (.int near_0)), none, none, none, none] [] _
  refine sx_cons (s1_set TL rfl (ev_dict0 AppC.nil) (Put.there (Put.there (Put.there Put.here))) ?_ rfl)
  show SX _ _ _ _ _ _
  refine sx_cons (s1_set TL rfl (ev_dict0 (AppC.cons AppC.nil)) (Put.there (Put.there (Put.there (Put.there Put.here)))) ?_ rfl)
  show SX _ _ _ _ _ _
  refine' sx_cons ?lp2
  refine' s1_forK (List.range (3 : Int).toNat) (fun i : Nat => SV.val (.int (i : Int))) _ _ R0 (([] : (List (Str × Int))), ([] : (List (Str × (Int × (List (Int × Int)) × (List (Int × Int))))))) (fun l_1 (s_4 : ((List (Str × Int)) × (List (Str × (Int × (List (Int × Int)) × (List (Int × Int))))))) => (s_4.1.length + 1 * l_1.length ≤ (([] : (List (Str × Int)))).length + 1 * (List.range (3 : Int).toNat).length) ∧ (s_4.2.length + 1 * l_1.length ≤ (([] : (List (Str × (Int × (List (Int × Int)) × (List (Int × Int))))))).length + 1 * (List.range (3 : Int).toNat).length) ∧ ((s_4.1.map (·.1)).Nodup) ∧ ((s_4.2.map (·.1)).Nodup)) h PassesOwn.never rfl (iv_range1 z_range rfl ev_int (by wtm_at "g.sd") (by wtm_at "g.sd")) ?j02 (fun s_4 : ((List (Str × Int)) × (List (Str × (Int × (List (Int × Int)) × (List (Int × Int)))))) => [some (.val (Scr.D script_0)), some (.val (.list (w_0.map PyData.str))), some (.val (.int near_0)), some (.cell 0), some (.cell 1), none, none]) (fun s_4 : ((List (Str × Int)) × (List (Str × (Int × (List (Int × Int)) × (List (Int × Int)))))) => [(.dct (svK (kvT PyData.int s_4.1))), (.dct (svK (kvT e_tup_int_tupl_tup_int_int_tupl_tup_int_int s_4.2)))]) (Le.same (Le.same (Le.same (Le.same (Le.same (Le.lose (Le.lose Le.nil))))))) rfl (fun _ => trivial) ?tu2 ?dn2
  case j02 => wtm_at "g.inv"
  case tu2 =>
    clear h
    rintro x_3 l_1 ⟨c_1, c_2⟩ n_1 hm1 hJ1 h
    have hm1p := hm1
    have hm1 := mem_mid hm1
    have hm1r := List.mem_range.mp hm1
    try dsimp only at h hJ1
    obtain ⟨hJ1_0, hJ1_1, hJ1_2, hJ1_3⟩ := hJ1
    refine gx_name TL rfl (Put.there (Put.there (Put.there (Put.there (Put.there Put.here))))) ?_ rfl
    show SX _ _ _ [some (.val (Scr.D script_0)), some (.val (.list (w_0.map PyData.str))), some (.val (.int near_0)), some (.cell 0), some (.cell 1), some (.val (.int (x_3 : Int))), none] [(.dct (svK (kvT PyData.int c_1))), (.dct (svK (kvT e_tup_int_tupl_tup_int_int_tupl_tup_int_int c_2)))] _
    replace h := letF_elim h
    obtain ⟨r_5, er_5, h⟩ := h
    replace h := letF_elim h
    obtain ⟨cell_6, ecell_6, h⟩ := h
    have p3 := cell_bd script_0 (1 + (x_3 : Int))
    refine sx_cons (s1_set TL rfl (ev_is (t := .val (.int cell_6)) (ev_mod (ev_as (t := .val (.int r_5)) (cs2 := [(.dct (svK (kvT PyData.int c_1))), (.dct (svK (kvT e_tup_int_tupl_tup_int_int_tupl_tup_int_int c_2)))]) (ev_callM (κ := []) C_law_cell_at hr (by decide) rfl (av_cons (ev_name T rfl Lk.here rfl) (av_cons (ev_add ev_int (ev_name T rfl (Lk.there (Lk.there (Lk.there (Lk.there (Lk.there Lk.here))))) rfl)) av_nil)) Sel.nil (RenA.val (RenA.val RenA.nil)) (Sp_law_cell_at.mk (script_0 := script_0) (k_0 := (1 + (x_3 : Int))) (by wtm_at "g.pre")) SetA.nil (List.prefix_refl _) rfl (by decide) rfl) (by subst er_5; rfl) (by subst er_5; rfl)) ev_int (by wtm_at "d.side")) (by subst ecell_6; rfl)) (Put.there (Put.there (Put.there (Put.there (Put.there (Put.there Put.here)))))) ?_ rfl)
    show SX _ _ _ _ _ _
    replace h := joinF_elim h
    obtain ⟨j_1, hj_1, h⟩ := h
    refine' sx_cutA (fun sl1 cs1 => ∃ q_8 : ((List (Str × Int))), j_1 q_8 = R0 ∧ ((q_8.length ≤ (c_1).length + 1) ∧ (q_8.map (·.1)).Nodup) ∧ sl1 = [some (.val (Scr.D script_0)), some (.val (.list (w_0.map PyData.str))), some (.val (.int near_0)), some (.cell 0), some (.cell 1), some (.val (.int (x_3 : Int))), some (.val (.int cell_6))] ∧ cs1 = [(.dct (svK (kvT PyData.int q_8))), (.dct (svK (kvT e_tup_int_tupl_tup_int_int_tupl_tup_int_int c_2)))]) ?st5 ?rest5
    case st5 =>
      refine' s1_if (tv_gt (ev_mod (ev_name T rfl (Lk.there (Lk.there (Lk.there (Lk.there (Lk.there (Lk.there Lk.here)))))) rfl) ev_int (by wtm_at "d.side")) ev_int) ?y5 ?n5
      case y5 =>
        intro hb4
        have hb4x := hb4
        try simp only [Bool.and_eq_true, Bool.or_eq_true, Bool.and_eq_false_iff, Bool.or_eq_false_iff, decide_eq_true_eq, decide_eq_false_iff_not, Bool.not_eq_true', Bool.not_eq_false', Bool.not_eq_eq_eq_not, Bool.not_true, Bool.not_false] at hb4x
        rw [if_pos hb4] at h
        have at6 : L2.atI (w_0.map PyData.str) (x_3 : Int) = some (PyData.str (ixD w_0 (x_3 : Int))) := at_ixD (f := PyData.str) (by wtm_at "g.sd") (by wtm_at "g.sd")
        have pl7 := putSt_len (ixD w_0 (x_3 : Int)) ((near_0 + ((cell_6 / 5) % 7)) - 3) c_1
        refine sx_cons (s1_dputT (f := PyData.int) (kvs := c_1) (k := (ixD w_0 (x_3 : Int))) (y := ((near_0 + ((cell_6 / 5) % 7)) - 3)) hr (ev_sub (ev_add (ev_name T rfl (Lk.there (Lk.there Lk.here)) rfl) (ev_mod (ev_div (ev_name T rfl (Lk.there (Lk.there (Lk.there (Lk.there (Lk.there (Lk.there Lk.here)))))) rfl) ev_int (by wtm_at "d.div")) ev_int (by wtm_at "d.side"))) ev_int) (ev_name T rfl (Lk.there (Lk.there (Lk.there Lk.here))) rfl) (ev_ixLv (ev_name T rfl (Lk.there Lk.here) rfl) (ev_name T rfl (Lk.there (Lk.there (Lk.there (Lk.there (Lk.there Lk.here))))) rfl) at6) rfl (by wtm_at "g.sd") (by wtm_at "g.nd") PutC.here ?_)
        show SX _ _ _ _ _ _
        refine sx_nil ?_
        exact ⟨_, _, ⟨((putSt c_1 (ixD w_0 (x_3 : Int)) ((near_0 + ((cell_6 / 5) % 7)) - 3))), h, (by wtm_at "g.inv"), rfl, rfl⟩, (At.same (Le.same (Le.same (Le.same (Le.same (Le.same (Le.same (Le.same Le.nil))))))))⟩
      case n5 =>
        intro hb4
        have hb4x := hb4
        try simp only [Bool.and_eq_true, Bool.or_eq_true, Bool.and_eq_false_iff, Bool.or_eq_false_iff, decide_eq_true_eq, decide_eq_false_iff_not, Bool.not_eq_true', Bool.not_eq_false', Bool.not_eq_eq_eq_not, Bool.not_true, Bool.not_false] at hb4x
        rw [if_neg (by rw [hb4]; decide)] at h
        refine sx_nil ?_
        exact ⟨_, _, ⟨(c_1), h, (by wtm_at "g.inv"), rfl, rfl⟩, (At.same (Le.same (Le.same (Le.same (Le.same (Le.same (Le.same (Le.same Le.nil))))))))⟩
    clear h
    rintro _ _ ⟨c_7, h, hi1, rfl, rfl⟩
    replace h := hj_1 _ h
    try dsimp only at h hi1
    obtain ⟨hi1_0, hi1_1⟩ := hi1
    show SX _ _ _ [some (.val (Scr.D script_0)), some (.val (.list (w_0.map PyData.str))), some (.val (.int near_0)), some (.cell 0), some (.cell 1), some (.val (.int (x_3 : Int))), some (.val (.int cell_6))] [(.dct (svK (kvT PyData.int c_7))), (.dct (svK (kvT e_tup_int_tupl_tup_int_int_tupl_tup_int_int c_2)))] _
    refine' sx_cons (s1_if (tv_gt (ev_mod (ev_div (ev_name T rfl (Lk.there (Lk.there (Lk.there (Lk.there (Lk.there (Lk.there Lk.here)))))) rfl) ev_int (by wtm_at "d.div")) ev_int (by wtm_at "d.side")) ev_int) ?y9 ?n9)
    case y9 =>
      intro hb8
      have hb8x := hb8
      try simp only [Bool.and_eq_true, Bool.or_eq_true, Bool.and_eq_false_iff, Bool.or_eq_false_iff, decide_eq_true_eq, decide_eq_false_iff_not, Bool.not_eq_true', Bool.not_eq_false', Bool.not_eq_eq_eq_not, Bool.not_true, Bool.not_false] at hb8x
      rw [if_pos hb8] at h
      replace h := letF_elim h
      obtain ⟨r_9, er_9, h⟩ := h
      have at10 : L2.atI (w_0.map PyData.str) (3 + (x_3 : Int)) = some (PyData.str (ixD w_0 (3 + (x_3 : Int)))) := at_ixD (f := PyData.str) (by wtm_at "g.sd") (by wtm_at "g.sd")
      have pl11 := putSt_len (ixD w_0 (3 + (x_3 : Int))) r_9 c_2
      refine sx_cons (s1_dputT (f := e_tup_int_tupl_tup_int_int_tupl_tup_int_int) (kvs := c_2) (k := (ixD w_0 (3 + (x_3 : Int)))) (y := r_9) hr (ev_as (t := .val (.tuple [(.int r_9.1), (.tuple (r_9.2.1.map pD)), (.tuple (r_9.2.2.map pD))])) (cs2 := [(.dct (svK (kvT PyData.int c_7))), (.dct (svK (kvT e_tup_int_tupl_tup_int_int_tupl_tup_int_int c_2)))]) (ev_callM (κ := []) C_law_made hr (by decide) rfl (av_cons (ev_div (ev_name T rfl (Lk.there (Lk.there (Lk.there (Lk.there (Lk.there (Lk.there Lk.here)))))) rfl) ev_int (by wtm_at "d.div")) (av_cons (ev_name T rfl (Lk.there (Lk.there Lk.here)) rfl) av_nil)) Sel.nil (RenA.val (RenA.val RenA.nil)) (Sp_law_made.mk (seed_0 := (cell_6 / 175)) (near_0 := near_0) (by wtm_at "g.pre") (by wtm_at "g.pre")) SetA.nil (List.prefix_refl _) rfl (by decide) rfl) (by subst er_9; rfl) (by subst er_9; rfl)) (ev_name T rfl (Lk.there (Lk.there (Lk.there (Lk.there Lk.here)))) rfl) (ev_ixLv (ev_name T rfl (Lk.there Lk.here) rfl) (ev_add ev_int (ev_name T rfl (Lk.there (Lk.there (Lk.there (Lk.there (Lk.there Lk.here))))) rfl)) at10) rfl (by wtm_at "g.sd") (by wtm_at "g.nd") (PutC.there PutC.here) ?_)
      show SX _ _ _ _ _ _
      refine sx_nil ?_
      show SX _ _ _ _ _ _
      refine sx_nil ?_
      exact ⟨(c_7, (putSt c_2 (ixD w_0 (3 + (x_3 : Int))) r_9)), h, (by wtm_at "g.inv"), (At.same (Le.same (Le.same (Le.same (Le.same (Le.same (Le.lose (Le.lose Le.nil))))))))⟩
    case n9 =>
      intro hb8
      have hb8x := hb8
      try simp only [Bool.and_eq_true, Bool.or_eq_true, Bool.and_eq_false_iff, Bool.or_eq_false_iff, decide_eq_true_eq, decide_eq_false_iff_not, Bool.not_eq_true', Bool.not_eq_false', Bool.not_eq_eq_eq_not, Bool.not_true, Bool.not_false] at hb8x
      rw [if_neg (by rw [hb8]; decide)] at h
      refine sx_nil ?_
      show SX _ _ _ _ _ _
      refine sx_nil ?_
      exact ⟨(c_7, c_2), h, (by wtm_at "g.inv"), (At.same (Le.same (Le.same (Le.same (Le.same (Le.same (Le.lose (Le.lose Le.nil))))))))⟩
  case dn2 =>
    clear h
    rintro ⟨c_1, c_2⟩ hJ1 h slx hlx
    try dsimp only at h hJ1
    refine sx_weak hlx ?_
    obtain ⟨hJ1_0, hJ1_1, hJ1_2, hJ1_3⟩ := hJ1
    show SX _ _ _ [some (.val (Scr.D script_0)), some (.val (.list (w_0.map PyData.str))), some (.val (.int near_0)), some (.cell 0), some (.cell 1), none, none] [(.dct (svK (kvT PyData.int c_1))), (.dct (svK (kvT e_tup_int_tupl_tup_int_int_tupl_tup_int_int c_2)))] _
    refine sx_cons (s1_ret (ev_tupC (av_cons (ev_name T rfl (Lk.there (Lk.there (Lk.there Lk.here))) rfl) (av_cons (ev_name T rfl (Lk.there (Lk.there (Lk.there (Lk.there Lk.here)))) rfl) av_nil)) (AppC.cons (AppC.cons AppC.nil)) rfl) ?_)
    show RetOk _ _ _ _ _
    subst h
    exact ret_gen [2, 0, 1] [2, 0, 1] rfl (by decide) (SelR.cons rfl (RenC.ren rfl rfl) (SelR.cons rfl (RenC.flat (by wtm_at "d.flat")) (SelR.cons rfl (RenC.flat (by wtm_at "d.flat")) SelR.nil))) rfl rfl
end
def m_law_drawn (seed_0 : Int) (w_0 : (List Str)) (near_0 : Int) : Row := letF (seed_0 % 6) fun kind_1 => letF (ixD ([(((seed_0 / 6) % 7) - 3), (((seed_0 * 7919) % 2000000000000000) - 1000000000000000)] : (List Int)) (if (decide (((seed_0 / 42) % 3) = 1)) then 1 else 0 : Int)) fun more_2 => letF (m_law_mix seed_0 1) fun r_3 => letF (m_law_term r_3 w_0 near_0) fun r_4 => if (decide (kind_1 < 2)) then (Row.set (ixD w_0 ((seed_0 / 6) % 3)) r_4 more_2) else if (decide (kind_1 < 4)) then letF (m_law_mix seed_0 2) fun r_5 => letF (m_law_place r_5 w_0 near_0) fun r_6 => (Row.put (ixD w_0 (3 + ((seed_0 / 6) % 3))) r_6 r_4 more_2) else if (decide (kind_1 = 4)) then (Row.any (ixD w_0 ((seed_0 / 6) % 3))) else (Row.lose (ixD w_0 (3 + ((seed_0 / 6) % 3))))
section
variable {P : Program} {w : World} {K : PySem.W.Frag} {mg : Str → Option Value} {base : Heap}
inductive Sp_law_drawn : Spec
  | mk {seed_0 : Int} {w_0 : (List Str)} {near_0 : Int} (hs : 0 ≤ seed_0 ∧ seed_0 < 4294967296) (hw : w_0.length = 8) (hn : -100000000000000000 ≤ near_0 ∧ near_0 ≤ 100000000000000000) : Sp_law_drawn [.val (.int seed_0), .val (.list (w_0.map PyData.str)), .val (.int near_0)] [] (.val (Row.D (m_law_drawn seed_0 w_0 near_0))) []
theorem cal_law_drawn (D : DefAt K mg "_law_drawn" s__law_drawn P__law_drawn) (C_law_mix : Cal P w K mg base 1 "_law_mix" 2 Sp_law_mix) (C_law_term : Cal P w K mg base 2 "_law_term" 3 Sp_law_term) (C_law_place : Cal P w K mg base 1 "_law_place" 3 Sp_law_place) (z_int : mg "int" = none) : Cal P w K mg base 3 "_law_drawn" 3 Sp_law_drawn := by
  refine cal_def D sc__law_drawn tb__law_drawn (fun f cdv A outer s0 H E hr T TL svs cs sv cs1 hsp hl => ?_)
  cases hsp with
  | @mk seed_0 w_0 near_0 hs hw hn =>
  obtain ⟨R0, h⟩ : ∃ R0, (m_law_drawn seed_0 w_0 near_0) = R0 := ⟨_, rfl⟩
  rw [h]
  unfold m_law_drawn at h
  show SX _ _ _ [some (.val (.int seed_0)), some (.val (.list (w_0.map PyData.str))), some (.val (.int near_0)), none, none, none] [] _
  replace h := letF_elim h
  obtain ⟨kind_1, ekind_1, h⟩ := h
  refine sx_cons (s1_set TL rfl (ev_is (t := .val (.int kind_1)) (ev_mod (ev_name T rfl Lk.here rfl) ev_int (by wtm_at "d.side")) (by subst ekind_1; rfl)) (Put.there (Put.there (Put.there Put.here))) ?_ rfl)
  show SX _ _ _ _ _ _
  replace h := letF_elim h
  obtain ⟨more_2, emore_2, h⟩ := h
  have at1 : L2.atI (([(((seed_0 / 6) % 7) - 3), (((seed_0 * 7919) % 2000000000000000) - 1000000000000000)] : (List Int)).map PyData.int) (if (decide (((seed_0 / 42) % 3) = 1)) then 1 else 0 : Int) = some (PyData.int (ixD ([(((seed_0 / 6) % 7) - 3), (((seed_0 * 7919) % 2000000000000000) - 1000000000000000)] : (List Int)) (if (decide (((seed_0 / 42) % 3) = 1)) then 1 else 0 : Int))) := at_ixD (f := PyData.int) (by wtm_at "g.sd") (by wtm_at "g.sd")
  refine sx_cons (s1_set TL rfl (ev_is (t := .val (.int more_2)) (ev_ixLv (ev_lstV (ad_cons (ev_sub (ev_mod (ev_div (ev_name T rfl Lk.here rfl) ev_int (by wtm_at "d.div")) ev_int (by wtm_at "d.side")) ev_int) (ad_cons (ev_sub (ev_mod (ev_mul (ev_name T rfl Lk.here rfl) ev_int (by wtm_at "d.mul")) (ev_is (t := .val (.int 2000000000000000)) (ev_mul ev_int (ev_is (t := .val (.int 1000000000000000)) (ev_pow ev_int ev_int ⟨by decide, by decide, by decide⟩) rfl) (by wtm_at "d.mul")) rfl) (by wtm_at "d.side")) (ev_is (t := .val (.int 1000000000000000)) (ev_pow ev_int ev_int ⟨by decide, by decide, by decide⟩) rfl)) ad_nil)) rfl) (ev_intB z_int rfl (ev_eqI (ev_mod (ev_div (ev_name T rfl Lk.here rfl) ev_int (by wtm_at "d.div")) ev_int (by wtm_at "d.side")) ev_int)) at1) (by subst emore_2; rfl)) (Put.there (Put.there (Put.there (Put.there Put.here)))) ?_ rfl)
  show SX _ _ _ _ _ _
  replace h := letF_elim h
  obtain ⟨r_3, er_3, h⟩ := h
  replace h := letF_elim h
  obtain ⟨r_4, er_4, h⟩ := h
  have p2 := mix_bd seed_0 1
  refine sx_cons (s1_set TL rfl (ev_as (t := .val (Trm.D r_4)) (cs2 := []) (ev_callM (κ := []) C_law_term hr (by decide) rfl (av_cons (ev_as (t := .val (.int r_3)) (cs2 := []) (ev_callM (κ := []) C_law_mix hr (by decide) rfl (av_cons (ev_name T rfl Lk.here rfl) (av_cons ev_int av_nil)) Sel.nil (RenA.val (RenA.val RenA.nil)) (Sp_law_mix.mk (seed_0 := seed_0) (k_0 := 1) (by wtm_at "g.pre") (by wtm_at "g.pre")) SetA.nil (List.prefix_refl _) rfl (by decide) rfl) (by subst er_3; rfl) (by subst er_3; rfl)) (av_cons (ev_name T rfl (Lk.there Lk.here) rfl) (av_cons (ev_name T rfl (Lk.there (Lk.there Lk.here)) rfl) av_nil))) Sel.nil (RenA.val (RenA.val (RenA.val RenA.nil))) (Sp_law_term.mk (seed_0 := r_3) (w_0 := w_0) (near_0 := near_0) (by wtm_at "g.pre") (by wtm_at "g.pre")) SetA.nil (List.prefix_refl _) rfl (by decide) rfl) (by subst er_4; rfl) (by subst er_4; rfl)) (Put.there (Put.there (Put.there (Put.there (Put.there Put.here))))) ?_ rfl)
  show SX _ _ _ _ _ _
  refine' sx_cons (s1_if (tv_lt (ev_name T rfl (Lk.there (Lk.there (Lk.there Lk.here))) rfl) ev_int) ?y4 ?n4)
  case y4 =>
    intro hb3
    have hb3x := hb3
    try simp only [Bool.and_eq_true, Bool.or_eq_true, Bool.and_eq_false_iff, Bool.or_eq_false_iff, decide_eq_true_eq, decide_eq_false_iff_not, Bool.not_eq_true', Bool.not_eq_false', Bool.not_eq_eq_eq_not, Bool.not_true, Bool.not_false] at hb3x
    rw [if_pos hb3] at h
    have at5 : L2.atI (w_0.map PyData.str) ((seed_0 / 6) % 3) = some (PyData.str (ixD w_0 ((seed_0 / 6) % 3))) := at_ixD (f := PyData.str) (by wtm_at "g.sd") (by wtm_at "g.sd")
    refine sx_cons (s1_ret (ev_tup (ad_cons ev_str (ad_cons (ev_ixLv (ev_name T rfl (Lk.there Lk.here) rfl) (ev_mod (ev_div (ev_name T rfl Lk.here rfl) ev_int (by wtm_at "d.div")) ev_int (by wtm_at "d.side")) at5) (ad_cons (ev_name T rfl (Lk.there (Lk.there (Lk.there (Lk.there (Lk.there Lk.here))))) rfl) (ad_cons (ev_name T rfl (Lk.there (Lk.there (Lk.there (Lk.there Lk.here)))) rfl) ad_nil)))) rfl) ?_)
    show RetOk _ _ _ _ _
    subst h
    exact ret_val rfl rfl rfl (by wtm_at "d.lt")
  case n4 =>
    intro hb3
    have hb3x := hb3
    try simp only [Bool.and_eq_true, Bool.or_eq_true, Bool.and_eq_false_iff, Bool.or_eq_false_iff, decide_eq_true_eq, decide_eq_false_iff_not, Bool.not_eq_true', Bool.not_eq_false', Bool.not_eq_eq_eq_not, Bool.not_true, Bool.not_false] at hb3x
    rw [if_neg (by rw [hb3]; decide)] at h
    refine sx_nil ?_
    show SX _ _ _ _ _ _
    refine' sx_cons (s1_if (tv_lt (ev_name T rfl (Lk.there (Lk.there (Lk.there Lk.here))) rfl) ev_int) ?y7 ?n7)
    case y7 =>
      intro hb6
      have hb6x := hb6
      try simp only [Bool.and_eq_true, Bool.or_eq_true, Bool.and_eq_false_iff, Bool.or_eq_false_iff, decide_eq_true_eq, decide_eq_false_iff_not, Bool.not_eq_true', Bool.not_eq_false', Bool.not_eq_eq_eq_not, Bool.not_true, Bool.not_false] at hb6x
      rw [if_pos hb6] at h
      replace h := letF_elim h
      obtain ⟨r_5, er_5, h⟩ := h
      replace h := letF_elim h
      obtain ⟨r_6, er_6, h⟩ := h
      have at8 : L2.atI (w_0.map PyData.str) (3 + ((seed_0 / 6) % 3)) = some (PyData.str (ixD w_0 (3 + ((seed_0 / 6) % 3)))) := at_ixD (f := PyData.str) (by wtm_at "g.sd") (by wtm_at "g.sd")
      have p9 := mix_bd seed_0 2
      refine sx_cons (s1_ret (ev_tup (ad_cons ev_str (ad_cons (ev_ixLv (ev_name T rfl (Lk.there Lk.here) rfl) (ev_add ev_int (ev_mod (ev_div (ev_name T rfl Lk.here rfl) ev_int (by wtm_at "d.div")) ev_int (by wtm_at "d.side"))) at8) (ad_cons (ev_as (t := .val (.tuple [(.str r_6.1), (.int r_6.2)])) (cs2 := []) (ev_callM (κ := []) C_law_place hr (by decide) rfl (av_cons (ev_as (t := .val (.int r_5)) (cs2 := []) (ev_callM (κ := []) C_law_mix hr (by decide) rfl (av_cons (ev_name T rfl Lk.here rfl) (av_cons ev_int av_nil)) Sel.nil (RenA.val (RenA.val RenA.nil)) (Sp_law_mix.mk (seed_0 := seed_0) (k_0 := 2) (by wtm_at "g.pre") (by wtm_at "g.pre")) SetA.nil (List.prefix_refl _) rfl (by decide) rfl) (by subst er_5; rfl) (by subst er_5; rfl)) (av_cons (ev_name T rfl (Lk.there Lk.here) rfl) (av_cons (ev_name T rfl (Lk.there (Lk.there Lk.here)) rfl) av_nil))) Sel.nil (RenA.val (RenA.val (RenA.val RenA.nil))) (Sp_law_place.mk (seed_0 := r_5) (w_0 := w_0) (near_0 := near_0) (by wtm_at "g.pre") (by wtm_at "g.pre")) SetA.nil (List.prefix_refl _) rfl (by decide) rfl) (by subst er_6; rfl) (by subst er_6; rfl)) (ad_cons (ev_name T rfl (Lk.there (Lk.there (Lk.there (Lk.there (Lk.there Lk.here))))) rfl) (ad_cons (ev_name T rfl (Lk.there (Lk.there (Lk.there (Lk.there Lk.here)))) rfl) ad_nil))))) rfl) ?_)
      show RetOk _ _ _ _ _
      subst h
      exact ret_val rfl rfl rfl (by wtm_at "d.lt")
    case n7 =>
      intro hb6
      have hb6x := hb6
      try simp only [Bool.and_eq_true, Bool.or_eq_true, Bool.and_eq_false_iff, Bool.or_eq_false_iff, decide_eq_true_eq, decide_eq_false_iff_not, Bool.not_eq_true', Bool.not_eq_false', Bool.not_eq_eq_eq_not, Bool.not_true, Bool.not_false] at hb6x
      rw [if_neg (by rw [hb6]; decide)] at h
      refine sx_nil ?_
      show SX _ _ _ _ _ _
      refine' sx_cons (s1_if (tv_eqI (ev_name T rfl (Lk.there (Lk.there (Lk.there Lk.here))) rfl) ev_int) ?y11 ?n11)
      case y11 =>
        intro hb10
        have hb10x := hb10
        try simp only [Bool.and_eq_true, Bool.or_eq_true, Bool.and_eq_false_iff, Bool.or_eq_false_iff, decide_eq_true_eq, decide_eq_false_iff_not, Bool.not_eq_true', Bool.not_eq_false', Bool.not_eq_eq_eq_not, Bool.not_true, Bool.not_false] at hb10x
        rw [if_pos hb10] at h
        have at12 : L2.atI (w_0.map PyData.str) ((seed_0 / 6) % 3) = some (PyData.str (ixD w_0 ((seed_0 / 6) % 3))) := at_ixD (f := PyData.str) (by wtm_at "g.sd") (by wtm_at "g.sd")
        refine sx_cons (s1_ret (ev_tup (ad_cons ev_str (ad_cons (ev_ixLv (ev_name T rfl (Lk.there Lk.here) rfl) (ev_mod (ev_div (ev_name T rfl Lk.here rfl) ev_int (by wtm_at "d.div")) ev_int (by wtm_at "d.side")) at12) ad_nil)) rfl) ?_)
        show RetOk _ _ _ _ _
        subst h
        exact ret_val rfl rfl rfl (by wtm_at "d.lt")
      case n11 =>
        intro hb10
        have hb10x := hb10
        try simp only [Bool.and_eq_true, Bool.or_eq_true, Bool.and_eq_false_iff, Bool.or_eq_false_iff, decide_eq_true_eq, decide_eq_false_iff_not, Bool.not_eq_true', Bool.not_eq_false', Bool.not_eq_eq_eq_not, Bool.not_true, Bool.not_false] at hb10x
        rw [if_neg (by rw [hb10]; decide)] at h
        refine sx_nil ?_
        show SX _ _ _ _ _ _
        have at13 : L2.atI (w_0.map PyData.str) (3 + ((seed_0 / 6) % 3)) = some (PyData.str (ixD w_0 (3 + ((seed_0 / 6) % 3)))) := at_ixD (f := PyData.str) (by wtm_at "g.sd") (by wtm_at "g.sd")
        refine sx_cons (s1_ret (ev_tup (ad_cons ev_str (ad_cons (ev_ixLv (ev_name T rfl (Lk.there Lk.here) rfl) (ev_add ev_int (ev_mod (ev_div (ev_name T rfl Lk.here rfl) ev_int (by wtm_at "d.div")) ev_int (by wtm_at "d.side"))) at13) ad_nil)) rfl) ?_)
        show RetOk _ _ _ _ _
        subst h
        exact ret_val rfl rfl rfl (by wtm_at "d.lt")
end
def m_law_pick_any (seed_0 : Int) (x : Str) (near_0 : Int) : Int := (ixD ([((near_0 + (seed_0 % 7)) - 3), (((seed_0 * 982451653) % 200000000000000000) - 100000000000000000)] : (List Int)) ((seed_0 / 7) % 2))
section
variable {P : Program} {w : World} {K : PySem.W.Frag} {mg : Str → Option Value} {base : Heap}
inductive Sp_law_pick_any : Spec
  | mk {seed_0 : Int} {x : Str} {near_0 : Int} (hs : 0 ≤ seed_0 ∧ seed_0 < 4294967296) (hn : -100000000000000000 ≤ near_0 ∧ near_0 ≤ 100000000000000000) : Sp_law_pick_any [.val (.int seed_0), .val (.tuple [(.str ("any" : Str)), (.str x)]), .val (.int near_0)] [] (.val (.int (m_law_pick_any seed_0 x near_0))) []
theorem cal_law_pick_any (D : DefAt K mg "_law_pick" s__law_pick P__law_pick) : Cal P w K mg base 1 "_law_pick" 3 Sp_law_pick_any := by
  refine cal_def D sc__law_pick tb__law_pick (fun f cdv A outer s0 H E hr T TL svs cs sv cs1 hsp hl => ?_)
  cases hsp with
  | @mk seed_0 x near_0 hs hn =>
  obtain ⟨R0, h⟩ : ∃ R0, (m_law_pick_any seed_0 x near_0) = R0 := ⟨_, rfl⟩
  rw [h]
  unfold m_law_pick_any at h
  show SX _ _ _ [some (.val (.int seed_0)), some (.val (.tuple [(.str ("any" : Str)), (.str x)])), some (.val (.int near_0))] [] _
  refine sx_cons (s1_if (tv_eqS (ev_ixT (ev_name T rfl (Lk.there Lk.here) rfl) ev_int rfl) ev_str) (fun _ => ?_) (fun z => absurd z (by decide)))
  have at2 : L2.atI (([((near_0 + (seed_0 % 7)) - 3), (((seed_0 * 982451653) % 200000000000000000) - 100000000000000000)] : (List Int)).map PyData.int) ((seed_0 / 7) % 2) = some (PyData.int (ixD ([((near_0 + (seed_0 % 7)) - 3), (((seed_0 * 982451653) % 200000000000000000) - 100000000000000000)] : (List Int)) ((seed_0 / 7) % 2))) := at_ixD (f := PyData.int) (by wtm_at "g.sd") (by wtm_at "g.sd")
  refine sx_cons (s1_ret (ev_ixLv (ev_lstV (ad_cons (ev_sub (ev_add (ev_name T rfl (Lk.there (Lk.there Lk.here)) rfl) (ev_mod (ev_name T rfl Lk.here rfl) ev_int (by wtm_at "d.side"))) ev_int) (ad_cons (ev_sub (ev_mod (ev_mul (ev_name T rfl Lk.here rfl) ev_int (by wtm_at "d.mul")) (ev_is (t := .val (.int 200000000000000000)) (ev_mul ev_int (ev_is (t := .val (.int 100000000000000000)) (ev_pow ev_int ev_int ⟨by decide, by decide, by decide⟩) rfl) (by wtm_at "d.mul")) rfl) (by wtm_at "d.side")) (ev_is (t := .val (.int 100000000000000000)) (ev_pow ev_int ev_int ⟨by decide, by decide, by decide⟩) rfl)) ad_nil)) rfl) (ev_mod (ev_div (ev_name T rfl Lk.here rfl) ev_int (by wtm_at "d.div")) ev_int (by wtm_at "d.side")) at2) ?_)
  show RetOk _ _ _ _ _
  subst h
  exact ret_val rfl rfl rfl (by wtm_at "d.lt")
end
def m_law_pick_lose (seed_0 : Int) (r : Str) (near_0 : Int) : (Int × (List (Int × Int)) × (List (Int × Int))) := letF (m_law_made seed_0 near_0) fun r_1 => r_1
section
variable {P : Program} {w : World} {K : PySem.W.Frag} {mg : Str → Option Value} {base : Heap}
inductive Sp_law_pick_lose : Spec
  | mk {seed_0 : Int} {r : Str} {near_0 : Int} (hs : 0 ≤ seed_0 ∧ seed_0 < 4294967296) (hn : -100000000000000000 ≤ near_0 ∧ near_0 ≤ 100000000000000000) : Sp_law_pick_lose [.val (.int seed_0), .val (.tuple [(.str ("lose" : Str)), (.str r)]), .val (.int near_0)] [] (.val (.tuple [(.int (m_law_pick_lose seed_0 r near_0).1), (.tuple ((m_law_pick_lose seed_0 r near_0).2.1.map pD)), (.tuple ((m_law_pick_lose seed_0 r near_0).2.2.map pD))])) []
theorem cal_law_pick_lose (D : DefAt K mg "_law_pick" s__law_pick P__law_pick) (C_law_made : Cal P w K mg base 2 "_law_made" 2 Sp_law_made) : Cal P w K mg base 3 "_law_pick" 3 Sp_law_pick_lose := by
  refine cal_def D sc__law_pick tb__law_pick (fun f cdv A outer s0 H E hr T TL svs cs sv cs1 hsp hl => ?_)
  cases hsp with
  | @mk seed_0 r near_0 hs hn =>
  obtain ⟨R0, h⟩ : ∃ R0, (m_law_pick_lose seed_0 r near_0) = R0 := ⟨_, rfl⟩
  rw [h]
  unfold m_law_pick_lose at h
  show SX _ _ _ [some (.val (.int seed_0)), some (.val (.tuple [(.str ("lose" : Str)), (.str r)])), some (.val (.int near_0))] [] _
  refine sx_cons (s1_if (tv_eqS (ev_ixT (ev_name T rfl (Lk.there Lk.here) rfl) ev_int rfl) ev_str) (fun z => absurd z (by decide)) (fun _ => ?_))
  refine sx_nil ?_
  show SX _ _ _ _ _ _
  replace h := letF_elim h
  obtain ⟨r_1, er_1, h⟩ := h
  refine sx_cons (s1_ret (ev_as (t := .val (.tuple [(.int r_1.1), (.tuple (r_1.2.1.map pD)), (.tuple (r_1.2.2.map pD))])) (cs2 := []) (ev_callM (κ := []) C_law_made hr (by decide) rfl (av_cons (ev_name T rfl Lk.here rfl) (av_cons (ev_name T rfl (Lk.there (Lk.there Lk.here)) rfl) av_nil)) Sel.nil (RenA.val (RenA.val RenA.nil)) (Sp_law_made.mk (seed_0 := seed_0) (near_0 := near_0) (by wtm_at "g.pre") (by wtm_at "g.pre")) SetA.nil (List.prefix_refl _) rfl (by decide) rfl) (by subst er_1; rfl) (by subst er_1; rfl)) ?_)
  show RetOk _ _ _ _ _
  subst h
  exact ret_val rfl rfl rfl (by wtm_at "d.lt")
end
def m_law_alike (found_0 : ThrV) (due_0 : DueV) : Bool := if ((!true) || ((!decide ((3 : Int) = 3)) || (!decide (("through" : Str) = ("through" : Str))))) then false else forL (fun (x_6 : (Int × (List (Int × Int)))) (s_7 : ((List Int))) n_1 => forL (fun (x_13 : (Int × Int)) (s_14 : ((List Int))) n_2 => n_2 ((s_14 ++ ([x_13.1, x_13.2] : List Int)))) (fun s_14 : ((List Int)) => n_1 (s_14)) x_6.2 ((s_7 ++ [x_6.1]))) (fun s_7 : ((List Int)) => if (!((s_7.map fun (y_15 : Int) => (true && true)).all id)) then false else (true && true)) (found_0.2.map (·.2)) ((found_0.1.map (·.2)))
section
variable {P : Program} {w : World} {K : PySem.W.Frag} {mg : Str → Option Value} {base : Heap}
inductive Sp_law_alike : Spec
  | mk {found_0 : ThrV} {due_0 : DueV} (he : found_0 = due_0) (hs0 : due_0.1.length ≤ 200 ∧ due_0.2.length ≤ 60) (hw0 : RowsW 400 due_0.2) (hd : (due_0.1.map (·.1)).Nodup ∧ (due_0.2.map (·.1)).Nodup) : Sp_law_alike [.cell 0, .cell 3] [(.tup [.val (.str ("through" : Str)), .cell 1, .cell 2]), (.dct (svK (kvT PyData.int found_0.1))), (.dct (svK (kvT e_tup_int_tupl_tup_int_int found_0.2))), (.tup [.cell 4, .cell 5]), (.dct (svK (kvT PyData.int due_0.1))), (.dct (svK (kvT e_tup_int_tupl_tup_int_int due_0.2)))] (.val (.bool (m_law_alike found_0 due_0))) [(.tup [.val (.str ("through" : Str)), .cell 1, .cell 2]), (.dct (svK (kvT PyData.int found_0.1))), (.dct (svK (kvT e_tup_int_tupl_tup_int_int found_0.2))), (.tup [.cell 4, .cell 5]), (.dct (svK (kvT PyData.int due_0.1))), (.dct (svK (kvT e_tup_int_tupl_tup_int_int due_0.2)))]
theorem cal_law_alike (D : DefAt K mg "_law_alike" s__law_alike P__law_alike) (z_all : mg "all" = none) (z_bool : mg "bool" = none) (z_dict : mg "dict" = none) (z_int : mg "int" = none) (z_isinstance : mg "isinstance" = none) (z_len : mg "len" = none) (z_list : mg "list" = none) (z_tuple : mg "tuple" = none) : Cal P w K mg base 1 "_law_alike" 2 Sp_law_alike := by
  refine cal_def D sc__law_alike tb__law_alike (fun f cdv A outer s0 H E hr T TL svs cs sv cs1 hsp hl => ?_)
  cases hsp with
  | @mk found_0 due_0 he hs0 hw0 hd =>
  obtain ⟨R0, h⟩ : ∃ R0, (m_law_alike found_0 due_0) = R0 := ⟨_, rfl⟩
  rw [h]
  unfold m_law_alike at h
  have hs : found_0.1.length ≤ 200 ∧ found_0.2.length ≤ 60 := by rw [he]; exact hs0
  have hw : RowsW 400 found_0.2 := by rw [he]; exact hw0
  have hd1 := hd.1
  have hd2 := hd.2
  show SX _ _ _ [some (.cell 0), some (.cell 3), none, none, none, none] [(.tup [.val (.str ("through" : Str)), .cell 1, .cell 2]), (.dct (svK (kvT PyData.int found_0.1))), (.dct (svK (kvT e_tup_int_tupl_tup_int_int found_0.2))), (.tup [.cell 4, .cell 5]), (.dct (svK (kvT PyData.int due_0.1))), (.dct (svK (kvT e_tup_int_tupl_tup_int_int due_0.2)))] _
  refine' sx_cons (s1_if (tv_w (wv_or (tv_not (tv_val (ev_isiC (T' := "tuple") (ty := "tuple") (k := true) z_isinstance rfl (ev_name T rfl Lk.here rfl) (Kind.cell rfl rfl) z_tuple rfl (by decide +kernel) (kit_ty (by decide +kernel))))) (fun hk1 => (by
    have hk1x := hk1
    try simp only [Bool.and_eq_true, Bool.or_eq_true, Bool.and_eq_false_iff, Bool.or_eq_false_iff, decide_eq_true_eq, decide_eq_false_iff_not, Bool.not_eq_true', Bool.not_eq_false', Bool.not_eq_eq_eq_not, Bool.not_true, Bool.not_false] at hk1x
    exact (wv_or (tv_neI (ev_is (t := .val (.int 3)) (ev_len z_len rfl (ev_name T rfl Lk.here rfl) (rc_lenC rfl)) rfl) ev_int) (fun hk2 => (by
      have hk2x := hk2
      try simp only [Bool.and_eq_true, Bool.or_eq_true, Bool.and_eq_false_iff, Bool.or_eq_false_iff, decide_eq_true_eq, decide_eq_false_iff_not, Bool.not_eq_true', Bool.not_eq_false', Bool.not_eq_eq_eq_not, Bool.not_true, Bool.not_false] at hk2x
      exact (wv_or1 (tv_neS (ev_ixC (ev_name T rfl Lk.here rfl) ev_int rfl rfl) ev_str))))))))) ?y4 ?n4)
  case y4 =>
    intro hb3
    have hb3x := hb3
    try simp only [Bool.and_eq_true, Bool.or_eq_true, Bool.and_eq_false_iff, Bool.or_eq_false_iff, decide_eq_true_eq, decide_eq_false_iff_not, Bool.not_eq_true', Bool.not_eq_false', Bool.not_eq_eq_eq_not, Bool.not_true, Bool.not_false] at hb3x
    rw [if_pos hb3] at h
    refine sx_cons (s1_ret ev_bool ?_)
    show RetOk _ _ _ _ _
    subst h
    exact ret_val rfl rfl rfl (by wtm_at "d.lt")
  case n4 =>
    intro hb3
    have hb3x := hb3
    try simp only [Bool.and_eq_true, Bool.or_eq_true, Bool.and_eq_false_iff, Bool.or_eq_false_iff, decide_eq_true_eq, decide_eq_false_iff_not, Bool.not_eq_true', Bool.not_eq_false', Bool.not_eq_eq_eq_not, Bool.not_true, Bool.not_false] at hb3x
    rw [if_neg (by rw [hb3]; decide)] at h
    refine sx_nil ?_
    show SX _ _ _ _ _ _
    refine sx_cons (s1_if (tv_w (wv_or (tv_not (tv_val (ev_isiC (T' := "dict") (ty := "dict") (k := true) z_isinstance rfl (ev_ixC (ev_name T rfl Lk.here rfl) ev_int rfl rfl) (Kind.cell rfl rfl) z_dict rfl (by decide +kernel) (kit_ty (by decide +kernel))))) (fun hk5 => (by
      have hk5x := hk5
      try simp only [Bool.and_eq_true, Bool.or_eq_true, Bool.and_eq_false_iff, Bool.or_eq_false_iff, decide_eq_true_eq, decide_eq_false_iff_not, Bool.not_eq_true', Bool.not_eq_false', Bool.not_eq_eq_eq_not, Bool.not_true, Bool.not_false] at hk5x
      exact (wv_or1 (tv_not (tv_val (ev_isiC (T' := "dict") (ty := "dict") (k := true) z_isinstance rfl (ev_ixC (ev_name T rfl Lk.here rfl) ev_int rfl rfl) (Kind.cell rfl rfl) z_dict rfl (by decide +kernel) (kit_ty (by decide +kernel)))))))))) (fun z => absurd z (by decide)) (fun _ => ?_))
    refine sx_nil ?_
    show SX _ _ _ _ _ _
    refine sx_cons (s1_set TL rfl (ev_listValsC (f := PyData.int) (kvs := found_0.1) rfl z_list rfl (ev_ixC (ev_name T rfl Lk.here rfl) ev_int rfl rfl) (IsD.cell rfl) (AppC.cons (AppC.cons (AppC.cons (AppC.cons (AppC.cons (AppC.cons AppC.nil))))))) (Put.there (Put.there Put.here)) ?_ rfl)
    show SX _ _ _ _ _ _
    refine sx_cons (s1_lock (k := 2) rfl fun od_7 us_7 => ?_)
    show S1 _ _ _ [some (.cell 0), some (.cell 3), some (.cell 6), none, none, none] [(.tup [.val (.str ("through" : Str)), .cell 1, .cell 2]), (.dct (svK (kvT PyData.int found_0.1))), (.frz od_7 us_7 (svK (kvT e_tup_int_tupl_tup_int_int found_0.2))), (.tup [.cell 4, .cell 5]), (.dct (svK (kvT PyData.int due_0.1))), (.dct (svK (kvT e_tup_int_tupl_tup_int_int due_0.2))), (.lst (((found_0.1.map (·.2)).map PyData.int).map SV.val))] _
    refine' s1_forK (found_0.2.map (·.2)) (fun x => SV.val (e_tup_int_tupl_tup_int_int x)) _ _ R0 ((found_0.1.map (·.2))) (fun l_1 (s_7 : ((List Int))) => (s_7.length + 801 * l_1.length ≤ 48300)) h PassesOwn.never rfl (iv_vals (f := e_tup_int_tupl_tup_int_int) (kvs := found_0.2) (ev_ixC (ev_name T rfl Lk.here rfl) ev_int rfl rfl) rfl) ?j09 (fun s_7 : ((List Int)) => [some (.cell 0), some (.cell 3), some (.cell 6), none, none, none]) (fun s_7 : ((List Int)) => [(.tup [.val (.str ("through" : Str)), .cell 1, .cell 2]), (.dct (svK (kvT PyData.int found_0.1))), (.frz od_7 us_7 (svK (kvT e_tup_int_tupl_tup_int_int found_0.2))), (.tup [.cell 4, .cell 5]), (.dct (svK (kvT PyData.int due_0.1))), (.dct (svK (kvT e_tup_int_tupl_tup_int_int due_0.2))), (.lst ((s_7.map PyData.int).map SV.val))]) (Le.same (Le.same (Le.same (Le.lose (Le.lose (Le.lose Le.nil)))))) rfl (by intro _; rfl) ?tu9 ?dn9
    case j09 => wtm_at "g.inv"
    case tu9 =>
      clear h
      rintro x_6 l_1 c_5 n_1 hm8 hJ1 h
      have hm8p := hm8
      have hm8 := mem_mid hm8
      have hm8r := RowsW.mem hw hm8
      try dsimp only at h hJ1
      refine gx_name TL rfl (Put.there (Put.there (Put.there Put.here))) ?_ rfl
      show SX _ _ _ [some (.cell 0), some (.cell 3), some (.cell 6), some (.val (.tuple [(.int x_6.1), (.tuple (x_6.2.map pD))])), none, none] [(.tup [.val (.str ("through" : Str)), .cell 1, .cell 2]), (.dct (svK (kvT PyData.int found_0.1))), (.frz od_7 us_7 (svK (kvT e_tup_int_tupl_tup_int_int found_0.2))), (.tup [.cell 4, .cell 5]), (.dct (svK (kvT PyData.int due_0.1))), (.dct (svK (kvT e_tup_int_tupl_tup_int_int due_0.2))), (.lst ((c_5.map PyData.int).map SV.val))] _
      refine sx_cons (s1_if (tv_w (wv_or (tv_not (tv_val (ev_is (t := .val (.bool true)) (ev_isTup z_isinstance rfl (ev_name T rfl (Lk.there (Lk.there (Lk.there Lk.here))) rfl) z_tuple rfl) rfl))) (fun hk10 => (by
        have hk10x := hk10
        try simp only [Bool.and_eq_true, Bool.or_eq_true, Bool.and_eq_false_iff, Bool.or_eq_false_iff, decide_eq_true_eq, decide_eq_false_iff_not, Bool.not_eq_true', Bool.not_eq_false', Bool.not_eq_eq_eq_not, Bool.not_true, Bool.not_false] at hk10x
        exact (wv_or (tv_neI (ev_is (t := .val (.int 2)) (ev_len z_len rfl (ev_name T rfl (Lk.there (Lk.there (Lk.there Lk.here))) rfl) (rc_lenT)) rfl) ev_int) (fun hk11 => (by
          have hk11x := hk11
          try simp only [Bool.and_eq_true, Bool.or_eq_true, Bool.and_eq_false_iff, Bool.or_eq_false_iff, decide_eq_true_eq, decide_eq_false_iff_not, Bool.not_eq_true', Bool.not_eq_false', Bool.not_eq_eq_eq_not, Bool.not_true, Bool.not_false] at hk11x
          exact (wv_or1 (tv_not (tv_val (ev_is (t := .val (.bool true)) (ev_isTup z_isinstance rfl (ev_ixT (ev_name T rfl (Lk.there (Lk.there (Lk.there Lk.here))) rfl) ev_int rfl) z_tuple rfl) rfl))))))))))) (fun z => absurd z (by decide)) (fun _ => ?_))
      refine sx_nil ?_
      show SX _ _ _ _ _ _
      refine sx_cons (s1_expr (ev_appT (f := PyData.int) (l := c_5) (y := x_6.1) (ev_name T rfl (Lk.there (Lk.there Lk.here)) rfl) (ev_ixT (ev_name T rfl (Lk.there (Lk.there (Lk.there Lk.here))) rfl) ev_int rfl) rfl rfl (PutC.there (PutC.there (PutC.there (PutC.there (PutC.there (PutC.there PutC.here)))))) (by wtm_at "g.sd")) ?_)
      show SX _ _ _ _ _ _
      refine' sx_cons ?lp14
      refine' s1_forK x_6.2 (fun x => SV.val (pD x)) _ _ R0 ((c_5 ++ [x_6.1])) (fun l_2 (s_14 : ((List Int))) => (s_14.length + 2 * l_2.length ≤ ((c_5 ++ [x_6.1])).length + 2 * x_6.2.length)) h PassesOwn.never rfl (iv_mapC (iv_tup (ds := x_6.2.map pD) (ev_ixT (ev_name T rfl (Lk.there (Lk.there (Lk.there Lk.here))) rfl) ev_int rfl))) ?j014 (fun s_14 : ((List Int)) => [some (.cell 0), some (.cell 3), some (.cell 6), some (.val (.tuple [(.int x_6.1), (.tuple (x_6.2.map pD))])), none, none]) (fun s_14 : ((List Int)) => [(.tup [.val (.str ("through" : Str)), .cell 1, .cell 2]), (.dct (svK (kvT PyData.int found_0.1))), (.frz od_7 us_7 (svK (kvT e_tup_int_tupl_tup_int_int found_0.2))), (.tup [.cell 4, .cell 5]), (.dct (svK (kvT PyData.int due_0.1))), (.dct (svK (kvT e_tup_int_tupl_tup_int_int due_0.2))), (.lst ((s_14.map PyData.int).map SV.val))]) (Le.same (Le.same (Le.same (Le.same (Le.lose (Le.lose Le.nil)))))) rfl (fun _ => trivial) ?tu14 ?dn14
      case j014 => wtm_at "g.inv"
      case tu14 =>
        clear h
        rintro x_13 l_2 c_12 n_2 hm13 hJ2 h
        have hm13p := hm13
        have hm13 := mem_mid hm13
        try dsimp only at h hJ2
        refine gx_name TL rfl (Put.there (Put.there (Put.there (Put.there Put.here)))) ?_ rfl
        show SX _ _ _ [some (.cell 0), some (.cell 3), some (.cell 6), some (.val (.tuple [(.int x_6.1), (.tuple (x_6.2.map pD))])), some (.val (.tuple [(.int x_13.1), (.int x_13.2)])), none] [(.tup [.val (.str ("through" : Str)), .cell 1, .cell 2]), (.dct (svK (kvT PyData.int found_0.1))), (.frz od_7 us_7 (svK (kvT e_tup_int_tupl_tup_int_int found_0.2))), (.tup [.cell 4, .cell 5]), (.dct (svK (kvT PyData.int due_0.1))), (.dct (svK (kvT e_tup_int_tupl_tup_int_int due_0.2))), (.lst ((c_12.map PyData.int).map SV.val))] _
        refine sx_cons (s1_expr (ev_extT (f := PyData.int) (l := c_12) (m := ([x_13.1, x_13.2] : List Int)) (ev_name T rfl (Lk.there (Lk.there Lk.here)) rfl) (ev_listC (xs := (([x_13.1, x_13.2] : List Int).map PyData.int).map SV.val) z_list rfl (ev_name T rfl (Lk.there (Lk.there (Lk.there (Lk.there Lk.here)))) rfl) IsQ.t (AppC.cons (AppC.cons (AppC.cons (AppC.cons (AppC.cons (AppC.cons (AppC.cons AppC.nil)))))))) rfl rfl rfl (PutC.there (PutC.there (PutC.there (PutC.there (PutC.there (PutC.there PutC.here)))))) (by wtm_at "g.sd")) ?_)
        show SX _ _ _ _ _ _
        refine sx_nil ?_
        exact ⟨((c_12 ++ ([x_13.1, x_13.2] : List Int))), h, (by wtm_at "g.inv"), (At.drop (Le.same (Le.same (Le.same (Le.same (Le.lose (Le.lose Le.nil)))))) (by wtm_at "g.okS") (by wtm_at "d.lt") rfl)⟩
      case dn14 =>
        clear h
        rintro c_12 hJ2 h slx hlx
        try dsimp only at h hJ2
        refine sx_weak hlx ?_
        show SX _ _ _ [some (.cell 0), some (.cell 3), some (.cell 6), some (.val (.tuple [(.int x_6.1), (.tuple (x_6.2.map pD))])), none, none] [(.tup [.val (.str ("through" : Str)), .cell 1, .cell 2]), (.dct (svK (kvT PyData.int found_0.1))), (.frz od_7 us_7 (svK (kvT e_tup_int_tupl_tup_int_int found_0.2))), (.tup [.cell 4, .cell 5]), (.dct (svK (kvT PyData.int due_0.1))), (.dct (svK (kvT e_tup_int_tupl_tup_int_int due_0.2))), (.lst ((c_12.map PyData.int).map SV.val))] _
        refine sx_nil ?_
        exact ⟨(c_12), h, (by wtm_at "g.inv"), (At.same (Le.same (Le.same (Le.same (Le.lose (Le.lose (Le.lose Le.nil)))))))⟩
    case dn9 =>
      clear h
      rintro c_5 hJ1 h slx hlx
      try dsimp only at h hJ1
      refine ⟨rfl, ?_⟩
      refine sx_weak hlx ?_
      show SX _ _ _ [some (.cell 0), some (.cell 3), some (.cell 6), none, none, none] [(.tup [.val (.str ("through" : Str)), .cell 1, .cell 2]), (.dct (svK (kvT PyData.int found_0.1))), (.dct (svK (kvT e_tup_int_tupl_tup_int_int found_0.2))), (.tup [.cell 4, .cell 5]), (.dct (svK (kvT PyData.int due_0.1))), (.dct (svK (kvT e_tup_int_tupl_tup_int_int due_0.2))), (.lst ((c_5.map PyData.int).map SV.val))] _
      refine' sx_cons (s1_if (tv_not (tv_val (ev_all (bs := (c_5.map fun (y_15 : Int) => (true && true))) rfl z_all rfl (ev_LC rfl T.nd (blkOk_by (N := N__law_alike) (sc := defScope s__law_alike) (by decide +kernel)) (lc_as (es := (c_5.map fun (y_15 : Int) => (true && true)).map PyData.bool) (lc_K (own := [("_law_one", 5)]) c_5 (fun x => SV.val (PyData.int x)) (by exact (iv_mapC (iv_cell (ev_name T rfl (Lk.there (Lk.there Lk.here)) rfl) rfl))) (fun y_15 => (.bool (true && true))) (fun y_15 => [some (.cell 0), some (.cell 3), some (.cell 6), none, none, some (.val (.int y_15))]) (fun _ => [(.tup [.val (.str ("through" : Str)), .cell 1, .cell 2]), (.dct (svK (kvT PyData.int found_0.1))), (.dct (svK (kvT e_tup_int_tupl_tup_int_int found_0.2))), (.tup [.cell 4, .cell 5]), (.dct (svK (kvT PyData.int due_0.1))), (.dct (svK (kvT e_tup_int_tupl_tup_int_int due_0.2))), (.lst ((c_5.map PyData.int).map SV.val))]) (by wtm_at "g.sd") (by first | exact trivial | rfl) (fun y_15 hm16 st H0 C0 cl fp => gw_name T.nd rfl (Put.there (Put.there (Put.there (Put.there (Put.there Put.here))))) (by decide) ⟨rfl, rfl⟩) (fun y_15 hm16 => ⟨fun st H0 C0 cl fp => (by

          exact (ev_and (ev_is (t := .val (.bool true)) (ev_isInt z_isinstance rfl (ev_nameV T.nd rfl (Lk.there (Lk.there (Lk.there (Lk.there (Lk.there Lk.here)))))) z_int rfl) rfl) (fun hk15 => (by
          have hk15x := hk15
          try simp only [Bool.and_eq_true, Bool.or_eq_true, Bool.and_eq_false_iff, Bool.or_eq_false_iff, decide_eq_true_eq, decide_eq_false_iff_not, Bool.not_eq_true', Bool.not_eq_false', Bool.not_eq_eq_eq_not, Bool.not_true, Bool.not_false] at hk15x
          exact (ev_and1 (ev_is (t := .val (.bool true)) (ev_not (ev_is (t := .val (.bool false)) (ev_isBool z_isinstance rfl (ev_nameV T.nd rfl (Lk.there (Lk.there (Lk.there (Lk.there (Lk.there Lk.here)))))) z_bool rfl) rfl)) rfl)))))), AtC.same⟩)) (by rw [List.map_map]; rfl) rfl))))) ?y18 ?n18)
      case y18 =>
        intro hb17
        have hb17x := hb17
        try simp only [Bool.and_eq_true, Bool.or_eq_true, Bool.and_eq_false_iff, Bool.or_eq_false_iff, decide_eq_true_eq, decide_eq_false_iff_not, Bool.not_eq_true', Bool.not_eq_false', Bool.not_eq_eq_eq_not, Bool.not_true, Bool.not_false] at hb17x
        rw [if_pos hb17] at h
        refine sx_cons (s1_ret ev_bool ?_)
        show RetOk _ _ _ _ _
        subst h
        exact ret_val rfl rfl rfl (by wtm_at "d.lt")
      case n18 =>
        intro hb17
        have hb17x := hb17
        try simp only [Bool.and_eq_true, Bool.or_eq_true, Bool.and_eq_false_iff, Bool.or_eq_false_iff, decide_eq_true_eq, decide_eq_false_iff_not, Bool.not_eq_true', Bool.not_eq_false', Bool.not_eq_eq_eq_not, Bool.not_true, Bool.not_false] at hb17x
        rw [if_neg (by rw [hb17]; decide)] at h
        refine sx_nil ?_
        show SX _ _ _ _ _ _
        refine sx_cons (s1_ret (ev_and (ev_eqDD hr (ev_ixC (ev_name T rfl Lk.here rfl) ev_int rfl rfl) (ev_ixC (ev_name T rfl (Lk.there Lk.here) rfl) ev_int rfl rfl) (IsD.cell (by first | rfl | (subst_vars; rfl))) (IsD.cell (by first | rfl | (subst_vars; rfl))) (dd_ok (n := 0) (by decide) (fun _ => rfl) found_0.1) (kvT_nd (by wtm_at "g.nd"))) (fun hk19 => (by
          have hk19x := hk19
          try simp only [Bool.and_eq_true, Bool.or_eq_true, Bool.and_eq_false_iff, Bool.or_eq_false_iff, decide_eq_true_eq, decide_eq_false_iff_not, Bool.not_eq_true', Bool.not_eq_false', Bool.not_eq_eq_eq_not, Bool.not_true, Bool.not_false] at hk19x
          exact (ev_and1 (ev_eqDD hr (ev_ixC (ev_name T rfl Lk.here rfl) ev_int rfl rfl) (ev_ixC (ev_name T rfl (Lk.there Lk.here) rfl) ev_int rfl rfl) (IsD.cell (by first | rfl | (subst_vars; rfl))) (IsD.cell (by first | rfl | (subst_vars; rfl))) (dd_ok (n := 3) (by decide) dk_st found_0.2) (kvT_nd (by wtm_at "g.nd"))))))) ?_)
        show RetOk _ _ _ _ _
        subst h
        exact ret_val rfl rfl rfl (by wtm_at "d.lt")
end
theorem drawn_ok (s : Int) (w : List Str) (n : Int) (hw : w.length = 8) (h : ∀ x ∈ w, PyData.strOk x = true) : RowOk (m_law_drawn s w n) := by
  have at8 := fun i (h0 : (0 : Int) ≤ i) (h1 : i < 8) => ixD_okS h h0 (by rw [hw]; exact h1)
  unfold m_law_drawn
  simp only [letF]
  split
  · exact row_okSet (at8 _ (by omega) (by omega)) (term_ok _ _ _ hw h)
  · split
    · exact row_okPut (at8 _ (by omega) (by omega)) (term_ok _ _ _ hw h) (place_ok _ _ _ hw h)
    · split
      · exact row_okAny (at8 _ (by omega) (by omega))
      · exact row_okLose (at8 _ (by omega) (by omega))
theorem start_ok (S : Scr) (w : List Str) (n : Int) : (m_law_start S w n).1.length ≤ 3 ∧ ((m_law_start S w n).1.map (·.1)).Nodup ∧ (m_law_start S w n).2.length ≤ 3 ∧ ((m_law_start S w n).2.map (·.1)).Nodup ∧ MadesW 40 0 (m_law_start S w n).2 := by
  unfold m_law_start
  refine forL_inv (Q := fun (r : LawV) => r.1.length ≤ 3 ∧ (r.1.map (·.1)).Nodup ∧ r.2.length ≤ 3 ∧ (r.2.map (·.1)).Nodup ∧ MadesW 40 0 r.2) (fun (l : List Nat) (r : LawV) => r.1.length + l.length ≤ 3 ∧ (r.1.map (·.1)).Nodup ∧ r.2.length + l.length ≤ 3 ∧ (r.2.map (·.1)).Nodup ∧ MadesW 40 0 r.2) (fun r h => ⟨by have := h.1; simpa using this, h.2.1, by have := h.2.2.1; simpa using this, h.2.2.2⟩) _ _ (fun x _ xs r n' h k => ?_) ?_
  case refine_2 => exact ⟨by decide, List.Pairwise.nil, by decide, List.Pairwise.nil, MadesW.nil⟩
  obtain ⟨h1, h2, h3, h4, h5⟩ := h
  rw [List.length_cons] at h1 h3
  simp only [letF, joinF]
  have q : ∀ a : List (Str × Int), a.length + xs.length ≤ 3 → (a.map (·.1)).Nodup → ∀ (c : Bool) (z : Str) (v : Mad), (v.2.1.length ≤ 40 ∧ v.2.2.length ≤ 0) → (fun (r : LawV) => r.1.length ≤ 3 ∧ (r.1.map (·.1)).Nodup ∧ r.2.length ≤ 3 ∧ (r.2.map (·.1)).Nodup ∧ MadesW 40 0 r.2) (if c = true then n' (a, putSt r.2 z v) else n' (a, r.2)) := by
    intro a ha hb c z v hv
    have := putSt_len z v r.2
    split
    · exact k _ ⟨ha, hb, by dsimp only; omega, putSt_nd _ _ _ h4, h5.put hv⟩
    · exact k _ ⟨ha, hb, by dsimp only; omega, h4, h5⟩
  split
  · refine q _ ?_ (putSt_nd _ _ _ h2) _ _ _ (made_len _ _)
    have := putSt_len (ixD w (x : Int)) ((n + m_law_cell_at S (1 + (x : Int)) % 2147483647 / 5 % 7) - 3) r.1
    omega
  · exact q _ (by omega) h2 _ _ _ (made_len _ _)
theorem alike_true (a : ThrV) (b : DueV) : m_law_alike a b = true := by
  unfold m_law_alike
  rw [if_neg (by decide)]
  refine forL_inv (Q := fun r => r = true) (fun _ _ => True) (fun s _ => ?_) _ _ (fun x _ xs s n _ k => ?_) trivial
  · rw [if_neg]
    · rfl
    · have e : (s.map fun (_ : Int) => (true && true)).all id = true := by
        rw [List.all_map, List.all_eq_true]
        exact fun _ _ => rfl
      rw [e]
      decide
  · exact forL_inv (Q := fun r => r = true) (fun _ _ => True) (fun s _ => k _ trivial) _ _ (fun _ _ _ s n' _ k' => k' _ trivial) trivial
/-! ### the plain law: rows as functions -/
abbrev Srt2 (l : List (Int × Int)) : Prop := l.Pairwise fun a b => a.1 < b.1
def cleanF : Int → List (Int × Int) → List (Int × Int)
  | _, [] => []
  | b, q :: r => if q.2 = b then cleanF b r else (q.1, q.2) :: cleanF q.2 r
def cleanC : Int → List (Int × Int) → Prop
  | _, [] => True
  | b, q :: r => q.2 ≠ b ∧ cleanC q.2 r
theorem cleanF_sub : ∀ (l : List (Int × Int)) (b : Int), (cleanF b l).Sublist l
  | [], _ => List.Sublist.slnil
  | q :: r, b => by
    unfold cleanF
    split
    · exact (cleanF_sub r b).cons _
    · exact (cleanF_sub r q.2).cons₂ _
theorem cleanF_clean : ∀ (l : List (Int × Int)) (b : Int), cleanC b (cleanF b l)
  | [], _ => trivial
  | q :: r, b => by
    unfold cleanF
    split
    · exact cleanF_clean r b
    · rename_i h
      exact ⟨h, cleanF_clean r q.2⟩
theorem entry_hi {x : Int} : ∀ {l : List (Int × Int)} {b : Int}, (∀ s ∈ l, x < s.1) → entryF b l x = b
  | [], _, _ => rfl
  | s :: r, b, h => by
    show (if x < s.1 then b else entryF s.2 r x) = b
    rw [if_pos (h s List.mem_cons_self)]
theorem entry_clean (x : Int) : ∀ (l : List (Int × Int)) (b : Int), Srt2 l → entryF b (cleanF b l) x = entryF b l x
  | [], _, _ => rfl
  | q :: r, b, h => by
    have h2 := List.pairwise_cons.mp h
    unfold cleanF
    split
    · rename_i e
      rw [entry_clean x r b h2.2]
      show _ = (if x < q.1 then b else entryF q.2 r x)
      split
      · rename_i l
        exact entry_hi fun s hs => by have := h2.1 s hs; omega
      · rw [e]
    · show (if x < q.1 then b else entryF q.2 (cleanF q.2 r) x) = (if x < q.1 then b else entryF q.2 r x)
      rw [entry_clean x r q.2 h2.2]
theorem smooth_is (b : Int) (ps : List (Int × Int)) : m_smooth b ps = (b, cleanF b ps) := by
  have e : ∀ (ps : List (Int × Int)) (here : Int) (acc : List (Int × Int)), forL (fun (x : Int × Int) (s : Int × List (Int × Int)) n => if (!decide (x.2 = s.1)) = true then n (x.2, (s.2 ++ [(x.1, x.2)])) else n (s.1, s.2)) (fun s : Int × List (Int × Int) => (b, s.2)) ps (here, acc) = (b, acc ++ cleanF here ps) := by
    intro ps
    induction ps with
    | nil => intro here acc; show (b, acc) = _; unfold cleanF; rw [List.append_nil]
    | cons q r ih =>
      intro here acc
      show (if (!decide (q.2 = here)) = true then forL _ _ r _ else forL _ _ r _) = _
      unfold cleanF
      by_cases h : q.2 = here
      · rw [if_neg (by simp [h]), if_pos h]
        exact ih here acc
      · rw [if_pos (by simp [h]), if_neg h, ih, List.append_assoc]
        rfl
  unfold m_smooth
  rw [e, List.nil_append]
theorem uniq_row : ∀ (l m : List (Int × Int)) (b : Int), Srt2 l → Srt2 m → cleanC b l → cleanC b m → (∀ x, entryF b l x = entryF b m x) → l = m
  | [], [], _, _, _, _, _, _ => rfl
  | [], q :: r, b, _, h2, _, c2, h => by
    have := h q.1
    rw [show entryF b (q :: r) q.1 = entryF q.2 r q.1 by show (if q.1 < q.1 then _ else _) = _; rw [if_neg (Int.lt_irrefl _)], entry_hi (List.pairwise_cons.mp h2).1] at this
    exact (c2.1 this.symm).elim
  | q :: r, [], b, h2, _, c2, _, h => by
    have := h q.1
    rw [show entryF b (q :: r) q.1 = entryF q.2 r q.1 by show (if q.1 < q.1 then _ else _) = _; rw [if_neg (Int.lt_irrefl _)], entry_hi (List.pairwise_cons.mp h2).1] at this
    exact (c2.1 this).elim
  | p :: r, q :: t, b, h1, h2, c1, c2, h => by
    have g1 := List.pairwise_cons.mp h1
    have g2 := List.pairwise_cons.mp h2
    have at1 : entryF b (p :: r) p.1 = p.2 := by
      show (if p.1 < p.1 then _ else _) = _
      rw [if_neg (Int.lt_irrefl _), entry_hi g1.1]
    have at2 : entryF b (q :: t) q.1 = q.2 := by
      show (if q.1 < q.1 then _ else _) = _
      rw [if_neg (Int.lt_irrefl _), entry_hi g2.1]
    have e1 : p.1 = q.1 := by
      rcases (by omega : p.1 < q.1 ∨ p.1 = q.1 ∨ q.1 < p.1) with z | z | z
      · have := h p.1
        rw [at1, show entryF b (q :: t) p.1 = b by show (if p.1 < q.1 then _ else _) = _; rw [if_pos z]] at this
        exact (c1.1 this).elim
      · exact z
      · have := h q.1
        rw [at2, show entryF b (p :: r) q.1 = b by show (if q.1 < p.1 then _ else _) = _; rw [if_pos z]] at this
        exact (c2.1 this.symm).elim
    have e2 : p.2 = q.2 := by
      have := h p.1
      rw [at1, e1, at2] at this
      exact this
    have e : p = q := Prod.ext e1 e2
    subst e
    rw [uniq_row r t p.2 g1.2 g2.2 c1.2 c2.2 fun x => ?_]
    by_cases hx : x < p.1
    · rw [entry_hi fun s hs => by have := g1.1 s hs; omega, entry_hi fun s hs => by have := g2.1 s hs; omega]
    · have := h x
      rw [show entryF b (p :: r) x = entryF p.2 r x by show (if x < p.1 then _ else _) = _; rw [if_neg hx], show entryF b (p :: t) x = entryF p.2 t x by show (if x < p.1 then _ else _) = _; rw [if_neg hx]] at this
      exact this
theorem entry_lt {x : Int} {m : List (Int × Int)} (hm : ∀ s ∈ m, x < s.1) : ∀ (l : List (Int × Int)) (b : Int), entryF b (l ++ m) x = entryF b l x
  | [], b => entry_hi hm
  | s :: r, b => by
    show (if x < s.1 then b else entryF s.2 (r ++ m) x) = (if x < s.1 then b else entryF s.2 r x)
    rw [entry_lt hm r s.2]
theorem entry_ge {x : Int} (m : List (Int × Int)) : ∀ (l : List (Int × Int)) (b : Int), (∀ s ∈ l, s.1 ≤ x) → entryF b (l ++ m) x = entryF (lastV b l) m x
  | [], _, _ => rfl
  | s :: r, b, h => by
    show (if x < s.1 then b else entryF s.2 (r ++ m) x) = entryF (lastV s.2 r) m x
    have := h s List.mem_cons_self
    rw [if_neg (by omega), entry_ge m r s.2 fun q hq => h q (List.mem_cons_of_mem _ hq)]
theorem split_at (z : Int) : ∀ {l : List (Int × Int)}, Srt2 l → l = (l.filter fun s => decide (s.1 < z)) ++ l.filter fun s => decide (z ≤ s.1)
  | [], _ => rfl
  | s :: r, h => by
    have h2 := List.pairwise_cons.mp h
    by_cases hs : s.1 < z
    · rw [List.filter_cons_of_pos (by exact decide_eq_true hs), List.filter_cons_of_neg (by rw [decide_eq_true_eq]; omega), List.cons_append, ← split_at z h2.2]
    · have e1 : r.filter (fun s => decide (s.1 < z)) = [] := List.filter_eq_nil_iff.mpr fun q hq => by
        have := h2.1 q hq
        rw [decide_eq_true_eq]
        omega
      have e2 : r.filter (fun s => decide (z ≤ s.1)) = r := List.filter_eq_self.mpr fun q hq => by
        have := h2.1 q hq
        rw [decide_eq_true_eq]
        omega
      rw [List.filter_cons_of_neg (by rw [decide_eq_true_eq]; omega), List.filter_cons_of_pos (by rw [decide_eq_true_eq]; omega), e1, e2]
      rfl
theorem written_is (row : Int × List (Int × Int)) (p v : Int) : m_written row p v = (row.1, cleanF row.1 ((row.2.filter fun s => decide (s.1 < p)) ++ ((p, v) :: (p + 1, entryF row.1 row.2 (p + 1)) :: row.2.filter fun s => decide (p + 1 < s.1)))) := by
  unfold m_written
  simp only [letF]
  rw [smooth_is]
  have e : ∀ l : List (Int × Int), (l.map fun y => y) = l := fun l => List.map_id' l
  rw [e, e, List.append_assoc, List.append_assoc]
  rfl
theorem wr_srt {l : List (Int × Int)} (h : Srt2 l) (p v e : Int) : Srt2 ((l.filter fun s => decide (s.1 < p)) ++ ((p, v) :: (p + 1, e) :: l.filter fun s => decide (p + 1 < s.1))) := by
  refine List.pairwise_append.mpr ⟨h.filter _, List.pairwise_cons.mpr ⟨fun q hq => ?_, List.pairwise_cons.mpr ⟨fun q hq => ?_, h.filter _⟩⟩, fun a ha b hb => ?_⟩
  · rcases List.mem_cons.mp hq with rfl | hq
    · show p < p + 1; omega
    · have := of_decide_eq_true (List.mem_filter.mp hq).2
      show p < q.1; omega
  · exact of_decide_eq_true (List.mem_filter.mp hq).2
  · have := of_decide_eq_true (List.mem_filter.mp ha).2
    rcases List.mem_cons.mp hb with rfl | hb
    · exact this
    · rcases List.mem_cons.mp hb with rfl | hb
      · show a.1 < p + 1; omega
      · have := of_decide_eq_true (List.mem_filter.mp hb).2
        omega
theorem written_entry {row : Int × List (Int × Int)} (h : Srt2 row.2) (p v x : Int) : entryF (m_written row p v).1 (m_written row p v).2 x = if p = x then v else entryF row.1 row.2 x := by
  rw [written_is]
  show entryF row.1 (cleanF row.1 _) x = _
  rw [entry_clean _ _ _ (wr_srt h p v _)]
  by_cases h1 : x < p
  · rw [if_neg (by omega), entry_lt fun s hs => ?_]
    · conv => rhs; rw [split_at p h]
      rw [entry_lt fun s hs => ?_]
      have := of_decide_eq_true (List.mem_filter.mp hs).2
      omega
    · rcases List.mem_cons.mp hs with rfl | hs
      · exact h1
      · rcases List.mem_cons.mp hs with rfl | hs
        · show x < p + 1; omega
        · have := of_decide_eq_true (List.mem_filter.mp hs).2
          omega
  · rw [entry_ge _ _ _ fun s hs => by have := of_decide_eq_true (List.mem_filter.mp hs).2; omega]
    show (if x < p then _ else if x < p + 1 then v else entryF (entryF row.1 row.2 (p + 1)) _ x) = _
    rw [if_neg h1]
    by_cases h2 : x < p + 1
    · rw [if_pos h2, if_pos (by omega)]
    · rw [if_neg h2, if_neg (by omega)]
      have e0 : (row.2.filter fun s => decide (p + 1 < s.1)) = row.2.filter fun s => decide (p + 2 ≤ s.1) := by
        congr 1
        funext s
        exact decide_eq_decide.mpr (by omega)
      have lo : ∀ s ∈ row.2.filter (fun s => decide (s.1 < p + 2)), s.1 ≤ p + 1 := fun s hs => by
        have := of_decide_eq_true (List.mem_filter.mp hs).2
        omega
      have hi : ∀ s ∈ row.2.filter (fun s => decide (p + 2 ≤ s.1)), p + 1 < s.1 := fun s hs => by
        have := of_decide_eq_true (List.mem_filter.mp hs).2
        omega
      have e1 : entryF row.1 row.2 (p + 1) = lastV row.1 (row.2.filter fun s => decide (s.1 < p + 2)) := by
        conv => lhs; rw [split_at (p + 2) h]
        rw [entry_ge _ _ _ lo, entry_hi hi]
      rw [e0, e1]
      conv => rhs; rw [split_at (p + 2) h]
      rw [entry_ge _ _ _ fun s hs => by have := lo s hs; omega]
theorem filter_le {α : Type} {p q : α → Bool} (h : ∀ a, p a = true → q a = true) : ∀ l : List α, (l.filter p).length ≤ (l.filter q).length
  | [] => Nat.le_refl _
  | a :: r => by
    have ih := filter_le h r
    by_cases hp : p a = true
    · rw [List.filter_cons_of_pos hp, List.filter_cons_of_pos (h a hp), List.length_cons, List.length_cons]
      omega
    · rw [List.filter_cons_of_neg hp]
      by_cases hq : q a = true
      · rw [List.filter_cons_of_pos hq, List.length_cons]
        omega
      · rw [List.filter_cons_of_neg hq]
        exact ih
theorem written_len {row : Int × List (Int × Int)} (h : Srt2 row.2) (p v : Int) : (m_written row p v).2.length ≤ row.2.length + 2 := by
  rw [written_is]
  have h1 := (cleanF_sub ((row.2.filter fun s => decide (s.1 < p)) ++ ((p, v) :: (p + 1, entryF row.1 row.2 (p + 1)) :: row.2.filter fun s => decide (p + 1 < s.1))) row.1).length_le
  have h2 := congrArg List.length (split_at p h)
  have h3 : (row.2.filter fun s => decide (p + 1 < s.1)).length ≤ (row.2.filter fun s => decide (p ≤ s.1)).length := by
    refine filter_le (fun s hs => ?_) row.2
    rw [decide_eq_true_eq] at hs ⊢
    omega
  rw [List.length_append] at h1 h2
  rw [List.length_cons, List.length_cons] at h1
  show (cleanF row.1 _).length ≤ _
  omega
/-! ### picks that fit -/
def Row.uses : Row → Nat
  | .any _ => 1
  | .lose _ => 1
  | _ => 0
def Fits : List Row → List Pck → Prop
  | [], _ => True
  | .set _ _ _ :: r, ps => Fits r ps
  | .put _ _ _ _ :: r, ps => Fits r ps
  | .any _ :: r, [] => Fits r []
  | .any _ :: r, p :: ps => p.isI ∧ Fits r ps
  | .lose _ :: r, [] => Fits r []
  | .lose _ :: r, p :: ps => p.isR ∧ Fits r ps
def PcksW (pk : List Pck) : Prop := ∀ p ∈ pk, p.toR.2.length ≤ 150
theorem Fits.start {rows : List Row} {pk : List Pck} (h : Fits rows pk) : Fits ((enumL rows).map (·.2)) (pk.drop (0 : Int).toNat) := by
  rw [enumL_snd]
  exact h
theorem Fits.oth {i : Nat} {row : Row} {l : List (Nat × Row)} {P : List Pck} (h : Fits (((i, row) :: l).map (·.2)) P) (hr : row.uses = 0) : Fits (l.map (·.2)) P := by
  cases row with
  | set x t c => exact h
  | put r p t c => exact h
  | any x => cases hr
  | lose r => cases hr
theorem picked_some {pk : List Pck} {u : Int} {o p : Pck} {ps : List Pck} (h0 : 0 ≤ u) (e : pk.drop u.toNat = p :: ps) : m_picked pk u o = p ∧ pk.drop (u + 1).toNat = ps := by
  have h1 : pk[u.toNat]? = some p := by
    have := congrArg (·[0]?) e
    simpa using this
  have h2 : u.toNat < pk.length := (List.getElem?_eq_some_iff.mp h1).1
  refine ⟨?_, ?_⟩
  · unfold m_picked
    rw [if_pos (by rw [decide_eq_true_eq]; omega)]
    rw [ixD_eq h0 (by omega), List.getD_eq_getElem?_getD, h1]
    rfl
  · have e2 : (u + 1).toNat = u.toNat + 1 := by omega
    rw [e2, ← List.drop_drop, e]
    rfl
theorem picked_none {pk : List Pck} {u : Int} {o : Pck} (h0 : 0 ≤ u) (e : pk.drop u.toNat = []) : m_picked pk u o = o ∧ pk.drop (u + 1).toNat = [] := by
  have h2 := List.drop_eq_nil_iff.mp e
  refine ⟨?_, List.drop_eq_nil_iff.mpr (by omega)⟩
  unfold m_picked
  rw [if_neg (by rw [decide_eq_true_eq]; omega)]
theorem Fits.any {i : Nat} {x : Str} {l : List (Nat × Row)} {pk : List Pck} {u : Int} (h : Fits (((i, Row.any x) :: l).map (·.2)) (pk.drop u.toNat)) (h0 : 0 ≤ u) : (m_picked pk u (Pck.i 0)).isI ∧ Fits (l.map (·.2)) (pk.drop (u + 1).toNat) := by
  cases e : pk.drop u.toNat with
  | nil =>
    rw [e] at h
    obtain ⟨e1, e2⟩ := picked_none (o := Pck.i 0) h0 e
    rw [e1, e2]
    exact ⟨trivial, h⟩
  | cons p ps =>
    rw [e] at h
    obtain ⟨e1, e2⟩ := picked_some (o := Pck.i 0) h0 e
    rw [e1, e2]
    exact h
theorem Fits.lose {i : Nat} {x : Str} {l : List (Nat × Row)} {pk : List Pck} {u : Int} (h : Fits (((i, Row.lose x) :: l).map (·.2)) (pk.drop u.toNat)) (h0 : 0 ≤ u) : (m_picked pk u (Pck.r (0, []))).isR ∧ Fits (l.map (·.2)) (pk.drop (u + 1).toNat) := by
  cases e : pk.drop u.toNat with
  | nil =>
    rw [e] at h
    obtain ⟨e1, e2⟩ := picked_none (o := Pck.r (0, [])) h0 e
    rw [e1, e2]
    exact ⟨trivial, h⟩
  | cons p ps =>
    rw [e] at h
    obtain ⟨e1, e2⟩ := picked_some (o := Pck.r (0, [])) h0 e
    rw [e1, e2]
    exact h
theorem PcksW.at {pk : List Pck} (h : PcksW pk) {u : Int} (h0 : 0 ≤ u) : (m_picked pk u (Pck.r (0, []))).toR.2.length ≤ 150 := by
  cases e : pk.drop u.toNat with
  | nil =>
    rw [(picked_none h0 e).1]
    exact Nat.zero_le _
  | cons p ps =>
    rw [(picked_some h0 e).1]
    exact h p (List.mem_of_mem_drop (i := u.toNat) (by rw [e]; exact List.mem_cons_self))
theorem filt2 {α : Type} {p q : α → Bool} (h : ∀ a, p a = true → q a = true → False) : ∀ l : List α, (l.filter p).length + (l.filter q).length ≤ l.length
  | [] => Nat.le_refl _
  | a :: r => by
    have ih := filt2 h r
    by_cases hp : p a = true
    · have hq : ¬ q a = true := fun z => h a hp z
      rw [List.filter_cons_of_pos hp, List.filter_cons_of_neg hq, List.length_cons, List.length_cons]
      omega
    · rw [List.filter_cons_of_neg hp]
      by_cases hq : q a = true
      · rw [List.filter_cons_of_pos hq, List.length_cons, List.length_cons]
        omega
      · rw [List.filter_cons_of_neg hq, List.length_cons]
        omega
theorem written_any (row : Int × List (Int × Int)) (p v : Int) : (m_written row p v).2.length ≤ row.2.length + 2 := by
  rw [written_is]
  have h1 := (cleanF_sub ((row.2.filter fun s => decide (s.1 < p)) ++ ((p, v) :: (p + 1, entryF row.1 row.2 (p + 1)) :: row.2.filter fun s => decide (p + 1 < s.1))) row.1).length_le
  have h2 := filt2 (p := fun s : Int × Int => decide (s.1 < p)) (q := fun s => decide (p + 1 < s.1)) (fun a h1 h2 => by rw [decide_eq_true_eq] at h1 h2; omega) row.2
  rw [List.length_append, List.length_cons, List.length_cons] at h1
  show (cleanF row.1 _).length ≤ _
  omega
section
variable {α : Type} {x : α} {l : List α} {rows : List (Str × (Int × List (Int × Int)))}
theorem RowsW.next (h : RowsW (350 - 2 * (x :: l).length) rows) : RowsW (350 - 2 * l.length) rows := h.mono (by rw [List.length_cons]; omega)
structure WrK (n : Nat) (rows : List (Str × (Int × List (Int × Int)))) (r : Str) : Prop where
  out : ∀ p v : Int, RowsW (350 - 2 * n) (putSt rows r (m_written ((lkS rows r).getD (0, [])) p v))
theorem RowsW.wr (h : RowsW (350 - 2 * (x :: l).length) rows) (hl : (x :: l).length ≤ 100) (r : Str) : WrK l.length rows r := ⟨fun p v => by
  refine h.next.put ?_
  have h1 := written_any ((lkS rows r).getD (0, [])) p v
  have h2 := h.get r
  rw [List.length_cons] at h2 hl
  omega⟩
theorem RowsW.pk (h : RowsW (350 - 2 * (x :: l).length) rows) (hl : (x :: l).length ≤ 100) {pk : List Pck} (hp : PcksW pk) {u : Int} (h0 : 0 ≤ u) (r : Str) : RowsW (350 - 2 * l.length) (putSt rows r (Pck.toR (m_picked pk u (Pck.r (0, []))))) := by
  refine h.next.put ?_
  have h1 := hp.at h0
  rw [List.length_cons] at hl
  omega
end
local macro_rules | `(tactic| wtm_at "g.pcki") => `(tactic| (subst_vars; exact Pck.eqI (And.left ‹Pck.isI _ ∧ _›)))
local macro_rules | `(tactic| wtm_at "g.pckr") => `(tactic| (subst_vars; exact Pck.eqR (And.left ‹Pck.isR _ ∧ _›)))
local macro_rules | `(tactic| wtm_at "g.inv") => `(tactic| ((try dsimp only); first | assumption | exact And.right ‹Pck.isI _ ∧ _› | exact And.right ‹Pck.isR _ ∧ _› | (refine Fits.start ?_; assumption) | (subst_vars; assumption) | (subst_vars; exact (‹WrK _ _ _›).out _ _) | (rw [enumL_len]; assumption) | (refine RowsW.mono ‹RowsW 150 _› ?_; rw [enumL_len]; omega) | fail))
def m_through (rows_0 : (List Row)) (start_0 : (List (Str × Int) × List (Str × (Int × List (Int × Int))) × List Pck)) : ThrV := forL (fun (x_8 : (Nat × Row)) (s_9 : (Int × (List (Str × Int)) × (List (Str × (Int × (List (Int × Int))))))) n_1 => match x_8 with | (x_8i, x_8v) => (match x_8v with | .set zx_3 zt_4 zc_5 => letF (m_term_at zt_4 s_9.2.1 s_9.2.2) fun r_10 => n_1 (s_9.1, (putSt s_9.2.1 zx_3 (r_10 + zc_5)), s_9.2.2) | .put zr_9 zp_10 zt_11 zc_12 => letF (m_term_at zt_11 s_9.2.1 s_9.2.2) fun r_11 => letF (r_11 + zc_12) fun value_12 => letF (m_place_at zp_10 s_9.2.1) fun r_13 => letF (m_written ((lkS s_9.2.2 zr_9).getD ((0, []) : Int × List (Int × Int))) r_13 value_12) fun r_14 => n_1 (s_9.1, s_9.2.1, (putSt s_9.2.2 zr_9 r_14)) | .any zx_17 => letF (m_picked start_0.2.2 s_9.1 (Pck.i 0)) fun r_15 => n_1 ((s_9.1 + 1), (putSt s_9.2.1 zx_17 (Pck.toI r_15)), s_9.2.2) | .lose zr_23 => letF (m_picked start_0.2.2 s_9.1 (Pck.r ((0, []) : Int × List (Int × Int)))) fun r_17 => n_1 ((s_9.1 + 1), s_9.2.1, (putSt s_9.2.2 zr_23 (Pck.toR r_17))))) (fun s_9 : (Int × (List (Str × Int)) × (List (Str × (Int × (List (Int × Int)))))) => (s_9.2.1, s_9.2.2)) (enumL rows_0) (0, start_0.1, start_0.2.1)
section
variable {P : Program} {w : World} {K : PySem.W.Frag} {mg : Str → Option Value} {base : Heap}
inductive Sp_through : Spec
  | mk {rows_0 : (List Row)} {start_0 : (List (Str × Int) × List (Str × (Int × List (Int × Int))) × List Pck)} (hrw : rows_0.length ≤ 100) (hn : start_0.1.length ≤ 100 ∧ (start_0.1.map (·.1)).Nodup) (hh : start_0.2.1.length ≤ 100 ∧ (start_0.2.1.map (·.1)).Nodup) (hw : RowsW 150 start_0.2.1) (hp : PcksW start_0.2.2) (hf : Fits rows_0 start_0.2.2) : Sp_through [.cell 0, .cell 1] [(.lst ((rows_0.map Row.D).map SV.val)), (.tup [.cell 2, .cell 3, .cell 4]), (.dct (svK (kvT PyData.int start_0.1))), (.dct (svK (kvT e_tup_int_tupl_tup_int_int start_0.2.1))), (.lst ((start_0.2.2.map Pck.D).map SV.val))] (.cell 5) [(.lst ((rows_0.map Row.D).map SV.val)), (.tup [.cell 2, .cell 3, .cell 4]), (.dct (svK (kvT PyData.int start_0.1))), (.dct (svK (kvT e_tup_int_tupl_tup_int_int start_0.2.1))), (.lst ((start_0.2.2.map Pck.D).map SV.val)), (.tup [.val (.str ("through" : Str)), .cell 6, .cell 7]), (.dct (svK (kvT PyData.int (m_through rows_0 start_0).1))), (.dct (svK (kvT e_tup_int_tupl_tup_int_int (m_through rows_0 start_0).2)))]
theorem cal_through (D : DefAt K mg "through" s_through P_through) (C_term_at : Cal P w K mg base 3 "term_at" 3 Sp_term_at) (C_place_at : Cal P w K mg base 2 "place_at" 2 Sp_place_at) (C_written : Cal P w K mg base 2 "written" 3 Sp_written) (C_picked : Cal P w K mg base 1 "picked" 3 Sp_picked) (z_dict : mg "dict" = none) (z_enumerate : mg "enumerate" = none) (G_EMPTY : Glo K mg "EMPTY" (.tuple [(.int 0), (.tuple [])])) : Cal P w K mg base 4 "through" 2 Sp_through := by
  refine cal_def D sc_through tb_through (fun f cdv A outer s0 H E hr T TL svs cs sv cs1 hsp hl => ?_)
  cases hsp with
  | @mk rows_0 start_0 hrw hn hh hw hp hf =>
  obtain ⟨R0, h⟩ : ∃ R0, (m_through rows_0 start_0) = R0 := ⟨_, rfl⟩
  rw [h]
  unfold m_through at h
  have hel0 := enumL_len rows_0
  have hn1 := hn.1
  have hn2 := hn.2
  have hh1 := hh.1
  have hh2 := hh.2
  show SX _ _ _ [some (.cell 0), some (.cell 1), none, none, none, none, none, none] [(.lst ((rows_0.map Row.D).map SV.val)), (.tup [.cell 2, .cell 3, .cell 4]), (.dct (svK (kvT PyData.int start_0.1))), (.dct (svK (kvT e_tup_int_tupl_tup_int_int start_0.2.1))), (.lst ((start_0.2.2.map Pck.D).map SV.val))] _
  refine sx_cons (s1_set TL rfl (ev_dictDC (kvs := kvT PyData.int start_0.1) z_dict rfl (ev_ixC (ev_name T rfl (Lk.there Lk.here) rfl) ev_int rfl rfl) (IsD.cell rfl) (AppC.cons (AppC.cons (AppC.cons (AppC.cons (AppC.cons AppC.nil)))))) (Put.there (Put.there Put.here)) ?_ rfl)
  show SX _ _ _ _ _ _
  refine sx_cons (s1_set TL rfl (ev_dictDC (kvs := kvT e_tup_int_tupl_tup_int_int start_0.2.1) z_dict rfl (ev_ixC (ev_name T rfl (Lk.there Lk.here) rfl) ev_int rfl rfl) (IsD.cell rfl) (AppC.cons (AppC.cons (AppC.cons (AppC.cons (AppC.cons (AppC.cons AppC.nil))))))) (Put.there (Put.there (Put.there Put.here))) ?_ rfl)
  show SX _ _ _ _ _ _
  refine sx_cons (s1_set TL rfl ev_int (Put.there (Put.there (Put.there (Put.there Put.here)))) ?_ rfl)
  show SX _ _ _ _ _ _
  refine' sx_cons ?lp2
  refine' s1_forK (enumL rows_0) (enP Row.D) _ _ R0 (0, start_0.1, start_0.2.1) (fun l_1 (s_9 : (Int × (List (Str × Int)) × (List (Str × (Int × (List (Int × Int))))))) => (s_9.2.1.length + 1 * l_1.length ≤ (start_0.1).length + 1 * (enumL rows_0).length) ∧ (s_9.2.2.length + 1 * l_1.length ≤ (start_0.2.1).length + 1 * (enumL rows_0).length) ∧ ((s_9.2.1.map (·.1)).Nodup) ∧ ((s_9.2.2.map (·.1)).Nodup) ∧ (0 ≤ s_9.1 ∧ Fits (l_1.map (·.2)) (start_0.2.2.drop s_9.1.toNat) ∧ RowsW (350 - 2 * l_1.length) s_9.2.2 ∧ l_1.length ≤ 100)) h PassesOwn.never rfl (iv_enumC (f := Row.D) (l := rows_0) z_enumerate rfl (ev_name T rfl Lk.here rfl) rfl) ?j02 (fun s_9 : (Int × (List (Str × Int)) × (List (Str × (Int × (List (Int × Int)))))) => [some (.cell 0), some (.cell 1), some (.cell 5), some (.cell 6), some (.val (.int s_9.1)), none, none, none]) (fun s_9 : (Int × (List (Str × Int)) × (List (Str × (Int × (List (Int × Int)))))) => [(.lst ((rows_0.map Row.D).map SV.val)), (.tup [.cell 2, .cell 3, .cell 4]), (.dct (svK (kvT PyData.int start_0.1))), (.dct (svK (kvT e_tup_int_tupl_tup_int_int start_0.2.1))), (.lst ((start_0.2.2.map Pck.D).map SV.val)), (.dct (svK (kvT PyData.int s_9.2.1))), (.dct (svK (kvT e_tup_int_tupl_tup_int_int s_9.2.2)))]) (Le.same (Le.same (Le.same (Le.same (Le.same (Le.lose (Le.lose (Le.lose Le.nil)))))))) rfl (by intro _; rfl) ?tu2 ?dn2
  case j02 => wtm_at "g.inv"
  case tu2 =>
    clear h
    rintro ⟨x_8i, x_8v⟩ l_1 ⟨used_1, c_6, c_7⟩ n_1 hm1 hJ1 h
    have hm1p := hm1
    have hm1 := mem_mid hm1
    have hm1r := enumL_lt hm1
    try dsimp only at h hJ1
    obtain ⟨hJ1_0, hJ1_1, hJ1_2, hJ1_3, hJ1_4⟩ := hJ1
    refine gx_tup rfl (gxs_cons (gx_name TL rfl (Put.there (Put.there (Put.there (Put.there (Put.there Put.here))))) (gxs_cons (gx_name TL rfl (Put.there (Put.there (Put.there (Put.there (Put.there (Put.there Put.here)))))) (gxs_nil ?_) rfl)) rfl)) rfl
    show SX _ _ _ [some (.cell 0), some (.cell 1), some (.cell 5), some (.cell 6), some (.val (.int used_1)), some (.val (.int (x_8i : Int))), some (.val (Row.D x_8v)), none] [(.lst ((rows_0.map Row.D).map SV.val)), (.tup [.cell 2, .cell 3, .cell 4]), (.dct (svK (kvT PyData.int start_0.1))), (.dct (svK (kvT e_tup_int_tupl_tup_int_int start_0.2.1))), (.lst ((start_0.2.2.map Pck.D).map SV.val)), (.dct (svK (kvT PyData.int c_6))), (.dct (svK (kvT e_tup_int_tupl_tup_int_int c_7)))] _
    cases x_8v with
    | set zx_3 zt_4 zc_5 =>
      try dsimp only at h
      show SX _ _ _ [some (.cell 0), some (.cell 1), some (.cell 5), some (.cell 6), some (.val (.int used_1)), some (.val (.int (x_8i : Int))), some (.val (.tuple [(.str ("set" : Str)), (.str zx_3), (Trm.D zt_4), (.int zc_5)])), none] [(.lst ((rows_0.map Row.D).map SV.val)), (.tup [.cell 2, .cell 3, .cell 4]), (.dct (svK (kvT PyData.int start_0.1))), (.dct (svK (kvT e_tup_int_tupl_tup_int_int start_0.2.1))), (.lst ((start_0.2.2.map Pck.D).map SV.val)), (.dct (svK (kvT PyData.int c_6))), (.dct (svK (kvT e_tup_int_tupl_tup_int_int c_7)))] _
      have hal := Fits.oth hJ1_4.2.1 rfl
      have hel := hJ1_4.2.2.1.next
      refine sx_cons (s1_if (tv_eqS (ev_ixT (ev_name T rfl (Lk.there (Lk.there (Lk.there (Lk.there (Lk.there (Lk.there Lk.here)))))) rfl) ev_int rfl) ev_str) (fun z => absurd z (by decide)) (fun _ => ?_))
      refine sx_cons (s1_if (tv_eqS (ev_ixT (ev_name T rfl (Lk.there (Lk.there (Lk.there (Lk.there (Lk.there (Lk.there Lk.here)))))) rfl) ev_int rfl) ev_str) (fun _ => ?_) (fun z => absurd z (by decide)))
      replace h := letF_elim h
      obtain ⟨r_10, er_10, h⟩ := h
      have pl8 := putSt_len zx_3 (r_10 + zc_5) c_6
      refine sx_cons (s1_dputT (f := PyData.int) (kvs := c_6) (k := zx_3) (y := (r_10 + zc_5)) hr (ev_add (ev_as (t := .val (.int r_10)) (cs2 := [(.lst ((rows_0.map Row.D).map SV.val)), (.tup [.cell 2, .cell 3, .cell 4]), (.dct (svK (kvT PyData.int start_0.1))), (.dct (svK (kvT e_tup_int_tupl_tup_int_int start_0.2.1))), (.lst ((start_0.2.2.map Pck.D).map SV.val)), (.dct (svK (kvT PyData.int c_6))), (.dct (svK (kvT e_tup_int_tupl_tup_int_int c_7)))]) (ev_callM (κ := [5, 6]) C_term_at hr (by decide) rfl (av_cons (ev_ixT (ev_name T rfl (Lk.there (Lk.there (Lk.there (Lk.there (Lk.there (Lk.there Lk.here)))))) rfl) ev_int rfl) (av_cons (ev_name T rfl (Lk.there (Lk.there Lk.here)) rfl) (av_cons (ev_name T rfl (Lk.there (Lk.there (Lk.there Lk.here))) rfl) av_nil))) (Sel.cons rfl (by wtm_at "d.flat") (by intro z; cases z) (Sel.cons rfl (by wtm_at "d.flat") (by intro z; cases z) Sel.nil)) (RenA.val (RenA.cell rfl (RenA.cell rfl RenA.nil))) (Sp_term_at.mk (term_0 := zt_4) (numbers_0 := c_6) (rows_0 := c_7) ) (SetA.cons (PutC.there (PutC.there (PutC.there (PutC.there (PutC.there PutC.here))))) (SetA.cons (PutC.there (PutC.there (PutC.there (PutC.there (PutC.there (PutC.there PutC.here)))))) SetA.nil)) (List.prefix_refl _) (by wtm_at "g.flat") (by decide) rfl) (by subst er_10; rfl) (by subst er_10; rfl)) (ev_ixT (ev_name T rfl (Lk.there (Lk.there (Lk.there (Lk.there (Lk.there (Lk.there Lk.here)))))) rfl) ev_int rfl)) (ev_name T rfl (Lk.there (Lk.there Lk.here)) rfl) (ev_ixT (ev_name T rfl (Lk.there (Lk.there (Lk.there (Lk.there (Lk.there (Lk.there Lk.here)))))) rfl) ev_int rfl) rfl (by wtm_at "g.sd") (by wtm_at "g.nd") (PutC.there (PutC.there (PutC.there (PutC.there (PutC.there PutC.here))))) ?_)
      show SX _ _ _ _ _ _
      refine sx_nil ?_
      show SX _ _ _ _ _ _
      refine sx_nil ?_
      show SX _ _ _ _ _ _
      refine sx_nil ?_
      exact ⟨(used_1, (putSt c_6 zx_3 (r_10 + zc_5)), c_7), h, (by wtm_at "g.inv"), (At.same (Le.same (Le.same (Le.same (Le.same (Le.same (Le.lose (Le.lose (Le.lose Le.nil)))))))))⟩
    | put zr_9 zp_10 zt_11 zc_12 =>
      try dsimp only at h
      show SX _ _ _ [some (.cell 0), some (.cell 1), some (.cell 5), some (.cell 6), some (.val (.int used_1)), some (.val (.int (x_8i : Int))), some (.val (.tuple [(.str ("put" : Str)), (.str zr_9), (.tuple [(.str zp_10.1), (.int zp_10.2)]), (Trm.D zt_11), (.int zc_12)])), none] [(.lst ((rows_0.map Row.D).map SV.val)), (.tup [.cell 2, .cell 3, .cell 4]), (.dct (svK (kvT PyData.int start_0.1))), (.dct (svK (kvT e_tup_int_tupl_tup_int_int start_0.2.1))), (.lst ((start_0.2.2.map Pck.D).map SV.val)), (.dct (svK (kvT PyData.int c_6))), (.dct (svK (kvT e_tup_int_tupl_tup_int_int c_7)))] _
      have hal := Fits.oth hJ1_4.2.1 rfl
      have hgt := RowsW.get hJ1_4.2.2.1 zr_9
      have hel := RowsW.wr hJ1_4.2.2.1 hJ1_4.2.2.2 zr_9
      refine sx_cons (s1_if (tv_eqS (ev_ixT (ev_name T rfl (Lk.there (Lk.there (Lk.there (Lk.there (Lk.there (Lk.there Lk.here)))))) rfl) ev_int rfl) ev_str) (fun z => absurd z (by decide)) (fun _ => ?_))
      refine sx_cons (s1_if (tv_eqS (ev_ixT (ev_name T rfl (Lk.there (Lk.there (Lk.there (Lk.there (Lk.there (Lk.there Lk.here)))))) rfl) ev_int rfl) ev_str) (fun z => absurd z (by decide)) (fun _ => ?_))
      refine sx_cons (s1_if (tv_eqS (ev_ixT (ev_name T rfl (Lk.there (Lk.there (Lk.there (Lk.there (Lk.there (Lk.there Lk.here)))))) rfl) ev_int rfl) ev_str) (fun _ => ?_) (fun z => absurd z (by decide)))
      replace h := letF_elim h
      obtain ⟨r_11, er_11, h⟩ := h
      replace h := letF_elim h
      obtain ⟨value_12, evalue_12, h⟩ := h
      refine sx_cons (s1_set TL rfl (ev_is (t := .val (.int value_12)) (ev_add (ev_as (t := .val (.int r_11)) (cs2 := [(.lst ((rows_0.map Row.D).map SV.val)), (.tup [.cell 2, .cell 3, .cell 4]), (.dct (svK (kvT PyData.int start_0.1))), (.dct (svK (kvT e_tup_int_tupl_tup_int_int start_0.2.1))), (.lst ((start_0.2.2.map Pck.D).map SV.val)), (.dct (svK (kvT PyData.int c_6))), (.dct (svK (kvT e_tup_int_tupl_tup_int_int c_7)))]) (ev_callM (κ := [5, 6]) C_term_at hr (by decide) rfl (av_cons (ev_ixT (ev_name T rfl (Lk.there (Lk.there (Lk.there (Lk.there (Lk.there (Lk.there Lk.here)))))) rfl) ev_int rfl) (av_cons (ev_name T rfl (Lk.there (Lk.there Lk.here)) rfl) (av_cons (ev_name T rfl (Lk.there (Lk.there (Lk.there Lk.here))) rfl) av_nil))) (Sel.cons rfl (by wtm_at "d.flat") (by intro z; cases z) (Sel.cons rfl (by wtm_at "d.flat") (by intro z; cases z) Sel.nil)) (RenA.val (RenA.cell rfl (RenA.cell rfl RenA.nil))) (Sp_term_at.mk (term_0 := zt_11) (numbers_0 := c_6) (rows_0 := c_7) ) (SetA.cons (PutC.there (PutC.there (PutC.there (PutC.there (PutC.there PutC.here))))) (SetA.cons (PutC.there (PutC.there (PutC.there (PutC.there (PutC.there (PutC.there PutC.here)))))) SetA.nil)) (List.prefix_refl _) (by wtm_at "g.flat") (by decide) rfl) (by subst er_11; rfl) (by subst er_11; rfl)) (ev_ixT (ev_name T rfl (Lk.there (Lk.there (Lk.there (Lk.there (Lk.there (Lk.there Lk.here)))))) rfl) ev_int rfl)) (by subst evalue_12; rfl)) (Put.there (Put.there (Put.there (Put.there (Put.there (Put.there (Put.there Put.here))))))) ?_ rfl)
      show SX _ _ _ _ _ _
      replace h := letF_elim h
      obtain ⟨r_13, er_13, h⟩ := h
      replace h := letF_elim h
      obtain ⟨r_14, er_14, h⟩ := h
      have pl16 := putSt_len zr_9 r_14 c_7
      refine sx_cons (s1_dputT (f := e_tup_int_tupl_tup_int_int) (kvs := c_7) (k := zr_9) (y := r_14) hr (ev_as (t := .val (.tuple [(.int r_14.1), (.tuple (r_14.2.map pD))])) (cs2 := [(.lst ((rows_0.map Row.D).map SV.val)), (.tup [.cell 2, .cell 3, .cell 4]), (.dct (svK (kvT PyData.int start_0.1))), (.dct (svK (kvT e_tup_int_tupl_tup_int_int start_0.2.1))), (.lst ((start_0.2.2.map Pck.D).map SV.val)), (.dct (svK (kvT PyData.int c_6))), (.dct (svK (kvT e_tup_int_tupl_tup_int_int c_7)))]) (ev_callM (κ := []) C_written hr (by decide) rfl (av_cons (ev_dget2 hr (ev_glo G_EMPTY rfl) (ev_name T rfl (Lk.there (Lk.there (Lk.there Lk.here))) rfl) (ev_ixT (ev_name T rfl (Lk.there (Lk.there (Lk.there (Lk.there (Lk.there (Lk.there Lk.here)))))) rfl) ev_int rfl) ⟨_, (IsD.cell rfl)⟩ (IsD.cell rfl) (KeyOf.str _) (get_T (f := e_tup_int_tupl_tup_int_int) c_7 zr_9 ((0, []) : Int × List (Int × Int)))) (av_cons (ev_as (t := .val (.int r_13)) (cs2 := [(.lst ((rows_0.map Row.D).map SV.val)), (.tup [.cell 2, .cell 3, .cell 4]), (.dct (svK (kvT PyData.int start_0.1))), (.dct (svK (kvT e_tup_int_tupl_tup_int_int start_0.2.1))), (.lst ((start_0.2.2.map Pck.D).map SV.val)), (.dct (svK (kvT PyData.int c_6))), (.dct (svK (kvT e_tup_int_tupl_tup_int_int c_7)))]) (ev_callM (κ := [5]) C_place_at hr (by decide) rfl (av_cons (ev_ixT (ev_name T rfl (Lk.there (Lk.there (Lk.there (Lk.there (Lk.there (Lk.there Lk.here)))))) rfl) ev_int rfl) (av_cons (ev_name T rfl (Lk.there (Lk.there Lk.here)) rfl) av_nil)) (Sel.cons rfl (by wtm_at "d.flat") (by intro z; cases z) Sel.nil) (RenA.val (RenA.cell rfl RenA.nil)) (Sp_place_at.mk (place_0 := zp_10) (numbers_0 := c_6) ) (SetA.cons (PutC.there (PutC.there (PutC.there (PutC.there (PutC.there PutC.here))))) SetA.nil) (List.prefix_refl _) (by wtm_at "g.flat") (by decide) rfl) (by subst er_13; rfl) (by subst er_13; rfl)) (av_cons (ev_name T rfl (Lk.there (Lk.there (Lk.there (Lk.there (Lk.there (Lk.there (Lk.there Lk.here))))))) rfl) av_nil))) Sel.nil (RenA.val (RenA.val (RenA.val RenA.nil))) (Sp_written.mk (row_0 := ((lkS c_7 zr_9).getD ((0, []) : Int × List (Int × Int)))) (p_0 := r_13) (v_0 := value_12) (by wtm_at "g.pre")) SetA.nil (List.prefix_refl _) rfl (by decide) rfl) (by subst er_14; rfl) (by subst er_14; rfl)) (ev_name T rfl (Lk.there (Lk.there (Lk.there Lk.here))) rfl) (ev_ixT (ev_name T rfl (Lk.there (Lk.there (Lk.there (Lk.there (Lk.there (Lk.there Lk.here)))))) rfl) ev_int rfl) rfl (by wtm_at "g.sd") (by wtm_at "g.nd") (PutC.there (PutC.there (PutC.there (PutC.there (PutC.there (PutC.there PutC.here)))))) ?_)
      show SX _ _ _ _ _ _
      refine sx_nil ?_
      show SX _ _ _ _ _ _
      refine sx_nil ?_
      show SX _ _ _ _ _ _
      refine sx_nil ?_
      show SX _ _ _ _ _ _
      refine sx_nil ?_
      exact ⟨(used_1, c_6, (putSt c_7 zr_9 r_14)), h, (by wtm_at "g.inv"), (At.same (Le.same (Le.same (Le.same (Le.same (Le.same (Le.lose (Le.lose (Le.lose Le.nil)))))))))⟩
    | any zx_17 =>
      try dsimp only at h
      show SX _ _ _ [some (.cell 0), some (.cell 1), some (.cell 5), some (.cell 6), some (.val (.int used_1)), some (.val (.int (x_8i : Int))), some (.val (.tuple [(.str ("any" : Str)), (.str zx_17)])), none] [(.lst ((rows_0.map Row.D).map SV.val)), (.tup [.cell 2, .cell 3, .cell 4]), (.dct (svK (kvT PyData.int start_0.1))), (.dct (svK (kvT e_tup_int_tupl_tup_int_int start_0.2.1))), (.lst ((start_0.2.2.map Pck.D).map SV.val)), (.dct (svK (kvT PyData.int c_6))), (.dct (svK (kvT e_tup_int_tupl_tup_int_int c_7)))] _
      have hal := Fits.any hJ1_4.2.1 hJ1_4.1
      have hel := hJ1_4.2.2.1.next
      refine sx_cons (s1_if (tv_eqS (ev_ixT (ev_name T rfl (Lk.there (Lk.there (Lk.there (Lk.there (Lk.there (Lk.there Lk.here)))))) rfl) ev_int rfl) ev_str) (fun z => absurd z (by decide)) (fun _ => ?_))
      refine sx_cons (s1_if (tv_eqS (ev_ixT (ev_name T rfl (Lk.there (Lk.there (Lk.there (Lk.there (Lk.there (Lk.there Lk.here)))))) rfl) ev_int rfl) ev_str) (fun z => absurd z (by decide)) (fun _ => ?_))
      refine sx_cons (s1_if (tv_eqS (ev_ixT (ev_name T rfl (Lk.there (Lk.there (Lk.there (Lk.there (Lk.there (Lk.there Lk.here)))))) rfl) ev_int rfl) ev_str) (fun z => absurd z (by decide)) (fun _ => ?_))
      refine sx_cons (s1_if (tv_eqS (ev_ixT (ev_name T rfl (Lk.there (Lk.there (Lk.there (Lk.there (Lk.there (Lk.there Lk.here)))))) rfl) ev_int rfl) ev_str) (fun _ => ?_) (fun z => absurd z (by decide)))
      replace h := letF_elim h
      obtain ⟨r_15, er_15, h⟩ := h
      have pl22 := putSt_len zx_17 (Pck.toI r_15) c_6
      refine sx_cons (s1_dputT (f := PyData.int) (kvs := c_6) (k := zx_17) (y := (Pck.toI r_15)) hr (ev_is (t := .val (.int (Pck.toI r_15))) (ev_as (t := .val (Pck.D r_15)) (cs2 := [(.lst ((rows_0.map Row.D).map SV.val)), (.tup [.cell 2, .cell 3, .cell 4]), (.dct (svK (kvT PyData.int start_0.1))), (.dct (svK (kvT e_tup_int_tupl_tup_int_int start_0.2.1))), (.lst ((start_0.2.2.map Pck.D).map SV.val)), (.dct (svK (kvT PyData.int c_6))), (.dct (svK (kvT e_tup_int_tupl_tup_int_int c_7)))]) (ev_callM (κ := [4]) C_picked hr (by decide) rfl (av_cons (ev_ixC (ev_name T rfl (Lk.there Lk.here) rfl) ev_int rfl rfl) (av_cons (ev_name T rfl (Lk.there (Lk.there (Lk.there (Lk.there Lk.here)))) rfl) (av_cons ev_int av_nil))) (Sel.cons rfl (by wtm_at "d.flat") (by intro z; cases z) Sel.nil) (RenA.cell rfl (RenA.val (RenA.val RenA.nil))) (Sp_picked.mk (picks_0 := start_0.2.2) (used_0 := used_1) (other_0 := (Pck.i 0)) (by wtm_at "g.pre")) (SetA.cons (PutC.there (PutC.there (PutC.there (PutC.there PutC.here)))) SetA.nil) (List.prefix_refl _) (by wtm_at "g.flat") (by decide) rfl) (by subst er_15; rfl) (by subst er_15; rfl)) (by wtm_at "g.pcki")) (ev_name T rfl (Lk.there (Lk.there Lk.here)) rfl) (ev_ixT (ev_name T rfl (Lk.there (Lk.there (Lk.there (Lk.there (Lk.there (Lk.there Lk.here)))))) rfl) ev_int rfl) rfl (by wtm_at "g.sd") (by wtm_at "g.nd") (PutC.there (PutC.there (PutC.there (PutC.there (PutC.there PutC.here))))) ?_)
      show SX _ _ _ _ _ _
      refine sx_cons (s1_aug (f := fun i j => i + j) TL rfl ip_add (Lk.there (Lk.there (Lk.there (Lk.there Lk.here)))) ev_int (Put.there (Put.there (Put.there (Put.there Put.here)))) ?_ rfl)
      show SX _ _ _ _ _ _
      refine sx_nil ?_
      show SX _ _ _ _ _ _
      refine sx_nil ?_
      show SX _ _ _ _ _ _
      refine sx_nil ?_
      show SX _ _ _ _ _ _
      refine sx_nil ?_
      show SX _ _ _ _ _ _
      refine sx_nil ?_
      exact ⟨((used_1 + 1), (putSt c_6 zx_17 (Pck.toI r_15)), c_7), h, (by wtm_at "g.inv"), (At.same (Le.same (Le.same (Le.same (Le.same (Le.same (Le.lose (Le.lose (Le.lose Le.nil)))))))))⟩
    | lose zr_23 =>
      try dsimp only at h
      show SX _ _ _ [some (.cell 0), some (.cell 1), some (.cell 5), some (.cell 6), some (.val (.int used_1)), some (.val (.int (x_8i : Int))), some (.val (.tuple [(.str ("lose" : Str)), (.str zr_23)])), none] [(.lst ((rows_0.map Row.D).map SV.val)), (.tup [.cell 2, .cell 3, .cell 4]), (.dct (svK (kvT PyData.int start_0.1))), (.dct (svK (kvT e_tup_int_tupl_tup_int_int start_0.2.1))), (.lst ((start_0.2.2.map Pck.D).map SV.val)), (.dct (svK (kvT PyData.int c_6))), (.dct (svK (kvT e_tup_int_tupl_tup_int_int c_7)))] _
      have hal := Fits.lose hJ1_4.2.1 hJ1_4.1
      have hel := RowsW.pk hJ1_4.2.2.1 hJ1_4.2.2.2 hp hJ1_4.1 zr_23
      refine sx_cons (s1_if (tv_eqS (ev_ixT (ev_name T rfl (Lk.there (Lk.there (Lk.there (Lk.there (Lk.there (Lk.there Lk.here)))))) rfl) ev_int rfl) ev_str) (fun z => absurd z (by decide)) (fun _ => ?_))
      refine sx_cons (s1_if (tv_eqS (ev_ixT (ev_name T rfl (Lk.there (Lk.there (Lk.there (Lk.there (Lk.there (Lk.there Lk.here)))))) rfl) ev_int rfl) ev_str) (fun z => absurd z (by decide)) (fun _ => ?_))
      refine sx_cons (s1_if (tv_eqS (ev_ixT (ev_name T rfl (Lk.there (Lk.there (Lk.there (Lk.there (Lk.there (Lk.there Lk.here)))))) rfl) ev_int rfl) ev_str) (fun z => absurd z (by decide)) (fun _ => ?_))
      refine sx_cons (s1_if (tv_eqS (ev_ixT (ev_name T rfl (Lk.there (Lk.there (Lk.there (Lk.there (Lk.there (Lk.there Lk.here)))))) rfl) ev_int rfl) ev_str) (fun z => absurd z (by decide)) (fun _ => ?_))
      replace h := letF_elim h
      obtain ⟨r_17, er_17, h⟩ := h
      have pl28 := putSt_len zr_23 (Pck.toR r_17) c_7
      refine sx_cons (s1_dputT (f := e_tup_int_tupl_tup_int_int) (kvs := c_7) (k := zr_23) (y := (Pck.toR r_17)) hr (ev_is (t := .val (.tuple [(.int (Pck.toR r_17).1), (.tuple ((Pck.toR r_17).2.map pD))])) (ev_as (t := .val (Pck.D r_17)) (cs2 := [(.lst ((rows_0.map Row.D).map SV.val)), (.tup [.cell 2, .cell 3, .cell 4]), (.dct (svK (kvT PyData.int start_0.1))), (.dct (svK (kvT e_tup_int_tupl_tup_int_int start_0.2.1))), (.lst ((start_0.2.2.map Pck.D).map SV.val)), (.dct (svK (kvT PyData.int c_6))), (.dct (svK (kvT e_tup_int_tupl_tup_int_int c_7)))]) (ev_callM (κ := [4]) C_picked hr (by decide) rfl (av_cons (ev_ixC (ev_name T rfl (Lk.there Lk.here) rfl) ev_int rfl rfl) (av_cons (ev_name T rfl (Lk.there (Lk.there (Lk.there (Lk.there Lk.here)))) rfl) (av_cons (ev_glo G_EMPTY rfl) av_nil))) (Sel.cons rfl (by wtm_at "d.flat") (by intro z; cases z) Sel.nil) (RenA.cell rfl (RenA.val (RenA.val RenA.nil))) (Sp_picked.mk (picks_0 := start_0.2.2) (used_0 := used_1) (other_0 := (Pck.r ((0, []) : Int × List (Int × Int)))) (by wtm_at "g.pre")) (SetA.cons (PutC.there (PutC.there (PutC.there (PutC.there PutC.here)))) SetA.nil) (List.prefix_refl _) (by wtm_at "g.flat") (by decide) rfl) (by subst er_17; rfl) (by subst er_17; rfl)) (by wtm_at "g.pckr")) (ev_name T rfl (Lk.there (Lk.there (Lk.there Lk.here))) rfl) (ev_ixT (ev_name T rfl (Lk.there (Lk.there (Lk.there (Lk.there (Lk.there (Lk.there Lk.here)))))) rfl) ev_int rfl) rfl (by wtm_at "g.sd") (by wtm_at "g.nd") (PutC.there (PutC.there (PutC.there (PutC.there (PutC.there (PutC.there PutC.here)))))) ?_)
      show SX _ _ _ _ _ _
      refine sx_cons (s1_aug (f := fun i j => i + j) TL rfl ip_add (Lk.there (Lk.there (Lk.there (Lk.there Lk.here)))) ev_int (Put.there (Put.there (Put.there (Put.there Put.here)))) ?_ rfl)
      show SX _ _ _ _ _ _
      refine sx_nil ?_
      show SX _ _ _ _ _ _
      refine sx_nil ?_
      show SX _ _ _ _ _ _
      refine sx_nil ?_
      show SX _ _ _ _ _ _
      refine sx_nil ?_
      show SX _ _ _ _ _ _
      refine sx_nil ?_
      exact ⟨((used_1 + 1), c_6, (putSt c_7 zr_23 (Pck.toR r_17))), h, (by wtm_at "g.inv"), (At.same (Le.same (Le.same (Le.same (Le.same (Le.same (Le.lose (Le.lose (Le.lose Le.nil)))))))))⟩
  case dn2 =>
    clear h
    rintro ⟨used_1, c_6, c_7⟩ hJ1 h slx hlx
    try dsimp only at h hJ1
    refine sx_weak hlx ?_
    obtain ⟨hJ1_0, hJ1_1, hJ1_2, hJ1_3, hJ1_4⟩ := hJ1
    show SX _ _ _ [some (.cell 0), some (.cell 1), some (.cell 5), some (.cell 6), some (.val (.int used_1)), none, none, none] [(.lst ((rows_0.map Row.D).map SV.val)), (.tup [.cell 2, .cell 3, .cell 4]), (.dct (svK (kvT PyData.int start_0.1))), (.dct (svK (kvT e_tup_int_tupl_tup_int_int start_0.2.1))), (.lst ((start_0.2.2.map Pck.D).map SV.val)), (.dct (svK (kvT PyData.int c_6))), (.dct (svK (kvT e_tup_int_tupl_tup_int_int c_7)))] _
    refine sx_cons (s1_ret (ev_tupC (av_cons ev_str (av_cons (ev_name T rfl (Lk.there (Lk.there Lk.here)) rfl) (av_cons (ev_name T rfl (Lk.there (Lk.there (Lk.there Lk.here))) rfl) av_nil))) (AppC.cons (AppC.cons (AppC.cons (AppC.cons (AppC.cons (AppC.cons (AppC.cons AppC.nil))))))) rfl) ?_)
    show RetOk _ _ _ _ _
    subst h
    exact ret_gen [7, 5, 6] [0, 1, 2, 3, 4, 7, 5, 6] rfl (by decide) (SelR.cons rfl (RenC.flat (by wtm_at "d.flat")) (SelR.cons rfl (RenC.ren rfl rfl) (SelR.cons rfl (RenC.flat (by wtm_at "d.flat")) (SelR.cons rfl (RenC.flat (by wtm_at "d.flat")) (SelR.cons rfl (RenC.flat (by wtm_at "d.flat")) (SelR.cons rfl (RenC.ren rfl rfl) (SelR.cons rfl (RenC.flat (by wtm_at "d.flat")) (SelR.cons rfl (RenC.flat (by wtm_at "d.flat")) SelR.nil)))))))) rfl rfl
end
/-! ### what the law's rows hold, as stairs -/
theorem smooth_or (b : Int) (f : Int → Int) : ∀ (ps : List Int) (here : Int) (acc : List (Int × Int)), forL (fun (x : Int) (s : Int × List (Int × Int)) n => if (!decide (f x = s.1)) = true then n (f x, (s.2 ++ [(x, f x)])) else n (s.1, s.2)) (fun s : Int × List (Int × Int) => (b, s.2)) ps (here, acc) = (b, acc ++ cleanF here (ps.map fun p => (p, f p)))
  | [], here, acc => by
    show (b, acc) = (b, acc ++ cleanF here [])
    unfold cleanF
    rw [List.append_nil]
  | q :: r, here, acc => by
    show (if (!decide (f q = here)) = true then forL _ _ r _ else forL _ _ r _) = _
    rw [List.map_cons]
    unfold cleanF
    by_cases h : f q = here
    · rw [if_neg (by simp [h]), if_pos h]
      exact smooth_or b f r here acc
    · rw [if_pos (by simp [h]), if_neg h, smooth_or b f r (f q), List.append_assoc]
      rfl
def holdF (m : Mad) (x : Int) : Int := m.2.2.foldl (fun v w => if w.1 = x then w.2 else v) (m.2.1.foldl (fun v s => if s.1 ≤ x then s.2 else v) m.1)
theorem hold_loop {α : Type} (c : Int × Int → Prop) [DecidablePred c] (k : Int → α) : ∀ (l : List (Int × Int)) (v : Int), forL (fun (x : Int × Int) (s : Int) n => if (decide (c x)) = true then n x.2 else n s) k l v = k (l.foldl (fun v s => if c s then s.2 else v) v)
  | [], v => rfl
  | q :: r, v => by
    show (if decide (c q) = true then forL _ _ r q.2 else forL _ _ r v) = _
    rw [List.foldl_cons]
    by_cases h : c q
    · rw [if_pos (decide_eq_true h), if_pos h]
      exact hold_loop c k r q.2
    · rw [if_neg (by rw [decide_eq_true_eq]; exact h), if_neg h]
      exact hold_loop c k r v
theorem holds_is (m : Mad) (x : Int) : m_law_holds m x = holdF m x := by
  unfold m_law_holds
  refine (hold_loop (fun s => s.1 ≤ x) _ m.2.1 m.1).trans ?_
  exact hold_loop (fun w => w.1 = x) _ m.2.2 _
def places (m : Mad) : List Int := m.2.1.map (fun s => s.1) ++ m.2.2.flatMap fun w => [w.1, w.1 + 1]
theorem flat2 {β : Type} (k : List Int → β) : ∀ (l : List (Int × Int)) (s : List Int), forL (fun (x : Int × Int) (s : List Int) n => n (s ++ ([x.1, (x.1 + 1)] : List Int))) k l s = k (s ++ l.flatMap fun w => [w.1, w.1 + 1])
  | [], s => by rw [List.flatMap_nil, List.append_nil]; rfl
  | q :: r, s => by
    show forL _ _ r (s ++ [q.1, q.1 + 1]) = _
    rw [flat2 k r, List.flatMap_cons, List.append_assoc]
theorem stairs_is (m : Mad) : m_law_stairs m = (m.1, cleanF m.1 ((sortU (places m)).map fun p => (p, holdF m p))) := by
  unfold m_law_stairs
  simp only [letF]
  refine (flat2 _ m.2.2 _).trans ?_
  have := smooth_or m.1 (m_law_holds m) (sortU (places m)) m.1 []
  rw [List.nil_append] at this
  refine Eq.trans this ?_
  have e : (fun p => (p, m_law_holds m p)) = fun p => (p, holdF m p) := funext fun p => by rw [holds_is]
  rw [e]
theorem fold_same {c d : Int × Int → Prop} [DecidablePred c] [DecidablePred d] : ∀ (l : List (Int × Int)) (v : Int), (∀ s ∈ l, c s ↔ d s) → l.foldl (fun v s => if c s then s.2 else v) v = l.foldl (fun v s => if d s then s.2 else v) v
  | [], _, _ => rfl
  | q :: r, v, h => by
    rw [List.foldl_cons, List.foldl_cons]
    have h1 := h q List.mem_cons_self
    have e : (if c q then q.2 else v) = if d q then q.2 else v := by
      by_cases hc : c q
      · rw [if_pos hc, if_pos (h1.mp hc)]
      · rw [if_neg hc, if_neg fun z => hc (h1.mpr z)]
    rw [e]
    exact fold_same r _ fun s hs => h s (List.mem_cons_of_mem _ hs)
theorem fold_none {c : Int × Int → Prop} [DecidablePred c] : ∀ (l : List (Int × Int)) (v : Int), (∀ s ∈ l, ¬ c s) → l.foldl (fun v s => if c s then s.2 else v) v = v
  | [], _, _ => rfl
  | q :: r, v, h => by
    rw [List.foldl_cons, if_neg (h q List.mem_cons_self)]
    exact fold_none r v fun s hs => h s (List.mem_cons_of_mem _ hs)
theorem mem_places {m : Mad} : (∀ s ∈ m.2.1, s.1 ∈ places m) ∧ ∀ w ∈ m.2.2, w.1 ∈ places m ∧ w.1 + 1 ∈ places m := by
  refine ⟨fun s hs => List.mem_append_left _ (List.mem_map.mpr ⟨s, hs, rfl⟩), fun w hw => ⟨?_, ?_⟩⟩
  · exact List.mem_append_right _ (List.mem_flatMap.mpr ⟨w, hw, List.mem_cons_self⟩)
  · exact List.mem_append_right _ (List.mem_flatMap.mpr ⟨w, hw, List.mem_cons_of_mem _ List.mem_cons_self⟩)
theorem hold_const {m : Mad} {x y : Int} (h : ∀ p ∈ places m, p ≤ x ↔ p ≤ y) : holdF m x = holdF m y := by
  unfold holdF
  rw [fold_same (c := fun s => s.1 ≤ x) (d := fun s => s.1 ≤ y) _ _ fun s hs => h _ (mem_places.1 s hs)]
  refine fold_same _ _ fun w hw => ?_
  have h1 := h _ (mem_places.2 w hw).1
  have h2 := h _ (mem_places.2 w hw).2
  omega
theorem hold_low {m : Mad} {x : Int} (h : ∀ p ∈ places m, ¬ p ≤ x) : holdF m x = m.1 := by
  unfold holdF
  rw [fold_none (c := fun s => s.1 ≤ x) _ _ fun s hs => h _ (mem_places.1 s hs)]
  exact fold_none (c := fun w => w.1 = x) _ _ fun w hw z => h _ (mem_places.2 w hw).1 (by omega)
theorem ent_f (f : Int → Int) (x : Int) : ∀ (ps : List Int) (b : Int), ps.Pairwise (· < ·) → ((∀ p ∈ ps, ¬ p ≤ x) → b = f x) → (∀ p ∈ ps, p ≤ x → (∀ q ∈ ps, q ≤ x → q ≤ p) → f p = f x) → entryF b (ps.map fun p => (p, f p)) x = f x
  | [], b, _, hb, _ => hb fun _ z => nomatch z
  | p :: r, b, hs, hb, hc => by
    have h2 := List.pairwise_cons.mp hs
    show (if x < p then b else entryF (f p) (r.map fun p => (p, f p)) x) = f x
    by_cases h : x < p
    · rw [if_pos h]
      refine hb fun q hq => ?_
      rcases List.mem_cons.mp hq with rfl | hq
      · omega
      · have := h2.1 q hq
        omega
    · rw [if_neg h]
      refine ent_f f x r (f p) h2.2 (fun z => ?_) fun q hq h3 h4 => ?_
      · refine hc p List.mem_cons_self (by omega) fun q hq h3 => ?_
        rcases List.mem_cons.mp hq with rfl | hq
        · exact Int.le_refl _
        · exact (z q hq h3).elim
      · refine hc q (List.mem_cons_of_mem _ hq) h3 fun t ht h5 => ?_
        rcases List.mem_cons.mp ht with rfl | ht
        · have := h2.1 q hq
          omega
        · exact h4 t ht h5
theorem places_srt (m : Mad) : Srt2 ((sortU (places m)).map fun p => (p, holdF m p)) := by
  refine List.pairwise_map.mpr ?_
  exact (sortU_ok (places m)).1.imp fun h => h
theorem st_entry (m : Mad) (x : Int) : entryF (m_law_stairs m).1 (m_law_stairs m).2 x = holdF m x := by
  rw [stairs_is]
  show entryF m.1 (cleanF m.1 _) x = _
  rw [entry_clean _ _ _ (places_srt m)]
  have hm := (sortU_ok (places m)).2
  refine ent_f (holdF m) x _ _ (sortU_ok (places m)).1 (fun h => (hold_low fun p hp => h p ((hm p).mpr hp)).symm) fun p hp h1 h2 => hold_const fun q hq => ⟨fun z => by omega, fun z => h2 q ((hm q).mpr hq) z⟩
theorem st_fst (m : Mad) : (m_law_stairs m).1 = m.1 := by rw [stairs_is]
theorem st_srt (m : Mad) : Srt2 (m_law_stairs m).2 := by
  rw [stairs_is]
  exact (places_srt m).sublist (cleanF_sub _ _)
theorem st_clean (m : Mad) : cleanC (m_law_stairs m).1 (m_law_stairs m).2 := by
  rw [stairs_is]
  exact cleanF_clean _ _
theorem st_len {m : Mad} {a b : Nat} (h : m.2.1.length ≤ a ∧ m.2.2.length ≤ b) : (m_law_stairs m).2.length ≤ a + 2 * b := by
  rw [stairs_is]
  have h1 := (cleanF_sub ((sortU (places m)).map fun p => (p, holdF m p)) m.1).length_le
  have h2 := sortU_len (places m)
  have h3 : ∀ l : List (Int × Int), (l.flatMap fun w => [w.1, w.1 + 1]).length = 2 * l.length := by
    intro l
    induction l with
    | nil => rfl
    | cons q r ih =>
      rw [List.flatMap_cons, List.length_append, ih]
      show 2 + 2 * r.length = 2 * (r.length + 1)
      omega
  unfold places at h2
  rw [List.length_append, List.length_map, h3] at h2
  rw [List.length_map] at h1
  show (cleanF m.1 _).length ≤ _
  unfold places at h1 ⊢
  omega
theorem hold_put (m : Mad) (p v x : Int) : holdF (m.1, m.2.1, m.2.2 ++ [(p, v)]) x = if p = x then v else holdF m x := by
  unfold holdF
  rw [List.foldl_append]
  rfl
theorem wr_clean (row : Int × List (Int × Int)) (p v : Int) : cleanC (m_written row p v).1 (m_written row p v).2 := by
  rw [written_is]
  exact cleanF_clean _ _
theorem wr_srt2 {row : Int × List (Int × Int)} (h : Srt2 row.2) (p v : Int) : Srt2 (m_written row p v).2 := by
  rw [written_is]
  exact (wr_srt h p v _).sublist (cleanF_sub _ _)
/-- THE STEP: what is written -/
theorem st_put (m : Mad) (p v : Int) : m_law_stairs (m.1, m.2.1, m.2.2 ++ [(p, v)]) = m_written (m_law_stairs m) p v := by
  have e1 : (m_law_stairs (m.1, m.2.1, m.2.2 ++ [(p, v)])).1 = (m_written (m_law_stairs m) p v).1 := by
    rw [st_fst, written_is]
    exact (st_fst m).symm
  refine Prod.ext e1 (uniq_row _ _ (m_law_stairs (m.1, m.2.1, m.2.2 ++ [(p, v)])).1 (st_srt _) (wr_srt2 (st_srt m) p v) (st_clean _) (by rw [e1]; exact wr_clean _ _ _) fun x => ?_)
  rw [st_entry, hold_put, e1, written_entry (st_srt m), st_entry]
theorem st_zero : m_law_stairs (0, [], []) = (0, []) := by
  have e : sortU (places (0, [], [])) = [] := List.eq_nil_of_length_eq_zero (Nat.le_zero.mp (sortU_len (places (0, [], []))))
  rw [stairs_is, e]
  rfl
def stAll (rows : List (Str × Mad)) : List (Str × (Int × List (Int × Int))) := rows.map fun q => (q.1, m_law_stairs q.2)
theorem lk_st (r : Str) : ∀ rows : List (Str × Mad), lkS (stAll rows) r = (lkS rows r).map m_law_stairs
  | [] => rfl
  | (j, v) :: l => by
    show (if j = r then some (m_law_stairs v) else lkS (stAll l) r) = (if j = r then some v else lkS l r).map m_law_stairs
    split
    · rfl
    · exact lk_st r l
theorem put_st (r : Str) (v : Mad) : ∀ rows : List (Str × Mad), stAll (putSt rows r v) = putSt (stAll rows) r (m_law_stairs v)
  | [] => rfl
  | (j, u) :: l => by
    show stAll (if j = r then (j, v) :: l else (j, u) :: putSt l r v) = (if j = r then (j, m_law_stairs v) :: stAll l else (j, m_law_stairs u) :: putSt (stAll l) r (m_law_stairs v))
    split
    · rfl
    · show (j, m_law_stairs u) :: stAll (putSt l r v) = _
      rw [put_st r v l]
theorem lk_st0 (rows : List (Str × Mad)) (r : Str) : (lkS (stAll rows) r).getD (0, []) = m_law_stairs ((lkS rows r).getD (0, [], [])) := by
  rw [lk_st]
  cases lkS rows r with
  | none => exact st_zero.symm
  | some v => rfl
theorem number_is (x : Str) (n : List (Str × Int)) : m_law_number x n = m_number_at x n := rfl
theorem worth_is (t : Trm) (n : List (Str × Int)) (rows : List (Str × Mad)) : m_law_worth t n rows = m_term_at t n (stAll rows) := by
  cases t with
  | is x =>
    unfold m_law_worth m_term_at
    rfl
  | rd r p =>
    unfold m_law_worth m_term_at
    simp only [letF]
    unfold m_place_at
    simp only [letF]
    rw [holds_is, number_is, lk_st0, st_entry]
/-! ### the program's way through straight rows, plainly -/
abbrev PSt := Int × List (Str × Int) × List (Str × (Int × List (Int × Int)))
def tstep (pk : List Pck) (s : PSt) : Row → PSt
  | .set x t c => (s.1, putSt s.2.1 x (m_term_at t s.2.1 s.2.2 + c), s.2.2)
  | .put r p t c => (s.1, s.2.1, putSt s.2.2 r (m_written ((lkS s.2.2 r).getD (0, [])) (m_place_at p s.2.1) (m_term_at t s.2.1 s.2.2 + c)))
  | .any x => (s.1 + 1, putSt s.2.1 x (Pck.toI (m_picked pk s.1 (Pck.i 0))), s.2.2)
  | .lose r => (s.1 + 1, s.2.1, putSt s.2.2 r (Pck.toR (m_picked pk s.1 (Pck.r (0, [])))))
theorem thr_is (rows : List Row) (start : List (Str × Int) × List (Str × (Int × List (Int × Int))) × List Pck) : m_through rows start = ((rows.foldl (tstep start.2.2) (0, start.1, start.2.1)).2.1, (rows.foldl (tstep start.2.2) (0, start.1, start.2.1)).2.2) := by
  unfold m_through
  have key : ∀ (l : List (Nat × Row)) (s : PSt), forL (fun (x_8 : (Nat × Row)) (s_9 : PSt) (n_1 : PSt → ThrV) => match x_8 with | (x_8i, x_8v) => n_1 (tstep start.2.2 s_9 x_8v)) (fun s_9 : PSt => (s_9.2.1, s_9.2.2)) l s = (((l.map (·.2)).foldl (tstep start.2.2) s).2.1, ((l.map (·.2)).foldl (tstep start.2.2) s).2.2) := by
    intro l
    induction l with
    | nil => exact fun _ => rfl
    | cons q r ih => exact fun s => ih (tstep start.2.2 s q.2)
  have := key (enumL rows) (0, start.1, start.2.1)
  rw [enumL_snd] at this
  rw [← this]
  congr 1
  funext x s n
  obtain ⟨i, row⟩ := x
  cases row <;> rfl
def usesN : List Row → Nat
  | [] => 0
  | r :: l => r.uses + usesN l
theorem uses_snoc (r : Row) : ∀ l : List Row, usesN (l ++ [r]) = usesN l + r.uses
  | [] => by show r.uses + 0 = 0 + r.uses; omega
  | q :: l => by
    show q.uses + usesN (l ++ [r]) = q.uses + usesN l + r.uses
    rw [uses_snoc r l]
    omega
theorem uses_len : ∀ l : List Row, usesN l ≤ l.length
  | [] => Nat.le_refl _
  | q :: l => by
    have := uses_len l
    have h : q.uses ≤ 1 := by cases q <;> (first | exact Nat.zero_le _ | exact Nat.le_refl _)
    show q.uses + usesN l ≤ l.length + 1
    omega
theorem picked_in {pk : List Pck} {u : Nat} {o : Pck} (h : u < pk.length) : m_picked pk (u : Int) o = pk[u] := by
  unfold m_picked
  rw [if_pos (by rw [decide_eq_true_eq]; omega), ixD_eq (by omega) (by omega), List.getD_eq_getElem?_getD]
  show (pk[u]?).getD default = _
  rw [List.getElem?_eq_getElem h]
  rfl
theorem picked_out {pk : List Pck} {u : Nat} {o : Pck} (h : pk.length ≤ u) : m_picked pk (u : Int) o = o := by
  unfold m_picked
  rw [if_neg (by rw [decide_eq_true_eq]; omega)]
/-- how many picks have been taken -/
theorem tst_fst (pk : List Pck) (s : PSt) (r : Row) : (tstep pk s r).1 = s.1 + (r.uses : Int) := by
  cases r with
  | set x t c => exact (Int.add_zero _).symm
  | put r p t c => exact (Int.add_zero _).symm
  | any x => rfl
  | lose r => rfl
theorem fold_fst (pk : List Pck) : ∀ (l : List Row) (s : PSt), (l.foldl (tstep pk) s).1 = s.1 + (usesN l : Int)
  | [], s => (Int.add_zero _).symm
  | r :: l, s => by
    rw [List.foldl_cons, fold_fst pk l, tst_fst]
    show _ = s.1 + ((r.uses + usesN l : Nat) : Int)
    omega
theorem picked_more {pk more : List Pck} {u : Int} {o : Pck} (h0 : 0 ≤ u) (h : u.toNat < pk.length) : m_picked (pk ++ more) u o = m_picked pk u o := by
  have e : u = ((u.toNat : Nat) : Int) := by omega
  rw [e, picked_in h, picked_in (by rw [List.length_append]; omega), List.getElem_append_left h]
theorem fold_more {pk more : List Pck} : ∀ (l : List Row) (s : PSt), 0 ≤ s.1 → s.1.toNat + usesN l ≤ pk.length → l.foldl (tstep (pk ++ more)) s = l.foldl (tstep pk) s
  | [], _, _, _ => rfl
  | r :: l, s, h0, h => by
    have h : s.1.toNat + (r.uses + usesN l) ≤ pk.length := h
    have e : tstep (pk ++ more) s r = tstep pk s r := by
      cases r with
      | set x t c => rfl
      | put r p t c => rfl
      | any x =>
        have h1 : s.1.toNat < pk.length := by have : (Row.any x).uses = 1 := rfl; omega
        show (s.1 + 1, putSt s.2.1 x (Pck.toI (m_picked (pk ++ more) s.1 (Pck.i 0))), s.2.2) = _
        rw [picked_more h0 h1]
        rfl
      | lose x =>
        have h1 : s.1.toNat < pk.length := by have : (Row.lose x).uses = 1 := rfl; omega
        show (s.1 + 1, s.2.1, putSt s.2.2 x (Pck.toR (m_picked (pk ++ more) s.1 (Pck.r (0, []))))) = _
        rw [picked_more h0 h1]
        rfl
    have hf := tst_fst pk s r
    rw [List.foldl_cons, List.foldl_cons, e, fold_more l _ (by omega) (by omega)]
theorem fits_oth {row : Row} (hr : row.uses = 0) : ∀ {l : List Row} {pk : List Pck}, Fits l pk → Fits (l ++ [row]) pk
  | [], pk, _ => by
    cases row with
    | set x t c => exact trivial
    | put r p t c => exact trivial
    | any x => cases hr
    | lose x => cases hr
  | .set _ _ _ :: l, pk, h => fits_oth hr (l := l) h
  | .put _ _ _ _ :: l, pk, h => fits_oth hr (l := l) h
  | .any _ :: l, [], h => fits_oth hr (l := l) h
  | .any _ :: l, _ :: _, h => ⟨h.1, fits_oth hr (l := l) h.2⟩
  | .lose _ :: l, [], h => fits_oth hr (l := l) h
  | .lose _ :: l, _ :: _, h => ⟨h.1, fits_oth hr (l := l) h.2⟩
theorem fits_over {row : Row} : ∀ {l : List Row} {pk : List Pck}, Fits l pk → pk.length ≤ usesN l → Fits (l ++ [row]) pk
  | [], [], _, _ => by cases row <;> exact trivial
  | [], _ :: _, _, h => absurd h (by show ¬ _ + 1 ≤ 0; omega)
  | .set _ _ _ :: l, pk, h, g => fits_over (l := l) h (by have : pk.length ≤ 0 + usesN l := g; omega)
  | .put _ _ _ _ :: l, pk, h, g => fits_over (l := l) h (by have : pk.length ≤ 0 + usesN l := g; omega)
  | .any _ :: l, [], h, _ => fits_over (l := l) h (Nat.zero_le _)
  | .any _ :: l, _ :: pk, h, g => ⟨h.1, fits_over (l := l) h.2 (by have : pk.length + 1 ≤ 1 + usesN l := g; omega)⟩
  | .lose _ :: l, [], h, _ => fits_over (l := l) h (Nat.zero_le _)
  | .lose _ :: l, _ :: pk, h, g => ⟨h.1, fits_over (l := l) h.2 (by have : pk.length + 1 ≤ 1 + usesN l := g; omega)⟩
theorem fits_push {row : Row} {p : Pck} (hp : Fits [row] [p]) : ∀ {l : List Row} {pk : List Pck}, Fits l pk → pk.length = usesN l → Fits (l ++ [row]) (pk ++ [p])
  | [], [], _, _ => hp
  | [], _ :: _, _, h => absurd h (by show ¬ _ + 1 = 0; omega)
  | .set _ _ _ :: l, pk, h, g => by
    have := fits_push hp (l := l) (pk := pk) h (by have : pk.length = 0 + usesN l := g; omega)
    exact this
  | .put _ _ _ _ :: l, pk, h, g => by
    have := fits_push hp (l := l) (pk := pk) h (by have : pk.length = 0 + usesN l := g; omega)
    exact this
  | .any _ :: l, [], h, g => absurd g (by show ¬ 0 = 1 + _; omega)
  | .any _ :: l, _ :: pk, h, g => ⟨h.1, fits_push hp (l := l) h.2 (by have : pk.length + 1 = 1 + usesN l := g; omega)⟩
  | .lose _ :: l, [], h, g => absurd g (by show ¬ 0 = 1 + _; omega)
  | .lose _ :: l, _ :: pk, h, g => ⟨h.1, fits_push hp (l := l) h.2 (by have : pk.length + 1 = 1 + usesN l := g; omega)⟩
theorem fits_more {more : List Pck} : ∀ {l : List Row} {pk : List Pck}, Fits l pk → pk.length = usesN l → Fits l (pk ++ more)
  | [], _, _, _ => trivial
  | .set _ _ _ :: l, pk, h, g => by
    have := fits_more (more := more) (l := l) (pk := pk) h (by have : pk.length = 0 + usesN l := g; omega)
    exact this
  | .put _ _ _ _ :: l, pk, h, g => by
    have := fits_more (more := more) (l := l) (pk := pk) h (by have : pk.length = 0 + usesN l := g; omega)
    exact this
  | .any _ :: l, [], h, g => absurd g (by show ¬ 0 = 1 + _; omega)
  | .any _ :: l, _ :: pk, h, g => ⟨h.1, fits_more (l := l) h.2 (by have : pk.length + 1 = 1 + usesN l := g; omega)⟩
  | .lose _ :: l, [], h, g => absurd g (by show ¬ 0 = 1 + _; omega)
  | .lose _ :: l, _ :: pk, h, g => ⟨h.1, fits_more (l := l) h.2 (by have : pk.length + 1 = 1 + usesN l := g; omega)⟩
/-! ### what stands at each row of the law's walk -/
structure G41 (n0 : List (Str × Int)) (r0 : List (Str × (Int × List (Int × Int)))) (many : Int) (k : Nat) (n : List (Str × Int)) (m : List (Str × Mad)) (pk : List Pck) (st : List Row) : Prop where
  cnt : st.length + k ≤ 40
  mad : MadesW 40 (40 - k) m
  pks : PcksW pk
  fit : Fits st pk
  okr : ∀ r ∈ st, RowOk r
  fold : st.foldl (tstep pk) (0, n0, r0) = ((usesN st : Int), n, stAll m)
  pl : (pk.length : Int) = min many (usesN st)
  nl : n.length + k ≤ 44
  ml : m.length + k ≤ 44
theorem gset_len (x : Str) (t : Trm) (c : Int) (n : List (Str × Int)) (m : List (Str × Mad)) : (m_law_gone_set x t c n m ()).length ≤ n.length + 1 := putSt_len _ _ _
theorem gany_len (x : Str) (v : Int) (n : List (Str × Int)) (m : List (Str × Mad)) : (m_law_gone_any x n m v).length ≤ n.length + 1 := putSt_len _ _ _
theorem glose_len (x : Str) (v : Mad) (n : List (Str × Int)) (m : List (Str × Mad)) : (m_law_gone_lose x n m v).length ≤ m.length + 1 := putSt_len _ _ _
theorem gput_len (r : Str) (p : Str × Int) (t : Trm) (c : Int) (n : List (Str × Int)) (m : List (Str × Mad)) : (m_law_gone_put r p t c n m ()).length ≤ m.length + 1 := putSt_len _ _ _
section
variable {x : Str} {t : Trm} {c v : Int} {w : Mad} {p : Str × Int} {n : List (Str × Int)} {m : List (Str × Mad)}
theorem gset_nd (h : (n.map (·.1)).Nodup) : ((m_law_gone_set x t c n m ()).map (·.1)).Nodup := putSt_nd _ _ _ h
theorem gany_nd (h : (n.map (·.1)).Nodup) : ((m_law_gone_any x n m v).map (·.1)).Nodup := putSt_nd _ _ _ h
theorem glose_nd (h : (m.map (·.1)).Nodup) : ((m_law_gone_lose x n m w).map (·.1)).Nodup := putSt_nd _ _ _ h
theorem gput_nd (h : (m.map (·.1)).Nodup) : ((m_law_gone_put x p t c n m ()).map (·.1)).Nodup := putSt_nd _ _ _ h
end
theorem G41.start {n0 : List (Str × Int)} {m0 : List (Str × Mad)} {r0 : List (Str × (Int × List (Int × Int)))} {many : Int} {k : Nat} (hk : k ≤ 40) (hr : r0 = stAll m0) (hm : MadesW 40 0 m0) (h0 : 0 ≤ many) (hn : n0.length ≤ 4) (hl : m0.length ≤ 4) : G41 n0 r0 many k n0 m0 [] [] where
  cnt := by show 0 + k ≤ 40; omega
  mad := hm.mono (Nat.le_refl _) (Nat.zero_le _)
  pks := fun _ h => nomatch h
  fit := trivial
  okr := fun _ h => nomatch h
  fold := by rw [hr]; rfl
  pl := by show (0 : Int) = min many 0; omega
  nl := by omega
  ml := by omega
section
variable {α : Type} {y : α} {l : List α} {n0 n : List (Str × Int)} {r0 : List (Str × (Int × List (Int × Int)))} {many : Int} {k : Nat} {m : List (Str × Mad)} {pk : List Pck} {st : List Row}
theorem okr_snoc (h : ∀ r ∈ st, RowOk r) {row : Row} (hr : RowOk row) : ∀ r ∈ st ++ [row], RowOk r := fun r hm => by
  rcases List.mem_append.mp hm with z | z
  · exact h r z
  · cases List.mem_singleton.mp z
    exact hr
theorem G41.set (g : G41 n0 r0 many (y :: l).length n m pk st) {x : Str} {t : Trm} {c : Int} (ok : RowOk (.set x t c)) : G41 n0 r0 many l.length (m_law_gone_set x t c n m ()) m pk (st ++ [.set x t c]) := by
  have hc := g.cnt
  have hn1 := g.nl
  have hm1 := g.ml
  have hl1 := gset_len x t c n m
  rw [List.length_cons] at hc hn1 hm1
  refine ⟨by rw [List.length_append, List.length_singleton]; omega, g.mad.mono (Nat.le_refl _) (by rw [List.length_cons]; omega), g.pks, fits_oth rfl g.fit, okr_snoc g.okr ok, ?_, ?_, by omega, by omega⟩
  · rw [List.foldl_append, g.fold, uses_snoc]
    show ((usesN st : Int), putSt n x (m_term_at t n (stAll m) + c), stAll m) = _
    rw [← worth_is]
    rfl
  · rw [uses_snoc]
    exact g.pl
theorem G41.put (g : G41 n0 r0 many (y :: l).length n m pk st) {r : Str} {p : Str × Int} {t : Trm} {c : Int} (ok : RowOk (.put r p t c)) : G41 n0 r0 many l.length n (m_law_gone_put r p t c n m ()) pk (st ++ [.put r p t c]) := by
  have hc := g.cnt
  have hn1 := g.nl
  have hm1 := g.ml
  have hl1 := gput_len r p t c n m
  rw [List.length_cons] at hc hn1 hm1
  have e : m_law_gone_put r p t c n m () = putSt m r (((lkS m r).getD (0, [], [])).1, ((lkS m r).getD (0, [], [])).2.1, ((lkS m r).getD (0, [], [])).2.2 ++ [(m_law_number p.1 n + p.2, m_law_worth t n m + c)]) := rfl
  refine ⟨by rw [List.length_append, List.length_singleton]; omega, ?_, g.pks, fits_oth rfl g.fit, okr_snoc g.okr ok, ?_, ?_, by omega, by omega⟩
  · have h1 := g.mad
    rw [List.length_cons] at h1
    have h2 := h1.get r
    rw [e]
    refine (h1.mono (Nat.le_refl _) (by omega)).put ⟨h2.1, ?_⟩
    dsimp only
    rw [List.length_append, List.length_singleton]
    omega
  · rw [List.foldl_append, g.fold, uses_snoc, e, put_st, st_put, worth_is]
    show ((usesN st : Int), n, putSt (stAll m) r (m_written ((lkS (stAll m) r).getD (0, [])) (m_place_at p n) (m_term_at t n (stAll m) + c))) = _
    rw [lk_st0]
    rfl
  · rw [uses_snoc]
    exact g.pl
theorem G41.over (g : G41 n0 r0 many k n m pk st) (h : ¬ (pk.length : Int) < many) (h0 : 0 ≤ many) : pk.length ≤ usesN st := by
  have := g.pl
  omega
theorem G41.full (g : G41 n0 r0 many k n m pk st) (h : (pk.length : Int) < many) : pk.length = usesN st := by
  have := g.pl
  omega
/-- the next pick is put behind the others, or there is none -/
def PickJ (many : Int) (pk pk' : List Pck) (p d : Pck) : Prop := ((pk.length : Int) < many ∧ pk' = pk ++ [p]) ∨ (¬ (pk.length : Int) < many ∧ pk' = pk ∧ p = d)
theorem pick_next {row : Row} {p d : Pck} {pk' : List Pck} (g : G41 n0 r0 many k n m pk st) (h0 : 0 ≤ many) (hu : row.uses = 1) (hf : Fits [row] [p]) (hp : p.toR.2.length ≤ 150) (h : PickJ many pk pk' p d) : PcksW pk' ∧ Fits (st ++ [row]) pk' ∧ m_picked pk' (usesN st : Int) d = p ∧ st.foldl (tstep pk') (0, n0, r0) = ((usesN st : Int), n, stAll m) ∧ (pk'.length : Int) = min many (usesN st + 1) := by
  have hpl := g.pl
  rcases h with ⟨h1, rfl⟩ | ⟨h1, rfl, rfl⟩
  · have hl := g.full h1
    refine ⟨fun q hq => ?_, fits_push hf g.fit hl, ?_, ?_, by rw [List.length_append, List.length_singleton]; omega⟩
    · rcases List.mem_append.mp hq with z | z
      · exact g.pks q z
      · cases List.mem_singleton.mp z
        exact hp
    · rw [← hl, picked_in (by rw [List.length_append, List.length_singleton]; omega), List.getElem_concat_length rfl]
    · rw [fold_more _ _ (Int.le_refl 0) (by show 0 + usesN st ≤ pk.length; omega), g.fold]
  · have hl := g.over h1 h0
    exact ⟨g.pks, fits_over g.fit hl, picked_out hl, g.fold, by omega⟩
theorem G41.any {pk' : List Pck} {v : Int} (g : G41 n0 r0 many (y :: l).length n m pk st) (h0 : 0 ≤ many) {x : Str} (ok : RowOk (.any x)) (h : PickJ many pk pk' (.i v) (.i 0)) : G41 n0 r0 many l.length (m_law_gone_any x n m v) m pk' (st ++ [.any x]) := by
  have hc := g.cnt
  have hn1 := g.nl
  have hm1 := g.ml
  have hl1 := gany_len x v n m
  rw [List.length_cons] at hc hn1 hm1
  obtain ⟨h1, h2, h3, h4, h5⟩ := pick_next (row := .any x) (p := .i v) (d := .i 0) g h0 rfl ⟨trivial, trivial⟩ (Nat.zero_le _) h
  refine ⟨by rw [List.length_append, List.length_singleton]; omega, g.mad.mono (Nat.le_refl _) (by rw [List.length_cons]; omega), h1, h2, okr_snoc g.okr ok, ?_, ?_, by omega, by omega⟩
  · rw [List.foldl_append, h4, uses_snoc]
    show ((usesN st : Int) + 1, putSt n x (Pck.toI (m_picked pk' (usesN st : Int) (Pck.i 0))), stAll m) = _
    rw [h3]
    rfl
  · rw [uses_snoc]
    exact h5
theorem G41.lose {pk' : List Pck} {v : Mad} (g : G41 n0 r0 many (y :: l).length n m pk st) (h0 : 0 ≤ many) {x : Str} (ok : RowOk (.lose x)) (h : PickJ many pk pk' (.r (m_law_stairs v)) (.r (0, [])) ∧ v.2.1.length ≤ 40 ∧ v.2.2.length ≤ 0) : G41 n0 r0 many l.length n (m_law_gone_lose x n m v) pk' (st ++ [.lose x]) := by
  have hc := g.cnt
  have hn1 := g.nl
  have hm1 := g.ml
  have hl1 := glose_len x v n m
  rw [List.length_cons] at hc hn1 hm1
  have hv := st_len h.2
  obtain ⟨h1, h2, h3, h4, h5⟩ := pick_next (row := .lose x) (p := .r (m_law_stairs v)) (d := .r (0, [])) g h0 rfl ⟨trivial, trivial⟩ (by show (m_law_stairs v).2.length ≤ 150; omega) h.1
  have hm : MadesW 40 (40 - l.length) m := g.mad.mono (Nat.le_refl _) (by rw [List.length_cons]; omega)
  refine ⟨by rw [List.length_append, List.length_singleton]; omega, hm.put ⟨h.2.1, by have := h.2.2; omega⟩, h1, h2, okr_snoc g.okr ok, ?_, ?_, by omega, by omega⟩
  · rw [List.foldl_append, h4, uses_snoc]
    show ((usesN st : Int) + 1, n, putSt (stAll m) x (Pck.toR (m_picked pk' (usesN st : Int) (Pck.r (0, []))))) = _
    rw [h3]
    show _ = (_, n, stAll (putSt m x v))
    rw [put_st]
    rfl
  · rw [uses_snoc]
    exact h5
def PickE (many : Int) (pk pk' : List Pck) : Prop := pk' = pk ∨ many = 60 ∧ ∃ v, pk' = pk ++ [Pck.i v]
theorem G41.fin {pk' : List Pck} (g : G41 n0 r0 many k n m pk st) (h : PickE many pk pk') : Fits st pk' ∧ PcksW pk' ∧ m_through st (n0, r0, pk') = (n, stAll m) := by
  have hu := uses_len st
  have hc := g.cnt
  have hpl := g.pl
  rw [thr_is]
  dsimp only
  rcases h with rfl | ⟨e, v, rfl⟩
  · exact ⟨g.fit, g.pks, by rw [g.fold]⟩
  · have hl : pk.length = usesN st := by omega
    refine ⟨fits_more g.fit hl, fun q hq => ?_, ?_⟩
    · rcases List.mem_append.mp hq with z | z
      · exact g.pks q z
      · cases List.mem_singleton.mp z
        exact Nat.zero_le _
    · rw [fold_more _ _ (Int.le_refl 0) (by show 0 + usesN st ≤ pk.length; omega), g.fold]
end
theorem PickJ.yes {many : Int} {pk : List Pck} {p d : Pck} (h : (pk.length : Int) < many) : PickJ many pk (pk ++ [p]) p d := .inl ⟨h, rfl⟩
theorem PickJ.no {many : Int} {pk : List Pck} {d : Pck} (h : ¬ (pk.length : Int) < many) : PickJ many pk pk d d := .inr ⟨h, rfl, rfl⟩
theorem PickJ.noR {many : Int} {pk : List Pck} (h : ¬ (pk.length : Int) < many) : PickJ many pk pk (Pck.r (m_law_stairs (0, [], []))) (Pck.r (0, [])) := by
  rw [st_zero]
  exact .no h
theorem PickE.yes {many v : Int} {pk : List Pck} (h : many = 60) : PickE many pk (pk ++ [Pck.i v]) := .inr ⟨h, v, rfl⟩
theorem PickE.no {many : Int} {pk : List Pck} : PickE many pk pk := .inl rfl
/-! ### dicts made name by name -/
def StOf (rows : List (Str × Mad)) (rest : List Str) (s : List (Str × (Int × List (Int × Int)))) : Prop := ∃ pre, rows.map (·.1) = pre ++ rest ∧ s = pre.map fun k => (k, m_law_stairs ((lkS rows k).getD default))
theorem StOf.start (rows : List (Str × Mad)) : StOf rows (rows.map (·.1)) [] := ⟨[], rfl, rfl⟩
theorem putSt_new {α : Type} {k : Str} {v : α} : ∀ {ps : List (Str × α)}, k ∉ ps.map (·.1) → putSt ps k v = ps ++ [(k, v)]
  | [], _ => rfl
  | (j, u) :: r, h => by
    show (if j = k then _ else (j, u) :: putSt r k v) = _
    rw [if_neg fun z => h (by rw [← z]; exact List.mem_cons_self), putSt_new fun z => h (List.mem_cons_of_mem _ z)]
    rfl
theorem StOf.turn {rows : List (Str × Mad)} {x : Str} {l : List Str} {s : List (Str × (Int × List (Int × Int)))} (h : StOf rows (x :: l) s) (nd : (rows.map (·.1)).Nodup) : StOf rows l (putSt s x (m_law_stairs ((lkS rows x).getD default))) := by
  obtain ⟨pre, h1, rfl⟩ := h
  refine ⟨pre ++ [x], by rw [h1, List.append_assoc]; rfl, ?_⟩
  rw [putSt_new, List.map_append]
  · rfl
  · rw [h1] at nd
    have e : (pre.map fun k => (k, m_law_stairs ((lkS rows k).getD default))).map (·.1) = pre := by
      rw [List.map_map]
      exact List.map_id' _
    rw [e]
    exact fun z => (List.nodup_append.mp nd).2.2 x z x List.mem_cons_self rfl
theorem lkS_here {α : Type} : ∀ {rows : List (Str × α)} {q : Str × α}, (rows.map (·.1)).Nodup → q ∈ rows → lkS rows q.1 = some q.2
  | (j, v) :: r, q, nd, h => by
    have nd := List.nodup_cons.mp nd
    show (if j = q.1 then some v else lkS r q.1) = some q.2
    rcases List.mem_cons.mp h with rfl | h
    · rw [if_pos rfl]
    · rw [if_neg fun z => nd.1 (by show j ∈ r.map (·.1); rw [z]; exact List.mem_map.mpr ⟨q, h, rfl⟩)]
      exact lkS_here nd.2 h
theorem StOf.done {rows : List (Str × Mad)} {s : List (Str × (Int × List (Int × Int)))} (h : StOf rows [] s) (nd : (rows.map (·.1)).Nodup) : s = stAll rows := by
  obtain ⟨pre, h1, rfl⟩ := h
  rw [List.append_nil] at h1
  rw [← h1, List.map_map]
  unfold stAll
  refine List.map_congr_left fun q hq => ?_
  show (q.1, m_law_stairs ((lkS rows q.1).getD default)) = _
  rw [lkS_here nd hq]
  rfl
theorem stAll_W {rows : List (Str × Mad)} {a b : Nat} (h : MadesW a b rows) (c : Nat) (hc : a + 2 * b ≤ c) : RowsW c (stAll rows) := fun q hq => by
  obtain ⟨p, hp, rfl⟩ := List.mem_map.mp hq
  exact Nat.le_trans (st_len (h p hp)) hc
theorem stAll_fst (rows : List (Str × Mad)) : (stAll rows).map (·.1) = rows.map (·.1) := by
  unfold stAll
  rw [List.map_map]
  rfl
theorem MadesW.pre {a b : Nat} {rows : List (Str × Mad)} (h : MadesW a b rows) (h1 : a ≤ 100 ∧ b ≤ 100) (k : Str) : ((lkS rows k).getD default).2.1.length ≤ 100 ∧ ((lkS rows k).getD default).2.2.length ≤ 100 := ⟨Nat.le_trans (h.at k).1 h1.1, Nat.le_trans (h.at k).2 h1.2⟩
/-! ### shapes -/
theorem dk_all4 {st : List Row} (h : ∀ r ∈ st, RowOk r) : dkD 4 (.list (st.map Row.D)) = true := by
  show (st.map Row.D).all (dkD 3) = true
  rw [List.all_eq_true]
  intro d hd
  obtain ⟨r, hr, rfl⟩ := List.mem_map.mp hd
  exact h r hr
theorem dk_pcks (pk : List Pck) : dkD 4 (.list (pk.map Pck.D)) = true := by
  show (pk.map Pck.D).all (dkD 3) = true
  rw [List.all_eq_true]
  intro d hd
  obtain ⟨p, _, rfl⟩ := List.mem_map.mp hd
  cases p with
  | i n => rfl
  | r s => exact dk_st s
local macro_rules | `(tactic| wtm_at "g.pre") => `(tactic| ((try dsimp only); first | assumption | omega | (refine ⟨?_, ?_⟩ <;> (first | assumption | omega | (constructor <;> omega))) | exact MadesW.pre (by assumption) (by constructor <;> decide) _ | (subst_vars; assumption) | (subst_vars; omega) | fail))
local macro_rules | `(tactic| wtm_at "g.shp") => `(tactic| assumption)
local macro_rules | `(tactic| wtm_at "g.eqr") => `(tactic| first | assumption | (rw [‹PyData.eqv _ _ = true›]; rfl) | simp [‹PyData.eqv _ _ = true›] | fail)
local macro_rules | `(tactic| wtm_at "d.mul") => `(tactic| first | exact bd_mul_small (by assumption) (by decide) | (subst_vars; exact bd_mul_small (by assumption) (by decide)) | fail)
local macro_rules | `(tactic| wtm_at "g.inv") => `(tactic| ((try dsimp only); first | with_reducible assumption | exact StOf.start _ | (subst_vars; exact StOf.turn (by assumption) (by assumption)) | (subst_vars; exact MadesW.put (by assumption) ⟨Nat.le_of_ble_eq_true rfl, Nat.le_of_ble_eq_true rfl⟩) | exact PickJ.yes (by omega) | exact PickJ.no (by omega) | (refine ⟨PickJ.noR (by omega), ?_, ?_⟩ <;> decide) | (refine ⟨?_, by omega, by omega⟩; subst_vars; exact PickJ.yes (by omega)) | exact PickE.yes (by omega) | exact PickE.no | exact G41.start (by rw [enumL_len, List.length_take]; omega) (by assumption) (by assumption) (by omega) (by omega) (by omega) | (subst_vars; first | exact G41.set (by assumption) (by assumption) | exact G41.put (by assumption) (by assumption) | exact G41.any (by assumption) (by omega) (by assumption) (by assumption) | exact G41.lose (by assumption) (by omega) (by assumption) (by assumption) | exact gset_nd (by assumption) | exact gput_nd (by assumption) | exact gany_nd (by assumption) | exact glose_nd (by assumption) | fail) | fail))
def m_law (S_0 : Scr) : Bool := letF (m_law_cell_at S_0 0) fun r_1 => letF (m_law_words r_1 8) fun r_2 => letF (m_law_cell_at S_0 0) fun r_3 => letF (((r_3 * 998244353) % 200000000000000000) - 100000000000000000) fun near_4 => letF (m_law_start S_0 r_2 near_4) fun r_5 => letF (m_law_cell_at S_0 0) fun r_6 => joinF (fun (q_9 : ((List (Str × Int)) × (List (Str × (Int × (List (Int × Int)) × (List (Int × Int))))))) => forL (fun (x_16 : Str) (s_17 : ((List (Str × (Int × (List (Int × Int))))))) n_1 => letF (m_law_stairs ((lkS q_9.2 x_16).getD default)) fun r_18 => n_1 ((putSt s_17 x_16 r_18))) (fun s_17 : ((List (Str × (Int × (List (Int × Int)))))) => letF (m_law_cell_at S_0 0) fun r_19 => letF (ixD ([60, 0, 3] : (List Int)) ((r_19 / 7) % 3)) fun many_20 => forL (fun (x_27 : (Nat × Int)) (s_28 : ((List (Str × Int)) × (List (Str × (Int × (List (Int × Int)) × (List (Int × Int))))) × (List Pck) × (List Row))) n_2 => match x_27 with | (x_27i, x_27v) => letF (m_law_mix (x_27v % 2147483647) (x_27i : Int)) fun r_29 => letF (m_law_drawn r_29 r_2 near_4) fun r_30 => (match r_30 with | .set zx_21 zt_22 zc_23 => letF (m_law_gone_set zx_21 zt_22 zc_23 s_28.1 s_28.2.1 ()) fun c_31 => n_2 (c_31, s_28.2.1, s_28.2.2.1, (s_28.2.2.2 ++ [(Row.set zx_21 zt_22 zc_23)])) | .put zr_25 zp_26 zt_27 zc_28 => letF (m_law_gone_put zr_25 zp_26 zt_27 zc_28 s_28.1 s_28.2.1 ()) fun c_32 => n_2 (s_28.1, c_32, s_28.2.2.1, (s_28.2.2.2 ++ [(Row.put zr_25 zp_26 zt_27 zc_28)])) | .any zx_30 => letF (m_law_mix (x_27v % 2147483647) ((x_27i : Int) + 100)) fun r_33 => letF (m_law_pick_any r_33 zx_30 near_4) fun r_34 => joinF (fun (q_37 : (Int × (List Pck))) => letF (m_law_gone_any zx_30 s_28.1 s_28.2.1 q_37.1) fun c_38 => n_2 (c_38, s_28.2.1, q_37.2, (s_28.2.2.2 ++ [(Row.any zx_30)]))) fun j_2 => if (decide ((s_28.2.2.1.length : Int) < many_20)) then j_2 (r_34, (s_28.2.2.1 ++ [(Pck.i r_34)])) else j_2 (0, s_28.2.2.1) | .lose zr_35 => letF (m_law_mix (x_27v % 2147483647) ((x_27i : Int) + 100)) fun r_39 => letF (m_law_pick_lose r_39 zr_35 near_4) fun r_40 => joinF (fun (q_43 : ((Int × (List (Int × Int)) × (List (Int × Int))) × (List Pck))) => letF (m_law_gone_lose zr_35 s_28.1 s_28.2.1 q_43.1) fun c_45 => n_2 (s_28.1, c_45, q_43.2, (s_28.2.2.2 ++ [(Row.lose zr_35)]))) fun j_3 => if (decide ((s_28.2.2.1.length : Int) < many_20)) then letF (m_law_stairs r_40) fun r_44 => j_3 (r_40, (s_28.2.2.1 ++ [(Pck.r r_44)])) else j_3 ((0, ([] : (List (Int × Int))), ([] : (List (Int × Int)))), s_28.2.2.1))) (fun s_28 : ((List (Str × Int)) × (List (Str × (Int × (List (Int × Int)) × (List (Int × Int))))) × (List Pck) × (List Row)) => joinF (fun (q_47 : ((List Pck))) => forL (fun (x_55 : Str) (s_56 : ((List (Str × (Int × (List (Int × Int))))))) n_3 => letF (m_law_stairs ((lkS s_28.2.1 x_55).getD default)) fun r_57 => n_3 ((putSt s_56 x_55 r_57))) (fun s_56 : ((List (Str × (Int × (List (Int × Int)))))) => letF (m_through s_28.2.2.2 (q_9.1, s_17, q_47)) fun r_58 => letF (m_through s_28.2.2.2 (q_9.1, s_17, q_47)) fun r_59 => true) (s_28.2.1.map (·.1)) (([] : (List (Str × (Int × (List (Int × Int)))))))) fun j_4 => if ((decide (many_20 = 60)) && (decide ((((m_law_cell_at S_0 0) / 42) % 3) = 1))) then j_4 ((s_28.2.2.1 ++ [(Pck.i near_4)])) else j_4 (s_28.2.2.1)) (enumL ((S_0.ns.drop 4).take (44 - 4))) (q_9.1, q_9.2, ([] : (List Pck)), ([] : (List Row)))) (q_9.2.map (·.1)) (([] : (List (Str × (Int × (List (Int × Int)))))))) fun j_1 => if (decide (((r_6 / 21) % 2) = 1)) then j_1 ((putSt r_5.1 (ixD r_2 6) (near_4 + 5)), (putSt r_5.2 (ixD r_2 7) (near_4, ([(7, (near_4 + 1))] : (List (Int × Int))), ([] : (List (Int × Int)))))) else j_1 (r_5.1, r_5.2)
theorem eq_letF {α ρ : Type} {a : α} {f : α → ρ} {r : ρ} (h : ∀ x, f x = r) : letF a f = r := h a
theorem eq_joinF {α ρ : Type} {k : α → ρ} {f : (α → ρ) → ρ} {r : ρ} (hk : ∀ x, k x = r) (hf : ∀ j : α → ρ, (∀ x, j x = r) → f j = r) : joinF k f = r := hf k hk
theorem eq_forL {α σ ρ : Type} {body : α → σ → (σ → ρ) → ρ} {k : σ → ρ} {r : ρ} (es : List α) (s : σ) (hb : ∀ x s n, (∀ s', n s' = r) → body x s n = r) (hk : ∀ s, k s = r) : forL body k es s = r := by
  induction es generalizing s with
  | nil => exact hk s
  | cons x xs ih => exact hb x s _ fun s' => ih s'
theorem law_true (S : Scr) : m_law S = true := by
  unfold m_law
  refine eq_letF fun r_1 => eq_letF fun r_2 => eq_letF fun r_3 => eq_letF fun near => eq_letF fun r_5 => eq_letF fun r_6 => eq_joinF (fun q => ?_) fun j hj => ?_
  · refine eq_forL _ _ (fun x s n hn => eq_letF fun _ => hn _) (fun s => eq_letF fun r_19 => eq_letF fun many => ?_)
    refine eq_forL _ _ (fun x s n hn => ?_) (fun s => eq_joinF (fun q => eq_forL _ _ (fun x s n hn => eq_letF fun _ => hn _) (fun s => eq_letF fun _ => eq_letF fun _ => rfl)) fun j hj => ?_)
    · obtain ⟨i, v⟩ := x
      dsimp only
      refine eq_letF fun _ => eq_letF fun r => ?_
      cases r with
      | set x t c => exact eq_letF fun _ => hn _
      | put r p t c => exact eq_letF fun _ => hn _
      | any x =>
        refine eq_letF fun _ => eq_letF fun _ => eq_joinF (fun q => eq_letF fun _ => hn _) fun j hj => ?_
        split
        · exact hj _
        · exact hj _
      | lose r =>
        refine eq_letF fun _ => eq_letF fun _ => eq_joinF (fun q => eq_letF fun _ => hn _) fun j hj => ?_
        split
        · exact eq_letF fun _ => hj _
        · exact hj _
    · split
      · exact hj _
      · exact hj _
  · split
    · exact hj _
    · exact hj _
section
variable {P : Program} {w : World} {K : PySem.W.Frag} {mg : Str → Option Value} {base : Heap}
inductive SpLaw : Spec
  | mk {S : Scr} : SpLaw [.val S.D] [] (.val (.bool true)) []
theorem fn_law {f : Addr} {fd : FuncData} (F : Fun K "law" "law" s_law f fd) (C_law_cell_at : Cal P w K mg base 1 "_law_cell_at" 2 Sp_law_cell_at) (C_law_words : Cal P w K mg base 1 "_law_words" 2 Sp_law_words) (C_law_start : Cal P w K mg base 3 "_law_start" 3 Sp_law_start) (C_law_stairs : Cal P w K mg base 2 "_law_stairs" 1 Sp_law_stairs) (C_law_mix : Cal P w K mg base 1 "_law_mix" 2 Sp_law_mix) (C_law_drawn : Cal P w K mg base 3 "_law_drawn" 3 Sp_law_drawn) (C_law_gone_set : Cal P w K mg base 3 "_law_gone" 4 Sp_law_gone_set) (C_law_gone_put : Cal P w K mg base 3 "_law_gone" 4 Sp_law_gone_put) (C_law_pick_any : Cal P w K mg base 1 "_law_pick" 3 Sp_law_pick_any) (C_law_gone_any : Cal P w K mg base 1 "_law_gone" 4 Sp_law_gone_any) (C_law_pick_lose : Cal P w K mg base 3 "_law_pick" 3 Sp_law_pick_lose) (C_law_gone_lose : Cal P w K mg base 1 "_law_gone" 4 Sp_law_gone_lose) (C_through : Cal P w K mg base 4 "through" 2 Sp_through) (C_law_alike : Cal P w K mg base 1 "_law_alike" 2 Sp_law_alike) (z_dict : mg "dict" = none) (z_enumerate : mg "enumerate" = none) (z_int : mg "int" = none) (z_len : mg "len" = none) (z_list : mg "list" = none) : FnOk P w K mg base CX0 5 f fd P_law (spM K 1 SpLaw) := by
  refine fn_def F sc_law tb_law (fun f cdv A outer s0 H E hr T TL svs cs sv cs1 hsp hl => ?_)
  cases hsp with
  | @mk S_0 =>
  refine (fun (key : ∀ R0, m_law S_0 = R0 → SX _ _ _ _ _ { nx := fun _ cs2 => RetOk 0 (.val (.bool R0)) [] (.val .none) cs2, rt := fun s2 cs2 => RetOk 0 (.val (.bool R0)) [] s2 cs2 }) => key true (law_true S_0)) ?_
  intro R0 h
  unfold m_law at h
  have hSl := S_0.len
  show SX _ _ _ [some (.val (Scr.D S_0)), none, none, none, none, none, none, none, none, none, none, none, none, none, none, none, none, none] [] _
  replace h := letF_elim h
  obtain ⟨r_1, er_1, h⟩ := h
  replace h := letF_elim h
  obtain ⟨r_2, er_2, h⟩ := h
  have p1 := cell_bd S_0 0
  have p2 := words_len r_1 8
  refine sx_cons (s1_set TL rfl (ev_as (t := .val (.list (r_2.map PyData.str))) (cs2 := []) (ev_callM (κ := []) C_law_words hr (by decide) rfl (av_cons (ev_as (t := .val (.int r_1)) (cs2 := []) (ev_callM (κ := []) C_law_cell_at hr (by decide) rfl (av_cons (ev_name T rfl Lk.here rfl) (av_cons ev_int av_nil)) Sel.nil (RenA.val (RenA.val RenA.nil)) (Sp_law_cell_at.mk (script_0 := S_0) (k_0 := 0) (by wtm_at "g.pre")) SetA.nil (List.prefix_refl _) rfl (by decide) rfl) (by subst er_1; rfl) (by subst er_1; rfl)) (av_cons ev_int av_nil)) Sel.nil (RenA.val (RenA.val RenA.nil)) (Sp_law_words.mk (cell_0 := r_1) (many_0 := 8) (by wtm_at "g.pre") (by wtm_at "g.pre")) SetA.nil (List.prefix_refl _) rfl (by decide) rfl) (by subst er_2; rfl) (by subst er_2; rfl)) (Put.there Put.here) ?_ rfl)
  show SX _ _ _ _ _ _
  replace h := letF_elim h
  obtain ⟨r_3, er_3, h⟩ := h
  replace h := letF_elim h
  obtain ⟨near_4, enear_4, h⟩ := h
  have p3 := cell_bd S_0 0
  refine sx_cons (s1_set TL rfl (ev_is (t := .val (.int near_4)) (ev_sub (ev_mod (ev_mul (ev_as (t := .val (.int r_3)) (cs2 := []) (ev_callM (κ := []) C_law_cell_at hr (by decide) rfl (av_cons (ev_name T rfl Lk.here rfl) (av_cons ev_int av_nil)) Sel.nil (RenA.val (RenA.val RenA.nil)) (Sp_law_cell_at.mk (script_0 := S_0) (k_0 := 0) (by wtm_at "g.pre")) SetA.nil (List.prefix_refl _) rfl (by decide) rfl) (by subst er_3; rfl) (by subst er_3; rfl)) ev_int (by wtm_at "d.mul")) (ev_is (t := .val (.int 200000000000000000)) (ev_mul ev_int (ev_is (t := .val (.int 100000000000000000)) (ev_pow ev_int ev_int ⟨by decide, by decide, by decide⟩) rfl) (by wtm_at "d.mul")) rfl) (by wtm_at "d.side")) (ev_is (t := .val (.int 100000000000000000)) (ev_pow ev_int ev_int ⟨by decide, by decide, by decide⟩) rfl)) (by subst enear_4; rfl)) (Put.there (Put.there Put.here)) ?_ rfl)
  show SX _ _ _ _ _ _
  replace h := letF_elim h
  obtain ⟨r_5, er_5, h⟩ := h
  have hs5 := start_ok S_0 r_2 near_4
  rw [er_5] at hs5
  obtain ⟨hs5a, hs5b, hs5c, hs5d, hs5e⟩ := hs5
  refine sx_cons (s1_asg (ev_as (t := .cell 0) (cs2 := [(.tup [.cell 1, .cell 2]), (.dct (svK (kvT PyData.int r_5.1))), (.dct (svK (kvT e_tup_int_tupl_tup_int_int_tupl_tup_int_int r_5.2)))]) (ev_callG (κ := []) (da := []) (db := [(.tup [.cell 1, .cell 2]), (.dct (svK (kvT PyData.int (m_law_start S_0 r_2 near_4).1))), (.dct (svK (kvT e_tup_int_tupl_tup_int_int_tupl_tup_int_int (m_law_start S_0 r_2 near_4).2)))]) C_law_start hr (by decide) rfl (av_cons (ev_name T rfl Lk.here rfl) (av_cons (ev_name T rfl (Lk.there Lk.here) rfl) (av_cons (ev_name T rfl (Lk.there (Lk.there Lk.here)) rfl) av_nil))) SelR.nil (RenA.val (RenA.val (RenA.val RenA.nil))) (Sp_law_start.mk (script_0 := S_0) (w_0 := r_2) (near_0 := near_4) (by wtm_at "g.pre") (by wtm_at "g.pre")) (Paired.cons (RenC.ren rfl rfl) (Paired.cons (RenC.flat (by wtm_at "d.flat")) (Paired.cons (RenC.flat (by wtm_at "d.flat")) Paired.nil))) rfl SetA.nil rfl rfl (by decide) rfl) rfl (by subst er_5; rfl)) ?_)
  refine gx_tupC rfl rfl (gxs_cons (gx_name TL rfl (Put.there (Put.there (Put.there Put.here))) (gxs_cons (gx_name TL rfl (Put.there (Put.there (Put.there (Put.there Put.here)))) (gxs_nil ?_) rfl)) rfl)) rfl
  show SX _ _ _ _ _ _
  replace h := letF_elim h
  obtain ⟨r_6, er_6, h⟩ := h
  have p4 := cell_bd S_0 0
  replace h := joinF_elim h
  obtain ⟨j_1, hj_1, h⟩ := h
  refine' sx_cutA (fun sl1 cs1 => ∃ q_9 : ((List (Str × Int)) × (List (Str × (Int × (List (Int × Int)) × (List (Int × Int)))))), j_1 q_9 = R0 ∧ ((q_9.1.length ≤ (r_5.1).length + 1) ∧ (q_9.1.map (·.1)).Nodup ∧ (q_9.2.length ≤ (r_5.2).length + 1) ∧ (q_9.2.map (·.1)).Nodup ∧ (MadesW 40 0 q_9.2)) ∧ sl1 = [some (.val (Scr.D S_0)), some (.val (.list (r_2.map PyData.str))), some (.val (.int near_4)), some (.cell 1), some (.cell 2), none, none, none, none, none, none, none, none, none, none, none, none, none] ∧ cs1 = [(.tup [.cell 1, .cell 2]), (.dct (svK (kvT PyData.int q_9.1))), (.dct (svK (kvT e_tup_int_tupl_tup_int_int_tupl_tup_int_int q_9.2)))]) ?st6 ?rest6
  case st6 =>
    refine' s1_if (tv_eqI (ev_mod (ev_div (ev_as (t := .val (.int r_6)) (cs2 := [(.tup [.cell 1, .cell 2]), (.dct (svK (kvT PyData.int r_5.1))), (.dct (svK (kvT e_tup_int_tupl_tup_int_int_tupl_tup_int_int r_5.2)))]) (ev_callM (κ := []) C_law_cell_at hr (by decide) rfl (av_cons (ev_name T rfl Lk.here rfl) (av_cons ev_int av_nil)) Sel.nil (RenA.val (RenA.val RenA.nil)) (Sp_law_cell_at.mk (script_0 := S_0) (k_0 := 0) (by wtm_at "g.pre")) SetA.nil (List.prefix_refl _) rfl (by decide) rfl) (by subst er_6; rfl) (by subst er_6; rfl)) ev_int (by wtm_at "d.div")) ev_int (by wtm_at "d.side")) ev_int) ?y6 ?n6
    case y6 =>
      intro hb5
      have hb5x := hb5
      try simp only [Bool.and_eq_true, Bool.or_eq_true, Bool.and_eq_false_iff, Bool.or_eq_false_iff, decide_eq_true_eq, decide_eq_false_iff_not, Bool.not_eq_true', Bool.not_eq_false', Bool.not_eq_eq_eq_not, Bool.not_true, Bool.not_false] at hb5x
      rw [if_pos hb5] at h
      have at7 : L2.atI (r_2.map PyData.str) 6 = some (PyData.str (ixD r_2 6)) := at_ixD (f := PyData.str) (by wtm_at "g.sd") (by wtm_at "g.sd")
      have pl8 := putSt_len (ixD r_2 6) (near_4 + 5) r_5.1
      refine sx_cons (s1_dputT (f := PyData.int) (kvs := r_5.1) (k := (ixD r_2 6)) (y := (near_4 + 5)) hr (ev_add (ev_name T rfl (Lk.there (Lk.there Lk.here)) rfl) ev_int) (ev_name T rfl (Lk.there (Lk.there (Lk.there Lk.here))) rfl) (ev_ixLv (ev_name T rfl (Lk.there Lk.here) rfl) ev_int at7) rfl (by wtm_at "g.sd") (by wtm_at "g.nd") (PutC.there PutC.here) ?_)
      show SX _ _ _ _ _ _
      have at9 : L2.atI (r_2.map PyData.str) 7 = some (PyData.str (ixD r_2 7)) := at_ixD (f := PyData.str) (by wtm_at "g.sd") (by wtm_at "g.sd")
      have pl10 := putSt_len (ixD r_2 7) (near_4, ([(7, (near_4 + 1))] : (List (Int × Int))), ([] : (List (Int × Int)))) r_5.2
      refine sx_cons (s1_dputT (f := e_tup_int_tupl_tup_int_int_tupl_tup_int_int) (kvs := r_5.2) (k := (ixD r_2 7)) (y := (near_4, ([(7, (near_4 + 1))] : (List (Int × Int))), ([] : (List (Int × Int))))) hr (ev_tup (ad_cons (ev_name T rfl (Lk.there (Lk.there Lk.here)) rfl) (ad_cons (ev_tup (ad_cons (ev_tup (ad_cons ev_int (ad_cons (ev_add (ev_name T rfl (Lk.there (Lk.there Lk.here)) rfl) ev_int) ad_nil)) rfl) ad_nil) rfl) (ad_cons (ev_tup ad_nil rfl) ad_nil))) rfl) (ev_name T rfl (Lk.there (Lk.there (Lk.there (Lk.there Lk.here)))) rfl) (ev_ixLv (ev_name T rfl (Lk.there Lk.here) rfl) ev_int at9) rfl (by wtm_at "g.sd") (by wtm_at "g.nd") (PutC.there (PutC.there PutC.here)) ?_)
      show SX _ _ _ _ _ _
      refine sx_nil ?_
      exact ⟨_, _, ⟨((putSt r_5.1 (ixD r_2 6) (near_4 + 5)), (putSt r_5.2 (ixD r_2 7) (near_4, ([(7, (near_4 + 1))] : (List (Int × Int))), ([] : (List (Int × Int)))))), h, (by wtm_at "g.inv"), rfl, rfl⟩, (At.same (Le.same (Le.same (Le.same (Le.same (Le.same (Le.lose (Le.lose (Le.lose (Le.lose (Le.lose (Le.lose (Le.lose (Le.lose (Le.lose (Le.lose (Le.lose (Le.lose (Le.lose Le.nil)))))))))))))))))))⟩
    case n6 =>
      intro hb5
      have hb5x := hb5
      try simp only [Bool.and_eq_true, Bool.or_eq_true, Bool.and_eq_false_iff, Bool.or_eq_false_iff, decide_eq_true_eq, decide_eq_false_iff_not, Bool.not_eq_true', Bool.not_eq_false', Bool.not_eq_eq_eq_not, Bool.not_true, Bool.not_false] at hb5x
      rw [if_neg (by rw [hb5]; decide)] at h
      refine sx_nil ?_
      exact ⟨_, _, ⟨(r_5.1, r_5.2), h, (by wtm_at "g.inv"), rfl, rfl⟩, (At.same (Le.same (Le.same (Le.same (Le.same (Le.same (Le.lose (Le.lose (Le.lose (Le.lose (Le.lose (Le.lose (Le.lose (Le.lose (Le.lose (Le.lose (Le.lose (Le.lose (Le.lose Le.nil)))))))))))))))))))⟩
  clear h
  rintro _ _ ⟨⟨c_7, c_8⟩, h, hi1, rfl, rfl⟩
  replace h := hj_1 _ h
  try dsimp only at h hi1
  obtain ⟨hi1_0, hi1_1, hi1_2, hi1_3, hi1_4⟩ := hi1
  show SX _ _ _ [some (.val (Scr.D S_0)), some (.val (.list (r_2.map PyData.str))), some (.val (.int near_4)), some (.cell 1), some (.cell 2), none, none, none, none, none, none, none, none, none, none, none, none, none] [(.tup [.cell 1, .cell 2]), (.dct (svK (kvT PyData.int c_7))), (.dct (svK (kvT e_tup_int_tupl_tup_int_int_tupl_tup_int_int c_8)))] _
  refine sx_cons (s1_set TL rfl (ev_lstC (ss := []) av_nil (AppC.cons (AppC.cons (AppC.cons AppC.nil))) rfl) (Put.there (Put.there (Put.there (Put.there (Put.there Put.here))))) ?_ rfl)
  show SX _ _ _ _ _ _
  refine sx_cons (s1_set TL rfl (ev_lstC (ss := []) av_nil (AppC.cons (AppC.cons (AppC.cons (AppC.cons AppC.nil)))) rfl) (Put.there (Put.there (Put.there (Put.there (Put.there (Put.there Put.here)))))) ?_ rfl)
  show SX _ _ _ _ _ _
  refine sx_cons (s1_set TL rfl (ev_tupC (av_cons (ev_dictDC (kvs := kvT PyData.int c_7) z_dict rfl (ev_name T rfl (Lk.there (Lk.there (Lk.there Lk.here))) rfl) (IsD.cell rfl) (AppC.cons (AppC.cons (AppC.cons (AppC.cons (AppC.cons AppC.nil)))))) (av_cons (ev_dict0 (AppC.cons (AppC.cons (AppC.cons (AppC.cons (AppC.cons (AppC.cons AppC.nil))))))) (av_cons (ev_name T rfl (Lk.there (Lk.there (Lk.there (Lk.there (Lk.there Lk.here))))) rfl) av_nil))) (AppC.cons (AppC.cons (AppC.cons (AppC.cons (AppC.cons (AppC.cons (AppC.cons AppC.nil))))))) rfl) (Put.there (Put.there (Put.there (Put.there (Put.there (Put.there (Put.there Put.here))))))) ?_ rfl)
  show SX _ _ _ _ _ _
  refine sx_cons (s1_lock (k := 2) rfl fun od_11 us_11 => ?_)
  show S1 _ _ _ [some (.val (Scr.D S_0)), some (.val (.list (r_2.map PyData.str))), some (.val (.int near_4)), some (.cell 1), some (.cell 2), some (.cell 3), some (.cell 4), some (.cell 7), none, none, none, none, none, none, none, none, none, none] [(.tup [.cell 1, .cell 2]), (.dct (svK (kvT PyData.int c_7))), (.frz od_11 us_11 (svK (kvT e_tup_int_tupl_tup_int_int_tupl_tup_int_int c_8))), (.lst ((([] : (List Pck)).map Pck.D).map SV.val)), (.lst ((([] : (List Row)).map Row.D).map SV.val)), (.dct (svK (kvT PyData.int c_7))), (.dct (svK (kvT e_tup_int_tupl_tup_int_int ([] : (List (Str × (Int × (List (Int × Int))))))))), (.tup [.cell 5, .cell 6, .cell 3])] _
  refine' s1_forK (c_8.map (·.1)) (fun i => SV.val (PyData.str i)) _ _ R0 (([] : (List (Str × (Int × (List (Int × Int))))))) (fun l_1 (s_17 : ((List (Str × (Int × (List (Int × Int))))))) => (s_17.length + 1 * l_1.length ≤ (([] : (List (Str × (Int × (List (Int × Int))))))).length + 1 * (c_8.map (·.1)).length) ∧ ((s_17.map (·.1)).Nodup) ∧ (StOf c_8 l_1 s_17)) h PassesOwn.never rfl (iv_frzT (f := e_tup_int_tupl_tup_int_int_tupl_tup_int_int) (ps := c_8) (ev_name T rfl (Lk.there (Lk.there (Lk.there (Lk.there Lk.here)))) rfl) rfl) ?j013 (fun s_17 : ((List (Str × (Int × (List (Int × Int)))))) => [some (.val (Scr.D S_0)), some (.val (.list (r_2.map PyData.str))), some (.val (.int near_4)), some (.cell 1), some (.cell 2), some (.cell 3), some (.cell 4), some (.cell 7), none, none, none, none, none, none, none, none, none, none]) (fun s_17 : ((List (Str × (Int × (List (Int × Int)))))) => [(.tup [.cell 1, .cell 2]), (.dct (svK (kvT PyData.int c_7))), (.frz od_11 us_11 (svK (kvT e_tup_int_tupl_tup_int_int_tupl_tup_int_int c_8))), (.lst ((([] : (List Pck)).map Pck.D).map SV.val)), (.lst ((([] : (List Row)).map Row.D).map SV.val)), (.dct (svK (kvT PyData.int c_7))), (.dct (svK (kvT e_tup_int_tupl_tup_int_int s_17))), (.tup [.cell 5, .cell 6, .cell 3])]) (Le.same (Le.same (Le.same (Le.same (Le.same (Le.same (Le.same (Le.same (Le.lose (Le.lose (Le.lose (Le.lose (Le.lose (Le.lose (Le.lose (Le.lose (Le.lose (Le.lose Le.nil)))))))))))))))))) rfl (by intro _; rfl) ?tu13 ?dn13
  case j013 => wtm_at "g.inv"
  case tu13 =>
    clear h
    rintro x_16 l_1 c_15 n_1 hm12 hJ1 h
    have hm12p := hm12
    have hm12 := mem_mid hm12
    have hm12r := lkS_some hm12
    try dsimp only at h hJ1
    obtain ⟨hJ1_0, hJ1_1, hJ1_2⟩ := hJ1
    refine gx_name TL rfl (Put.there (Put.there (Put.there (Put.there (Put.there (Put.there (Put.there (Put.there Put.here)))))))) ?_ rfl
    show SX _ _ _ [some (.val (Scr.D S_0)), some (.val (.list (r_2.map PyData.str))), some (.val (.int near_4)), some (.cell 1), some (.cell 2), some (.cell 3), some (.cell 4), some (.cell 7), some (.val (.str x_16)), none, none, none, none, none, none, none, none, none] [(.tup [.cell 1, .cell 2]), (.dct (svK (kvT PyData.int c_7))), (.frz od_11 us_11 (svK (kvT e_tup_int_tupl_tup_int_int_tupl_tup_int_int c_8))), (.lst ((([] : (List Pck)).map Pck.D).map SV.val)), (.lst ((([] : (List Row)).map Row.D).map SV.val)), (.dct (svK (kvT PyData.int c_7))), (.dct (svK (kvT e_tup_int_tupl_tup_int_int c_15))), (.tup [.cell 5, .cell 6, .cell 3])] _
    replace h := letF_elim h
    obtain ⟨r_18, er_18, h⟩ := h
    have dg14 : (lkS c_8 x_16).isSome = true := by wtm_at "g.key"
    have pl15 := putSt_len x_16 r_18 c_15
    refine sx_cons (s1_dputT (f := e_tup_int_tupl_tup_int_int) (kvs := c_15) (k := x_16) (y := r_18) hr (ev_as (t := .val (.tuple [(.int r_18.1), (.tuple (r_18.2.map pD))])) (cs2 := [(.tup [.cell 1, .cell 2]), (.dct (svK (kvT PyData.int c_7))), (.frz od_11 us_11 (svK (kvT e_tup_int_tupl_tup_int_int_tupl_tup_int_int c_8))), (.lst ((([] : (List Pck)).map Pck.D).map SV.val)), (.lst ((([] : (List Row)).map Row.D).map SV.val)), (.dct (svK (kvT PyData.int c_7))), (.dct (svK (kvT e_tup_int_tupl_tup_int_int c_15))), (.tup [.cell 5, .cell 6, .cell 3])]) (ev_callM (κ := []) C_law_stairs hr (by decide) rfl (av_cons (ev_dgetF hr (ev_name T rfl (Lk.there (Lk.there (Lk.there (Lk.there Lk.here)))) rfl) (ev_name T rfl (Lk.there (Lk.there (Lk.there (Lk.there (Lk.there (Lk.there (Lk.there (Lk.there Lk.here)))))))) rfl) rfl (KeyOf.str _) (lk_at (f := e_tup_int_tupl_tup_int_int_tupl_tup_int_int) dg14)) av_nil) Sel.nil (RenA.val RenA.nil) (Sp_law_stairs.mk (row_0 := ((lkS c_8 x_16).getD default)) (by wtm_at "g.pre")) SetA.nil (List.prefix_refl _) rfl (by decide) rfl) (by subst er_18; rfl) (by subst er_18; rfl)) (ev_ixC (ev_name T rfl (Lk.there (Lk.there (Lk.there (Lk.there (Lk.there (Lk.there (Lk.there Lk.here))))))) rfl) ev_int rfl rfl) (ev_name T rfl (Lk.there (Lk.there (Lk.there (Lk.there (Lk.there (Lk.there (Lk.there (Lk.there Lk.here)))))))) rfl) rfl (by wtm_at "g.sd") (by wtm_at "g.nd") (PutC.there (PutC.there (PutC.there (PutC.there (PutC.there (PutC.there PutC.here)))))) ?_)
    show SX _ _ _ _ _ _
    refine sx_nil ?_
    exact ⟨((putSt c_15 x_16 r_18)), h, (by wtm_at "g.inv"), (At.same (Le.same (Le.same (Le.same (Le.same (Le.same (Le.same (Le.same (Le.same (Le.lose (Le.lose (Le.lose (Le.lose (Le.lose (Le.lose (Le.lose (Le.lose (Le.lose (Le.lose Le.nil)))))))))))))))))))⟩
  case dn13 =>
    clear h
    rintro c_15 hJ1 h slx hlx
    try dsimp only at h hJ1
    refine ⟨rfl, ?_⟩
    refine sx_weak hlx ?_
    obtain ⟨hJ1_0, hJ1_1, hJ1_2⟩ := hJ1
    have hst := StOf.done hJ1_2 (by assumption)
    show SX _ _ _ [some (.val (Scr.D S_0)), some (.val (.list (r_2.map PyData.str))), some (.val (.int near_4)), some (.cell 1), some (.cell 2), some (.cell 3), some (.cell 4), some (.cell 7), none, none, none, none, none, none, none, none, none, none] [(.tup [.cell 1, .cell 2]), (.dct (svK (kvT PyData.int c_7))), (.dct (svK (kvT e_tup_int_tupl_tup_int_int_tupl_tup_int_int c_8))), (.lst ((([] : (List Pck)).map Pck.D).map SV.val)), (.lst ((([] : (List Row)).map Row.D).map SV.val)), (.dct (svK (kvT PyData.int c_7))), (.dct (svK (kvT e_tup_int_tupl_tup_int_int c_15))), (.tup [.cell 5, .cell 6, .cell 3])] _
    replace h := letF_elim h
    obtain ⟨r_19, er_19, h⟩ := h
    replace h := letF_elim h
    obtain ⟨many_20, emany_20, h⟩ := h
    have p16 := cell_bd S_0 0
    have at17 : L2.atI (([60, 0, 3] : (List Int)).map PyData.int) ((r_19 / 7) % 3) = some (PyData.int (ixD ([60, 0, 3] : (List Int)) ((r_19 / 7) % 3))) := at_ixD (f := PyData.int) (by wtm_at "g.sd") (by wtm_at "g.sd")
    have ib17 := ixD_bd (xs := ([60, 0, 3] : (List Int))) (lo := 0) (hi := 60) (i := ((r_19 / 7) % 3)) (by decide) (by wtm_at "g.sd") (by wtm_at "g.sd")
    have hm0 : 0 ≤ many_20 ∧ many_20 ≤ 60 := by rw [← emany_20]; exact ib17
    have hwl : r_2.length = 8 := by rw [← er_2]; exact (words_ok r_1 8).1
    have hwo : ∀ x ∈ r_2, PyData.strOk x = true := by rw [← er_2]; exact (words_ok r_1 8).2
    refine sx_cons (s1_set TL rfl (ev_is (t := .val (.int many_20)) (ev_ixLv (ev_lstV (ad_cons ev_int (ad_cons ev_int (ad_cons ev_int ad_nil))) rfl) (ev_mod (ev_div (ev_as (t := .val (.int r_19)) (cs2 := [(.tup [.cell 1, .cell 2]), (.dct (svK (kvT PyData.int c_7))), (.dct (svK (kvT e_tup_int_tupl_tup_int_int_tupl_tup_int_int c_8))), (.lst ((([] : (List Pck)).map Pck.D).map SV.val)), (.lst ((([] : (List Row)).map Row.D).map SV.val)), (.dct (svK (kvT PyData.int c_7))), (.dct (svK (kvT e_tup_int_tupl_tup_int_int c_15))), (.tup [.cell 5, .cell 6, .cell 3])]) (ev_callM (κ := []) C_law_cell_at hr (by decide) rfl (av_cons (ev_name T rfl Lk.here rfl) (av_cons ev_int av_nil)) Sel.nil (RenA.val (RenA.val RenA.nil)) (Sp_law_cell_at.mk (script_0 := S_0) (k_0 := 0) (by wtm_at "g.pre")) SetA.nil (List.prefix_refl _) rfl (by decide) rfl) (by subst er_19; rfl) (by subst er_19; rfl)) ev_int (by wtm_at "d.div")) ev_int (by wtm_at "d.side")) at17) (by subst emany_20; rfl)) (Put.there (Put.there (Put.there (Put.there (Put.there (Put.there (Put.there (Put.there (Put.there Put.here))))))))) ?_ rfl)
    show SX _ _ _ _ _ _
    refine' sx_cons ?lp19
    refine' s1_forK (enumL ((S_0.ns.drop 4).take (44 - 4))) (enP PyData.int) _ _ R0 (c_7, c_8, ([] : (List Pck)), ([] : (List Row))) (fun l_2 (s_28 : ((List (Str × Int)) × (List (Str × (Int × (List (Int × Int)) × (List (Int × Int))))) × (List Pck) × (List Row))) => (s_28.2.2.1.length + 1 * l_2.length ≤ (([] : (List Pck))).length + 1 * (enumL ((S_0.ns.drop 4).take (44 - 4))).length) ∧ (s_28.2.2.2.length + 1 * l_2.length ≤ (([] : (List Row))).length + 1 * (enumL ((S_0.ns.drop 4).take (44 - 4))).length) ∧ ((s_28.1.map (·.1)).Nodup) ∧ ((s_28.2.1.map (·.1)).Nodup) ∧ (G41 c_7 c_15 many_20 l_2.length s_28.1 s_28.2.1 s_28.2.2.1 s_28.2.2.2)) h PassesOwn.never rfl (iv_enumV (f := PyData.int) (l := ((S_0.ns.drop 4).take (44 - 4))) z_enumerate rfl (ev_is (t := .val (.list (((S_0.ns.drop 4).take (44 - 4)).map PyData.int))) (ev_slFT (k := 4) (m := 44) (ds := S_0.ns.map PyData.int) (ev_name T rfl Lk.here rfl) ev_int ev_int IsL.val) (by rw [List.map_take, List.map_drop]))) ?j019 (fun s_28 : ((List (Str × Int)) × (List (Str × (Int × (List (Int × Int)) × (List (Int × Int))))) × (List Pck) × (List Row)) => [some (.val (Scr.D S_0)), some (.val (.list (r_2.map PyData.str))), some (.val (.int near_4)), some (.cell 1), some (.cell 2), some (.cell 3), some (.cell 4), some (.cell 7), none, some (.val (.int many_20)), none, none, none, none, none, none, none, none]) (fun s_28 : ((List (Str × Int)) × (List (Str × (Int × (List (Int × Int)) × (List (Int × Int))))) × (List Pck) × (List Row)) => [(.tup [.cell 1, .cell 2]), (.dct (svK (kvT PyData.int s_28.1))), (.dct (svK (kvT e_tup_int_tupl_tup_int_int_tupl_tup_int_int s_28.2.1))), (.lst ((s_28.2.2.1.map Pck.D).map SV.val)), (.lst ((s_28.2.2.2.map Row.D).map SV.val)), (.dct (svK (kvT PyData.int c_7))), (.dct (svK (kvT e_tup_int_tupl_tup_int_int c_15))), (.tup [.cell 5, .cell 6, .cell 3])]) (Le.same (Le.same (Le.same (Le.same (Le.same (Le.same (Le.same (Le.same (Le.lose (Le.same (Le.lose (Le.lose (Le.lose (Le.lose (Le.lose (Le.lose (Le.lose (Le.lose Le.nil)))))))))))))))))) rfl (fun _ => trivial) ?tu19 ?dn19
    case j019 => wtm_at "g.inv"
    case tu19 =>
      clear h
      rintro ⟨x_27i, x_27v⟩ l_2 ⟨c_21, c_22, c_23, c_24⟩ n_2 hm18 hJ2 h
      have hm18p := hm18
      have hm18 := mem_mid hm18
      have hm18r := enumL_lt hm18
      try dsimp only at h hJ2
      obtain ⟨hJ2_0, hJ2_1, hJ2_2, hJ2_3, hJ2_4⟩ := hJ2
      have hel : ((enumL ((S_0.ns.drop 4).take (44 - 4)))).length ≤ 40 := by rw [enumL_len, List.length_take]; omega
      have hG := hJ2_4
      have hgn := hG.nl
      have hgm := hG.ml
      have hgw : MadesW 200 200 c_22 := hG.mad.mono (by decide) (by omega)
      refine gx_tup rfl (gxs_cons (gx_name TL rfl (Put.there (Put.there (Put.there (Put.there (Put.there (Put.there (Put.there (Put.there (Put.there (Put.there Put.here)))))))))) (gxs_cons (gx_name TL rfl (Put.there (Put.there (Put.there (Put.there (Put.there (Put.there (Put.there (Put.there (Put.there (Put.there (Put.there Put.here))))))))))) (gxs_nil ?_) rfl)) rfl)) rfl
      show SX _ _ _ [some (.val (Scr.D S_0)), some (.val (.list (r_2.map PyData.str))), some (.val (.int near_4)), some (.cell 1), some (.cell 2), some (.cell 3), some (.cell 4), some (.cell 7), none, some (.val (.int many_20)), some (.val (.int (x_27i : Int))), some (.val (.int x_27v)), none, none, none, none, none, none] [(.tup [.cell 1, .cell 2]), (.dct (svK (kvT PyData.int c_21))), (.dct (svK (kvT e_tup_int_tupl_tup_int_int_tupl_tup_int_int c_22))), (.lst ((c_23.map Pck.D).map SV.val)), (.lst ((c_24.map Row.D).map SV.val)), (.dct (svK (kvT PyData.int c_7))), (.dct (svK (kvT e_tup_int_tupl_tup_int_int c_15))), (.tup [.cell 5, .cell 6, .cell 3])] _
      replace h := letF_elim h
      obtain ⟨r_29, er_29, h⟩ := h
      replace h := letF_elim h
      obtain ⟨r_30, er_30, h⟩ := h
      have p20 := mix_bd (x_27v % 2147483647) (x_27i : Int)
      have hok := drawn_ok r_29 r_2 near_4 hwl hwo
      rw [er_30] at hok
      refine sx_cons (s1_set TL rfl (ev_as (t := .val (Row.D r_30)) (cs2 := [(.tup [.cell 1, .cell 2]), (.dct (svK (kvT PyData.int c_21))), (.dct (svK (kvT e_tup_int_tupl_tup_int_int_tupl_tup_int_int c_22))), (.lst ((c_23.map Pck.D).map SV.val)), (.lst ((c_24.map Row.D).map SV.val)), (.dct (svK (kvT PyData.int c_7))), (.dct (svK (kvT e_tup_int_tupl_tup_int_int c_15))), (.tup [.cell 5, .cell 6, .cell 3])]) (ev_callM (κ := []) C_law_drawn hr (by decide) rfl (av_cons (ev_as (t := .val (.int r_29)) (cs2 := [(.tup [.cell 1, .cell 2]), (.dct (svK (kvT PyData.int c_21))), (.dct (svK (kvT e_tup_int_tupl_tup_int_int_tupl_tup_int_int c_22))), (.lst ((c_23.map Pck.D).map SV.val)), (.lst ((c_24.map Row.D).map SV.val)), (.dct (svK (kvT PyData.int c_7))), (.dct (svK (kvT e_tup_int_tupl_tup_int_int c_15))), (.tup [.cell 5, .cell 6, .cell 3])]) (ev_callM (κ := []) C_law_mix hr (by decide) rfl (av_cons (ev_mod (ev_name T rfl (Lk.there (Lk.there (Lk.there (Lk.there (Lk.there (Lk.there (Lk.there (Lk.there (Lk.there (Lk.there (Lk.there Lk.here))))))))))) rfl) ev_int (by wtm_at "d.side")) (av_cons (ev_name T rfl (Lk.there (Lk.there (Lk.there (Lk.there (Lk.there (Lk.there (Lk.there (Lk.there (Lk.there (Lk.there Lk.here)))))))))) rfl) av_nil)) Sel.nil (RenA.val (RenA.val RenA.nil)) (Sp_law_mix.mk (seed_0 := (x_27v % 2147483647)) (k_0 := (x_27i : Int)) (by wtm_at "g.pre") (by wtm_at "g.pre")) SetA.nil (List.prefix_refl _) rfl (by decide) rfl) (by subst er_29; rfl) (by subst er_29; rfl)) (av_cons (ev_name T rfl (Lk.there Lk.here) rfl) (av_cons (ev_name T rfl (Lk.there (Lk.there Lk.here)) rfl) av_nil))) Sel.nil (RenA.val (RenA.val (RenA.val RenA.nil))) (Sp_law_drawn.mk (seed_0 := r_29) (w_0 := r_2) (near_0 := near_4) (by wtm_at "g.pre") (by wtm_at "g.pre") (by wtm_at "g.pre")) SetA.nil (List.prefix_refl _) rfl (by decide) rfl) (by subst er_30; rfl) (by subst er_30; rfl)) (Put.there (Put.there (Put.there (Put.there (Put.there (Put.there (Put.there (Put.there (Put.there (Put.there (Put.there (Put.there Put.here)))))))))))) ?_ rfl)
      show SX _ _ _ _ _ _
      cases r_30 with
      | set zx_21 zt_22 zc_23 =>
        try dsimp only at h
        show SX _ _ _ [some (.val (Scr.D S_0)), some (.val (.list (r_2.map PyData.str))), some (.val (.int near_4)), some (.cell 1), some (.cell 2), some (.cell 3), some (.cell 4), some (.cell 7), none, some (.val (.int many_20)), some (.val (.int (x_27i : Int))), some (.val (.int x_27v)), some (.val (.tuple [(.str ("set" : Str)), (.str zx_21), (Trm.D zt_22), (.int zc_23)])), none, none, none, none, none] [(.tup [.cell 1, .cell 2]), (.dct (svK (kvT PyData.int c_21))), (.dct (svK (kvT e_tup_int_tupl_tup_int_int_tupl_tup_int_int c_22))), (.lst ((c_23.map Pck.D).map SV.val)), (.lst ((c_24.map Row.D).map SV.val)), (.dct (svK (kvT PyData.int c_7))), (.dct (svK (kvT e_tup_int_tupl_tup_int_int c_15))), (.tup [.cell 5, .cell 6, .cell 3])] _
        refine sx_cons (s1_expr (ev_appT (f := Row.D) (l := c_24) (y := (Row.set zx_21 zt_22 zc_23)) (ev_name T rfl (Lk.there (Lk.there (Lk.there (Lk.there (Lk.there (Lk.there Lk.here)))))) rfl) (ev_name T rfl (Lk.there (Lk.there (Lk.there (Lk.there (Lk.there (Lk.there (Lk.there (Lk.there (Lk.there (Lk.there (Lk.there (Lk.there Lk.here)))))))))))) rfl) rfl rfl (PutC.there (PutC.there (PutC.there (PutC.there PutC.here)))) (by wtm_at "g.sd")) ?_)
        show SX _ _ _ _ _ _
        refine sx_cons (s1_if (tv_is (l := false) (tv_inTS (y := ("set" : Str)) (l := ([("any" : Str), ("lose" : Str)] : List Str)) (ev_ixT (ev_name T rfl (Lk.there (Lk.there (Lk.there (Lk.there (Lk.there (Lk.there (Lk.there (Lk.there (Lk.there (Lk.there (Lk.there (Lk.there Lk.here)))))))))))) rfl) ev_int rfl) (ev_tup (ad_cons ev_str (ad_cons ev_str ad_nil)) rfl)) (by decide +kernel)) (fun z => absurd z (by decide)) (fun _ => ?_))
        replace h := letF_elim h
        obtain ⟨c_31, ec_31, h⟩ := h
        refine sx_cons (s1_expr (ev_as (t := .val .none) (cs2 := [(.tup [.cell 1, .cell 2]), (.dct (svK (kvT PyData.int c_31))), (.dct (svK (kvT e_tup_int_tupl_tup_int_int_tupl_tup_int_int c_22))), (.lst ((c_23.map Pck.D).map SV.val)), (.lst (((c_24 ++ [(Row.set zx_21 zt_22 zc_23)]).map Row.D).map SV.val)), (.dct (svK (kvT PyData.int c_7))), (.dct (svK (kvT e_tup_int_tupl_tup_int_int c_15))), (.tup [.cell 5, .cell 6, .cell 3])]) (ev_callM (κ := [1, 2]) C_law_gone_set hr (by decide) rfl (av_cons (ev_name T rfl (Lk.there (Lk.there (Lk.there (Lk.there (Lk.there (Lk.there (Lk.there (Lk.there (Lk.there (Lk.there (Lk.there (Lk.there Lk.here)))))))))))) rfl) (av_cons (ev_name T rfl (Lk.there (Lk.there (Lk.there Lk.here))) rfl) (av_cons (ev_name T rfl (Lk.there (Lk.there (Lk.there (Lk.there Lk.here)))) rfl) (av_cons ev_none av_nil)))) (Sel.cons rfl (by wtm_at "d.flat") (by intro z; cases z) (Sel.cons rfl (by wtm_at "d.flat") (by intro z; cases z) Sel.nil)) (RenA.val (RenA.cell rfl (RenA.cell rfl (RenA.val RenA.nil)))) (Sp_law_gone_set.mk (x := zx_21) (t := zt_22) (c := zc_23) (numbers_0 := c_21) (rows_0 := c_22) (pick_here_0 := ()) (by wtm_at "g.pre") (by wtm_at "g.pre") (by wtm_at "g.pre")) (SetA.cons (PutC.there PutC.here) (SetA.cons (PutC.there (PutC.there PutC.here)) SetA.nil)) (List.prefix_refl _) (by wtm_at "g.flat") (by decide) rfl) (by subst ec_31; rfl) (by subst ec_31; rfl)) ?_)
        show SX _ _ _ _ _ _
        refine sx_nil ?_
        show SX _ _ _ _ _ _
        refine sx_nil ?_
        exact ⟨(c_31, c_22, c_23, (c_24 ++ [(Row.set zx_21 zt_22 zc_23)])), h, (by wtm_at "g.inv"), (At.same (Le.same (Le.same (Le.same (Le.same (Le.same (Le.same (Le.same (Le.same (Le.lose (Le.same (Le.lose (Le.lose (Le.lose (Le.lose (Le.lose (Le.lose (Le.lose (Le.lose Le.nil)))))))))))))))))))⟩
      | put zr_25 zp_26 zt_27 zc_28 =>
        try dsimp only at h
        show SX _ _ _ [some (.val (Scr.D S_0)), some (.val (.list (r_2.map PyData.str))), some (.val (.int near_4)), some (.cell 1), some (.cell 2), some (.cell 3), some (.cell 4), some (.cell 7), none, some (.val (.int many_20)), some (.val (.int (x_27i : Int))), some (.val (.int x_27v)), some (.val (.tuple [(.str ("put" : Str)), (.str zr_25), (.tuple [(.str zp_26.1), (.int zp_26.2)]), (Trm.D zt_27), (.int zc_28)])), none, none, none, none, none] [(.tup [.cell 1, .cell 2]), (.dct (svK (kvT PyData.int c_21))), (.dct (svK (kvT e_tup_int_tupl_tup_int_int_tupl_tup_int_int c_22))), (.lst ((c_23.map Pck.D).map SV.val)), (.lst ((c_24.map Row.D).map SV.val)), (.dct (svK (kvT PyData.int c_7))), (.dct (svK (kvT e_tup_int_tupl_tup_int_int c_15))), (.tup [.cell 5, .cell 6, .cell 3])] _
        refine sx_cons (s1_expr (ev_appT (f := Row.D) (l := c_24) (y := (Row.put zr_25 zp_26 zt_27 zc_28)) (ev_name T rfl (Lk.there (Lk.there (Lk.there (Lk.there (Lk.there (Lk.there Lk.here)))))) rfl) (ev_name T rfl (Lk.there (Lk.there (Lk.there (Lk.there (Lk.there (Lk.there (Lk.there (Lk.there (Lk.there (Lk.there (Lk.there (Lk.there Lk.here)))))))))))) rfl) rfl rfl (PutC.there (PutC.there (PutC.there (PutC.there PutC.here)))) (by wtm_at "g.sd")) ?_)
        show SX _ _ _ _ _ _
        refine sx_cons (s1_if (tv_is (l := false) (tv_inTS (y := ("put" : Str)) (l := ([("any" : Str), ("lose" : Str)] : List Str)) (ev_ixT (ev_name T rfl (Lk.there (Lk.there (Lk.there (Lk.there (Lk.there (Lk.there (Lk.there (Lk.there (Lk.there (Lk.there (Lk.there (Lk.there Lk.here)))))))))))) rfl) ev_int rfl) (ev_tup (ad_cons ev_str (ad_cons ev_str ad_nil)) rfl)) (by decide +kernel)) (fun z => absurd z (by decide)) (fun _ => ?_))
        replace h := letF_elim h
        obtain ⟨c_32, ec_32, h⟩ := h
        refine sx_cons (s1_expr (ev_as (t := .val .none) (cs2 := [(.tup [.cell 1, .cell 2]), (.dct (svK (kvT PyData.int c_21))), (.dct (svK (kvT e_tup_int_tupl_tup_int_int_tupl_tup_int_int c_32))), (.lst ((c_23.map Pck.D).map SV.val)), (.lst (((c_24 ++ [(Row.put zr_25 zp_26 zt_27 zc_28)]).map Row.D).map SV.val)), (.dct (svK (kvT PyData.int c_7))), (.dct (svK (kvT e_tup_int_tupl_tup_int_int c_15))), (.tup [.cell 5, .cell 6, .cell 3])]) (ev_callM (κ := [1, 2]) C_law_gone_put hr (by decide) rfl (av_cons (ev_name T rfl (Lk.there (Lk.there (Lk.there (Lk.there (Lk.there (Lk.there (Lk.there (Lk.there (Lk.there (Lk.there (Lk.there (Lk.there Lk.here)))))))))))) rfl) (av_cons (ev_name T rfl (Lk.there (Lk.there (Lk.there Lk.here))) rfl) (av_cons (ev_name T rfl (Lk.there (Lk.there (Lk.there (Lk.there Lk.here)))) rfl) (av_cons ev_none av_nil)))) (Sel.cons rfl (by wtm_at "d.flat") (by intro z; cases z) (Sel.cons rfl (by wtm_at "d.flat") (by intro z; cases z) Sel.nil)) (RenA.val (RenA.cell rfl (RenA.cell rfl (RenA.val RenA.nil)))) (Sp_law_gone_put.mk (r := zr_25) (p := zp_26) (t := zt_27) (c := zc_28) (numbers_0 := c_21) (rows_0 := c_22) (pick_here_0 := ()) (by wtm_at "g.pre") (by wtm_at "g.pre") (by wtm_at "g.pre")) (SetA.cons (PutC.there PutC.here) (SetA.cons (PutC.there (PutC.there PutC.here)) SetA.nil)) (List.prefix_refl _) (by wtm_at "g.flat") (by decide) rfl) (by subst ec_32; rfl) (by subst ec_32; rfl)) ?_)
        show SX _ _ _ _ _ _
        refine sx_nil ?_
        show SX _ _ _ _ _ _
        refine sx_nil ?_
        exact ⟨(c_21, c_32, c_23, (c_24 ++ [(Row.put zr_25 zp_26 zt_27 zc_28)])), h, (by wtm_at "g.inv"), (At.same (Le.same (Le.same (Le.same (Le.same (Le.same (Le.same (Le.same (Le.same (Le.lose (Le.same (Le.lose (Le.lose (Le.lose (Le.lose (Le.lose (Le.lose (Le.lose (Le.lose Le.nil)))))))))))))))))))⟩
      | any zx_30 =>
        try dsimp only at h
        show SX _ _ _ [some (.val (Scr.D S_0)), some (.val (.list (r_2.map PyData.str))), some (.val (.int near_4)), some (.cell 1), some (.cell 2), some (.cell 3), some (.cell 4), some (.cell 7), none, some (.val (.int many_20)), some (.val (.int (x_27i : Int))), some (.val (.int x_27v)), some (.val (.tuple [(.str ("any" : Str)), (.str zx_30)])), none, none, none, none, none] [(.tup [.cell 1, .cell 2]), (.dct (svK (kvT PyData.int c_21))), (.dct (svK (kvT e_tup_int_tupl_tup_int_int_tupl_tup_int_int c_22))), (.lst ((c_23.map Pck.D).map SV.val)), (.lst ((c_24.map Row.D).map SV.val)), (.dct (svK (kvT PyData.int c_7))), (.dct (svK (kvT e_tup_int_tupl_tup_int_int c_15))), (.tup [.cell 5, .cell 6, .cell 3])] _
        refine sx_cons (s1_expr (ev_appT (f := Row.D) (l := c_24) (y := (Row.any zx_30)) (ev_name T rfl (Lk.there (Lk.there (Lk.there (Lk.there (Lk.there (Lk.there Lk.here)))))) rfl) (ev_name T rfl (Lk.there (Lk.there (Lk.there (Lk.there (Lk.there (Lk.there (Lk.there (Lk.there (Lk.there (Lk.there (Lk.there (Lk.there Lk.here)))))))))))) rfl) rfl rfl (PutC.there (PutC.there (PutC.there (PutC.there PutC.here)))) (by wtm_at "g.sd")) ?_)
        show SX _ _ _ _ _ _
        refine sx_cons (s1_if (tv_is (l := true) (tv_inTS (y := ("any" : Str)) (l := ([("any" : Str), ("lose" : Str)] : List Str)) (ev_ixT (ev_name T rfl (Lk.there (Lk.there (Lk.there (Lk.there (Lk.there (Lk.there (Lk.there (Lk.there (Lk.there (Lk.there (Lk.there (Lk.there Lk.here)))))))))))) rfl) ev_int rfl) (ev_tup (ad_cons ev_str (ad_cons ev_str ad_nil)) rfl)) (by decide +kernel)) (fun _ => ?_) (fun z => absurd z (by decide)))
        replace h := letF_elim h
        obtain ⟨r_33, er_33, h⟩ := h
        replace h := letF_elim h
        obtain ⟨r_34, er_34, h⟩ := h
        have p32 := mix_bd (x_27v % 2147483647) ((x_27i : Int) + 100)
        refine sx_cons (s1_set TL rfl (ev_as (t := .val (.int r_34)) (cs2 := [(.tup [.cell 1, .cell 2]), (.dct (svK (kvT PyData.int c_21))), (.dct (svK (kvT e_tup_int_tupl_tup_int_int_tupl_tup_int_int c_22))), (.lst ((c_23.map Pck.D).map SV.val)), (.lst (((c_24 ++ [(Row.any zx_30)]).map Row.D).map SV.val)), (.dct (svK (kvT PyData.int c_7))), (.dct (svK (kvT e_tup_int_tupl_tup_int_int c_15))), (.tup [.cell 5, .cell 6, .cell 3])]) (ev_callM (κ := []) C_law_pick_any hr (by decide) rfl (av_cons (ev_as (t := .val (.int r_33)) (cs2 := [(.tup [.cell 1, .cell 2]), (.dct (svK (kvT PyData.int c_21))), (.dct (svK (kvT e_tup_int_tupl_tup_int_int_tupl_tup_int_int c_22))), (.lst ((c_23.map Pck.D).map SV.val)), (.lst (((c_24 ++ [(Row.any zx_30)]).map Row.D).map SV.val)), (.dct (svK (kvT PyData.int c_7))), (.dct (svK (kvT e_tup_int_tupl_tup_int_int c_15))), (.tup [.cell 5, .cell 6, .cell 3])]) (ev_callM (κ := []) C_law_mix hr (by decide) rfl (av_cons (ev_mod (ev_name T rfl (Lk.there (Lk.there (Lk.there (Lk.there (Lk.there (Lk.there (Lk.there (Lk.there (Lk.there (Lk.there (Lk.there Lk.here))))))))))) rfl) ev_int (by wtm_at "d.side")) (av_cons (ev_add (ev_name T rfl (Lk.there (Lk.there (Lk.there (Lk.there (Lk.there (Lk.there (Lk.there (Lk.there (Lk.there (Lk.there Lk.here)))))))))) rfl) ev_int) av_nil)) Sel.nil (RenA.val (RenA.val RenA.nil)) (Sp_law_mix.mk (seed_0 := (x_27v % 2147483647)) (k_0 := ((x_27i : Int) + 100)) (by wtm_at "g.pre") (by wtm_at "g.pre")) SetA.nil (List.prefix_refl _) rfl (by decide) rfl) (by subst er_33; rfl) (by subst er_33; rfl)) (av_cons (ev_name T rfl (Lk.there (Lk.there (Lk.there (Lk.there (Lk.there (Lk.there (Lk.there (Lk.there (Lk.there (Lk.there (Lk.there (Lk.there Lk.here)))))))))))) rfl) (av_cons (ev_name T rfl (Lk.there (Lk.there Lk.here)) rfl) av_nil))) Sel.nil (RenA.val (RenA.val (RenA.val RenA.nil))) (Sp_law_pick_any.mk (seed_0 := r_33) (x := zx_30) (near_0 := near_4) (by wtm_at "g.pre") (by wtm_at "g.pre")) SetA.nil (List.prefix_refl _) rfl (by decide) rfl) (by subst er_34; rfl) (by subst er_34; rfl)) (Put.there (Put.there (Put.there (Put.there (Put.there (Put.there (Put.there (Put.there (Put.there (Put.there (Put.there (Put.there (Put.there Put.here))))))))))))) ?_ rfl)
        show SX _ _ _ _ _ _
        replace h := joinF_elim h
        obtain ⟨j_2, hj_2, h⟩ := h
        refine' sx_cutA (fun sl1 cs1 => ∃ q_37 : (Int × (List Pck)), j_2 q_37 = R0 ∧ ((q_37.2.length ≤ (c_23).length + 1) ∧ (PickJ many_20 c_23 q_37.2 (Pck.i q_37.1) (Pck.i 0))) ∧ sl1 = [some (.val (Scr.D S_0)), some (.val (.list (r_2.map PyData.str))), some (.val (.int near_4)), some (.cell 1), some (.cell 2), some (.cell 3), some (.cell 4), some (.cell 7), none, some (.val (.int many_20)), some (.val (.int (x_27i : Int))), some (.val (.int x_27v)), some (.val (.tuple [(.str ("any" : Str)), (.str zx_30)])), some (.val (.int q_37.1)), none, none, none, none] ∧ cs1 = [(.tup [.cell 1, .cell 2]), (.dct (svK (kvT PyData.int c_21))), (.dct (svK (kvT e_tup_int_tupl_tup_int_int_tupl_tup_int_int c_22))), (.lst ((q_37.2.map Pck.D).map SV.val)), (.lst (((c_24 ++ [(Row.any zx_30)]).map Row.D).map SV.val)), (.dct (svK (kvT PyData.int c_7))), (.dct (svK (kvT e_tup_int_tupl_tup_int_int c_15))), (.tup [.cell 5, .cell 6, .cell 3])]) ?st34 ?rest34
        case st34 =>
          refine' s1_if (tv_lt (ev_is (t := .val (.int (c_23.length : Int))) (ev_len z_len rfl (ev_name T rfl (Lk.there (Lk.there (Lk.there (Lk.there (Lk.there Lk.here))))) rfl) (rc_lenL (IsL.cell rfl))) (by simp only [List.length_map])) (ev_name T rfl (Lk.there (Lk.there (Lk.there (Lk.there (Lk.there (Lk.there (Lk.there (Lk.there (Lk.there Lk.here))))))))) rfl)) ?y34 ?n34
          case y34 =>
            intro hb33
            have hb33x := hb33
            try simp only [Bool.and_eq_true, Bool.or_eq_true, Bool.and_eq_false_iff, Bool.or_eq_false_iff, decide_eq_true_eq, decide_eq_false_iff_not, Bool.not_eq_true', Bool.not_eq_false', Bool.not_eq_eq_eq_not, Bool.not_true, Bool.not_false] at hb33x
            rw [if_pos hb33] at h
            refine sx_cons (s1_expr (ev_appT (f := Pck.D) (l := c_23) (y := (Pck.i r_34)) (ev_name T rfl (Lk.there (Lk.there (Lk.there (Lk.there (Lk.there Lk.here))))) rfl) (ev_ifExp (tv_eqS (ev_ixT (ev_name T rfl (Lk.there (Lk.there (Lk.there (Lk.there (Lk.there (Lk.there (Lk.there (Lk.there (Lk.there (Lk.there (Lk.there (Lk.there Lk.here)))))))))))) rfl) ev_int rfl) ev_str) (fun _ => (ev_name T rfl (Lk.there (Lk.there (Lk.there (Lk.there (Lk.there (Lk.there (Lk.there (Lk.there (Lk.there (Lk.there (Lk.there (Lk.there (Lk.there Lk.here))))))))))))) rfl)) (fun z => absurd z (by decide))) rfl rfl (PutC.there (PutC.there (PutC.there PutC.here))) (by wtm_at "g.sd")) ?_)
            show SX _ _ _ _ _ _
            refine sx_nil ?_
            exact ⟨_, _, ⟨(r_34, (c_23 ++ [(Pck.i r_34)])), h, (by wtm_at "g.inv"), rfl, rfl⟩, (At.same (Le.same (Le.same (Le.same (Le.same (Le.same (Le.same (Le.same (Le.same (Le.lose (Le.same (Le.same (Le.same (Le.same (Le.same (Le.lose (Le.lose (Le.lose (Le.lose Le.nil)))))))))))))))))))⟩
          case n34 =>
            intro hb33
            have hb33x := hb33
            try simp only [Bool.and_eq_true, Bool.or_eq_true, Bool.and_eq_false_iff, Bool.or_eq_false_iff, decide_eq_true_eq, decide_eq_false_iff_not, Bool.not_eq_true', Bool.not_eq_false', Bool.not_eq_eq_eq_not, Bool.not_true, Bool.not_false] at hb33x
            rw [if_neg (by rw [hb33]; decide)] at h
            refine sx_cons (s1_set TL rfl (ev_ixLv (ev_lstV (ad_cons (ev_tup (ad_cons ev_int (ad_cons (ev_tup ad_nil rfl) (ad_cons (ev_tup ad_nil rfl) ad_nil))) rfl) (ad_cons ev_int ad_nil)) rfl) (ev_is (t := .val (.int 1)) (ev_intB z_int rfl (ev_eqS (ev_ixT (ev_name T rfl (Lk.there (Lk.there (Lk.there (Lk.there (Lk.there (Lk.there (Lk.there (Lk.there (Lk.there (Lk.there (Lk.there (Lk.there Lk.here)))))))))))) rfl) ev_int rfl) ev_str)) (congrArg (fun z : Int => SV.val (.int z)) (by decide +kernel))) rfl) (Put.there (Put.there (Put.there (Put.there (Put.there (Put.there (Put.there (Put.there (Put.there (Put.there (Put.there (Put.there (Put.there Put.here))))))))))))) ?_ rfl)
            show SX _ _ _ _ _ _
            refine sx_nil ?_
            exact ⟨_, _, ⟨(0, c_23), h, (by wtm_at "g.inv"), rfl, rfl⟩, (At.same (Le.same (Le.same (Le.same (Le.same (Le.same (Le.same (Le.same (Le.same (Le.lose (Le.same (Le.same (Le.same (Le.same (Le.same (Le.lose (Le.lose (Le.lose (Le.lose Le.nil)))))))))))))))))))⟩
        clear h
        rintro _ _ ⟨⟨pick_here_35, c_36⟩, h, hi2, rfl, rfl⟩
        replace h := hj_2 _ h
        try dsimp only at h hi2
        obtain ⟨hi2_0, hi2_1⟩ := hi2
        show SX _ _ _ [some (.val (Scr.D S_0)), some (.val (.list (r_2.map PyData.str))), some (.val (.int near_4)), some (.cell 1), some (.cell 2), some (.cell 3), some (.cell 4), some (.cell 7), none, some (.val (.int many_20)), some (.val (.int (x_27i : Int))), some (.val (.int x_27v)), some (.val (.tuple [(.str ("any" : Str)), (.str zx_30)])), some (.val (.int pick_here_35)), none, none, none, none] [(.tup [.cell 1, .cell 2]), (.dct (svK (kvT PyData.int c_21))), (.dct (svK (kvT e_tup_int_tupl_tup_int_int_tupl_tup_int_int c_22))), (.lst ((c_36.map Pck.D).map SV.val)), (.lst (((c_24 ++ [(Row.any zx_30)]).map Row.D).map SV.val)), (.dct (svK (kvT PyData.int c_7))), (.dct (svK (kvT e_tup_int_tupl_tup_int_int c_15))), (.tup [.cell 5, .cell 6, .cell 3])] _
        replace h := letF_elim h
        obtain ⟨c_38, ec_38, h⟩ := h
        refine sx_cons (s1_expr (ev_as (t := .val .none) (cs2 := [(.tup [.cell 1, .cell 2]), (.dct (svK (kvT PyData.int c_38))), (.dct (svK (kvT e_tup_int_tupl_tup_int_int_tupl_tup_int_int c_22))), (.lst ((c_36.map Pck.D).map SV.val)), (.lst (((c_24 ++ [(Row.any zx_30)]).map Row.D).map SV.val)), (.dct (svK (kvT PyData.int c_7))), (.dct (svK (kvT e_tup_int_tupl_tup_int_int c_15))), (.tup [.cell 5, .cell 6, .cell 3])]) (ev_callM (κ := [1, 2]) C_law_gone_any hr (by decide) rfl (av_cons (ev_name T rfl (Lk.there (Lk.there (Lk.there (Lk.there (Lk.there (Lk.there (Lk.there (Lk.there (Lk.there (Lk.there (Lk.there (Lk.there Lk.here)))))))))))) rfl) (av_cons (ev_name T rfl (Lk.there (Lk.there (Lk.there Lk.here))) rfl) (av_cons (ev_name T rfl (Lk.there (Lk.there (Lk.there (Lk.there Lk.here)))) rfl) (av_cons (ev_name T rfl (Lk.there (Lk.there (Lk.there (Lk.there (Lk.there (Lk.there (Lk.there (Lk.there (Lk.there (Lk.there (Lk.there (Lk.there (Lk.there Lk.here))))))))))))) rfl) av_nil)))) (Sel.cons rfl (by wtm_at "d.flat") (by intro z; cases z) (Sel.cons rfl (by wtm_at "d.flat") (by intro z; cases z) Sel.nil)) (RenA.val (RenA.cell rfl (RenA.cell rfl (RenA.val RenA.nil)))) (Sp_law_gone_any.mk (x := zx_30) (numbers_0 := c_21) (rows_0 := c_22) (pick_here_0 := pick_here_35) (by wtm_at "g.pre") (by wtm_at "g.pre") (by wtm_at "g.pre")) (SetA.cons (PutC.there PutC.here) (SetA.cons (PutC.there (PutC.there PutC.here)) SetA.nil)) (List.prefix_refl _) (by wtm_at "g.flat") (by decide) rfl) (by subst ec_38; rfl) (by subst ec_38; rfl)) ?_)
        show SX _ _ _ _ _ _
        refine sx_nil ?_
        show SX _ _ _ _ _ _
        refine sx_nil ?_
        exact ⟨(c_38, c_22, c_36, (c_24 ++ [(Row.any zx_30)])), h, (by wtm_at "g.inv"), (At.same (Le.same (Le.same (Le.same (Le.same (Le.same (Le.same (Le.same (Le.same (Le.lose (Le.same (Le.lose (Le.lose (Le.lose (Le.lose (Le.lose (Le.lose (Le.lose (Le.lose Le.nil)))))))))))))))))))⟩
      | lose zr_35 =>
        try dsimp only at h
        show SX _ _ _ [some (.val (Scr.D S_0)), some (.val (.list (r_2.map PyData.str))), some (.val (.int near_4)), some (.cell 1), some (.cell 2), some (.cell 3), some (.cell 4), some (.cell 7), none, some (.val (.int many_20)), some (.val (.int (x_27i : Int))), some (.val (.int x_27v)), some (.val (.tuple [(.str ("lose" : Str)), (.str zr_35)])), none, none, none, none, none] [(.tup [.cell 1, .cell 2]), (.dct (svK (kvT PyData.int c_21))), (.dct (svK (kvT e_tup_int_tupl_tup_int_int_tupl_tup_int_int c_22))), (.lst ((c_23.map Pck.D).map SV.val)), (.lst ((c_24.map Row.D).map SV.val)), (.dct (svK (kvT PyData.int c_7))), (.dct (svK (kvT e_tup_int_tupl_tup_int_int c_15))), (.tup [.cell 5, .cell 6, .cell 3])] _
        refine sx_cons (s1_expr (ev_appT (f := Row.D) (l := c_24) (y := (Row.lose zr_35)) (ev_name T rfl (Lk.there (Lk.there (Lk.there (Lk.there (Lk.there (Lk.there Lk.here)))))) rfl) (ev_name T rfl (Lk.there (Lk.there (Lk.there (Lk.there (Lk.there (Lk.there (Lk.there (Lk.there (Lk.there (Lk.there (Lk.there (Lk.there Lk.here)))))))))))) rfl) rfl rfl (PutC.there (PutC.there (PutC.there (PutC.there PutC.here)))) (by wtm_at "g.sd")) ?_)
        show SX _ _ _ _ _ _
        refine sx_cons (s1_if (tv_is (l := true) (tv_inTS (y := ("lose" : Str)) (l := ([("any" : Str), ("lose" : Str)] : List Str)) (ev_ixT (ev_name T rfl (Lk.there (Lk.there (Lk.there (Lk.there (Lk.there (Lk.there (Lk.there (Lk.there (Lk.there (Lk.there (Lk.there (Lk.there Lk.here)))))))))))) rfl) ev_int rfl) (ev_tup (ad_cons ev_str (ad_cons ev_str ad_nil)) rfl)) (by decide +kernel)) (fun _ => ?_) (fun z => absurd z (by decide)))
        replace h := letF_elim h
        obtain ⟨r_39, er_39, h⟩ := h
        replace h := letF_elim h
        obtain ⟨r_40, er_40, h⟩ := h
        have p37 := mix_bd (x_27v % 2147483647) ((x_27i : Int) + 100)
        have hpl : r_40.2.1.length ≤ 40 ∧ r_40.2.2.length ≤ 0 := by rw [← er_40]; exact made_len _ _
        refine sx_cons (s1_set TL rfl (ev_as (t := .val (.tuple [(.int r_40.1), (.tuple (r_40.2.1.map pD)), (.tuple (r_40.2.2.map pD))])) (cs2 := [(.tup [.cell 1, .cell 2]), (.dct (svK (kvT PyData.int c_21))), (.dct (svK (kvT e_tup_int_tupl_tup_int_int_tupl_tup_int_int c_22))), (.lst ((c_23.map Pck.D).map SV.val)), (.lst (((c_24 ++ [(Row.lose zr_35)]).map Row.D).map SV.val)), (.dct (svK (kvT PyData.int c_7))), (.dct (svK (kvT e_tup_int_tupl_tup_int_int c_15))), (.tup [.cell 5, .cell 6, .cell 3])]) (ev_callM (κ := []) C_law_pick_lose hr (by decide) rfl (av_cons (ev_as (t := .val (.int r_39)) (cs2 := [(.tup [.cell 1, .cell 2]), (.dct (svK (kvT PyData.int c_21))), (.dct (svK (kvT e_tup_int_tupl_tup_int_int_tupl_tup_int_int c_22))), (.lst ((c_23.map Pck.D).map SV.val)), (.lst (((c_24 ++ [(Row.lose zr_35)]).map Row.D).map SV.val)), (.dct (svK (kvT PyData.int c_7))), (.dct (svK (kvT e_tup_int_tupl_tup_int_int c_15))), (.tup [.cell 5, .cell 6, .cell 3])]) (ev_callM (κ := []) C_law_mix hr (by decide) rfl (av_cons (ev_mod (ev_name T rfl (Lk.there (Lk.there (Lk.there (Lk.there (Lk.there (Lk.there (Lk.there (Lk.there (Lk.there (Lk.there (Lk.there Lk.here))))))))))) rfl) ev_int (by wtm_at "d.side")) (av_cons (ev_add (ev_name T rfl (Lk.there (Lk.there (Lk.there (Lk.there (Lk.there (Lk.there (Lk.there (Lk.there (Lk.there (Lk.there Lk.here)))))))))) rfl) ev_int) av_nil)) Sel.nil (RenA.val (RenA.val RenA.nil)) (Sp_law_mix.mk (seed_0 := (x_27v % 2147483647)) (k_0 := ((x_27i : Int) + 100)) (by wtm_at "g.pre") (by wtm_at "g.pre")) SetA.nil (List.prefix_refl _) rfl (by decide) rfl) (by subst er_39; rfl) (by subst er_39; rfl)) (av_cons (ev_name T rfl (Lk.there (Lk.there (Lk.there (Lk.there (Lk.there (Lk.there (Lk.there (Lk.there (Lk.there (Lk.there (Lk.there (Lk.there Lk.here)))))))))))) rfl) (av_cons (ev_name T rfl (Lk.there (Lk.there Lk.here)) rfl) av_nil))) Sel.nil (RenA.val (RenA.val (RenA.val RenA.nil))) (Sp_law_pick_lose.mk (seed_0 := r_39) (r := zr_35) (near_0 := near_4) (by wtm_at "g.pre") (by wtm_at "g.pre")) SetA.nil (List.prefix_refl _) rfl (by decide) rfl) (by subst er_40; rfl) (by subst er_40; rfl)) (Put.there (Put.there (Put.there (Put.there (Put.there (Put.there (Put.there (Put.there (Put.there (Put.there (Put.there (Put.there (Put.there Put.here))))))))))))) ?_ rfl)
        show SX _ _ _ _ _ _
        replace h := joinF_elim h
        obtain ⟨j_3, hj_3, h⟩ := h
        refine' sx_cutA (fun sl1 cs1 => ∃ q_43 : ((Int × (List (Int × Int)) × (List (Int × Int))) × (List Pck)), j_3 q_43 = R0 ∧ ((q_43.2.length ≤ (c_23).length + 1) ∧ (PickJ many_20 c_23 q_43.2 (Pck.r (m_law_stairs q_43.1)) (Pck.r (0, [])) ∧ q_43.1.2.1.length ≤ 40 ∧ q_43.1.2.2.length ≤ 0)) ∧ sl1 = [some (.val (Scr.D S_0)), some (.val (.list (r_2.map PyData.str))), some (.val (.int near_4)), some (.cell 1), some (.cell 2), some (.cell 3), some (.cell 4), some (.cell 7), none, some (.val (.int many_20)), some (.val (.int (x_27i : Int))), some (.val (.int x_27v)), some (.val (.tuple [(.str ("lose" : Str)), (.str zr_35)])), some (.val (.tuple [(.int q_43.1.1), (.tuple (q_43.1.2.1.map pD)), (.tuple (q_43.1.2.2.map pD))])), none, none, none, none] ∧ cs1 = [(.tup [.cell 1, .cell 2]), (.dct (svK (kvT PyData.int c_21))), (.dct (svK (kvT e_tup_int_tupl_tup_int_int_tupl_tup_int_int c_22))), (.lst ((q_43.2.map Pck.D).map SV.val)), (.lst (((c_24 ++ [(Row.lose zr_35)]).map Row.D).map SV.val)), (.dct (svK (kvT PyData.int c_7))), (.dct (svK (kvT e_tup_int_tupl_tup_int_int c_15))), (.tup [.cell 5, .cell 6, .cell 3])]) ?st39 ?rest39
        case st39 =>
          refine' s1_if (tv_lt (ev_is (t := .val (.int (c_23.length : Int))) (ev_len z_len rfl (ev_name T rfl (Lk.there (Lk.there (Lk.there (Lk.there (Lk.there Lk.here))))) rfl) (rc_lenL (IsL.cell rfl))) (by simp only [List.length_map])) (ev_name T rfl (Lk.there (Lk.there (Lk.there (Lk.there (Lk.there (Lk.there (Lk.there (Lk.there (Lk.there Lk.here))))))))) rfl)) ?y39 ?n39
          case y39 =>
            intro hb38
            have hb38x := hb38
            try simp only [Bool.and_eq_true, Bool.or_eq_true, Bool.and_eq_false_iff, Bool.or_eq_false_iff, decide_eq_true_eq, decide_eq_false_iff_not, Bool.not_eq_true', Bool.not_eq_false', Bool.not_eq_eq_eq_not, Bool.not_true, Bool.not_false] at hb38x
            rw [if_pos hb38] at h
            replace h := letF_elim h
            obtain ⟨r_44, er_44, h⟩ := h
            refine sx_cons (s1_expr (ev_appT (f := Pck.D) (l := c_23) (y := (Pck.r r_44)) (ev_name T rfl (Lk.there (Lk.there (Lk.there (Lk.there (Lk.there Lk.here))))) rfl) (ev_ifExp (tv_eqS (ev_ixT (ev_name T rfl (Lk.there (Lk.there (Lk.there (Lk.there (Lk.there (Lk.there (Lk.there (Lk.there (Lk.there (Lk.there (Lk.there (Lk.there Lk.here)))))))))))) rfl) ev_int rfl) ev_str) (fun z => absurd z (by decide)) (fun _ => (ev_as (t := .val (.tuple [(.int r_44.1), (.tuple (r_44.2.map pD))])) (cs2 := [(.tup [.cell 1, .cell 2]), (.dct (svK (kvT PyData.int c_21))), (.dct (svK (kvT e_tup_int_tupl_tup_int_int_tupl_tup_int_int c_22))), (.lst ((c_23.map Pck.D).map SV.val)), (.lst (((c_24 ++ [(Row.lose zr_35)]).map Row.D).map SV.val)), (.dct (svK (kvT PyData.int c_7))), (.dct (svK (kvT e_tup_int_tupl_tup_int_int c_15))), (.tup [.cell 5, .cell 6, .cell 3])]) (ev_callM (κ := []) C_law_stairs hr (by decide) rfl (av_cons (ev_name T rfl (Lk.there (Lk.there (Lk.there (Lk.there (Lk.there (Lk.there (Lk.there (Lk.there (Lk.there (Lk.there (Lk.there (Lk.there (Lk.there Lk.here))))))))))))) rfl) av_nil) Sel.nil (RenA.val RenA.nil) (Sp_law_stairs.mk (row_0 := r_40) (by wtm_at "g.pre")) SetA.nil (List.prefix_refl _) rfl (by decide) rfl) (by subst er_44; rfl) (by subst er_44; rfl)))) rfl rfl (PutC.there (PutC.there (PutC.there PutC.here))) (by wtm_at "g.sd")) ?_)
            show SX _ _ _ _ _ _
            refine sx_nil ?_
            exact ⟨_, _, ⟨(r_40, (c_23 ++ [(Pck.r r_44)])), h, (by wtm_at "g.inv"), rfl, rfl⟩, (At.same (Le.same (Le.same (Le.same (Le.same (Le.same (Le.same (Le.same (Le.same (Le.lose (Le.same (Le.same (Le.same (Le.same (Le.same (Le.lose (Le.lose (Le.lose (Le.lose Le.nil)))))))))))))))))))⟩
          case n39 =>
            intro hb38
            have hb38x := hb38
            try simp only [Bool.and_eq_true, Bool.or_eq_true, Bool.and_eq_false_iff, Bool.or_eq_false_iff, decide_eq_true_eq, decide_eq_false_iff_not, Bool.not_eq_true', Bool.not_eq_false', Bool.not_eq_eq_eq_not, Bool.not_true, Bool.not_false] at hb38x
            rw [if_neg (by rw [hb38]; decide)] at h
            refine sx_cons (s1_set TL rfl (ev_ixLv (ev_lstV (ad_cons (ev_tup (ad_cons ev_int (ad_cons (ev_tup ad_nil rfl) (ad_cons (ev_tup ad_nil rfl) ad_nil))) rfl) (ad_cons ev_int ad_nil)) rfl) (ev_is (t := .val (.int 0)) (ev_intB z_int rfl (ev_eqS (ev_ixT (ev_name T rfl (Lk.there (Lk.there (Lk.there (Lk.there (Lk.there (Lk.there (Lk.there (Lk.there (Lk.there (Lk.there (Lk.there (Lk.there Lk.here)))))))))))) rfl) ev_int rfl) ev_str)) (congrArg (fun z : Int => SV.val (.int z)) (by decide +kernel))) rfl) (Put.there (Put.there (Put.there (Put.there (Put.there (Put.there (Put.there (Put.there (Put.there (Put.there (Put.there (Put.there (Put.there Put.here))))))))))))) ?_ rfl)
            show SX _ _ _ _ _ _
            refine sx_nil ?_
            exact ⟨_, _, ⟨((0, ([] : (List (Int × Int))), ([] : (List (Int × Int)))), c_23), h, (by wtm_at "g.inv"), rfl, rfl⟩, (At.same (Le.same (Le.same (Le.same (Le.same (Le.same (Le.same (Le.same (Le.same (Le.lose (Le.same (Le.same (Le.same (Le.same (Le.same (Le.lose (Le.lose (Le.lose (Le.lose Le.nil)))))))))))))))))))⟩
        clear h
        rintro _ _ ⟨⟨pick_here_41, c_42⟩, h, hi3, rfl, rfl⟩
        replace h := hj_3 _ h
        try dsimp only at h hi3
        obtain ⟨hi3_0, hi3_1⟩ := hi3
        show SX _ _ _ [some (.val (Scr.D S_0)), some (.val (.list (r_2.map PyData.str))), some (.val (.int near_4)), some (.cell 1), some (.cell 2), some (.cell 3), some (.cell 4), some (.cell 7), none, some (.val (.int many_20)), some (.val (.int (x_27i : Int))), some (.val (.int x_27v)), some (.val (.tuple [(.str ("lose" : Str)), (.str zr_35)])), some (.val (.tuple [(.int pick_here_41.1), (.tuple (pick_here_41.2.1.map pD)), (.tuple (pick_here_41.2.2.map pD))])), none, none, none, none] [(.tup [.cell 1, .cell 2]), (.dct (svK (kvT PyData.int c_21))), (.dct (svK (kvT e_tup_int_tupl_tup_int_int_tupl_tup_int_int c_22))), (.lst ((c_42.map Pck.D).map SV.val)), (.lst (((c_24 ++ [(Row.lose zr_35)]).map Row.D).map SV.val)), (.dct (svK (kvT PyData.int c_7))), (.dct (svK (kvT e_tup_int_tupl_tup_int_int c_15))), (.tup [.cell 5, .cell 6, .cell 3])] _
        replace h := letF_elim h
        obtain ⟨c_45, ec_45, h⟩ := h
        refine sx_cons (s1_expr (ev_as (t := .val .none) (cs2 := [(.tup [.cell 1, .cell 2]), (.dct (svK (kvT PyData.int c_21))), (.dct (svK (kvT e_tup_int_tupl_tup_int_int_tupl_tup_int_int c_45))), (.lst ((c_42.map Pck.D).map SV.val)), (.lst (((c_24 ++ [(Row.lose zr_35)]).map Row.D).map SV.val)), (.dct (svK (kvT PyData.int c_7))), (.dct (svK (kvT e_tup_int_tupl_tup_int_int c_15))), (.tup [.cell 5, .cell 6, .cell 3])]) (ev_callM (κ := [1, 2]) C_law_gone_lose hr (by decide) rfl (av_cons (ev_name T rfl (Lk.there (Lk.there (Lk.there (Lk.there (Lk.there (Lk.there (Lk.there (Lk.there (Lk.there (Lk.there (Lk.there (Lk.there Lk.here)))))))))))) rfl) (av_cons (ev_name T rfl (Lk.there (Lk.there (Lk.there Lk.here))) rfl) (av_cons (ev_name T rfl (Lk.there (Lk.there (Lk.there (Lk.there Lk.here)))) rfl) (av_cons (ev_name T rfl (Lk.there (Lk.there (Lk.there (Lk.there (Lk.there (Lk.there (Lk.there (Lk.there (Lk.there (Lk.there (Lk.there (Lk.there (Lk.there Lk.here))))))))))))) rfl) av_nil)))) (Sel.cons rfl (by wtm_at "d.flat") (by intro z; cases z) (Sel.cons rfl (by wtm_at "d.flat") (by intro z; cases z) Sel.nil)) (RenA.val (RenA.cell rfl (RenA.cell rfl (RenA.val RenA.nil)))) (Sp_law_gone_lose.mk (r := zr_35) (numbers_0 := c_21) (rows_0 := c_22) (pick_here_0 := pick_here_41) (by wtm_at "g.pre") (by wtm_at "g.pre") (by wtm_at "g.pre")) (SetA.cons (PutC.there PutC.here) (SetA.cons (PutC.there (PutC.there PutC.here)) SetA.nil)) (List.prefix_refl _) (by wtm_at "g.flat") (by decide) rfl) (by subst ec_45; rfl) (by subst ec_45; rfl)) ?_)
        show SX _ _ _ _ _ _
        refine sx_nil ?_
        show SX _ _ _ _ _ _
        refine sx_nil ?_
        exact ⟨(c_21, c_45, c_42, (c_24 ++ [(Row.lose zr_35)])), h, (by wtm_at "g.inv"), (At.same (Le.same (Le.same (Le.same (Le.same (Le.same (Le.same (Le.same (Le.same (Le.lose (Le.same (Le.lose (Le.lose (Le.lose (Le.lose (Le.lose (Le.lose (Le.lose (Le.lose Le.nil)))))))))))))))))))⟩
    case dn19 =>
      clear h
      rintro ⟨c_21, c_22, c_23, c_24⟩ hJ2 h slx hlx
      try dsimp only at h hJ2
      refine sx_weak hlx ?_
      obtain ⟨hJ2_0, hJ2_1, hJ2_2, hJ2_3, hJ2_4⟩ := hJ2
      have hel : ((enumL ((S_0.ns.drop 4).take (44 - 4)))).length ≤ 40 := by rw [enumL_len, List.length_take]; omega
      have hGf := hJ2_4
      have hgn := hGf.nl
      have hgm := hGf.ml
      have hcn := hGf.cnt
      have hmf : MadesW 40 40 c_22 := hGf.mad
      have hsh := dk_shaped (dk_all4 hGf.okr) (by decide)
      have hqr := dk_refl (dk_all4 hGf.okr)
      show SX _ _ _ [some (.val (Scr.D S_0)), some (.val (.list (r_2.map PyData.str))), some (.val (.int near_4)), some (.cell 1), some (.cell 2), some (.cell 3), some (.cell 4), some (.cell 7), none, some (.val (.int many_20)), none, none, none, none, none, none, none, none] [(.tup [.cell 1, .cell 2]), (.dct (svK (kvT PyData.int c_21))), (.dct (svK (kvT e_tup_int_tupl_tup_int_int_tupl_tup_int_int c_22))), (.lst ((c_23.map Pck.D).map SV.val)), (.lst ((c_24.map Row.D).map SV.val)), (.dct (svK (kvT PyData.int c_7))), (.dct (svK (kvT e_tup_int_tupl_tup_int_int c_15))), (.tup [.cell 5, .cell 6, .cell 3])] _
      replace h := joinF_elim h
      obtain ⟨j_4, hj_4, h⟩ := h
      refine' sx_cutA (fun sl1 cs1 => ∃ q_47 : ((List Pck)), j_4 q_47 = R0 ∧ ((q_47.length ≤ (c_23).length + 1) ∧ (PickE many_20 c_23 q_47)) ∧ sl1 = [some (.val (Scr.D S_0)), some (.val (.list (r_2.map PyData.str))), some (.val (.int near_4)), some (.cell 1), some (.cell 2), some (.cell 3), some (.cell 4), some (.cell 7), none, some (.val (.int many_20)), none, none, none, none, none, none, none, none] ∧ cs1 = [(.tup [.cell 1, .cell 2]), (.dct (svK (kvT PyData.int c_21))), (.dct (svK (kvT e_tup_int_tupl_tup_int_int_tupl_tup_int_int c_22))), (.lst ((q_47.map Pck.D).map SV.val)), (.lst ((c_24.map Row.D).map SV.val)), (.dct (svK (kvT PyData.int c_7))), (.dct (svK (kvT e_tup_int_tupl_tup_int_int c_15))), (.tup [.cell 5, .cell 6, .cell 3])]) ?st43 ?rest43
      case st43 =>
        refine' s1_if (tv_w (wv_and (tv_eqI (ev_name T rfl (Lk.there (Lk.there (Lk.there (Lk.there (Lk.there (Lk.there (Lk.there (Lk.there (Lk.there Lk.here))))))))) rfl) ev_int) (fun hk40 => (by
        have hk40x := hk40
        try simp only [Bool.and_eq_true, Bool.or_eq_true, Bool.and_eq_false_iff, Bool.or_eq_false_iff, decide_eq_true_eq, decide_eq_false_iff_not, Bool.not_eq_true', Bool.not_eq_false', Bool.not_eq_eq_eq_not, Bool.not_true, Bool.not_false] at hk40x
        have p41 := cell_bd S_0 0
        exact (wv_and1 (tv_eqI (ev_mod (ev_div (ev_callM (κ := []) C_law_cell_at hr (by decide) rfl (av_cons (ev_name T rfl Lk.here rfl) (av_cons ev_int av_nil)) Sel.nil (RenA.val (RenA.val RenA.nil)) (Sp_law_cell_at.mk (script_0 := S_0) (k_0 := 0) (by wtm_at "g.pre")) SetA.nil (List.prefix_refl _) rfl (by decide) rfl) ev_int (by wtm_at "d.div")) ev_int (by wtm_at "d.side")) ev_int)))))) ?y43 ?n43
        case y43 =>
          intro hb42
          have hb42x := hb42
          try simp only [Bool.and_eq_true, Bool.or_eq_true, Bool.and_eq_false_iff, Bool.or_eq_false_iff, decide_eq_true_eq, decide_eq_false_iff_not, Bool.not_eq_true', Bool.not_eq_false', Bool.not_eq_eq_eq_not, Bool.not_true, Bool.not_false] at hb42x
          rw [if_pos hb42] at h
          refine sx_cons (s1_expr (ev_appT (f := Pck.D) (l := c_23) (y := (Pck.i near_4)) (ev_name T rfl (Lk.there (Lk.there (Lk.there (Lk.there (Lk.there Lk.here))))) rfl) (ev_name T rfl (Lk.there (Lk.there Lk.here)) rfl) rfl rfl (PutC.there (PutC.there (PutC.there PutC.here))) (by wtm_at "g.sd")) ?_)
          show SX _ _ _ _ _ _
          refine sx_nil ?_
          exact ⟨_, _, ⟨((c_23 ++ [(Pck.i near_4)])), h, (by wtm_at "g.inv"), rfl, rfl⟩, (At.same (Le.same (Le.same (Le.same (Le.same (Le.same (Le.same (Le.same (Le.same (Le.lose (Le.same (Le.lose (Le.lose (Le.lose (Le.lose (Le.lose (Le.lose (Le.lose (Le.lose Le.nil)))))))))))))))))))⟩
        case n43 =>
          intro hb42
          have hb42x := hb42
          try simp only [Bool.and_eq_true, Bool.or_eq_true, Bool.and_eq_false_iff, Bool.or_eq_false_iff, decide_eq_true_eq, decide_eq_false_iff_not, Bool.not_eq_true', Bool.not_eq_false', Bool.not_eq_eq_eq_not, Bool.not_true, Bool.not_false] at hb42x
          rw [if_neg (by rw [hb42]; decide)] at h
          refine sx_nil ?_
          exact ⟨_, _, ⟨(c_23), h, (by wtm_at "g.inv"), rfl, rfl⟩, (At.same (Le.same (Le.same (Le.same (Le.same (Le.same (Le.same (Le.same (Le.same (Le.lose (Le.same (Le.lose (Le.lose (Le.lose (Le.lose (Le.lose (Le.lose (Le.lose (Le.lose Le.nil)))))))))))))))))))⟩
      clear h
      rintro _ _ ⟨c_46, h, hi4, rfl, rfl⟩
      replace h := hj_4 _ h
      try dsimp only at h hi4
      obtain ⟨hi4_0, hi4_1⟩ := hi4
      show SX _ _ _ [some (.val (Scr.D S_0)), some (.val (.list (r_2.map PyData.str))), some (.val (.int near_4)), some (.cell 1), some (.cell 2), some (.cell 3), some (.cell 4), some (.cell 7), none, some (.val (.int many_20)), none, none, none, none, none, none, none, none] [(.tup [.cell 1, .cell 2]), (.dct (svK (kvT PyData.int c_21))), (.dct (svK (kvT e_tup_int_tupl_tup_int_int_tupl_tup_int_int c_22))), (.lst ((c_46.map Pck.D).map SV.val)), (.lst ((c_24.map Row.D).map SV.val)), (.dct (svK (kvT PyData.int c_7))), (.dct (svK (kvT e_tup_int_tupl_tup_int_int c_15))), (.tup [.cell 5, .cell 6, .cell 3])] _
      refine sx_cons (s1_set TL rfl (ev_tupC (av_cons (ev_name T rfl (Lk.there (Lk.there (Lk.there Lk.here))) rfl) (av_cons (ev_dict0 (AppC.cons (AppC.cons (AppC.cons (AppC.cons (AppC.cons (AppC.cons (AppC.cons (AppC.cons AppC.nil))))))))) av_nil)) (AppC.cons (AppC.cons (AppC.cons (AppC.cons (AppC.cons (AppC.cons (AppC.cons (AppC.cons (AppC.cons AppC.nil))))))))) rfl) (Put.there (Put.there (Put.there (Put.there (Put.there (Put.there (Put.there (Put.there (Put.there (Put.there (Put.there (Put.there (Put.there (Put.there Put.here)))))))))))))) ?_ rfl)
      show SX _ _ _ _ _ _
      refine sx_cons (s1_lock (k := 2) rfl fun od_44 us_44 => ?_)
      show S1 _ _ _ [some (.val (Scr.D S_0)), some (.val (.list (r_2.map PyData.str))), some (.val (.int near_4)), some (.cell 1), some (.cell 2), some (.cell 3), some (.cell 4), some (.cell 7), none, some (.val (.int many_20)), none, none, none, none, some (.cell 9), none, none, none] [(.tup [.cell 1, .cell 2]), (.dct (svK (kvT PyData.int c_21))), (.frz od_44 us_44 (svK (kvT e_tup_int_tupl_tup_int_int_tupl_tup_int_int c_22))), (.lst ((c_46.map Pck.D).map SV.val)), (.lst ((c_24.map Row.D).map SV.val)), (.dct (svK (kvT PyData.int c_7))), (.dct (svK (kvT e_tup_int_tupl_tup_int_int c_15))), (.tup [.cell 5, .cell 6, .cell 3]), (.dct (svK (kvT e_tup_int_tupl_tup_int_int ([] : (List (Str × (Int × (List (Int × Int))))))))), (.tup [.cell 1, .cell 8])] _
      refine' s1_forK (c_22.map (·.1)) (fun i => SV.val (PyData.str i)) _ _ R0 (([] : (List (Str × (Int × (List (Int × Int))))))) (fun l_3 (s_56 : ((List (Str × (Int × (List (Int × Int))))))) => (s_56.length + 1 * l_3.length ≤ (([] : (List (Str × (Int × (List (Int × Int))))))).length + 1 * (c_22.map (·.1)).length) ∧ ((s_56.map (·.1)).Nodup) ∧ (StOf c_22 l_3 s_56)) h PassesOwn.never rfl (iv_frzT (f := e_tup_int_tupl_tup_int_int_tupl_tup_int_int) (ps := c_22) (ev_name T rfl (Lk.there (Lk.there (Lk.there (Lk.there Lk.here)))) rfl) rfl) ?j046 (fun s_56 : ((List (Str × (Int × (List (Int × Int)))))) => [some (.val (Scr.D S_0)), some (.val (.list (r_2.map PyData.str))), some (.val (.int near_4)), some (.cell 1), some (.cell 2), some (.cell 3), some (.cell 4), some (.cell 7), none, some (.val (.int many_20)), none, none, none, none, some (.cell 9), none, none, none]) (fun s_56 : ((List (Str × (Int × (List (Int × Int)))))) => [(.tup [.cell 1, .cell 2]), (.dct (svK (kvT PyData.int c_21))), (.frz od_44 us_44 (svK (kvT e_tup_int_tupl_tup_int_int_tupl_tup_int_int c_22))), (.lst ((c_46.map Pck.D).map SV.val)), (.lst ((c_24.map Row.D).map SV.val)), (.dct (svK (kvT PyData.int c_7))), (.dct (svK (kvT e_tup_int_tupl_tup_int_int c_15))), (.tup [.cell 5, .cell 6, .cell 3]), (.dct (svK (kvT e_tup_int_tupl_tup_int_int s_56))), (.tup [.cell 1, .cell 8])]) (Le.same (Le.same (Le.same (Le.same (Le.same (Le.same (Le.same (Le.same (Le.lose (Le.same (Le.lose (Le.lose (Le.lose (Le.lose (Le.same (Le.lose (Le.lose (Le.lose Le.nil)))))))))))))))))) rfl (by intro _; rfl) ?tu46 ?dn46
      case j046 => wtm_at "g.inv"
      case tu46 =>
        clear h
        rintro x_55 l_3 c_54 n_3 hm45 hJ3 h
        have hm45p := hm45
        have hm45 := mem_mid hm45
        have hm45r := lkS_some hm45
        try dsimp only at h hJ3
        obtain ⟨hJ3_0, hJ3_1, hJ3_2⟩ := hJ3
        refine gx_name TL rfl (Put.there (Put.there (Put.there (Put.there (Put.there (Put.there (Put.there (Put.there Put.here)))))))) ?_ rfl
        show SX _ _ _ [some (.val (Scr.D S_0)), some (.val (.list (r_2.map PyData.str))), some (.val (.int near_4)), some (.cell 1), some (.cell 2), some (.cell 3), some (.cell 4), some (.cell 7), some (.val (.str x_55)), some (.val (.int many_20)), none, none, none, none, some (.cell 9), none, none, none] [(.tup [.cell 1, .cell 2]), (.dct (svK (kvT PyData.int c_21))), (.frz od_44 us_44 (svK (kvT e_tup_int_tupl_tup_int_int_tupl_tup_int_int c_22))), (.lst ((c_46.map Pck.D).map SV.val)), (.lst ((c_24.map Row.D).map SV.val)), (.dct (svK (kvT PyData.int c_7))), (.dct (svK (kvT e_tup_int_tupl_tup_int_int c_15))), (.tup [.cell 5, .cell 6, .cell 3]), (.dct (svK (kvT e_tup_int_tupl_tup_int_int c_54))), (.tup [.cell 1, .cell 8])] _
        replace h := letF_elim h
        obtain ⟨r_57, er_57, h⟩ := h
        have dg47 : (lkS c_22 x_55).isSome = true := by wtm_at "g.key"
        have pl48 := putSt_len x_55 r_57 c_54
        refine sx_cons (s1_dputT (f := e_tup_int_tupl_tup_int_int) (kvs := c_54) (k := x_55) (y := r_57) hr (ev_as (t := .val (.tuple [(.int r_57.1), (.tuple (r_57.2.map pD))])) (cs2 := [(.tup [.cell 1, .cell 2]), (.dct (svK (kvT PyData.int c_21))), (.frz od_44 us_44 (svK (kvT e_tup_int_tupl_tup_int_int_tupl_tup_int_int c_22))), (.lst ((c_46.map Pck.D).map SV.val)), (.lst ((c_24.map Row.D).map SV.val)), (.dct (svK (kvT PyData.int c_7))), (.dct (svK (kvT e_tup_int_tupl_tup_int_int c_15))), (.tup [.cell 5, .cell 6, .cell 3]), (.dct (svK (kvT e_tup_int_tupl_tup_int_int c_54))), (.tup [.cell 1, .cell 8])]) (ev_callM (κ := []) C_law_stairs hr (by decide) rfl (av_cons (ev_dgetF hr (ev_name T rfl (Lk.there (Lk.there (Lk.there (Lk.there Lk.here)))) rfl) (ev_name T rfl (Lk.there (Lk.there (Lk.there (Lk.there (Lk.there (Lk.there (Lk.there (Lk.there Lk.here)))))))) rfl) rfl (KeyOf.str _) (lk_at (f := e_tup_int_tupl_tup_int_int_tupl_tup_int_int) dg47)) av_nil) Sel.nil (RenA.val RenA.nil) (Sp_law_stairs.mk (row_0 := ((lkS c_22 x_55).getD default)) (by wtm_at "g.pre")) SetA.nil (List.prefix_refl _) rfl (by decide) rfl) (by subst er_57; rfl) (by subst er_57; rfl)) (ev_ixC (ev_name T rfl (Lk.there (Lk.there (Lk.there (Lk.there (Lk.there (Lk.there (Lk.there (Lk.there (Lk.there (Lk.there (Lk.there (Lk.there (Lk.there (Lk.there Lk.here)))))))))))))) rfl) ev_int rfl rfl) (ev_name T rfl (Lk.there (Lk.there (Lk.there (Lk.there (Lk.there (Lk.there (Lk.there (Lk.there Lk.here)))))))) rfl) rfl (by wtm_at "g.sd") (by wtm_at "g.nd") (PutC.there (PutC.there (PutC.there (PutC.there (PutC.there (PutC.there (PutC.there (PutC.there PutC.here)))))))) ?_)
        show SX _ _ _ _ _ _
        refine sx_nil ?_
        exact ⟨((putSt c_54 x_55 r_57)), h, (by wtm_at "g.inv"), (At.same (Le.same (Le.same (Le.same (Le.same (Le.same (Le.same (Le.same (Le.same (Le.lose (Le.same (Le.lose (Le.lose (Le.lose (Le.lose (Le.same (Le.lose (Le.lose (Le.lose Le.nil)))))))))))))))))))⟩
      case dn46 =>
        clear h
        rintro c_54 hJ3 h slx hlx
        try dsimp only at h hJ3
        refine ⟨rfl, ?_⟩
        refine sx_weak hlx ?_
        obtain ⟨hJ3_0, hJ3_1, hJ3_2⟩ := hJ3
        have hst3 := StOf.done hJ3_2 (by assumption)
        obtain ⟨hf1, hf2, hf3⟩ := hGf.fin hi4_1
        rw [← hst3] at hf3
        have hpsh := dk_shaped (dk_pcks c_46) (by decide)
        have hpqr := dk_refl (dk_pcks c_46)
        have hWst : RowsW 150 c_15 := by rw [hst]; exact stAll_W ‹MadesW 40 0 _› 150 (by decide)
        have hWdu : RowsW 400 c_54 := by rw [hst3]; exact stAll_W hmf 400 (by decide)
        have hl6 : c_15.length ≤ 10 := by rw [hst]; unfold stAll; rw [List.length_map]; omega
        have hl8 : c_54.length ≤ 50 := by rw [hst3]; unfold stAll; rw [List.length_map]; omega
        show SX _ _ _ [some (.val (Scr.D S_0)), some (.val (.list (r_2.map PyData.str))), some (.val (.int near_4)), some (.cell 1), some (.cell 2), some (.cell 3), some (.cell 4), some (.cell 7), none, some (.val (.int many_20)), none, none, none, none, some (.cell 9), none, none, none] [(.tup [.cell 1, .cell 2]), (.dct (svK (kvT PyData.int c_21))), (.dct (svK (kvT e_tup_int_tupl_tup_int_int_tupl_tup_int_int c_22))), (.lst ((c_46.map Pck.D).map SV.val)), (.lst ((c_24.map Row.D).map SV.val)), (.dct (svK (kvT PyData.int c_7))), (.dct (svK (kvT e_tup_int_tupl_tup_int_int c_15))), (.tup [.cell 5, .cell 6, .cell 3]), (.dct (svK (kvT e_tup_int_tupl_tup_int_int c_54))), (.tup [.cell 1, .cell 8])] _
        refine sx_cons (s1_set TL rfl (ev_tupC (av_cons (ev_dictDC (kvs := kvT PyData.int c_7) z_dict rfl (ev_ixC (ev_name T rfl (Lk.there (Lk.there (Lk.there (Lk.there (Lk.there (Lk.there (Lk.there Lk.here))))))) rfl) ev_int rfl rfl) (IsD.cell rfl) (AppC.cons (AppC.cons (AppC.cons (AppC.cons (AppC.cons (AppC.cons (AppC.cons (AppC.cons (AppC.cons (AppC.cons AppC.nil))))))))))) (av_cons (ev_dictDC (kvs := kvT e_tup_int_tupl_tup_int_int c_15) z_dict rfl (ev_ixC (ev_name T rfl (Lk.there (Lk.there (Lk.there (Lk.there (Lk.there (Lk.there (Lk.there Lk.here))))))) rfl) ev_int rfl rfl) (IsD.cell rfl) (AppC.cons (AppC.cons (AppC.cons (AppC.cons (AppC.cons (AppC.cons (AppC.cons (AppC.cons (AppC.cons (AppC.cons (AppC.cons AppC.nil)))))))))))) (av_cons (ev_listC (xs := (c_46.map Pck.D).map SV.val) z_list rfl (ev_name T rfl (Lk.there (Lk.there (Lk.there (Lk.there (Lk.there Lk.here))))) rfl) (IsQ.l (IsL.cell rfl)) (AppC.cons (AppC.cons (AppC.cons (AppC.cons (AppC.cons (AppC.cons (AppC.cons (AppC.cons (AppC.cons (AppC.cons (AppC.cons (AppC.cons AppC.nil))))))))))))) av_nil))) (AppC.cons (AppC.cons (AppC.cons (AppC.cons (AppC.cons (AppC.cons (AppC.cons (AppC.cons (AppC.cons (AppC.cons (AppC.cons (AppC.cons (AppC.cons AppC.nil))))))))))))) rfl) (Put.there (Put.there (Put.there (Put.there (Put.there (Put.there (Put.there (Put.there (Put.there (Put.there (Put.there (Put.there (Put.there (Put.there (Put.there Put.here))))))))))))))) ?_ rfl)
        show SX _ _ _ _ _ _
        refine sx_cons (s1_set TL rfl (ev_listV (ds := c_24.map Row.D) z_list rfl (ev_name T rfl (Lk.there (Lk.there (Lk.there (Lk.there (Lk.there (Lk.there Lk.here)))))) rfl) (IsQ.l (IsL.cell rfl))) (Put.there (Put.there (Put.there (Put.there (Put.there (Put.there (Put.there (Put.there (Put.there (Put.there (Put.there (Put.there (Put.there (Put.there (Put.there (Put.there Put.here)))))))))))))))) ?_ rfl)
        show SX _ _ _ _ _ _
        replace h := letF_elim h
        obtain ⟨r_58, er_58, h⟩ := h
        have hq58 := er_58.symm.trans hf3
        refine sx_cons (s1_set TL rfl (ev_as (t := .cell 14) (cs2 := [(.tup [.cell 1, .cell 2]), (.dct (svK (kvT PyData.int c_21))), (.dct (svK (kvT e_tup_int_tupl_tup_int_int_tupl_tup_int_int c_22))), (.lst ((c_46.map Pck.D).map SV.val)), (.lst ((c_24.map Row.D).map SV.val)), (.dct (svK (kvT PyData.int c_7))), (.dct (svK (kvT e_tup_int_tupl_tup_int_int c_15))), (.tup [.cell 5, .cell 6, .cell 3]), (.dct (svK (kvT e_tup_int_tupl_tup_int_int c_54))), (.tup [.cell 1, .cell 8]), (.dct (svK (kvT PyData.int c_7))), (.dct (svK (kvT e_tup_int_tupl_tup_int_int c_15))), (.lst ((c_46.map Pck.D).map SV.val)), (.tup [.cell 10, .cell 11, .cell 12]), (.tup [.val (.str ("through" : Str)), .cell 15, .cell 16]), (.dct (svK (kvT PyData.int r_58.1))), (.dct (svK (kvT e_tup_int_tupl_tup_int_int r_58.2)))]) (ev_callG (κ := [4, 7, 5, 6, 3]) (da := [(.lst ((c_24.map Row.D).map SV.val)), (.tup [.cell 5, .cell 6, .cell 3]), (.dct (svK (kvT PyData.int c_7))), (.dct (svK (kvT e_tup_int_tupl_tup_int_int c_15))), (.lst ((c_46.map Pck.D).map SV.val))]) (db := [(.tup [.val (.str ("through" : Str)), .cell 15, .cell 16]), (.dct (svK (kvT PyData.int (m_through c_24 (c_7, c_15, c_46)).1))), (.dct (svK (kvT e_tup_int_tupl_tup_int_int (m_through c_24 (c_7, c_15, c_46)).2)))]) C_through hr (by decide) rfl (av_cons (ev_name T rfl (Lk.there (Lk.there (Lk.there (Lk.there (Lk.there (Lk.there Lk.here)))))) rfl) (av_cons (ev_name T rfl (Lk.there (Lk.there (Lk.there (Lk.there (Lk.there (Lk.there (Lk.there Lk.here))))))) rfl) av_nil)) (SelR.cons rfl (RenC.flat (by wtm_at "d.flat")) (SelR.cons rfl (RenC.ren rfl rfl) (SelR.cons rfl (RenC.flat (by wtm_at "d.flat")) (SelR.cons rfl (RenC.flat (by wtm_at "d.flat")) (SelR.cons rfl (RenC.flat (by wtm_at "d.flat")) SelR.nil))))) (RenA.cell rfl (RenA.cell rfl RenA.nil)) (Sp_through.mk (rows_0 := c_24) (start_0 := (c_7, c_15, c_46)) (by wtm_at "g.pre") (by wtm_at "g.pre") (by wtm_at "g.pre") (by wtm_at "g.pre") (by wtm_at "g.pre") (by wtm_at "g.pre")) (Paired.cons (RenC.flat (by wtm_at "d.flat")) (Paired.cons (RenC.ren rfl rfl) (Paired.cons (RenC.flat (by wtm_at "d.flat")) (Paired.cons (RenC.flat (by wtm_at "d.flat")) (Paired.cons (RenC.flat (by wtm_at "d.flat")) (Paired.cons (RenC.ren rfl rfl) (Paired.cons (RenC.flat (by wtm_at "d.flat")) (Paired.cons (RenC.flat (by wtm_at "d.flat")) Paired.nil)))))))) rfl (SetA.cons (PutC.there (PutC.there (PutC.there (PutC.there PutC.here)))) (SetA.cons (PutC.there (PutC.there (PutC.there (PutC.there (PutC.there (PutC.there (PutC.there PutC.here))))))) (SetA.cons (PutC.there (PutC.there (PutC.there (PutC.there (PutC.there PutC.here))))) (SetA.cons (PutC.there (PutC.there (PutC.there (PutC.there (PutC.there (PutC.there PutC.here)))))) (SetA.cons (PutC.there (PutC.there (PutC.there PutC.here))) SetA.nil))))) rfl rfl (by decide) rfl) rfl (by subst er_58; rfl)) (Put.there (Put.there (Put.there (Put.there (Put.there (Put.there (Put.there (Put.there (Put.there (Put.there (Put.there (Put.there (Put.there (Put.there (Put.there (Put.there (Put.there Put.here))))))))))))))))) ?_ rfl)
        show SX _ _ _ _ _ _
        refine sx_cons (s1_if (tv_w (wv_or (tv_not (tv_val (ev_is (t := .val (.bool true)) (ev_callG (κ := [14, 15, 16, 9, 1, 8]) (da := [(.tup [.val (.str ("through" : Str)), .cell 15, .cell 16]), (.dct (svK (kvT PyData.int r_58.1))), (.dct (svK (kvT e_tup_int_tupl_tup_int_int r_58.2))), (.tup [.cell 1, .cell 8]), (.dct (svK (kvT PyData.int c_21))), (.dct (svK (kvT e_tup_int_tupl_tup_int_int c_54)))]) (db := []) C_law_alike hr (by decide) rfl (av_cons (ev_name T rfl (Lk.there (Lk.there (Lk.there (Lk.there (Lk.there (Lk.there (Lk.there (Lk.there (Lk.there (Lk.there (Lk.there (Lk.there (Lk.there (Lk.there (Lk.there (Lk.there (Lk.there Lk.here))))))))))))))))) rfl) (av_cons (ev_name T rfl (Lk.there (Lk.there (Lk.there (Lk.there (Lk.there (Lk.there (Lk.there (Lk.there (Lk.there (Lk.there (Lk.there (Lk.there (Lk.there (Lk.there Lk.here)))))))))))))) rfl) av_nil)) (SelR.cons rfl (RenC.ren rfl rfl) (SelR.cons rfl (RenC.flat (by wtm_at "d.flat")) (SelR.cons rfl (RenC.flat (by wtm_at "d.flat")) (SelR.cons rfl (RenC.ren rfl rfl) (SelR.cons rfl (RenC.flat (by wtm_at "d.flat")) (SelR.cons rfl (RenC.flat (by wtm_at "d.flat")) SelR.nil)))))) (RenA.cell rfl (RenA.cell rfl RenA.nil)) (Sp_law_alike.mk (found_0 := r_58) (due_0 := (c_21, c_54)) (by wtm_at "g.pre") (by wtm_at "g.pre") (by wtm_at "g.pre") (by wtm_at "g.pre")) (Paired.cons (RenC.ren rfl rfl) (Paired.cons (RenC.flat (by wtm_at "d.flat")) (Paired.cons (RenC.flat (by wtm_at "d.flat")) (Paired.cons (RenC.ren rfl rfl) (Paired.cons (RenC.flat (by wtm_at "d.flat")) (Paired.cons (RenC.flat (by wtm_at "d.flat")) Paired.nil)))))) rfl (SetA.cons (PutC.there (PutC.there (PutC.there (PutC.there (PutC.there (PutC.there (PutC.there (PutC.there (PutC.there (PutC.there (PutC.there (PutC.there (PutC.there (PutC.there PutC.here)))))))))))))) (SetA.cons (PutC.there (PutC.there (PutC.there (PutC.there (PutC.there (PutC.there (PutC.there (PutC.there (PutC.there (PutC.there (PutC.there (PutC.there (PutC.there (PutC.there (PutC.there PutC.here))))))))))))))) (SetA.cons (PutC.there (PutC.there (PutC.there (PutC.there (PutC.there (PutC.there (PutC.there (PutC.there (PutC.there (PutC.there (PutC.there (PutC.there (PutC.there (PutC.there (PutC.there (PutC.there PutC.here)))))))))))))))) (SetA.cons (PutC.there (PutC.there (PutC.there (PutC.there (PutC.there (PutC.there (PutC.there (PutC.there (PutC.there PutC.here))))))))) (SetA.cons (PutC.there PutC.here) (SetA.cons (PutC.there (PutC.there (PutC.there (PutC.there (PutC.there (PutC.there (PutC.there (PutC.there PutC.here)))))))) SetA.nil)))))) rfl rfl (by decide) rfl) (by rw [alike_true]; rfl)))) (fun hk49 => (by
          have hk49x := hk49
          try simp only [Bool.and_eq_true, Bool.or_eq_true, Bool.and_eq_false_iff, Bool.or_eq_false_iff, decide_eq_true_eq, decide_eq_false_iff_not, Bool.not_eq_true', Bool.not_eq_false', Bool.not_eq_eq_eq_not, Bool.not_true, Bool.not_false] at hk49x
          exact (wv_or (tv_neTup hr (ev_name T rfl (Lk.there (Lk.there (Lk.there (Lk.there (Lk.there (Lk.there (Lk.there Lk.here))))))) rfl) (ev_name T rfl (Lk.there (Lk.there (Lk.there (Lk.there (Lk.there (Lk.there (Lk.there (Lk.there (Lk.there (Lk.there (Lk.there (Lk.there (Lk.there (Lk.there (Lk.there Lk.here))))))))))))))) rfl) rfl rfl (Paired.cons (SameD.dct (kvs := kvT PyData.int c_7) (IsD.cell rfl) (IsD.cell rfl) (dd_ok (n := 0) (by decide) (fun _ => rfl) c_7) (kvT_nd (by wtm_at "g.nd"))) (Paired.cons (SameD.dct (kvs := kvT e_tup_int_tupl_tup_int_int c_15) (IsD.cell rfl) (IsD.cell rfl) (dd_ok (n := 3) (by decide) dk_st c_15) (kvT_nd (by wtm_at "g.nd"))) (Paired.cons (SameD.dat (d := (.list (c_46.map Pck.D))) (IsDat.cell rfl (by wtm_at "g.data")) (IsDat.cell rfl (by wtm_at "g.data")) (by wtm_at "g.shp") (by wtm_at "g.eqr")) Paired.nil)))) (fun hk50 => (by
            have hk50x := hk50
            try simp only [Bool.and_eq_true, Bool.or_eq_true, Bool.and_eq_false_iff, Bool.or_eq_false_iff, decide_eq_true_eq, decide_eq_false_iff_not, Bool.not_eq_true', Bool.not_eq_false', Bool.not_eq_eq_eq_not, Bool.not_true, Bool.not_false] at hk50x
            exact (wv_or1 (tv_is (l := false) (tv_neD2 (d := (.list (c_24.map Row.D))) (e := (.list (c_24.map Row.D))) hr (ev_name T rfl (Lk.there (Lk.there (Lk.there (Lk.there (Lk.there (Lk.there Lk.here)))))) rfl) (ev_name T rfl (Lk.there (Lk.there (Lk.there (Lk.there (Lk.there (Lk.there (Lk.there (Lk.there (Lk.there (Lk.there (Lk.there (Lk.there (Lk.there (Lk.there (Lk.there (Lk.there Lk.here)))))))))))))))) rfl) (IsDat2.base (IsDat.cell rfl (by wtm_at "g.data"))) (IsDat2.base IsDat.val) (by wtm_at "g.shp") (by wtm_at "g.shp")) (by wtm_at "g.eqr")))))))))) (fun z => absurd z (by decide)) (fun _ => ?_))
        refine sx_nil ?_
        show SX _ _ _ _ _ _
        refine sx_cons (s1_expr (ev_as (t := .val .none) (cs2 := [(.tup [.cell 1, .cell 2]), (.dct (svK (kvT PyData.int c_21))), (.dct (svK (kvT e_tup_int_tupl_tup_int_int_tupl_tup_int_int c_22))), (.lst ((c_46.map Pck.D).map SV.val)), (.lst ((c_24.map Row.D).map SV.val)), (.dct (svK (kvT PyData.int c_7))), (.dct (svK (kvT e_tup_int_tupl_tup_int_int c_15))), (.tup [.cell 5, .cell 6, .cell 3]), (.dct (svK (kvT e_tup_int_tupl_tup_int_int c_54))), (.tup [.cell 1, .cell 8]), (.dct (svK (kvT PyData.int c_7))), (.dct (svK (kvT e_tup_int_tupl_tup_int_int c_15))), (.lst ((c_46.map Pck.D).map SV.val)), (.tup [.cell 10, .cell 11, .cell 12]), (.tup [.val (.str ("through" : Str)), .cell 15, .cell 16]), (.dct (svK (kvT PyData.int ([] : (List (Str × Int)))))), (.dct (svK (kvT e_tup_int_tupl_tup_int_int r_58.2)))]) (ev_clearD (ev_ixC (ev_name T rfl (Lk.there (Lk.there (Lk.there (Lk.there (Lk.there (Lk.there (Lk.there (Lk.there (Lk.there (Lk.there (Lk.there (Lk.there (Lk.there (Lk.there (Lk.there (Lk.there (Lk.there Lk.here))))))))))))))))) rfl) ev_int rfl rfl) rfl (PutC.there (PutC.there (PutC.there (PutC.there (PutC.there (PutC.there (PutC.there (PutC.there (PutC.there (PutC.there (PutC.there (PutC.there (PutC.there (PutC.there (PutC.there PutC.here)))))))))))))))) rfl rfl) ?_)
        show SX _ _ _ _ _ _
        refine sx_cons (s1_expr (ev_as (t := .val .none) (cs2 := [(.tup [.cell 1, .cell 2]), (.dct (svK (kvT PyData.int c_21))), (.dct (svK (kvT e_tup_int_tupl_tup_int_int_tupl_tup_int_int c_22))), (.lst ((c_46.map Pck.D).map SV.val)), (.lst ((c_24.map Row.D).map SV.val)), (.dct (svK (kvT PyData.int c_7))), (.dct (svK (kvT e_tup_int_tupl_tup_int_int c_15))), (.tup [.cell 5, .cell 6, .cell 3]), (.dct (svK (kvT e_tup_int_tupl_tup_int_int c_54))), (.tup [.cell 1, .cell 8]), (.dct (svK (kvT PyData.int c_7))), (.dct (svK (kvT e_tup_int_tupl_tup_int_int c_15))), (.lst ((c_46.map Pck.D).map SV.val)), (.tup [.cell 10, .cell 11, .cell 12]), (.tup [.val (.str ("through" : Str)), .cell 15, .cell 16]), (.dct (svK (kvT PyData.int ([] : (List (Str × Int)))))), (.dct (svK (kvT e_tup_int_tupl_tup_int_int ([] : (List (Str × (Int × (List (Int × Int)))))))))]) (ev_clearD (ev_ixC (ev_name T rfl (Lk.there (Lk.there (Lk.there (Lk.there (Lk.there (Lk.there (Lk.there (Lk.there (Lk.there (Lk.there (Lk.there (Lk.there (Lk.there (Lk.there (Lk.there (Lk.there (Lk.there Lk.here))))))))))))))))) rfl) ev_int rfl rfl) rfl (PutC.there (PutC.there (PutC.there (PutC.there (PutC.there (PutC.there (PutC.there (PutC.there (PutC.there (PutC.there (PutC.there (PutC.there (PutC.there (PutC.there (PutC.there (PutC.there PutC.here))))))))))))))))) rfl rfl) ?_)
        show SX _ _ _ _ _ _
        replace h := letF_elim h
        obtain ⟨r_59, er_59, h⟩ := h
        have hq59 := er_59.symm.trans hf3
        refine sx_cons (s1_ret (ev_is (t := .val (.bool true)) (ev_callG (κ := [17, 18, 19, 9, 1, 8]) (da := [(.tup [.val (.str ("through" : Str)), .cell 18, .cell 19]), (.dct (svK (kvT PyData.int r_59.1))), (.dct (svK (kvT e_tup_int_tupl_tup_int_int r_59.2))), (.tup [.cell 1, .cell 8]), (.dct (svK (kvT PyData.int c_21))), (.dct (svK (kvT e_tup_int_tupl_tup_int_int c_54)))]) (db := []) C_law_alike hr (by decide) rfl (av_cons (ev_as (t := .cell 17) (cs2 := [(.tup [.cell 1, .cell 2]), (.dct (svK (kvT PyData.int c_21))), (.dct (svK (kvT e_tup_int_tupl_tup_int_int_tupl_tup_int_int c_22))), (.lst ((c_46.map Pck.D).map SV.val)), (.lst ((c_24.map Row.D).map SV.val)), (.dct (svK (kvT PyData.int c_7))), (.dct (svK (kvT e_tup_int_tupl_tup_int_int c_15))), (.tup [.cell 5, .cell 6, .cell 3]), (.dct (svK (kvT e_tup_int_tupl_tup_int_int c_54))), (.tup [.cell 1, .cell 8]), (.dct (svK (kvT PyData.int c_7))), (.dct (svK (kvT e_tup_int_tupl_tup_int_int c_15))), (.lst ((c_46.map Pck.D).map SV.val)), (.tup [.cell 10, .cell 11, .cell 12]), (.tup [.val (.str ("through" : Str)), .cell 15, .cell 16]), (.dct (svK (kvT PyData.int ([] : (List (Str × Int)))))), (.dct (svK (kvT e_tup_int_tupl_tup_int_int ([] : (List (Str × (Int × (List (Int × Int))))))))), (.tup [.val (.str ("through" : Str)), .cell 18, .cell 19]), (.dct (svK (kvT PyData.int r_59.1))), (.dct (svK (kvT e_tup_int_tupl_tup_int_int r_59.2)))]) (ev_callG (κ := [4, 7, 5, 6, 3]) (da := [(.lst ((c_24.map Row.D).map SV.val)), (.tup [.cell 5, .cell 6, .cell 3]), (.dct (svK (kvT PyData.int c_7))), (.dct (svK (kvT e_tup_int_tupl_tup_int_int c_15))), (.lst ((c_46.map Pck.D).map SV.val))]) (db := [(.tup [.val (.str ("through" : Str)), .cell 18, .cell 19]), (.dct (svK (kvT PyData.int (m_through c_24 (c_7, c_15, c_46)).1))), (.dct (svK (kvT e_tup_int_tupl_tup_int_int (m_through c_24 (c_7, c_15, c_46)).2)))]) C_through hr (by decide) rfl (av_cons (ev_name T rfl (Lk.there (Lk.there (Lk.there (Lk.there (Lk.there (Lk.there Lk.here)))))) rfl) (av_cons (ev_name T rfl (Lk.there (Lk.there (Lk.there (Lk.there (Lk.there (Lk.there (Lk.there Lk.here))))))) rfl) av_nil)) (SelR.cons rfl (RenC.flat (by wtm_at "d.flat")) (SelR.cons rfl (RenC.ren rfl rfl) (SelR.cons rfl (RenC.flat (by wtm_at "d.flat")) (SelR.cons rfl (RenC.flat (by wtm_at "d.flat")) (SelR.cons rfl (RenC.flat (by wtm_at "d.flat")) SelR.nil))))) (RenA.cell rfl (RenA.cell rfl RenA.nil)) (Sp_through.mk (rows_0 := c_24) (start_0 := (c_7, c_15, c_46)) (by wtm_at "g.pre") (by wtm_at "g.pre") (by wtm_at "g.pre") (by wtm_at "g.pre") (by wtm_at "g.pre") (by wtm_at "g.pre")) (Paired.cons (RenC.flat (by wtm_at "d.flat")) (Paired.cons (RenC.ren rfl rfl) (Paired.cons (RenC.flat (by wtm_at "d.flat")) (Paired.cons (RenC.flat (by wtm_at "d.flat")) (Paired.cons (RenC.flat (by wtm_at "d.flat")) (Paired.cons (RenC.ren rfl rfl) (Paired.cons (RenC.flat (by wtm_at "d.flat")) (Paired.cons (RenC.flat (by wtm_at "d.flat")) Paired.nil)))))))) rfl (SetA.cons (PutC.there (PutC.there (PutC.there (PutC.there PutC.here)))) (SetA.cons (PutC.there (PutC.there (PutC.there (PutC.there (PutC.there (PutC.there (PutC.there PutC.here))))))) (SetA.cons (PutC.there (PutC.there (PutC.there (PutC.there (PutC.there PutC.here))))) (SetA.cons (PutC.there (PutC.there (PutC.there (PutC.there (PutC.there (PutC.there PutC.here)))))) (SetA.cons (PutC.there (PutC.there (PutC.there PutC.here))) SetA.nil))))) rfl rfl (by decide) rfl) rfl (by subst er_59; rfl)) (av_cons (ev_name T rfl (Lk.there (Lk.there (Lk.there (Lk.there (Lk.there (Lk.there (Lk.there (Lk.there (Lk.there (Lk.there (Lk.there (Lk.there (Lk.there (Lk.there Lk.here)))))))))))))) rfl) av_nil)) (SelR.cons rfl (RenC.ren rfl rfl) (SelR.cons rfl (RenC.flat (by wtm_at "d.flat")) (SelR.cons rfl (RenC.flat (by wtm_at "d.flat")) (SelR.cons rfl (RenC.ren rfl rfl) (SelR.cons rfl (RenC.flat (by wtm_at "d.flat")) (SelR.cons rfl (RenC.flat (by wtm_at "d.flat")) SelR.nil)))))) (RenA.cell rfl (RenA.cell rfl RenA.nil)) (Sp_law_alike.mk (found_0 := r_59) (due_0 := (c_21, c_54)) (by wtm_at "g.pre") (by wtm_at "g.pre") (by wtm_at "g.pre") (by wtm_at "g.pre")) (Paired.cons (RenC.ren rfl rfl) (Paired.cons (RenC.flat (by wtm_at "d.flat")) (Paired.cons (RenC.flat (by wtm_at "d.flat")) (Paired.cons (RenC.ren rfl rfl) (Paired.cons (RenC.flat (by wtm_at "d.flat")) (Paired.cons (RenC.flat (by wtm_at "d.flat")) Paired.nil)))))) rfl (SetA.cons (PutC.there (PutC.there (PutC.there (PutC.there (PutC.there (PutC.there (PutC.there (PutC.there (PutC.there (PutC.there (PutC.there (PutC.there (PutC.there (PutC.there (PutC.there (PutC.there (PutC.there PutC.here))))))))))))))))) (SetA.cons (PutC.there (PutC.there (PutC.there (PutC.there (PutC.there (PutC.there (PutC.there (PutC.there (PutC.there (PutC.there (PutC.there (PutC.there (PutC.there (PutC.there (PutC.there (PutC.there (PutC.there (PutC.there PutC.here)))))))))))))))))) (SetA.cons (PutC.there (PutC.there (PutC.there (PutC.there (PutC.there (PutC.there (PutC.there (PutC.there (PutC.there (PutC.there (PutC.there (PutC.there (PutC.there (PutC.there (PutC.there (PutC.there (PutC.there (PutC.there (PutC.there PutC.here))))))))))))))))))) (SetA.cons (PutC.there (PutC.there (PutC.there (PutC.there (PutC.there (PutC.there (PutC.there (PutC.there (PutC.there PutC.here))))))))) (SetA.cons (PutC.there PutC.here) (SetA.cons (PutC.there (PutC.there (PutC.there (PutC.there (PutC.there (PutC.there (PutC.there (PutC.there PutC.here)))))))) SetA.nil)))))) rfl rfl (by decide) rfl) (by rw [alike_true]; rfl)) ?_)
        show RetOk _ _ _ _ _
        subst h
        exact ret_val rfl rfl rfl (by wtm_at "d.lt")
end
section
variable {P : Program} {w : World} {K : PySem.W.Frag} {mg : Str → Option Value} {base : Heap}
theorem chain (D_entry : DefAt K mg "entry" s_entry P_entry) (D_smooth : DefAt K mg "smooth" s_smooth P_smooth) (D_written : DefAt K mg "written" s_written P_written) (D_number_at : DefAt K mg "number_at" s_number_at P_number_at) (D_place_at : DefAt K mg "place_at" s_place_at P_place_at) (D_term_at : DefAt K mg "term_at" s_term_at P_term_at) (D_picked : DefAt K mg "picked" s_picked P_picked) (D_through : DefAt K mg "through" s_through P_through) (D_law_cell_at : DefAt K mg "_law_cell_at" s__law_cell_at P__law_cell_at) (D_law_mix : DefAt K mg "_law_mix" s__law_mix P__law_mix) (D_law_words : DefAt K mg "_law_words" s__law_words P__law_words) (D_law_made : DefAt K mg "_law_made" s__law_made P__law_made) (D_law_holds : DefAt K mg "_law_holds" s__law_holds P__law_holds) (D_law_stairs : DefAt K mg "_law_stairs" s__law_stairs P__law_stairs) (D_law_place : DefAt K mg "_law_place" s__law_place P__law_place) (D_law_term : DefAt K mg "_law_term" s__law_term P__law_term) (D_law_number : DefAt K mg "_law_number" s__law_number P__law_number) (D_law_worth : DefAt K mg "_law_worth" s__law_worth P__law_worth) (D_law_put : DefAt K mg "_law_put" s__law_put P__law_put) (D_law_gone : DefAt K mg "_law_gone" s__law_gone P__law_gone) (D_law_start : DefAt K mg "_law_start" s__law_start P__law_start) (D_law_drawn : DefAt K mg "_law_drawn" s__law_drawn P__law_drawn) (D_law_pick : DefAt K mg "_law_pick" s__law_pick P__law_pick) (D_law_alike : DefAt K mg "_law_alike" s__law_alike P__law_alike) (z_tuple : mg "tuple" = none) (z_len : mg "len" = none) (z_dict : mg "dict" = none) (z_enumerate : mg "enumerate" = none) (z_int : mg "int" = none) (z_range : mg "range" = none) (z_set : mg "set" = none) (z_sorted : mg "sorted" = none) (z_all : mg "all" = none) (z_bool : mg "bool" = none) (z_isinstance : mg "isinstance" = none) (z_list : mg "list" = none) (G_BLANK : Glo K mg "BLANK" (.tuple [(.int 0), (.tuple [])])) (G_EMPTY : Glo K mg "EMPTY" (.tuple [(.int 0), (.tuple [])])) {f : Addr} {fd : FuncData} (F : Fun K "law" "law" s_law f fd) : FnOk P w K mg base CX0 5 f fd P_law (spM K 1 SpLaw) := by
  have C_entry := cal_entry (P := P) (w := w) (base := base) D_entry
  have C_smooth := cal_smooth (P := P) (w := w) (base := base) D_smooth z_tuple
  have C_written := cal_written (P := P) (w := w) (base := base) D_written C_entry C_smooth
  have C_number_at := cal_number_at (P := P) (w := w) (base := base) D_number_at
  have C_place_at := cal_place_at (P := P) (w := w) (base := base) D_place_at C_number_at
  have C_term_at := cal_term_at (P := P) (w := w) (base := base) D_term_at C_number_at C_place_at C_entry G_BLANK
  have C_picked := cal_picked (P := P) (w := w) (base := base) D_picked z_len
  have C_through := cal_through (P := P) (w := w) (base := base) D_through C_term_at C_place_at C_written C_picked z_dict z_enumerate G_EMPTY
  have C_law_cell_at := cal_law_cell_at (P := P) (w := w) (base := base) D_law_cell_at z_len
  have C_law_mix := cal_law_mix (P := P) (w := w) (base := base) D_law_mix
  have C_law_words := cal_law_words (P := P) (w := w) (base := base) D_law_words z_int z_range
  have C_law_made := cal_law_made (P := P) (w := w) (base := base) D_law_made C_law_mix z_int z_range z_tuple
  have C_law_holds := cal_law_holds (P := P) (w := w) (base := base) D_law_holds
  have C_law_stairs := cal_law_stairs (P := P) (w := w) (base := base) D_law_stairs C_law_holds z_set z_sorted z_tuple
  have C_law_place := cal_law_place (P := P) (w := w) (base := base) D_law_place z_int
  have C_law_term := cal_law_term (P := P) (w := w) (base := base) D_law_term C_law_place
  have C_law_number := cal_law_number (P := P) (w := w) (base := base) D_law_number
  have C_law_worth := cal_law_worth (P := P) (w := w) (base := base) D_law_worth C_law_number C_law_holds
  have C_law_put := cal_law_put (P := P) (w := w) (base := base) D_law_put
  have C_law_gone_set := cal_law_gone_set (P := P) (w := w) (base := base) D_law_gone C_law_worth
  have C_law_gone_put := cal_law_gone_put (P := P) (w := w) (base := base) D_law_gone C_law_number C_law_worth C_law_put
  have C_law_gone_any := cal_law_gone_any (P := P) (w := w) (base := base) D_law_gone
  have C_law_gone_lose := cal_law_gone_lose (P := P) (w := w) (base := base) D_law_gone
  have C_law_start := cal_law_start (P := P) (w := w) (base := base) D_law_start C_law_cell_at C_law_made z_range
  have C_law_drawn := cal_law_drawn (P := P) (w := w) (base := base) D_law_drawn C_law_mix C_law_term C_law_place z_int
  have C_law_pick_any := cal_law_pick_any (P := P) (w := w) (base := base) D_law_pick
  have C_law_pick_lose := cal_law_pick_lose (P := P) (w := w) (base := base) D_law_pick C_law_made
  have C_law_alike := cal_law_alike (P := P) (w := w) (base := base) D_law_alike z_all z_bool z_dict z_int z_isinstance z_len z_list z_tuple
  exact fn_law F C_law_cell_at C_law_words C_law_start C_law_stairs C_law_mix C_law_drawn C_law_gone_set C_law_gone_put C_law_pick_any C_law_gone_any C_law_pick_lose C_law_gone_lose C_through C_law_alike z_dict z_enumerate z_int z_len z_list
end
theorem fin {l : PySem.W.OpenLaw} {w : World} {K : PySem.W.Frag} {h : Heap} {mg : Str → Option Value} {fa f0 : Addr} (X : K.In h) (G : h.Ns mainGlobals mg) (hfa : mg "law" = some (.ref fa))
    {od an : Option Addr} {sl : Array (Option Value)} {oc kV dc pm cd ct : Value}
    (a0 : PySem.W.nsIn K mainGlobals "law" = some (some (.ref f0))) (l0 : K.lookup f0 = some ⟨oc, od, .func (PySem.W.fnOf "law" "law" (defArgs s_law) (defBody s_law) (defScope s_law) .none kV dc pm an cd ct), sl⟩) (c0 : PySem.W.codeIn K cd "law" = true) (k0 : PySem.W.keepIn K (.ref f0) = true)
    (D_entry : DefAt K mg "entry" s_entry P_entry)
    (D_smooth : DefAt K mg "smooth" s_smooth P_smooth)
    (D_written : DefAt K mg "written" s_written P_written)
    (D_number_at : DefAt K mg "number_at" s_number_at P_number_at)
    (D_place_at : DefAt K mg "place_at" s_place_at P_place_at)
    (D_term_at : DefAt K mg "term_at" s_term_at P_term_at)
    (D_picked : DefAt K mg "picked" s_picked P_picked)
    (D_through : DefAt K mg "through" s_through P_through)
    (D__law_cell_at : DefAt K mg "_law_cell_at" s__law_cell_at P__law_cell_at)
    (D__law_mix : DefAt K mg "_law_mix" s__law_mix P__law_mix)
    (D__law_words : DefAt K mg "_law_words" s__law_words P__law_words)
    (D__law_made : DefAt K mg "_law_made" s__law_made P__law_made)
    (D__law_holds : DefAt K mg "_law_holds" s__law_holds P__law_holds)
    (D__law_stairs : DefAt K mg "_law_stairs" s__law_stairs P__law_stairs)
    (D__law_place : DefAt K mg "_law_place" s__law_place P__law_place)
    (D__law_term : DefAt K mg "_law_term" s__law_term P__law_term)
    (D__law_number : DefAt K mg "_law_number" s__law_number P__law_number)
    (D__law_worth : DefAt K mg "_law_worth" s__law_worth P__law_worth)
    (D__law_put : DefAt K mg "_law_put" s__law_put P__law_put)
    (D__law_gone : DefAt K mg "_law_gone" s__law_gone P__law_gone)
    (D__law_start : DefAt K mg "_law_start" s__law_start P__law_start)
    (D__law_drawn : DefAt K mg "_law_drawn" s__law_drawn P__law_drawn)
    (D__law_pick : DefAt K mg "_law_pick" s__law_pick P__law_pick)
    (D__law_alike : DefAt K mg "_law_alike" s__law_alike P__law_alike)
    (z0 : PySem.W.nsIn K mainGlobals "tuple" = some none)
    (z1 : PySem.W.nsIn K mainGlobals "len" = some none)
    (z2 : PySem.W.nsIn K mainGlobals "dict" = some none)
    (z3 : PySem.W.nsIn K mainGlobals "enumerate" = some none)
    (z4 : PySem.W.nsIn K mainGlobals "int" = some none)
    (z5 : PySem.W.nsIn K mainGlobals "range" = some none)
    (z6 : PySem.W.nsIn K mainGlobals "set" = some none)
    (z7 : PySem.W.nsIn K mainGlobals "sorted" = some none)
    (z8 : PySem.W.nsIn K mainGlobals "all" = some none)
    (z9 : PySem.W.nsIn K mainGlobals "bool" = some none)
    (z10 : PySem.W.nsIn K mainGlobals "isinstance" = some none)
    (z11 : PySem.W.nsIn K mainGlobals "list" = some none)
    (G_BLANK : Glo K mg "BLANK" (.tuple [.int 0, .tuple []]))
    (G_EMPTY : Glo K mg "EMPTY" (.tuple [.int 0, .tuple []]))
    : ∃ fd : FuncData, (∀ (s : Shared) (v : Value), BindsTo s fd ⟨[v], []⟩ [("_law_script", v)]) ∧ ∀ base : Heap, K.In base → base.Ns mainGlobals mg → FnOk l.prog w K mg base CX0 5 fa fd ["_law_script"] (spM K 1 SpLaw) := by
  have e := hfa.symm.trans (PySem.W.mg_of X G a0)
  cases e
  exact ⟨_, fun s v => .of_eq rfl, fun base _ _ => chain D_entry D_smooth D_written D_number_at D_place_at D_term_at D_picked D_through D__law_cell_at D__law_mix D__law_words D__law_made D__law_holds D__law_stairs D__law_place D__law_term D__law_number D__law_worth D__law_put D__law_gone D__law_start D__law_drawn D__law_pick D__law_alike (PySem.W.mg_none_of X G z0) (PySem.W.mg_none_of X G z1) (PySem.W.mg_none_of X G z2) (PySem.W.mg_none_of X G z3) (PySem.W.mg_none_of X G z4) (PySem.W.mg_none_of X G z5) (PySem.W.mg_none_of X G z6) (PySem.W.mg_none_of X G z7) (PySem.W.mg_none_of X G z8) (PySem.W.mg_none_of X G z9) (PySem.W.mg_none_of X G z10) (PySem.W.mg_none_of X G z11) G_BLANK G_EMPTY (fun_mk (st := s_law) l0 c0 k0)⟩
end DL
open PySem PySem.W PyProof.Rows
set_option maxHeartbeats 0 in
theorem PySem.Challenge.cw_outlineward_k41_straight_rows_gone_throu_holds : PySem.Challenge.rw_outlineward_k41_straight_rows_gone_throu.Holds := by
  w_on; o_law; k_head; (case hw => w_witness2)
  k_fill
  refine L2.walk_ofB (l := PySem.Challenge.rw_outlineward_k41_straight_rows_gone_throu) (n := 63) (k := 5) (x := "_law_script") (CX := fun _ => L2.CX0) (sp := fun w => DL.spM _ 1 DL.SpLaw) rfl (by decide) rfl ⟨rfl, by decide, by decide⟩ (fun w h Y => PySem.W.kIn_of Y) ?F (fun w H a ns hl hb _ hS => DL.spM_law (DL.SpLaw.mk (S := ⟨ns, hl, DL.sbd_of hb⟩)) hS) (fun _ _ _ _ _ h => h)
  case F =>
    intro w mg fa h KX G hmg
    refine' DL.fin KX G hmg ?a0 ?l0 ?c0 ?k0 (DL.defAt_mk KX G ?a1 ?l1 ?c1 ?k1 (fun _ _ _ _ _ _ us hl => match us, hl with | [_, _], _ => rfl)) (DL.defAt_mk KX G ?a2 ?l2 ?c2 ?k2 (fun _ _ _ _ _ _ us hl => match us, hl with | [_, _], _ => rfl)) (DL.defAt_mk KX G ?a3 ?l3 ?c3 ?k3 (fun _ _ _ _ _ _ us hl => match us, hl with | [_, _, _], _ => rfl)) (DL.defAt_mk KX G ?a4 ?l4 ?c4 ?k4 (fun _ _ _ _ _ _ us hl => match us, hl with | [_, _], _ => rfl)) (DL.defAt_mk KX G ?a5 ?l5 ?c5 ?k5 (fun _ _ _ _ _ _ us hl => match us, hl with | [_, _], _ => rfl)) (DL.defAt_mk KX G ?a6 ?l6 ?c6 ?k6 (fun _ _ _ _ _ _ us hl => match us, hl with | [_, _, _], _ => rfl)) (DL.defAt_mk KX G ?a7 ?l7 ?c7 ?k7 (fun _ _ _ _ _ _ us hl => match us, hl with | [_, _, _], _ => rfl)) (DL.defAt_mk KX G ?a8 ?l8 ?c8 ?k8 (fun _ _ _ _ _ _ us hl => match us, hl with | [_, _], _ => rfl)) (DL.defAt_mk KX G ?a9 ?l9 ?c9 ?k9 (fun _ _ _ _ _ _ us hl => match us, hl with | [_, _], _ => rfl)) (DL.defAt_mk KX G ?a10 ?l10 ?c10 ?k10 (fun _ _ _ _ _ _ us hl => match us, hl with | [_, _], _ => rfl)) (DL.defAt_mk KX G ?a11 ?l11 ?c11 ?k11 (fun _ _ _ _ _ _ us hl => match us, hl with | [_, _], _ => rfl)) (DL.defAt_mk KX G ?a12 ?l12 ?c12 ?k12 (fun _ _ _ _ _ _ us hl => match us, hl with | [_, _], _ => rfl)) (DL.defAt_mk KX G ?a13 ?l13 ?c13 ?k13 (fun _ _ _ _ _ _ us hl => match us, hl with | [_, _], _ => rfl)) (DL.defAt_mk KX G ?a14 ?l14 ?c14 ?k14 (fun _ _ _ _ _ _ us hl => match us, hl with | [_], _ => rfl)) (DL.defAt_mk KX G ?a15 ?l15 ?c15 ?k15 (fun _ _ _ _ _ _ us hl => match us, hl with | [_, _, _], _ => rfl)) (DL.defAt_mk KX G ?a16 ?l16 ?c16 ?k16 (fun _ _ _ _ _ _ us hl => match us, hl with | [_, _, _], _ => rfl)) (DL.defAt_mk KX G ?a17 ?l17 ?c17 ?k17 (fun _ _ _ _ _ _ us hl => match us, hl with | [_, _], _ => rfl)) (DL.defAt_mk KX G ?a18 ?l18 ?c18 ?k18 (fun _ _ _ _ _ _ us hl => match us, hl with | [_, _, _], _ => rfl)) (DL.defAt_mk KX G ?a19 ?l19 ?c19 ?k19 (fun _ _ _ _ _ _ us hl => match us, hl with | [_, _, _, _], _ => rfl)) (DL.defAt_mk KX G ?a20 ?l20 ?c20 ?k20 (fun _ _ _ _ _ _ us hl => match us, hl with | [_, _, _, _], _ => rfl)) (DL.defAt_mk KX G ?a21 ?l21 ?c21 ?k21 (fun _ _ _ _ _ _ us hl => match us, hl with | [_, _, _], _ => rfl)) (DL.defAt_mk KX G ?a22 ?l22 ?c22 ?k22 (fun _ _ _ _ _ _ us hl => match us, hl with | [_, _, _], _ => rfl)) (DL.defAt_mk KX G ?a23 ?l23 ?c23 ?k23 (fun _ _ _ _ _ _ us hl => match us, hl with | [_, _, _], _ => rfl)) (DL.defAt_mk KX G ?a24 ?l24 ?c24 ?k24 (fun _ _ _ _ _ _ us hl => match us, hl with | [_, _], _ => rfl)) ?z0 ?z1 ?z2 ?z3 ?z4 ?z5 ?z6 ?z7 ?z8 ?z9 ?z10 ?z11 (DL.glo_blank KX G ?ga0 ?gb0 ?gc0) (DL.glo_blank KX G ?ga1 ?gb1 ?gc1)
    (case a0 => k_is); (case l0 => k_is); (case c0 => k_is); (case k0 => k_is)
    (case a1 => k_is); (case l1 => k_is); (case c1 => k_is); (case k1 => k_is)
    (case a2 => k_is); (case l2 => k_is); (case c2 => k_is); (case k2 => k_is)
    (case a3 => k_is); (case l3 => k_is); (case c3 => k_is); (case k3 => k_is)
    (case a4 => k_is); (case l4 => k_is); (case c4 => k_is); (case k4 => k_is)
    (case a5 => k_is); (case l5 => k_is); (case c5 => k_is); (case k5 => k_is)
    (case a6 => k_is); (case l6 => k_is); (case c6 => k_is); (case k6 => k_is)
    (case a7 => k_is); (case l7 => k_is); (case c7 => k_is); (case k7 => k_is)
    (case a8 => k_is); (case l8 => k_is); (case c8 => k_is); (case k8 => k_is)
    (case a9 => k_is); (case l9 => k_is); (case c9 => k_is); (case k9 => k_is)
    (case a10 => k_is); (case l10 => k_is); (case c10 => k_is); (case k10 => k_is)
    (case a11 => k_is); (case l11 => k_is); (case c11 => k_is); (case k11 => k_is)
    (case a12 => k_is); (case l12 => k_is); (case c12 => k_is); (case k12 => k_is)
    (case a13 => k_is); (case l13 => k_is); (case c13 => k_is); (case k13 => k_is)
    (case a14 => k_is); (case l14 => k_is); (case c14 => k_is); (case k14 => k_is)
    (case a15 => k_is); (case l15 => k_is); (case c15 => k_is); (case k15 => k_is)
    (case a16 => k_is); (case l16 => k_is); (case c16 => k_is); (case k16 => k_is)
    (case a17 => k_is); (case l17 => k_is); (case c17 => k_is); (case k17 => k_is)
    (case a18 => k_is); (case l18 => k_is); (case c18 => k_is); (case k18 => k_is)
    (case a19 => k_is); (case l19 => k_is); (case c19 => k_is); (case k19 => k_is)
    (case a20 => k_is); (case l20 => k_is); (case c20 => k_is); (case k20 => k_is)
    (case a21 => k_is); (case l21 => k_is); (case c21 => k_is); (case k21 => k_is)
    (case a22 => k_is); (case l22 => k_is); (case c22 => k_is); (case k22 => k_is)
    (case a23 => k_is); (case l23 => k_is); (case c23 => k_is); (case k23 => k_is)
    (case a24 => k_is); (case l24 => k_is); (case c24 => k_is); (case k24 => k_is)
    (case z0 => k_is)
    (case z1 => k_is)
    (case z2 => k_is)
    (case z3 => k_is)
    (case z4 => k_is)
    (case z5 => k_is)
    (case z6 => k_is)
    (case z7 => k_is)
    (case z8 => k_is)
    (case z9 => k_is)
    (case z10 => k_is)
    (case z11 => k_is)
    (case ga0 => k_is); (case gb0 => k_is); (case gc0 => k_is)
    (case ga1 => k_is); (case gb1 => k_is); (case gc1 => k_is)

